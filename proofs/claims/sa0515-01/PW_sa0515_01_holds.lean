import PyProof.Rows.All
import Wide.All
import OpenK.AllK
import Wide.FinOn
import Lean
import PySem.Challenge.RW_sa0515_01
set_option Elab.async false
set_option maxRecDepth 100000
set_option maxHeartbeats 0
set_option linter.unusedVariables false
namespace Mine
section
open PySem PySem.W PyProof.Rows
noncomputable abbrev pw : Program := PySem.Challenge.pw_sa0515_01
/-- the i-th statement of the top; the j-th of the i-th (a class) -/
noncomputable def sA (i : Nat) : Stmt := pw.main.body.getD i (.Pass ⟨0, 0, 0, 0⟩)
noncomputable def sM (i j : Nat) : Stmt := match sA i with
  | .ClassDef _ _ _ b _ _ _ _ _ _ _ => b.getD j (.Pass ⟨0, 0, 0, 0⟩)
  | s => s
noncomputable def fArgs : Stmt → Arguments
  | .FunctionDef _ a _ _ _ _ _ _ _ _ => a
  | _ => ⟨[], [], none, [], [], none, []⟩
noncomputable def fBody : Stmt → List Stmt
  | .FunctionDef _ _ b _ _ _ _ _ _ _ => b
  | _ => []
noncomputable def fScope : Stmt → Scope
  | .FunctionDef _ _ _ _ _ _ s _ _ _ => s
  | _ => { kind := .function, names := [], isGenerator := false, isCoroutine := false }
noncomputable def oT (l : List Value) : Obj := { cls := .type "tuple", data := .seq l.toArray }
noncomputable def oF (l : List Value) : Obj := { cls := .none, data := .fields l.toArray }
noncomputable def oG (n : String) (l : List Value) : Obj := { cls := .type n, data := .fields l.toArray }
noncomputable def oE (P : Params) : List (Str × Tok × Value) → List DictEntry
  | [] => []
  | e :: r => ⟨PyData.keyHash P e.1, .str e.1 e.2.1, e.2.2⟩ :: oE P r
noncomputable def oD (P : Params) (c : Value) (n : Nat) (l : List (Str × Tok × Value)) : Obj := { cls := c, data := .dict (oE P l).toArray n }
noncomputable def oR (l : List (Option Value)) : Obj := { cls := .type "frame", slots := l.toArray }
noncomputable def oM (d : Addr) : Obj := { cls := .type "module", dict := some d }
noncomputable def oN (n q : Str) (s : Stmt) : Obj := { cls := .none, data := .func { name := n, qualname := q, params := fArgs s, body := .stmts (fBody s), scope := fScope s, globals := 0, closure := [], defaults := .none, kwdefaults := .none } }
noncomputable def oU (n q : Str) (s : Stmt) (df pm code : Value) : Obj := { cls := .type "function", data := .func { name := n, qualname := q, params := fArgs s, body := .stmts (fBody s), scope := fScope s, globals := mainNs, closure := [], defaults := df, kwdefaults := .none, pyModule := pm, code := code, builtins := builtinsNs } }
noncomputable def oC (n : Str) (bases mro : List Value) (ns : Addr) (sub : List Value) (sl : List (Option Value)) : Obj := { cls := .type "type", data := .cls { name := n, bases := bases, mro := mro, ns := ns, qualname := n, subclasses := sub }, slots := sl.toArray }
noncomputable def oB (P : Params) : Obj := oD P (.type "dict") 159 (("__name__", 1, .str "builtins" 160) :: ("__doc__", 2, .builtin "builtins.__doc__:str#opaque") :: ("__package__", 3, .builtin "builtins.__package__:str#opaque") :: ("__loader__", 4, .builtin "builtins.__loader__:shared#opaque") :: ("__spec__", 5, .builtin "builtins.__spec__#opaque") :: ("__build_class__", 6, .builtin "__build_class__") :: ("__import__", 7, .builtin "__import__") :: ("abs", 8, .builtin "abs") :: ("all", 9, .builtin "all") :: ("any", 10, .builtin "any") :: ("ascii", 11, .builtin "ascii") :: ("bin", 12, .builtin "bin") :: ("breakpoint", 13, .builtin "breakpoint") :: ("callable", 14, .builtin "callable") :: ("chr", 15, .builtin "chr") :: ("compile", 16, .builtin "compile") :: ("delattr", 17, .builtin "delattr") :: ("dir", 18, .builtin "dir") :: ("divmod", 19, .builtin "divmod") :: ("eval", 20, .builtin "eval") :: ("exec", 21, .builtin "exec") :: ("format", 22, .builtin "format") :: ("getattr", 23, .builtin "getattr") :: ("globals", 24, .builtin "globals") :: ("hasattr", 25, .builtin "hasattr") :: ("hash", 26, .builtin "hash") :: ("hex", 27, .builtin "hex") :: ("id", 28, .builtin "id") :: ("input", 29, .builtin "input") :: ("isinstance", 30, .builtin "isinstance") :: ("issubclass", 31, .builtin "issubclass") :: ("iter", 32, .builtin "iter") :: ("aiter", 33, .builtin "aiter") :: ("len", 34, .builtin "len") :: ("locals", 35, .builtin "locals") :: ("max", 36, .builtin "max") :: ("min", 37, .builtin "min") :: ("next", 38, .builtin "next") :: ("anext", 39, .builtin "anext") :: ("oct", 40, .builtin "oct") :: ("ord", 41, .builtin "ord") :: ("pow", 42, .builtin "pow") :: ("print", 43, .builtin "print") :: ("repr", 44, .builtin "repr") :: ("round", 45, .builtin "round") :: ("setattr", 46, .builtin "setattr") :: ("sorted", 47, .builtin "sorted") :: ("sum", 48, .builtin "sum") :: ("vars", 49, .builtin "vars") :: ("None", 50, .none) :: ("Ellipsis", 51, .ellipsis) :: ("NotImplemented", 52, .notImplemented) :: ("False", 53, .bool false) :: ("True", 54, .bool true) :: ("bool", 55, .type "bool") :: ("memoryview", 56, .type "memoryview") :: ("bytearray", 57, .type "bytearray") :: ("bytes", 58, .type "bytes") :: ("classmethod", 59, .type "classmethod") :: ("complex", 60, .type "complex") :: ("dict", 61, .type "dict") :: ("enumerate", 62, .type "enumerate") :: ("filter", 63, .type "filter") :: ("float", 64, .type "float") :: ("frozenset", 65, .type "frozenset") :: ("property", 66, .type "property") :: ("int", 67, .type "int") :: ("list", 68, .type "list") :: ("map", 69, .type "map") :: ("object", 70, .type "object") :: ("range", 71, .type "range") :: ("reversed", 72, .type "reversed") :: ("set", 73, .type "set") :: ("slice", 74, .type "slice") :: ("staticmethod", 75, .type "staticmethod") :: ("str", 76, .type "str") :: ("super", 77, .type "super") :: ("tuple", 78, .type "tuple") :: ("type", 79, .type "type") :: ("zip", 80, .type "zip") :: ("__debug__", 81, .bool true) :: ("BaseException", 82, .type "BaseException") :: ("BaseExceptionGroup", 83, .type "BaseExceptionGroup") :: ("Exception", 84, .type "Exception") :: ("GeneratorExit", 85, .type "GeneratorExit") :: ("KeyboardInterrupt", 86, .type "KeyboardInterrupt") :: ("SystemExit", 87, .type "SystemExit") :: ("ArithmeticError", 88, .type "ArithmeticError") :: ("AssertionError", 89, .type "AssertionError") :: ("AttributeError", 90, .type "AttributeError") :: ("BufferError", 91, .type "BufferError") :: ("EOFError", 92, .type "EOFError") :: ("ImportError", 93, .type "ImportError") :: ("LookupError", 94, .type "LookupError") :: ("MemoryError", 95, .type "MemoryError") :: ("NameError", 96, .type "NameError") :: ("OSError", 97, .type "OSError") :: ("ReferenceError", 98, .type "ReferenceError") :: ("RuntimeError", 99, .type "RuntimeError") :: ("StopAsyncIteration", 100, .type "StopAsyncIteration") :: ("StopIteration", 101, .type "StopIteration") :: ("SyntaxError", 102, .type "SyntaxError") :: ("SystemError", 103, .type "SystemError") :: ("TypeError", 104, .type "TypeError") :: ("ValueError", 105, .type "ValueError") :: ("Warning", 106, .type "Warning") :: ("FloatingPointError", 107, .type "FloatingPointError") :: ("OverflowError", 108, .type "OverflowError") :: ("ZeroDivisionError", 109, .type "ZeroDivisionError") :: ("BytesWarning", 110, .type "BytesWarning") :: ("DeprecationWarning", 111, .type "DeprecationWarning") :: ("EncodingWarning", 112, .type "EncodingWarning") :: ("FutureWarning", 113, .type "FutureWarning") :: ("ImportWarning", 114, .type "ImportWarning") :: ("PendingDeprecationWarning", 115, .type "PendingDeprecationWarning") :: ("ResourceWarning", 116, .type "ResourceWarning") :: ("RuntimeWarning", 117, .type "RuntimeWarning") :: ("SyntaxWarning", 118, .type "SyntaxWarning") :: ("UnicodeWarning", 119, .type "UnicodeWarning") :: ("UserWarning", 120, .type "UserWarning") :: ("BlockingIOError", 121, .type "BlockingIOError") :: ("ChildProcessError", 122, .type "ChildProcessError") :: ("ConnectionError", 123, .type "ConnectionError") :: ("FileExistsError", 124, .type "FileExistsError") :: ("FileNotFoundError", 125, .type "FileNotFoundError") :: ("InterruptedError", 126, .type "InterruptedError") :: ("IsADirectoryError", 127, .type "IsADirectoryError") :: ("NotADirectoryError", 128, .type "NotADirectoryError") :: ("PermissionError", 129, .type "PermissionError") :: ("ProcessLookupError", 130, .type "ProcessLookupError") :: ("TimeoutError", 131, .type "TimeoutError") :: ("IndentationError", 132, .type "IndentationError") :: ("_IncompleteInputError", 133, .type "_IncompleteInputError") :: ("IndexError", 134, .type "IndexError") :: ("KeyError", 135, .type "KeyError") :: ("ModuleNotFoundError", 136, .type "ModuleNotFoundError") :: ("NotImplementedError", 137, .type "NotImplementedError") :: ("PythonFinalizationError", 138, .type "PythonFinalizationError") :: ("RecursionError", 139, .type "RecursionError") :: ("UnboundLocalError", 140, .type "UnboundLocalError") :: ("UnicodeError", 141, .type "UnicodeError") :: ("BrokenPipeError", 142, .type "BrokenPipeError") :: ("ConnectionAbortedError", 143, .type "ConnectionAbortedError") :: ("ConnectionRefusedError", 144, .type "ConnectionRefusedError") :: ("ConnectionResetError", 145, .type "ConnectionResetError") :: ("TabError", 146, .type "TabError") :: ("UnicodeDecodeError", 147, .type "UnicodeDecodeError") :: ("UnicodeEncodeError", 148, .type "UnicodeEncodeError") :: ("UnicodeTranslateError", 149, .type "UnicodeTranslateError") :: ("ExceptionGroup", 150, .type "ExceptionGroup") :: ("EnvironmentError", 151, .type "OSError") :: ("IOError", 152, .type "OSError") :: ("open", 153, .builtin "open") :: ("quit", 154, .builtin "builtins.quit#opaque") :: ("exit", 155, .builtin "builtins.exit#opaque") :: ("copyright", 156, .builtin "builtins.copyright#opaque") :: ("credits", 157, .builtin "builtins.credits#opaque") :: ("license", 158, .builtin "builtins.license#opaque") :: ("help", 159, .builtin "builtins.help#opaque") :: [])
noncomputable def o2 (P : Params) : Obj := oD P .none 2 [("type.__subclasses__.Exception.0", 232, .int 46 0), ("type.__subclasses__.Exception.n", 233, .int 1 0)]
noncomputable def o3 (P : Params) : Obj := oD P (.type "dict") 63 (("__name__", 165, .str "law_sa0515_01" 854) :: ("__doc__", 166, .none) :: ("__package__", 167, .none) :: ("__loader__", 168, .builtin "__main__.__loader__#opaque") :: ("__spec__", 169, .none) :: ("__annotations__", 170, .ref 6) :: ("__builtins__", 171, .ref 4) :: ("__file__", 173, .str "/claim/cut.py" 172) :: ("__cached__", 174, .none) :: ("_wall", 193, .ref 21) :: ("PaperError", 235, .ref 46) :: ("TreeFault", 251, .ref 59) :: ("Decimal", 368, .ref 155) :: ("sign_text", 375, .ref 166) :: ("decimal_of", 382, .ref 173) :: ("MOST_HOPS", 386, .int 30 385) :: ("Name", 415, .ref 190) :: ("String", 446, .ref 212) :: ("Stream", 477, .ref 233) :: ("Reference", 515, .ref 261) :: ("kind_of", 522, .ref 272) :: ("told_plain", 530, .ref 279) :: ("told", 536, .ref 284) :: ("told_objects", 537, .ref 284) :: ("Lookup", 589, .ref 316) :: ("Shelf", 652, .ref 370) :: ("MOST_DEEP", 656, .int 40 655) :: ("MOST_PLACES", 658, .int 16 657) :: ("key_object", 666, .ref 379) :: ("key_of", 674, .ref 386) :: ("node_of", 683, .ref 393) :: ("row_of", 693, .ref 400) :: ("node_pairs", 699, .ref 405) :: ("node_limits", 709, .ref 412) :: ("longer_way", 719, .ref 419) :: ("tree_pairs", 725, .ref 424) :: ("first_at_least", 736, .ref 431) :: ("kid_for", 749, .ref 438) :: ("tree_span", 755, .ref 443) :: ("even_parts", 768, .ref 450) :: ("leaf_node", 779, .ref 457) :: ("inner_node", 786, .ref 464) :: ("as_root", 792, .ref 469) :: ("own_pairs", 798, .ref 474) :: ("own_ends", 804, .ref 479) :: ("put_below", 810, .ref 484) :: ("tree_put", 822, .ref 491) :: ("dropped_below", 828, .ref 496) :: ("tree_dropped", 838, .ref 503) :: ("tree_gathered", 853, .ref 512) :: ("_law_urn", 861, .ref 517) :: ("_law_lot", 872, .ref 524) :: ("_law_object", 880, .ref 531) :: ("_law_key", 888, .ref 538) :: ("_law_plan", 894, .ref 543) :: ("_law_shelf", 900, .ref 548) :: ("_law_counts", 911, .ref 555) :: ("_law_walk", 917, .ref 560) :: ("_law_whole", 923, .ref 565) :: ("_law_heard", 930, .ref 572) :: ("_law_asked", 942, .ref 579) :: ("_law_hurt_right", 961, .ref 586) :: ("law", 967, .ref 591) :: [])
noncomputable def o20 (P : Params) : Obj := oG "code" [.str "_wall" 187, .str "_wall" 188, .str "/claim/cut.py" 189, .int 1 0, .int 1 0, .int 0 0, .int 0 0, .int 3 0, .ref 15, .bool true, .int 181 0, .ref 16, .none, .ref 17, .ref 18, .ref 19, .int 191 0, .int 1 0, .str "/claim/cut.py" 192]
noncomputable def o21 (P : Params) : Obj := oU "_wall" "_wall" (sA 0) .none (.str "__main__" 164) (.ref 20)
noncomputable def o27 (P : Params) : Obj := oG "code" [.str "PaperError" 198, .str "PaperError" 199, .str "/claim/cut.py" 200, .int 5 0, .int 0 0, .int 0 0, .int 0 0, .int 0 0, .ref 25, .bool false, .int 181 0, .ref 26, .none, .none, .none, .none, .int 201 0, .int 5 0, .str "/claim/cut.py" 202]
noncomputable def o29 (P : Params) : Obj := oT [.int (-1) 209]
noncomputable def o35 (P : Params) : Obj := oG "code" [.str "__init__" 210, .str "PaperError.__init__" 211, .str "/claim/cut.py" 212, .int 7 0, .int 3 0, .int 0 0, .int 0 0, .int 3 0, .ref 30, .bool true, .int 181 0, .ref 31, .none, .ref 32, .ref 33, .ref 34, .int 216 0, .int 7 0, .str "/claim/cut.py" 217]
noncomputable def o36 (P : Params) : Obj := oU "__init__" "PaperError.__init__" (sM 2 0) (.ref 29) (.str "paperhold.errors" 194) (.ref 35)
noncomputable def o42 (P : Params) : Obj := oG "code" [.str "told" 219, .str "PaperError.told" 220, .str "/claim/cut.py" 221, .int 12 0, .int 1 0, .int 0 0, .int 0 0, .int 3 0, .ref 37, .bool true, .int 181 0, .ref 38, .none, .ref 39, .ref 40, .ref 41, .int 223 0, .int 12 0, .str "/claim/cut.py" 224]
noncomputable def o43 (P : Params) : Obj := oU "told" "PaperError.told" (sM 2 1) .none (.str "paperhold.errors" 194) (.ref 42)
noncomputable def o45 (P : Params) : Obj := oD P (.type "dict") 3 [("__module__", 203, .str "paperhold.errors" 194), ("__firstlineno__", 207, .int 5 206), ("__init__", 218, .ref 36), ("told", 225, .ref 43), ("__static_attributes__", 228, .ref 44), ("__weakref__", 230, .ref 47), ("__doc__", 231, .none)]
noncomputable def o46 (P : Params) : Obj := oC "PaperError" [.type "Exception"] [.ref 46, .type "Exception", .type "BaseException", .type "object"] 45 [.ref 59] [some (.ref 22), none, some (.str "PaperError" 196), some (.str "PaperError" 204), some (.builtin "Exception.__new__"), some (.bool true)]
noncomputable def o55 (P : Params) : Obj := oG "code" [.str "TreeFault" 238, .str "TreeFault" 239, .str "/claim/cut.py" 240, .int 14 0, .int 0 0, .int 0 0, .int 0 0, .int 0 0, .ref 53, .bool false, .int 181 0, .ref 54, .none, .none, .none, .none, .int 241 0, .int 14 0, .str "/claim/cut.py" 242]
noncomputable def o58 (P : Params) : Obj := oD P (.type "dict") 2 [("__module__", 243, .str "paperhold.errors" 194), ("__firstlineno__", 247, .int 14 246), ("__static_attributes__", 248, .ref 57), ("__doc__", 249, .none)]
noncomputable def o59 (P : Params) : Obj := oC "TreeFault" [.ref 46] [.ref 59, .ref 46, .type "Exception", .type "BaseException", .type "object"] 58 [] [some (.ref 50), none, some (.str "TreeFault" 236), some (.str "TreeFault" 244), some (.builtin "Exception.__new__"), some (.bool true)]
noncomputable def o67 (P : Params) : Obj := oG "code" [.str "Decimal" 256, .str "Decimal" 257, .str "/claim/cut.py" 258, .int 17 0, .int 0 0, .int 0 0, .int 0 0, .int 0 0, .ref 65, .bool false, .int 181 0, .ref 66, .none, .none, .none, .none, .int 259 0, .int 17 0, .str "/claim/cut.py" 260]
noncomputable def o154 (P : Params) : Obj := oD P (.type "dict") 4 [("__module__", 261, .str "paperhold.decimals" 252), ("__firstlineno__", 265, .int 17 264), ("__init__", 274, .ref 75), ("plus", 282, .ref 82), ("minus", 290, .ref 89), ("times", 299, .ref 96), ("negated", 306, .ref 103), ("compared", 314, .ref 110), ("is_whole", 321, .ref 117), ("floor", 328, .ref 124), ("rounded", 336, .ref 131), ("told", 343, .ref 138), ("text", 351, .ref 145), ("least_text", 358, .ref 152), ("__static_attributes__", 361, .ref 153), ("__dict__", 363, .ref 156), ("__weakref__", 365, .ref 157), ("__doc__", 366, .none)]
noncomputable def o155 (P : Params) : Obj := oC "Decimal" [.type "object"] [.ref 155, .type "object"] 154 [] [none, none, some (.str "Decimal" 254), some (.str "Decimal" 262), some (.builtin "object.__new__"), some (.bool true)]
noncomputable def o165 (P : Params) : Obj := oG "code" [.str "sign_text" 369, .str "sign_text" 370, .str "/claim/cut.py" 371, .int 63 0, .int 1 0, .int 0 0, .int 0 0, .int 3 0, .ref 160, .bool true, .int 181 0, .ref 161, .none, .ref 162, .ref 163, .ref 164, .int 373 0, .int 63 0, .str "/claim/cut.py" 374]
noncomputable def o166 (P : Params) : Obj := oU "sign_text" "sign_text" (sA 6) .none (.str "paperhold.decimals" 252) (.ref 165)
noncomputable def o172 (P : Params) : Obj := oG "code" [.str "decimal_of" 376, .str "decimal_of" 377, .str "/claim/cut.py" 378, .int 65 0, .int 1 0, .int 0 0, .int 0 0, .int 3 0, .ref 167, .bool true, .int 181 0, .ref 168, .none, .ref 169, .ref 170, .ref 171, .int 380 0, .int 65 0, .str "/claim/cut.py" 381]
noncomputable def o173 (P : Params) : Obj := oU "decimal_of" "decimal_of" (sA 7) .none (.str "paperhold.decimals" 252) (.ref 172)
noncomputable def o179 (P : Params) : Obj := oG "code" [.str "Name" 389, .str "Name" 390, .str "/claim/cut.py" 391, .int 73 0, .int 0 0, .int 0 0, .int 0 0, .int 0 0, .ref 177, .bool false, .int 181 0, .ref 178, .none, .none, .none, .none, .int 392 0, .int 73 0, .str "/claim/cut.py" 393]
noncomputable def o186 (P : Params) : Obj := oG "code" [.str "__init__" 399, .str "Name.__init__" 400, .str "/claim/cut.py" 401, .int 75 0, .int 2 0, .int 0 0, .int 0 0, .int 3 0, .ref 181, .bool true, .int 181 0, .ref 182, .none, .ref 183, .ref 184, .ref 185, .int 404 0, .int 75 0, .str "/claim/cut.py" 405]
noncomputable def o187 (P : Params) : Obj := oU "__init__" "Name.__init__" (sM 10 0) .none (.str "paperhold.objects" 383) (.ref 186)
noncomputable def o189 (P : Params) : Obj := oD P (.type "dict") 4 [("__module__", 394, .str "paperhold.objects" 383), ("__firstlineno__", 398, .int 73 397), ("__init__", 406, .ref 187), ("__static_attributes__", 408, .ref 188), ("__dict__", 410, .ref 191), ("__weakref__", 412, .ref 192), ("__doc__", 413, .none)]
noncomputable def o190 (P : Params) : Obj := oC "Name" [.type "object"] [.ref 190, .type "object"] 189 [] [none, none, some (.str "Name" 387), some (.str "Name" 395), some (.builtin "object.__new__"), some (.bool true)]
noncomputable def o200 (P : Params) : Obj := oG "code" [.str "String" 418, .str "String" 419, .str "/claim/cut.py" 420, .int 77 0, .int 0 0, .int 0 0, .int 0 0, .int 0 0, .ref 198, .bool false, .int 181 0, .ref 199, .none, .none, .none, .none, .int 421 0, .int 77 0, .str "/claim/cut.py" 422]
noncomputable def o202 (P : Params) : Obj := oT [.bool false]
noncomputable def o208 (P : Params) : Obj := oG "code" [.str "__init__" 428, .str "String.__init__" 429, .str "/claim/cut.py" 430, .int 79 0, .int 3 0, .int 0 0, .int 0 0, .int 3 0, .ref 203, .bool true, .int 181 0, .ref 204, .none, .ref 205, .ref 206, .ref 207, .int 434 0, .int 79 0, .str "/claim/cut.py" 435]
noncomputable def o209 (P : Params) : Obj := oU "__init__" "String.__init__" (sM 11 0) (.ref 202) (.str "paperhold.objects" 383) (.ref 208)
noncomputable def o211 (P : Params) : Obj := oD P (.type "dict") 4 [("__module__", 423, .str "paperhold.objects" 383), ("__firstlineno__", 427, .int 77 426), ("__init__", 436, .ref 209), ("__static_attributes__", 439, .ref 210), ("__dict__", 441, .ref 213), ("__weakref__", 443, .ref 214), ("__doc__", 444, .none)]
noncomputable def o212 (P : Params) : Obj := oC "String" [.type "object"] [.ref 212, .type "object"] 211 [] [none, none, some (.str "String" 416), some (.str "String" 424), some (.builtin "object.__new__"), some (.bool true)]
noncomputable def o222 (P : Params) : Obj := oG "code" [.str "Stream" 449, .str "Stream" 450, .str "/claim/cut.py" 451, .int 82 0, .int 0 0, .int 0 0, .int 0 0, .int 0 0, .ref 220, .bool false, .int 181 0, .ref 221, .none, .none, .none, .none, .int 452 0, .int 82 0, .str "/claim/cut.py" 453]
noncomputable def o229 (P : Params) : Obj := oG "code" [.str "__init__" 459, .str "Stream.__init__" 460, .str "/claim/cut.py" 461, .int 84 0, .int 3 0, .int 0 0, .int 0 0, .int 3 0, .ref 224, .bool true, .int 181 0, .ref 225, .none, .ref 226, .ref 227, .ref 228, .int 465 0, .int 84 0, .str "/claim/cut.py" 466]
noncomputable def o230 (P : Params) : Obj := oU "__init__" "Stream.__init__" (sM 12 0) .none (.str "paperhold.objects" 383) (.ref 229)
noncomputable def o232 (P : Params) : Obj := oD P (.type "dict") 4 [("__module__", 454, .str "paperhold.objects" 383), ("__firstlineno__", 458, .int 82 457), ("__init__", 467, .ref 230), ("__static_attributes__", 470, .ref 231), ("__dict__", 472, .ref 234), ("__weakref__", 474, .ref 235), ("__doc__", 475, .none)]
noncomputable def o233 (P : Params) : Obj := oC "Stream" [.type "object"] [.ref 233, .type "object"] 232 [] [none, none, some (.str "Stream" 447), some (.str "Stream" 455), some (.builtin "object.__new__"), some (.bool true)]
noncomputable def o243 (P : Params) : Obj := oG "code" [.str "Reference" 480, .str "Reference" 481, .str "/claim/cut.py" 482, .int 87 0, .int 0 0, .int 0 0, .int 0 0, .int 0 0, .ref 241, .bool false, .int 181 0, .ref 242, .none, .none, .none, .none, .int 483 0, .int 87 0, .str "/claim/cut.py" 484]
noncomputable def o250 (P : Params) : Obj := oG "code" [.str "__init__" 490, .str "Reference.__init__" 491, .str "/claim/cut.py" 492, .int 89 0, .int 3 0, .int 0 0, .int 0 0, .int 3 0, .ref 245, .bool true, .int 181 0, .ref 246, .none, .ref 247, .ref 248, .ref 249, .int 496 0, .int 89 0, .str "/claim/cut.py" 497]
noncomputable def o251 (P : Params) : Obj := oU "__init__" "Reference.__init__" (sM 13 0) .none (.str "paperhold.objects" 383) (.ref 250)
noncomputable def o257 (P : Params) : Obj := oG "code" [.str "pair" 499, .str "Reference.pair" 500, .str "/claim/cut.py" 501, .int 93 0, .int 1 0, .int 0 0, .int 0 0, .int 3 0, .ref 252, .bool true, .int 181 0, .ref 253, .none, .ref 254, .ref 255, .ref 256, .int 503 0, .int 93 0, .str "/claim/cut.py" 504]
noncomputable def o258 (P : Params) : Obj := oU "pair" "Reference.pair" (sM 13 1) .none (.str "paperhold.objects" 383) (.ref 257)
noncomputable def o260 (P : Params) : Obj := oD P (.type "dict") 4 [("__module__", 485, .str "paperhold.objects" 383), ("__firstlineno__", 489, .int 87 488), ("__init__", 498, .ref 251), ("pair", 505, .ref 258), ("__static_attributes__", 508, .ref 259), ("__dict__", 510, .ref 262), ("__weakref__", 512, .ref 263), ("__doc__", 513, .none)]
noncomputable def o261 (P : Params) : Obj := oC "Reference" [.type "object"] [.ref 261, .type "object"] 260 [] [none, none, some (.str "Reference" 478), some (.str "Reference" 486), some (.builtin "object.__new__"), some (.bool true)]
noncomputable def o271 (P : Params) : Obj := oG "code" [.str "kind_of" 516, .str "kind_of" 517, .str "/claim/cut.py" 518, .int 95 0, .int 1 0, .int 0 0, .int 0 0, .int 3 0, .ref 266, .bool true, .int 181 0, .ref 267, .none, .ref 268, .ref 269, .ref 270, .int 520 0, .int 95 0, .str "/claim/cut.py" 521]
noncomputable def o272 (P : Params) : Obj := oU "kind_of" "kind_of" (sA 14) .none (.str "paperhold.objects" 383) (.ref 271)
noncomputable def o278 (P : Params) : Obj := oG "code" [.str "told_plain" 523, .str "told_plain" 524, .str "/claim/cut.py" 525, .int 117 0, .int 2 0, .int 0 0, .int 0 0, .int 3 0, .ref 273, .bool true, .int 181 0, .ref 274, .none, .ref 275, .ref 276, .ref 277, .int 528 0, .int 117 0, .str "/claim/cut.py" 529]
noncomputable def o279 (P : Params) : Obj := oU "told_plain" "told_plain" (sA 15) .none (.str "paperhold.objects" 383) (.ref 278)
noncomputable def o283 (P : Params) : Obj := oG "code" [.str "told" 531, .str "told" 532, .str "/claim/cut.py" 533, .int 131 0, .int 1 0, .int 0 0, .int 0 0, .int 3 0, .ref 280, .bool true, .int 181 0, .ref 281, .none, .none, .none, .ref 282, .int 534 0, .int 131 0, .str "/claim/cut.py" 535]
noncomputable def o284 (P : Params) : Obj := oU "told" "told" (sA 16) .none (.str "paperhold.objects" 383) (.ref 283)
noncomputable def o290 (P : Params) : Obj := oG "code" [.str "Lookup" 540, .str "Lookup" 541, .str "/claim/cut.py" 542, .int 141 0, .int 0 0, .int 0 0, .int 0 0, .int 0 0, .ref 288, .bool false, .int 181 0, .ref 289, .none, .none, .none, .none, .int 543 0, .int 141 0, .str "/claim/cut.py" 544]
noncomputable def o292 (P : Params) : Obj := oT [.none, .none]
noncomputable def o298 (P : Params) : Obj := oG "code" [.str "__init__" 550, .str "Lookup.__init__" 551, .str "/claim/cut.py" 552, .int 143 0, .int 3 0, .int 0 0, .int 0 0, .int 3 0, .ref 293, .bool true, .int 181 0, .ref 294, .none, .ref 295, .ref 296, .ref 297, .int 556 0, .int 143 0, .str "/claim/cut.py" 557]
noncomputable def o299 (P : Params) : Obj := oU "__init__" "Lookup.__init__" (sM 18 0) (.ref 292) (.str "paperhold.objects" 383) (.ref 298)
noncomputable def o305 (P : Params) : Obj := oG "code" [.str "fetch" 559, .str "Lookup.fetch" 560, .str "/claim/cut.py" 561, .int 147 0, .int 2 0, .int 0 0, .int 0 0, .int 3 0, .ref 300, .bool true, .int 181 0, .ref 301, .none, .ref 302, .ref 303, .ref 304, .int 568 0, .int 147 0, .str "/claim/cut.py" 569]
noncomputable def o306 (P : Params) : Obj := oU "fetch" "Lookup.fetch" (sM 18 1) .none (.str "paperhold.objects" 383) (.ref 305)
noncomputable def o312 (P : Params) : Obj := oG "code" [.str "get" 571, .str "Lookup.get" 572, .str "/claim/cut.py" 573, .int 158 0, .int 3 0, .int 0 0, .int 0 0, .int 3 0, .ref 307, .bool true, .int 181 0, .ref 308, .none, .ref 309, .ref 310, .ref 311, .int 577 0, .int 158 0, .str "/claim/cut.py" 578]
noncomputable def o313 (P : Params) : Obj := oU "get" "Lookup.get" (sM 18 2) .none (.str "paperhold.objects" 383) (.ref 312)
noncomputable def o315 (P : Params) : Obj := oD P (.type "dict") 4 [("__module__", 545, .str "paperhold.objects" 383), ("__firstlineno__", 549, .int 141 548), ("__init__", 558, .ref 299), ("fetch", 570, .ref 306), ("get", 579, .ref 313), ("__static_attributes__", 582, .ref 314), ("__dict__", 584, .ref 317), ("__weakref__", 586, .ref 318), ("__doc__", 587, .none)]
noncomputable def o316 (P : Params) : Obj := oC "Lookup" [.type "object"] [.ref 316, .type "object"] 315 [.ref 370] [none, none, some (.str "Lookup" 538), some (.str "Lookup" 546), some (.builtin "object.__new__"), some (.bool true)]
noncomputable def o326 (P : Params) : Obj := oG "code" [.str "Shelf" 592, .str "Shelf" 593, .str "/claim/cut.py" 594, .int 160 0, .int 0 0, .int 0 0, .int 0 0, .int 0 0, .ref 324, .bool false, .int 181 0, .ref 325, .none, .none, .none, .none, .int 595 0, .int 160 0, .str "/claim/cut.py" 596]
noncomputable def o333 (P : Params) : Obj := oG "code" [.str "put" 602, .str "Shelf.put" 603, .str "/claim/cut.py" 604, .int 162 0, .int 4 0, .int 0 0, .int 0 0, .int 3 0, .ref 328, .bool true, .int 181 0, .ref 329, .none, .ref 330, .ref 331, .ref 332, .int 609 0, .int 162 0, .str "/claim/cut.py" 610]
noncomputable def o334 (P : Params) : Obj := oU "put" "Shelf.put" (sM 19 0) .none (.str "paperhold.objects" 383) (.ref 333)
noncomputable def o340 (P : Params) : Obj := oG "code" [.str "add" 612, .str "Shelf.add" 613, .str "/claim/cut.py" 614, .int 165 0, .int 2 0, .int 0 0, .int 0 0, .int 3 0, .ref 335, .bool true, .int 181 0, .ref 336, .none, .ref 337, .ref 338, .ref 339, .int 617 0, .int 165 0, .str "/claim/cut.py" 618]
noncomputable def o341 (P : Params) : Obj := oU "add" "Shelf.add" (sM 19 1) .none (.str "paperhold.objects" 383) (.ref 340)
noncomputable def o347 (P : Params) : Obj := oG "code" [.str "drop" 620, .str "Shelf.drop" 621, .str "/claim/cut.py" 622, .int 168 0, .int 2 0, .int 0 0, .int 0 0, .int 3 0, .ref 342, .bool true, .int 181 0, .ref 343, .none, .ref 344, .ref 345, .ref 346, .int 625 0, .int 168 0, .str "/claim/cut.py" 626]
noncomputable def o348 (P : Params) : Obj := oU "drop" "Shelf.drop" (sM 19 2) .none (.str "paperhold.objects" 383) (.ref 347)
noncomputable def o354 (P : Params) : Obj := oG "code" [.str "numbers" 628, .str "Shelf.numbers" 629, .str "/claim/cut.py" 630, .int 171 0, .int 1 0, .int 0 0, .int 0 0, .int 3 0, .ref 349, .bool true, .int 181 0, .ref 350, .none, .ref 351, .ref 352, .ref 353, .int 632 0, .int 171 0, .str "/claim/cut.py" 633]
noncomputable def o355 (P : Params) : Obj := oU "numbers" "Shelf.numbers" (sM 19 3) .none (.str "paperhold.objects" 383) (.ref 354)
noncomputable def o361 (P : Params) : Obj := oG "code" [.str "root" 635, .str "Shelf.root" 636, .str "/claim/cut.py" 637, .int 174 0, .int 1 0, .int 0 0, .int 0 0, .int 3 0, .ref 356, .bool true, .int 181 0, .ref 357, .none, .ref 358, .ref 359, .ref 360, .int 640 0, .int 174 0, .str "/claim/cut.py" 641]
noncomputable def o362 (P : Params) : Obj := oU "root" "Shelf.root" (sM 19 4) .none (.str "paperhold.objects" 383) (.ref 361)
noncomputable def o366 (P : Params) : Obj := oG "code" [.str "told" 643, .str "Shelf.told" 644, .str "/claim/cut.py" 645, .int 178 0, .int 1 0, .int 0 0, .int 0 0, .int 3 0, .ref 363, .bool true, .int 181 0, .ref 364, .none, .none, .none, .ref 365, .int 646 0, .int 178 0, .str "/claim/cut.py" 647]
noncomputable def o367 (P : Params) : Obj := oU "told" "Shelf.told" (sM 19 5) .none (.str "paperhold.objects" 383) (.ref 366)
noncomputable def o369 (P : Params) : Obj := oD P (.type "dict") 2 [("__module__", 597, .str "paperhold.objects" 383), ("__firstlineno__", 601, .int 160 600), ("put", 611, .ref 334), ("add", 619, .ref 341), ("drop", 627, .ref 348), ("numbers", 634, .ref 355), ("root", 642, .ref 362), ("told", 648, .ref 367), ("__static_attributes__", 649, .ref 368), ("__doc__", 650, .none)]
noncomputable def o370 (P : Params) : Obj := oC "Shelf" [.ref 316] [.ref 370, .ref 316, .type "object"] 369 [] [some (.ref 321), none, some (.str "Shelf" 590), some (.str "Shelf" 598), some (.builtin "object.__new__"), some (.bool true)]
noncomputable def o378 (P : Params) : Obj := oG "code" [.str "key_object" 659, .str "key_object" 660, .str "/claim/cut.py" 661, .int 184 0, .int 2 0, .int 0 0, .int 0 0, .int 3 0, .ref 373, .bool true, .int 181 0, .ref 374, .none, .ref 375, .ref 376, .ref 377, .int 664 0, .int 184 0, .str "/claim/cut.py" 665]
noncomputable def o379 (P : Params) : Obj := oU "key_object" "key_object" (sA 23) .none (.str "paperhold.trees" 653) (.ref 378)
noncomputable def o385 (P : Params) : Obj := oG "code" [.str "key_of" 667, .str "key_of" 668, .str "/claim/cut.py" 669, .int 186 0, .int 2 0, .int 0 0, .int 0 0, .int 3 0, .ref 380, .bool true, .int 181 0, .ref 381, .none, .ref 382, .ref 383, .ref 384, .int 672 0, .int 186 0, .str "/claim/cut.py" 673]
noncomputable def o386 (P : Params) : Obj := oU "key_of" "key_of" (sA 24) .none (.str "paperhold.trees" 653) (.ref 385)
noncomputable def o392 (P : Params) : Obj := oG "code" [.str "node_of" 675, .str "node_of" 676, .str "/claim/cut.py" 677, .int 192 0, .int 2 0, .int 0 0, .int 0 0, .int 3 0, .ref 387, .bool true, .int 181 0, .ref 388, .none, .ref 389, .ref 390, .ref 391, .int 681 0, .int 192 0, .str "/claim/cut.py" 682]
noncomputable def o393 (P : Params) : Obj := oU "node_of" "node_of" (sA 25) .none (.str "paperhold.trees" 653) (.ref 392)
noncomputable def o399 (P : Params) : Obj := oG "code" [.str "row_of" 684, .str "row_of" 685, .str "/claim/cut.py" 686, .int 197 0, .int 3 0, .int 0 0, .int 0 0, .int 3 0, .ref 394, .bool true, .int 181 0, .ref 395, .none, .ref 396, .ref 397, .ref 398, .int 691 0, .int 197 0, .str "/claim/cut.py" 692]
noncomputable def o400 (P : Params) : Obj := oU "row_of" "row_of" (sA 26) .none (.str "paperhold.trees" 653) (.ref 399)
noncomputable def o404 (P : Params) : Obj := oG "code" [.str "node_pairs" 694, .str "node_pairs" 695, .str "/claim/cut.py" 696, .int 202 0, .int 3 0, .int 0 0, .int 0 0, .int 3 0, .ref 401, .bool true, .int 181 0, .ref 402, .none, .none, .none, .ref 403, .int 697 0, .int 202 0, .str "/claim/cut.py" 698]
noncomputable def o405 (P : Params) : Obj := oU "node_pairs" "node_pairs" (sA 27) .none (.str "paperhold.trees" 653) (.ref 404)
noncomputable def o411 (P : Params) : Obj := oG "code" [.str "node_limits" 700, .str "node_limits" 701, .str "/claim/cut.py" 702, .int 209 0, .int 3 0, .int 0 0, .int 0 0, .int 3 0, .ref 406, .bool true, .int 181 0, .ref 407, .none, .ref 408, .ref 409, .ref 410, .int 707 0, .int 209 0, .str "/claim/cut.py" 708]
noncomputable def o412 (P : Params) : Obj := oU "node_limits" "node_limits" (sA 28) .none (.str "paperhold.trees" 653) (.ref 411)
noncomputable def o418 (P : Params) : Obj := oG "code" [.str "longer_way" 710, .str "longer_way" 711, .str "/claim/cut.py" 712, .int 214 0, .int 3 0, .int 0 0, .int 0 0, .int 3 0, .ref 413, .bool true, .int 181 0, .ref 414, .none, .ref 415, .ref 416, .ref 417, .int 717 0, .int 214 0, .str "/claim/cut.py" 718]
noncomputable def o419 (P : Params) : Obj := oU "longer_way" "longer_way" (sA 29) .none (.str "paperhold.trees" 653) (.ref 418)
noncomputable def o423 (P : Params) : Obj := oG "code" [.str "tree_pairs" 720, .str "tree_pairs" 721, .str "/claim/cut.py" 722, .int 226 0, .int 3 0, .int 0 0, .int 0 0, .int 3 0, .ref 420, .bool true, .int 181 0, .ref 421, .none, .none, .none, .ref 422, .int 723 0, .int 226 0, .str "/claim/cut.py" 724]
noncomputable def o424 (P : Params) : Obj := oU "tree_pairs" "tree_pairs" (sA 30) .none (.str "paperhold.trees" 653) (.ref 423)
noncomputable def o430 (P : Params) : Obj := oG "code" [.str "first_at_least" 726, .str "first_at_least" 727, .str "/claim/cut.py" 728, .int 239 0, .int 2 0, .int 0 0, .int 0 0, .int 3 0, .ref 425, .bool true, .int 181 0, .ref 426, .none, .ref 427, .ref 428, .ref 429, .int 734 0, .int 239 0, .str "/claim/cut.py" 735]
noncomputable def o431 (P : Params) : Obj := oU "first_at_least" "first_at_least" (sA 31) .none (.str "paperhold.trees" 653) (.ref 430)
noncomputable def o437 (P : Params) : Obj := oG "code" [.str "kid_for" 737, .str "kid_for" 738, .str "/claim/cut.py" 739, .int 249 0, .int 4 0, .int 0 0, .int 0 0, .int 3 0, .ref 432, .bool true, .int 181 0, .ref 433, .none, .ref 434, .ref 435, .ref 436, .int 747 0, .int 249 0, .str "/claim/cut.py" 748]
noncomputable def o438 (P : Params) : Obj := oU "kid_for" "kid_for" (sA 32) .none (.str "paperhold.trees" 653) (.ref 437)
noncomputable def o442 (P : Params) : Obj := oG "code" [.str "tree_span" 750, .str "tree_span" 751, .str "/claim/cut.py" 752, .int 259 0, .int 5 0, .int 0 0, .int 0 0, .int 3 0, .ref 439, .bool true, .int 181 0, .ref 440, .none, .none, .none, .ref 441, .int 753 0, .int 259 0, .str "/claim/cut.py" 754]
noncomputable def o443 (P : Params) : Obj := oU "tree_span" "tree_span" (sA 33) .none (.str "paperhold.trees" 653) (.ref 442)
noncomputable def o449 (P : Params) : Obj := oG "code" [.str "even_parts" 756, .str "even_parts" 757, .str "/claim/cut.py" 758, .int 278 0, .int 2 0, .int 0 0, .int 0 0, .int 3 0, .ref 444, .bool true, .int 181 0, .ref 445, .none, .ref 446, .ref 447, .ref 448, .int 766 0, .int 278 0, .str "/claim/cut.py" 767]
noncomputable def o450 (P : Params) : Obj := oU "even_parts" "even_parts" (sA 34) .none (.str "paperhold.trees" 653) (.ref 449)
noncomputable def o456 (P : Params) : Obj := oG "code" [.str "leaf_node" 769, .str "leaf_node" 770, .str "/claim/cut.py" 771, .int 287 0, .int 2 0, .int 0 0, .int 0 0, .int 3 0, .ref 451, .bool true, .int 181 0, .ref 452, .none, .ref 453, .ref 454, .ref 455, .int 777 0, .int 287 0, .str "/claim/cut.py" 778]
noncomputable def o457 (P : Params) : Obj := oU "leaf_node" "leaf_node" (sA 35) .none (.str "paperhold.trees" 653) (.ref 456)
noncomputable def o463 (P : Params) : Obj := oG "code" [.str "inner_node" 780, .str "inner_node" 781, .str "/claim/cut.py" 782, .int 293 0, .int 1 0, .int 0 0, .int 0 0, .int 3 0, .ref 458, .bool true, .int 181 0, .ref 459, .none, .ref 460, .ref 461, .ref 462, .int 784 0, .int 293 0, .str "/claim/cut.py" 785]
noncomputable def o464 (P : Params) : Obj := oU "inner_node" "inner_node" (sA 36) .none (.str "paperhold.trees" 653) (.ref 463)
noncomputable def o468 (P : Params) : Obj := oG "code" [.str "as_root" 787, .str "as_root" 788, .str "/claim/cut.py" 789, .int 295 0, .int 1 0, .int 0 0, .int 0 0, .int 3 0, .ref 465, .bool true, .int 181 0, .ref 466, .none, .none, .none, .ref 467, .int 790 0, .int 295 0, .str "/claim/cut.py" 791]
noncomputable def o469 (P : Params) : Obj := oU "as_root" "as_root" (sA 37) .none (.str "paperhold.trees" 653) (.ref 468)
noncomputable def o473 (P : Params) : Obj := oG "code" [.str "own_pairs" 793, .str "own_pairs" 794, .str "/claim/cut.py" 795, .int 297 0, .int 2 0, .int 0 0, .int 0 0, .int 3 0, .ref 470, .bool true, .int 181 0, .ref 471, .none, .none, .none, .ref 472, .int 796 0, .int 297 0, .str "/claim/cut.py" 797]
noncomputable def o474 (P : Params) : Obj := oU "own_pairs" "own_pairs" (sA 38) .none (.str "paperhold.trees" 653) (.ref 473)
noncomputable def o478 (P : Params) : Obj := oG "code" [.str "own_ends" 799, .str "own_ends" 800, .str "/claim/cut.py" 801, .int 302 0, .int 2 0, .int 0 0, .int 0 0, .int 3 0, .ref 475, .bool true, .int 181 0, .ref 476, .none, .none, .none, .ref 477, .int 802 0, .int 302 0, .str "/claim/cut.py" 803]
noncomputable def o479 (P : Params) : Obj := oU "own_ends" "own_ends" (sA 39) .none (.str "paperhold.trees" 653) (.ref 478)
noncomputable def o483 (P : Params) : Obj := oG "code" [.str "put_below" 805, .str "put_below" 806, .str "/claim/cut.py" 807, .int 307 0, .int 4 0, .int 0 0, .int 0 0, .int 3 0, .ref 480, .bool true, .int 181 0, .ref 481, .none, .none, .none, .ref 482, .int 808 0, .int 307 0, .str "/claim/cut.py" 809]
noncomputable def o484 (P : Params) : Obj := oU "put_below" "put_below" (sA 40) .none (.str "paperhold.trees" 653) (.ref 483)
noncomputable def o490 (P : Params) : Obj := oG "code" [.str "tree_put" 811, .str "tree_put" 812, .str "/claim/cut.py" 813, .int 317 0, .int 5 0, .int 0 0, .int 0 0, .int 3 0, .ref 485, .bool true, .int 181 0, .ref 486, .none, .ref 487, .ref 488, .ref 489, .int 820 0, .int 317 0, .str "/claim/cut.py" 821]
noncomputable def o491 (P : Params) : Obj := oU "tree_put" "tree_put" (sA 41) .none (.str "paperhold.trees" 653) (.ref 490)
noncomputable def o495 (P : Params) : Obj := oG "code" [.str "dropped_below" 823, .str "dropped_below" 824, .str "/claim/cut.py" 825, .int 322 0, .int 3 0, .int 0 0, .int 0 0, .int 3 0, .ref 492, .bool true, .int 181 0, .ref 493, .none, .none, .none, .ref 494, .int 826 0, .int 322 0, .str "/claim/cut.py" 827]
noncomputable def o496 (P : Params) : Obj := oU "dropped_below" "dropped_below" (sA 42) .none (.str "paperhold.trees" 653) (.ref 495)
noncomputable def o502 (P : Params) : Obj := oG "code" [.str "tree_dropped" 829, .str "tree_dropped" 830, .str "/claim/cut.py" 831, .int 333 0, .int 3 0, .int 0 0, .int 0 0, .int 3 0, .ref 497, .bool true, .int 181 0, .ref 498, .none, .ref 499, .ref 500, .ref 501, .int 836 0, .int 333 0, .str "/claim/cut.py" 837]
noncomputable def o503 (P : Params) : Obj := oU "tree_dropped" "tree_dropped" (sA 43) .none (.str "paperhold.trees" 653) (.ref 502)
noncomputable def o504 (P : Params) : Obj := oT []
noncomputable def o505 (P : Params) : Obj := oT [.ref 504, .none]
noncomputable def o511 (P : Params) : Obj := oG "code" [.str "tree_gathered" 839, .str "tree_gathered" 840, .str "/claim/cut.py" 841, .int 340 0, .int 4 0, .int 0 0, .int 0 0, .int 3 0, .ref 506, .bool true, .int 181 0, .ref 507, .none, .ref 508, .ref 509, .ref 510, .int 851 0, .int 340 0, .str "/claim/cut.py" 852]
noncomputable def o512 (P : Params) : Obj := oU "tree_gathered" "tree_gathered" (sA 44) (.ref 505) (.str "paperhold.trees" 653) (.ref 511)
noncomputable def o516 (P : Params) : Obj := oG "code" [.str "_law_urn" 856, .str "_law_urn" 857, .str "/claim/cut.py" 858, .int 351 0, .int 1 0, .int 0 0, .int 0 0, .int 3 0, .ref 513, .bool true, .int 181 0, .ref 514, .none, .none, .none, .ref 515, .int 859 0, .int 351 0, .str "/claim/cut.py" 860]
noncomputable def o517 (P : Params) : Obj := oU "_law_urn" "_law_urn" (sA 46) .none (.str "law_sa0515_01" 854) (.ref 516)
noncomputable def o523 (P : Params) : Obj := oG "code" [.str "_law_lot" 862, .str "_law_lot" 863, .str "/claim/cut.py" 864, .int 353 0, .int 2 0, .int 0 0, .int 0 0, .int 3 0, .ref 518, .bool true, .int 181 0, .ref 519, .none, .ref 520, .ref 521, .ref 522, .int 870 0, .int 353 0, .str "/claim/cut.py" 871]
noncomputable def o524 (P : Params) : Obj := oU "_law_lot" "_law_lot" (sA 47) .none (.str "law_sa0515_01" 854) (.ref 523)
noncomputable def o530 (P : Params) : Obj := oG "code" [.str "_law_object" 873, .str "_law_object" 874, .str "/claim/cut.py" 875, .int 366 0, .int 2 0, .int 0 0, .int 0 0, .int 3 0, .ref 525, .bool true, .int 181 0, .ref 526, .none, .ref 527, .ref 528, .ref 529, .int 878 0, .int 366 0, .str "/claim/cut.py" 879]
noncomputable def o531 (P : Params) : Obj := oU "_law_object" "_law_object" (sA 48) .none (.str "law_sa0515_01" 854) (.ref 530)
noncomputable def o537 (P : Params) : Obj := oG "code" [.str "_law_key" 881, .str "_law_key" 882, .str "/claim/cut.py" 883, .int 368 0, .int 2 0, .int 0 0, .int 0 0, .int 3 0, .ref 532, .bool true, .int 181 0, .ref 533, .none, .ref 534, .ref 535, .ref 536, .int 886 0, .int 368 0, .str "/claim/cut.py" 887]
noncomputable def o538 (P : Params) : Obj := oU "_law_key" "_law_key" (sA 49) .none (.str "law_sa0515_01" 854) (.ref 537)
noncomputable def o542 (P : Params) : Obj := oG "code" [.str "_law_plan" 889, .str "_law_plan" 890, .str "/claim/cut.py" 891, .int 370 0, .int 1 0, .int 0 0, .int 0 0, .int 3 0, .ref 539, .bool true, .int 181 0, .ref 540, .none, .none, .none, .ref 541, .int 892 0, .int 370 0, .str "/claim/cut.py" 893]
noncomputable def o543 (P : Params) : Obj := oU "_law_plan" "_law_plan" (sA 50) .none (.str "law_sa0515_01" 854) (.ref 542)
noncomputable def o547 (P : Params) : Obj := oG "code" [.str "_law_shelf" 895, .str "_law_shelf" 896, .str "/claim/cut.py" 897, .int 378 0, .int 2 0, .int 0 0, .int 0 0, .int 3 0, .ref 544, .bool true, .int 181 0, .ref 545, .none, .none, .none, .ref 546, .int 898 0, .int 378 0, .str "/claim/cut.py" 899]
noncomputable def o548 (P : Params) : Obj := oU "_law_shelf" "_law_shelf" (sA 51) .none (.str "law_sa0515_01" 854) (.ref 547)
noncomputable def o554 (P : Params) : Obj := oG "code" [.str "_law_counts" 901, .str "_law_counts" 902, .str "/claim/cut.py" 903, .int 390 0, .int 1 0, .int 0 0, .int 0 0, .int 3 0, .ref 549, .bool true, .int 181 0, .ref 550, .none, .ref 551, .ref 552, .ref 553, .int 909 0, .int 390 0, .str "/claim/cut.py" 910]
noncomputable def o555 (P : Params) : Obj := oU "_law_counts" "_law_counts" (sA 52) .none (.str "law_sa0515_01" 854) (.ref 554)
noncomputable def o559 (P : Params) : Obj := oG "code" [.str "_law_walk" 912, .str "_law_walk" 913, .str "/claim/cut.py" 914, .int 396 0, .int 3 0, .int 0 0, .int 0 0, .int 3 0, .ref 556, .bool true, .int 181 0, .ref 557, .none, .none, .none, .ref 558, .int 915 0, .int 396 0, .str "/claim/cut.py" 916]
noncomputable def o560 (P : Params) : Obj := oU "_law_walk" "_law_walk" (sA 53) .none (.str "law_sa0515_01" 854) (.ref 559)
noncomputable def o564 (P : Params) : Obj := oG "code" [.str "_law_whole" 918, .str "_law_whole" 919, .str "/claim/cut.py" 920, .int 403 0, .int 4 0, .int 0 0, .int 0 0, .int 3 0, .ref 561, .bool true, .int 181 0, .ref 562, .none, .none, .none, .ref 563, .int 921 0, .int 403 0, .str "/claim/cut.py" 922]
noncomputable def o565 (P : Params) : Obj := oU "_law_whole" "_law_whole" (sA 54) .none (.str "law_sa0515_01" 854) (.ref 564)
noncomputable def o571 (P : Params) : Obj := oG "code" [.str "_law_heard" 924, .str "_law_heard" 925, .str "/claim/cut.py" 926, .int 408 0, .int 1 0, .int 0 0, .int 0 0, .int 3 0, .ref 566, .bool true, .int 181 0, .ref 567, .none, .ref 568, .ref 569, .ref 570, .int 928 0, .int 408 0, .str "/claim/cut.py" 929]
noncomputable def o572 (P : Params) : Obj := oU "_law_heard" "_law_heard" (sA 55) .none (.str "law_sa0515_01" 854) (.ref 571)
noncomputable def o574 (P : Params) : Obj := oF []
noncomputable def o578 (P : Params) : Obj := oG "code" [.str "_law_asked" 931, .str "_law_asked" 932, .str "/claim/cut.py" 933, .int 413 0, .int 2 0, .int 0 0, .int 0 0, .int 3 0, .ref 573, .bool true, .int 181 0, .ref 574, .none, .ref 575, .ref 576, .ref 577, .int 940 0, .int 413 0, .str "/claim/cut.py" 941]
noncomputable def o579 (P : Params) : Obj := oU "_law_asked" "_law_asked" (sA 56) .none (.str "law_sa0515_01" 854) (.ref 578)
noncomputable def o581 (P : Params) : Obj := oF []
noncomputable def o585 (P : Params) : Obj := oG "code" [.str "_law_hurt_right" 943, .str "_law_hurt_right" 944, .str "/claim/cut.py" 945, .int 420 0, .int 3 0, .int 0 0, .int 0 0, .int 3 0, .ref 580, .bool true, .int 181 0, .ref 581, .none, .ref 582, .ref 583, .ref 584, .int 959 0, .int 420 0, .str "/claim/cut.py" 960]
noncomputable def o586 (P : Params) : Obj := oU "_law_hurt_right" "_law_hurt_right" (sA 57) .none (.str "law_sa0515_01" 854) (.ref 585)
noncomputable def o590 (P : Params) : Obj := oG "code" [.str "law" 962, .str "law" 963, .str "/claim/cut.py" 964, .int 433 0, .int 1 0, .int 0 0, .int 0 0, .int 3 0, .ref 587, .bool true, .int 181 0, .ref 588, .none, .none, .none, .ref 589, .int 965 0, .int 433 0, .str "/claim/cut.py" 966]
noncomputable def o591 (P : Params) : Obj := oU "law" "law" (sA 58) .none (.str "law_sa0515_01" 854) (.ref 590)
noncomputable def K1 (P : Params) : Frag := (2, o2 P) :: (3, o3 P) :: (20, o20 P) :: (21, o21 P) :: (27, o27 P) :: (29, o29 P) :: (35, o35 P) :: (36, o36 P) :: (42, o42 P) :: (43, o43 P) :: (45, o45 P) :: (46, o46 P) :: (55, o55 P) :: (58, o58 P) :: (59, o59 P) :: (67, o67 P) :: (154, o154 P) :: (155, o155 P) :: (165, o165 P) :: (166, o166 P) :: (172, o172 P) :: (173, o173 P) :: (179, o179 P) :: (186, o186 P) :: (187, o187 P) :: (189, o189 P) :: (190, o190 P) :: (200, o200 P) :: (202, o202 P) :: (208, o208 P) :: (209, o209 P) :: (211, o211 P) :: (212, o212 P) :: (222, o222 P) :: (229, o229 P) :: (230, o230 P) :: (232, o232 P) :: (233, o233 P) :: (243, o243 P) :: (250, o250 P) :: (251, o251 P) :: (257, o257 P) :: (258, o258 P) :: (260, o260 P) :: (261, o261 P) :: (271, o271 P) :: (272, o272 P) :: (278, o278 P) :: (279, o279 P) :: (283, o283 P) :: (284, o284 P) :: (290, o290 P) :: (292, o292 P) :: (298, o298 P) :: (299, o299 P) :: (305, o305 P) :: (306, o306 P) :: (312, o312 P) :: (313, o313 P) :: (315, o315 P) :: (316, o316 P) :: (326, o326 P) :: (333, o333 P) :: (334, o334 P) :: (340, o340 P) :: (341, o341 P) :: (347, o347 P) :: (348, o348 P) :: (354, o354 P) :: (355, o355 P) :: (361, o361 P) :: (362, o362 P) :: (366, o366 P) :: (367, o367 P) :: (369, o369 P) :: (370, o370 P) :: (378, o378 P) :: (379, o379 P) :: (385, o385 P) :: (386, o386 P) :: (392, o392 P) :: (393, o393 P) :: (399, o399 P) :: (400, o400 P) :: (404, o404 P) :: (405, o405 P) :: (411, o411 P) :: (412, o412 P) :: (418, o418 P) :: (419, o419 P) :: (423, o423 P) :: (424, o424 P) :: (430, o430 P) :: (431, o431 P) :: (437, o437 P) :: (438, o438 P) :: (442, o442 P) :: (443, o443 P) :: (449, o449 P) :: (450, o450 P) :: (456, o456 P) :: (457, o457 P) :: (463, o463 P) :: (464, o464 P) :: (468, o468 P) :: (469, o469 P) :: (473, o473 P) :: (474, o474 P) :: (478, o478 P) :: (479, o479 P) :: (483, o483 P) :: (484, o484 P) :: (490, o490 P) :: (491, o491 P) :: (495, o495 P) :: (496, o496 P) :: (502, o502 P) :: (503, o503 P) :: (504, o504 P) :: (505, o505 P) :: (511, o511 P) :: (512, o512 P) :: (516, o516 P) :: (517, o517 P) :: (523, o523 P) :: (524, o524 P) :: (530, o530 P) :: (531, o531 P) :: (537, o537 P) :: (538, o538 P) :: (542, o542 P) :: (543, o543 P) :: (547, o547 P) :: (548, o548 P) :: (554, o554 P) :: (555, o555 P) :: (559, o559 P) :: (560, o560 P) :: (564, o564 P) :: (565, o565 P) :: (571, o571 P) :: (572, o572 P) :: (578, o578 P) :: (579, o579 P) :: (585, o585 P) :: (586, o586 P) :: (590, o590 P) :: (591, o591 P) :: []
noncomputable def K0 (P : Params) : Frag := (574, o574 P) :: (581, o581 P) :: K1 P
noncomputable def as0 : List Addr := 574 :: 581 :: 2 :: 3 :: 20 :: 21 :: 27 :: 29 :: 35 :: 36 :: 42 :: 43 :: 45 :: 46 :: 55 :: 58 :: 59 :: 67 :: 154 :: 155 :: 165 :: 166 :: 172 :: 173 :: 179 :: 186 :: 187 :: 189 :: 190 :: 200 :: 202 :: 208 :: 209 :: 211 :: 212 :: 222 :: 229 :: 230 :: 232 :: 233 :: 243 :: 250 :: 251 :: 257 :: 258 :: 260 :: 261 :: 271 :: 272 :: 278 :: 279 :: 283 :: 284 :: 290 :: 292 :: 298 :: 299 :: 305 :: 306 :: 312 :: 313 :: 315 :: 316 :: 326 :: 333 :: 334 :: 340 :: 341 :: 347 :: 348 :: 354 :: 355 :: 361 :: 362 :: 366 :: 367 :: 369 :: 370 :: 378 :: 379 :: 385 :: 386 :: 392 :: 393 :: 399 :: 400 :: 404 :: 405 :: 411 :: 412 :: 418 :: 419 :: 423 :: 424 :: 430 :: 431 :: 437 :: 438 :: 442 :: 443 :: 449 :: 450 :: 456 :: 457 :: 463 :: 464 :: 468 :: 469 :: 473 :: 474 :: 478 :: 479 :: 483 :: 484 :: 490 :: 491 :: 495 :: 496 :: 502 :: 503 :: 504 :: 505 :: 511 :: 512 :: 516 :: 517 :: 523 :: 524 :: 530 :: 531 :: 537 :: 538 :: 542 :: 543 :: 547 :: 548 :: 554 :: 555 :: 559 :: 560 :: 564 :: 565 :: 571 :: 572 :: 578 :: 579 :: 585 :: 586 :: 590 :: 591 :: []
noncomputable def c1 (P : Params) : List Obj :=
  oT [] ::
  oF [] ::
  oT [.str "k" 190] ::
  oT [] ::
  oN "_wall" "_wall" (sA 0) ::
  o20 P ::
  o21 P ::
  oT [.type "Exception"] ::
  oG "builtin_function_or_method" [.builtin "type.__prepare__", .type "type"] ::
  oD P (.type "dict") 6 [("__module__", 203, .str "paperhold.errors" 194), ("__qualname__", 205, .str "PaperError" 204), ("__firstlineno__", 207, .int 5 206), ("__init__", 218, .ref 36), ("told", 225, .ref 43), ("__static_attributes__", 228, .ref 44)] ::
  oT [] ::
  oF [.int 7 0, .int 4 0, .ref 35, .int 12 0, .int 4 0, .ref 42] ::
  o27 P ::
  oR [some (.ref 27), some (.ref 3), some (.ref 24), none, some (.str "paperhold.errors" 194), none, some (.ref 0)] ::
  o29 P ::
  oT [] ::
  oF [] ::
  oT [.str "self" 213, .str "what" 214, .str "at" 215] ::
  oT [] ::
  oN "__init__" "PaperError.__init__" (sM 2 0) ::
  o35 P ::
  o36 P ::
  oT [] ::
  oF [] ::
  oT [.str "self" 222] ::
  oT [] ::
  oN "told" "PaperError.told" (sM 2 1) ::
  o42 P ::
  o43 P ::
  oT [.str "at" 226, .str "what" 227] ::
  o45 P ::
  o46 P ::
  oG "getset_descriptor" [.str "__weakref__" 229, .ref 46, .builtin "ExceptionGroup.__weakref__", .none] ::
  oG "super" [.ref 46, .ref 46, .ref 46] ::
  oG "builtin_function_or_method" [.builtin "object.__init_subclass__", .ref 46] ::
  oT [.ref 46] ::
  oG "builtin_function_or_method" [.builtin "type.__prepare__", .type "type"] ::
  oD P (.type "dict") 4 [("__module__", 243, .str "paperhold.errors" 194), ("__qualname__", 245, .str "TreeFault" 244), ("__firstlineno__", 247, .int 14 246), ("__static_attributes__", 248, .ref 57)] ::
  oT [] ::
  oF [] ::
  o55 P ::
  oR [some (.ref 55), some (.ref 3), some (.ref 52), none, some (.str "paperhold.errors" 194), none, some (.ref 0)] ::
  oT [] ::
  o58 P ::
  o59 P ::
  oG "super" [.ref 59, .ref 59, .ref 59] ::
  oG "builtin_function_or_method" [.builtin "object.__init_subclass__", .ref 59] ::
  oT [] ::
  oG "builtin_function_or_method" [.builtin "type.__prepare__", .type "type"] ::
  oD P (.type "dict") 16 [("__module__", 261, .str "paperhold.decimals" 252), ("__qualname__", 263, .str "Decimal" 262), ("__firstlineno__", 265, .int 17 264), ("__init__", 274, .ref 75), ("plus", 282, .ref 82), ("minus", 290, .ref 89), ("times", 299, .ref 96), ("negated", 306, .ref 103), ("compared", 314, .ref 110), ("is_whole", 321, .ref 117), ("floor", 328, .ref 124), ("rounded", 336, .ref 131), ("told", 343, .ref 138), ("text", 351, .ref 145), ("least_text", 358, .ref 152), ("__static_attributes__", 361, .ref 153)] ::
  oT [] ::
  oF [.int 19 0, .int 4 0, .ref 74, .int 26 0, .int 4 0, .ref 81, .int 29 0, .int 4 0, .ref 88, .int 32 0, .int 4 0, .ref 95, .int 36 0, .int 4 0, .ref 102, .int 39 0, .int 4 0, .ref 109, .int 42 0, .int 4 0, .ref 116, .int 45 0, .int 4 0, .ref 123, .int 48 0, .int 4 0, .ref 130, .int 51 0, .int 4 0, .ref 137, .int 54 0, .int 4 0, .ref 144, .int 61 0, .int 4 0, .ref 151] ::
  o67 P ::
  oR [some (.ref 67), some (.ref 3), some (.ref 64), none, some (.str "paperhold.decimals" 252), none, some (.ref 0)] ::
  oT [] ::
  oF [] ::
  oT [.str "self" 269, .str "top" 270, .str "places" 271] ::
  oT [] ::
  oN "__init__" "Decimal.__init__" (sM 5 0) ::
  oG "code" [.str "__init__" 266, .str "Decimal.__init__" 267, .str "/claim/cut.py" 268, .int 19 0, .int 3 0, .int 0 0, .int 0 0, .int 3 0, .ref 69, .bool true, .int 181 0, .ref 70, .none, .ref 71, .ref 72, .ref 73, .int 272 0, .int 19 0, .str "/claim/cut.py" 273] ::
  oU "__init__" "Decimal.__init__" (sM 5 0) .none (.str "paperhold.decimals" 252) (.ref 74) ::
  oT [] ::
  oF [] ::
  oT [.str "self" 278, .str "other" 279] ::
  oT [] ::
  oN "plus" "Decimal.plus" (sM 5 1) ::
  oG "code" [.str "plus" 275, .str "Decimal.plus" 276, .str "/claim/cut.py" 277, .int 26 0, .int 2 0, .int 0 0, .int 0 0, .int 3 0, .ref 76, .bool true, .int 181 0, .ref 77, .none, .ref 78, .ref 79, .ref 80, .int 280 0, .int 26 0, .str "/claim/cut.py" 281] ::
  oU "plus" "Decimal.plus" (sM 5 1) .none (.str "paperhold.decimals" 252) (.ref 81) ::
  oT [] ::
  oF [] ::
  oT [.str "self" 286, .str "other" 287] ::
  oT [] ::
  oN "minus" "Decimal.minus" (sM 5 2) ::
  oG "code" [.str "minus" 283, .str "Decimal.minus" 284, .str "/claim/cut.py" 285, .int 29 0, .int 2 0, .int 0 0, .int 0 0, .int 3 0, .ref 83, .bool true, .int 181 0, .ref 84, .none, .ref 85, .ref 86, .ref 87, .int 288 0, .int 29 0, .str "/claim/cut.py" 289] ::
  oU "minus" "Decimal.minus" (sM 5 2) .none (.str "paperhold.decimals" 252) (.ref 88) ::
  oT [] ::
  oF [] ::
  oT [.str "self" 294, .str "other" 295, .str "factor" 296] ::
  oT [] ::
  oN "times" "Decimal.times" (sM 5 3) ::
  oG "code" [.str "times" 291, .str "Decimal.times" 292, .str "/claim/cut.py" 293, .int 32 0, .int 2 0, .int 0 0, .int 0 0, .int 3 0, .ref 90, .bool true, .int 181 0, .ref 91, .none, .ref 92, .ref 93, .ref 94, .int 297 0, .int 32 0, .str "/claim/cut.py" 298] ::
  oU "times" "Decimal.times" (sM 5 3) .none (.str "paperhold.decimals" 252) (.ref 95) ::
  oT [] ::
  oF [] ::
  oT [.str "self" 303] ::
  oT [] ::
  oN "negated" "Decimal.negated" (sM 5 4) ::
  oG "code" [.str "negated" 300, .str "Decimal.negated" 301, .str "/claim/cut.py" 302, .int 36 0, .int 1 0, .int 0 0, .int 0 0, .int 3 0, .ref 97, .bool true, .int 181 0, .ref 98, .none, .ref 99, .ref 100, .ref 101, .int 304 0, .int 36 0, .str "/claim/cut.py" 305] ::
  oU "negated" "Decimal.negated" (sM 5 4) .none (.str "paperhold.decimals" 252) (.ref 102) ::
  oT [] ::
  oF [] ::
  oT [.str "self" 310, .str "other" 311] ::
  oT [] ::
  oN "compared" "Decimal.compared" (sM 5 5) ::
  oG "code" [.str "compared" 307, .str "Decimal.compared" 308, .str "/claim/cut.py" 309, .int 39 0, .int 2 0, .int 0 0, .int 0 0, .int 3 0, .ref 104, .bool true, .int 181 0, .ref 105, .none, .ref 106, .ref 107, .ref 108, .int 312 0, .int 39 0, .str "/claim/cut.py" 313] ::
  oU "compared" "Decimal.compared" (sM 5 5) .none (.str "paperhold.decimals" 252) (.ref 109) ::
  oT [] ::
  oF [] ::
  oT [.str "self" 318] ::
  oT [] ::
  oN "is_whole" "Decimal.is_whole" (sM 5 6) ::
  oG "code" [.str "is_whole" 315, .str "Decimal.is_whole" 316, .str "/claim/cut.py" 317, .int 42 0, .int 1 0, .int 0 0, .int 0 0, .int 3 0, .ref 111, .bool true, .int 181 0, .ref 112, .none, .ref 113, .ref 114, .ref 115, .int 319 0, .int 42 0, .str "/claim/cut.py" 320] ::
  oU "is_whole" "Decimal.is_whole" (sM 5 6) .none (.str "paperhold.decimals" 252) (.ref 116) ::
  oT [] ::
  oF [] ::
  oT [.str "self" 325] ::
  oT [] ::
  oN "floor" "Decimal.floor" (sM 5 7) ::
  oG "code" [.str "floor" 322, .str "Decimal.floor" 323, .str "/claim/cut.py" 324, .int 45 0, .int 1 0, .int 0 0, .int 0 0, .int 3 0, .ref 118, .bool true, .int 181 0, .ref 119, .none, .ref 120, .ref 121, .ref 122, .int 326 0, .int 45 0, .str "/claim/cut.py" 327] ::
  oU "floor" "Decimal.floor" (sM 5 7) .none (.str "paperhold.decimals" 252) (.ref 123) ::
  oT [] ::
  oF [] ::
  oT [.str "self" 332, .str "places" 333] ::
  oT [] ::
  oN "rounded" "Decimal.rounded" (sM 5 8) ::
  oG "code" [.str "rounded" 329, .str "Decimal.rounded" 330, .str "/claim/cut.py" 331, .int 48 0, .int 2 0, .int 0 0, .int 0 0, .int 3 0, .ref 125, .bool true, .int 181 0, .ref 126, .none, .ref 127, .ref 128, .ref 129, .int 334 0, .int 48 0, .str "/claim/cut.py" 335] ::
  oU "rounded" "Decimal.rounded" (sM 5 8) .none (.str "paperhold.decimals" 252) (.ref 130) ::
  oT [] ::
  oF [] ::
  oT [.str "self" 340] ::
  oT [] ::
  oN "told" "Decimal.told" (sM 5 9) ::
  oG "code" [.str "told" 337, .str "Decimal.told" 338, .str "/claim/cut.py" 339, .int 51 0, .int 1 0, .int 0 0, .int 0 0, .int 3 0, .ref 132, .bool true, .int 181 0, .ref 133, .none, .ref 134, .ref 135, .ref 136, .int 341 0, .int 51 0, .str "/claim/cut.py" 342] ::
  oU "told" "Decimal.told" (sM 5 9) .none (.str "paperhold.decimals" 252) (.ref 137) ::
  oT [] ::
  oF [] ::
  oT [.str "self" 347, .str "numerals" 348] ::
  oT [] ::
  oN "text" "Decimal.text" (sM 5 10) ::
  oG "code" [.str "text" 344, .str "Decimal.text" 345, .str "/claim/cut.py" 346, .int 54 0, .int 1 0, .int 0 0, .int 0 0, .int 3 0, .ref 139, .bool true, .int 181 0, .ref 140, .none, .ref 141, .ref 142, .ref 143, .int 349 0, .int 54 0, .str "/claim/cut.py" 350] ::
  oU "text" "Decimal.text" (sM 5 10) .none (.str "paperhold.decimals" 252) (.ref 144) ::
  oT [] ::
  oF [] ::
  oT [.str "self" 355] ::
  oT [] ::
  oN "least_text" "Decimal.least_text" (sM 5 11) ::
  oG "code" [.str "least_text" 352, .str "Decimal.least_text" 353, .str "/claim/cut.py" 354, .int 61 0, .int 1 0, .int 0 0, .int 0 0, .int 3 0, .ref 146, .bool true, .int 181 0, .ref 147, .none, .ref 148, .ref 149, .ref 150, .int 356 0, .int 61 0, .str "/claim/cut.py" 357] ::
  oU "least_text" "Decimal.least_text" (sM 5 11) .none (.str "paperhold.decimals" 252) (.ref 151) ::
  oT [.str "places" 359, .str "top" 360] ::
  o154 P ::
  o155 P ::
  oG "getset_descriptor" [.str "__dict__" 362, .ref 155, .builtin "function.__dict__", .builtin "function.__dict__#set"] ::
  oG "getset_descriptor" [.str "__weakref__" 364, .ref 155, .builtin "ExceptionGroup.__weakref__", .none] ::
  oG "super" [.ref 155, .ref 155, .ref 155] ::
  oG "builtin_function_or_method" [.builtin "object.__init_subclass__", .ref 155] :: []
noncomputable def c2 (P : Params) : List Obj :=
  oT [] ::
  oF [] ::
  oT [.str "number" 372] ::
  oT [] ::
  oN "sign_text" "sign_text" (sA 6) ::
  o165 P ::
  o166 P ::
  oT [] ::
  oF [] ::
  oT [.str "value" 379] ::
  oT [] ::
  oN "decimal_of" "decimal_of" (sA 7) ::
  o172 P ::
  o173 P ::
  oT [] ::
  oG "builtin_function_or_method" [.builtin "type.__prepare__", .type "type"] ::
  oD P (.type "dict") 5 [("__module__", 394, .str "paperhold.objects" 383), ("__qualname__", 396, .str "Name" 395), ("__firstlineno__", 398, .int 73 397), ("__init__", 406, .ref 187), ("__static_attributes__", 408, .ref 188)] ::
  oT [] ::
  oF [.int 75 0, .int 4 0, .ref 186] ::
  o179 P ::
  oR [some (.ref 179), some (.ref 3), some (.ref 176), none, some (.str "paperhold.objects" 383), none, some (.ref 0)] ::
  oT [] ::
  oF [] ::
  oT [.str "self" 402, .str "text" 403] ::
  oT [] ::
  oN "__init__" "Name.__init__" (sM 10 0) ::
  o186 P ::
  o187 P ::
  oT [.str "text" 407] ::
  o189 P ::
  o190 P ::
  oG "getset_descriptor" [.str "__dict__" 409, .ref 190, .builtin "function.__dict__", .builtin "function.__dict__#set"] ::
  oG "getset_descriptor" [.str "__weakref__" 411, .ref 190, .builtin "ExceptionGroup.__weakref__", .none] ::
  oG "super" [.ref 190, .ref 190, .ref 190] ::
  oG "builtin_function_or_method" [.builtin "object.__init_subclass__", .ref 190] ::
  oT [] ::
  oG "builtin_function_or_method" [.builtin "type.__prepare__", .type "type"] ::
  oD P (.type "dict") 5 [("__module__", 423, .str "paperhold.objects" 383), ("__qualname__", 425, .str "String" 424), ("__firstlineno__", 427, .int 77 426), ("__init__", 436, .ref 209), ("__static_attributes__", 439, .ref 210)] ::
  oT [] ::
  oF [.int 79 0, .int 4 0, .ref 208] ::
  o200 P ::
  oR [some (.ref 200), some (.ref 3), some (.ref 197), none, some (.str "paperhold.objects" 383), none, some (.ref 0)] ::
  o202 P ::
  oT [] ::
  oF [] ::
  oT [.str "self" 431, .str "octets" 432, .str "is_hex" 433] ::
  oT [] ::
  oN "__init__" "String.__init__" (sM 11 0) ::
  o208 P ::
  o209 P ::
  oT [.str "is_hex" 437, .str "octets" 438] ::
  o211 P ::
  o212 P ::
  oG "getset_descriptor" [.str "__dict__" 440, .ref 212, .builtin "function.__dict__", .builtin "function.__dict__#set"] ::
  oG "getset_descriptor" [.str "__weakref__" 442, .ref 212, .builtin "ExceptionGroup.__weakref__", .none] ::
  oG "super" [.ref 212, .ref 212, .ref 212] ::
  oG "builtin_function_or_method" [.builtin "object.__init_subclass__", .ref 212] ::
  oT [] ::
  oG "builtin_function_or_method" [.builtin "type.__prepare__", .type "type"] ::
  oD P (.type "dict") 5 [("__module__", 454, .str "paperhold.objects" 383), ("__qualname__", 456, .str "Stream" 455), ("__firstlineno__", 458, .int 82 457), ("__init__", 467, .ref 230), ("__static_attributes__", 470, .ref 231)] ::
  oT [] ::
  oF [.int 84 0, .int 4 0, .ref 229] ::
  o222 P ::
  oR [some (.ref 222), some (.ref 3), some (.ref 219), none, some (.str "paperhold.objects" 383), none, some (.ref 0)] ::
  oT [] ::
  oF [] ::
  oT [.str "self" 462, .str "head" 463, .str "octets" 464] ::
  oT [] ::
  oN "__init__" "Stream.__init__" (sM 12 0) ::
  o229 P ::
  o230 P ::
  oT [.str "head" 468, .str "octets" 469] ::
  o232 P ::
  o233 P ::
  oG "getset_descriptor" [.str "__dict__" 471, .ref 233, .builtin "function.__dict__", .builtin "function.__dict__#set"] ::
  oG "getset_descriptor" [.str "__weakref__" 473, .ref 233, .builtin "ExceptionGroup.__weakref__", .none] ::
  oG "super" [.ref 233, .ref 233, .ref 233] ::
  oG "builtin_function_or_method" [.builtin "object.__init_subclass__", .ref 233] ::
  oT [] ::
  oG "builtin_function_or_method" [.builtin "type.__prepare__", .type "type"] ::
  oD P (.type "dict") 6 [("__module__", 485, .str "paperhold.objects" 383), ("__qualname__", 487, .str "Reference" 486), ("__firstlineno__", 489, .int 87 488), ("__init__", 498, .ref 251), ("pair", 505, .ref 258), ("__static_attributes__", 508, .ref 259)] ::
  oT [] ::
  oF [.int 89 0, .int 4 0, .ref 250, .int 93 0, .int 4 0, .ref 257] ::
  o243 P ::
  oR [some (.ref 243), some (.ref 3), some (.ref 240), none, some (.str "paperhold.objects" 383), none, some (.ref 0)] ::
  oT [] ::
  oF [] ::
  oT [.str "self" 493, .str "number" 494, .str "generation" 495] ::
  oT [] ::
  oN "__init__" "Reference.__init__" (sM 13 0) ::
  o250 P ::
  o251 P ::
  oT [] ::
  oF [] ::
  oT [.str "self" 502] ::
  oT [] ::
  oN "pair" "Reference.pair" (sM 13 1) ::
  o257 P ::
  o258 P ::
  oT [.str "generation" 506, .str "number" 507] ::
  o260 P ::
  o261 P ::
  oG "getset_descriptor" [.str "__dict__" 509, .ref 261, .builtin "function.__dict__", .builtin "function.__dict__#set"] ::
  oG "getset_descriptor" [.str "__weakref__" 511, .ref 261, .builtin "ExceptionGroup.__weakref__", .none] ::
  oG "super" [.ref 261, .ref 261, .ref 261] ::
  oG "builtin_function_or_method" [.builtin "object.__init_subclass__", .ref 261] :: []
noncomputable def c3 (P : Params) : List Obj :=
  oT [] ::
  oF [] ::
  oT [.str "value" 519] ::
  oT [] ::
  oN "kind_of" "kind_of" (sA 14) ::
  o271 P ::
  o272 P ::
  oT [] ::
  oF [] ::
  oT [.str "kind" 526, .str "value" 527] ::
  oT [] ::
  oN "told_plain" "told_plain" (sA 15) ::
  o278 P ::
  o279 P ::
  oT [] ::
  oF [] ::
  oN "told" "told" (sA 16) ::
  o283 P ::
  o284 P ::
  oT [] ::
  oG "builtin_function_or_method" [.builtin "type.__prepare__", .type "type"] ::
  oD P (.type "dict") 7 [("__module__", 545, .str "paperhold.objects" 383), ("__qualname__", 547, .str "Lookup" 546), ("__firstlineno__", 549, .int 141 548), ("__init__", 558, .ref 299), ("fetch", 570, .ref 306), ("get", 579, .ref 313), ("__static_attributes__", 582, .ref 314)] ::
  oT [] ::
  oF [.int 143 0, .int 4 0, .ref 298, .int 147 0, .int 4 0, .ref 305, .int 158 0, .int 4 0, .ref 312] ::
  o290 P ::
  oR [some (.ref 290), some (.ref 3), some (.ref 287), none, some (.str "paperhold.objects" 383), none, some (.ref 0)] ::
  o292 P ::
  oT [] ::
  oF [] ::
  oT [.str "self" 553, .str "table" 554, .str "trailer" 555] ::
  oT [] ::
  oN "__init__" "Lookup.__init__" (sM 18 0) ::
  o298 P ::
  o299 P ::
  oT [] ::
  oF [] ::
  oT [.str "self" 562, .str "value" 563, .str "here" 564, .str "hop" 565, .str "generation" 566, .str "found" 567] ::
  oT [] ::
  oN "fetch" "Lookup.fetch" (sM 18 1) ::
  o305 P ::
  o306 P ::
  oT [] ::
  oF [] ::
  oT [.str "self" 574, .str "head" 575, .str "key" 576] ::
  oT [] ::
  oN "get" "Lookup.get" (sM 18 2) ::
  o312 P ::
  o313 P ::
  oT [.str "table" 580, .str "trailer" 581] ::
  o315 P ::
  o316 P ::
  oG "getset_descriptor" [.str "__dict__" 583, .ref 316, .builtin "function.__dict__", .builtin "function.__dict__#set"] ::
  oG "getset_descriptor" [.str "__weakref__" 585, .ref 316, .builtin "ExceptionGroup.__weakref__", .none] ::
  oG "super" [.ref 316, .ref 316, .ref 316] ::
  oG "builtin_function_or_method" [.builtin "object.__init_subclass__", .ref 316] ::
  oT [.ref 316] ::
  oG "builtin_function_or_method" [.builtin "type.__prepare__", .type "type"] ::
  oD P (.type "dict") 10 [("__module__", 597, .str "paperhold.objects" 383), ("__qualname__", 599, .str "Shelf" 598), ("__firstlineno__", 601, .int 160 600), ("put", 611, .ref 334), ("add", 619, .ref 341), ("drop", 627, .ref 348), ("numbers", 634, .ref 355), ("root", 642, .ref 362), ("told", 648, .ref 367), ("__static_attributes__", 649, .ref 368)] ::
  oT [] ::
  oF [.int 162 0, .int 4 0, .ref 333, .int 165 0, .int 4 0, .ref 340, .int 168 0, .int 4 0, .ref 347, .int 171 0, .int 4 0, .ref 354, .int 174 0, .int 4 0, .ref 361, .int 178 0, .int 4 0, .ref 366] ::
  o326 P ::
  oR [some (.ref 326), some (.ref 3), some (.ref 323), none, some (.str "paperhold.objects" 383), none, some (.ref 0)] ::
  oT [] ::
  oF [] ::
  oT [.str "self" 605, .str "number" 606, .str "generation" 607, .str "value" 608] ::
  oT [] ::
  oN "put" "Shelf.put" (sM 19 0) ::
  o333 P ::
  o334 P ::
  oT [] ::
  oF [] ::
  oT [.str "self" 615, .str "value" 616] ::
  oT [] ::
  oN "add" "Shelf.add" (sM 19 1) ::
  o340 P ::
  o341 P ::
  oT [] ::
  oF [] ::
  oT [.str "self" 623, .str "number" 624] ::
  oT [] ::
  oN "drop" "Shelf.drop" (sM 19 2) ::
  o347 P ::
  o348 P ::
  oT [] ::
  oF [] ::
  oT [.str "self" 631] ::
  oT [] ::
  oN "numbers" "Shelf.numbers" (sM 19 3) ::
  o354 P ::
  o355 P ::
  oT [] ::
  oF [] ::
  oT [.str "self" 638, .str "found" 639] ::
  oT [] ::
  oN "root" "Shelf.root" (sM 19 4) ::
  o361 P ::
  o362 P ::
  oT [] ::
  oF [] ::
  oN "told" "Shelf.told" (sM 19 5) ::
  o366 P ::
  o367 P ::
  oT [] ::
  o369 P ::
  o370 P ::
  oG "super" [.ref 370, .ref 370, .ref 370] ::
  oG "builtin_function_or_method" [.builtin "object.__init_subclass__", .ref 370] :: []
noncomputable def c4 (P : Params) : List Obj :=
  oT [] ::
  oF [] ::
  oT [.str "word" 662, .str "key" 663] ::
  oT [] ::
  oN "key_object" "key_object" (sA 23) ::
  o378 P ::
  o379 P ::
  oT [] ::
  oF [] ::
  oT [.str "word" 670, .str "value" 671] ::
  oT [] ::
  oN "key_of" "key_of" (sA 24) ::
  o385 P ::
  o386 P ::
  oT [] ::
  oF [] ::
  oT [.str "shelf" 678, .str "value" 679, .str "node" 680] ::
  oT [] ::
  oN "node_of" "node_of" (sA 25) ::
  o392 P ::
  o393 P ::
  oT [] ::
  oF [] ::
  oT [.str "shelf" 687, .str "node" 688, .str "key" 689, .str "row" 690] ::
  oT [] ::
  oN "row_of" "row_of" (sA 26) ::
  o399 P ::
  o400 P ::
  oT [] ::
  oF [] ::
  oN "node_pairs" "node_pairs" (sA 27) ::
  o404 P ::
  o405 P ::
  oT [] ::
  oF [] ::
  oT [.str "shelf" 703, .str "node" 704, .str "word" 705, .str "row" 706] ::
  oT [] ::
  oN "node_limits" "node_limits" (sA 28) ::
  o411 P ::
  o412 P ::
  oT [] ::
  oF [] ::
  oT [.str "way" 713, .str "value" 714, .str "times" 715, .str "place" 716] ::
  oT [] ::
  oN "longer_way" "longer_way" (sA 29) ::
  o418 P ::
  o419 P ::
  oT [] ::
  oF [] ::
  oN "tree_pairs" "tree_pairs" (sA 30) ::
  o423 P ::
  o424 P ::
  oT [] ::
  oF [] ::
  oT [.str "keys" 729, .str "key" 730, .str "low" 731, .str "high" 732, .str "half" 733] ::
  oT [] ::
  oN "first_at_least" "first_at_least" (sA 31) ::
  o430 P ::
  o431 P ::
  oT [] ::
  oF [] ::
  oT [.str "shelf" 740, .str "kids" 741, .str "word" 742, .str "key" 743, .str "low" 744, .str "high" 745, .str "half" 746] ::
  oT [] ::
  oN "kid_for" "kid_for" (sA 32) ::
  o437 P ::
  o438 P ::
  oT [] ::
  oF [] ::
  oN "tree_span" "tree_span" (sA 33) ::
  o442 P ::
  o443 P ::
  oT [] ::
  oF [] ::
  oT [.str "items" 759, .str "width" 760, .str "count" 761, .str "rows" 762, .str "begun" 763, .str "at" 764, .str "end" 765] ::
  oT [] ::
  oN "even_parts" "even_parts" (sA 34) ::
  o449 P ::
  o450 P ::
  oT [] ::
  oF [] ::
  oT [.str "word" 772, .str "pairs" 773, .str "row" 774, .str "key" 775, .str "value" 776] ::
  oT [] ::
  oN "leaf_node" "leaf_node" (sA 35) ::
  o456 P ::
  o457 P ::
  oT [] ::
  oF [] ::
  oT [.str "kids" 783] ::
  oT [] ::
  oN "inner_node" "inner_node" (sA 36) ::
  o463 P ::
  o464 P ::
  oT [] ::
  oF [] ::
  oN "as_root" "as_root" (sA 37) ::
  o468 P ::
  o469 P ::
  oT [] ::
  oF [] ::
  oN "own_pairs" "own_pairs" (sA 38) ::
  o473 P ::
  o474 P ::
  oT [] ::
  oF [] ::
  oN "own_ends" "own_ends" (sA 39) ::
  o478 P ::
  o479 P ::
  oT [] ::
  oF [] ::
  oN "put_below" "put_below" (sA 40) ::
  o483 P ::
  o484 P ::
  oT [] ::
  oF [] ::
  oT [.str "root" 814, .str "word" 815, .str "key" 816, .str "value" 817, .str "width" 818, .str "nodes" 819] ::
  oT [] ::
  oN "tree_put" "tree_put" (sA 41) ::
  o490 P ::
  o491 P ::
  oT [] ::
  oF [] ::
  oN "dropped_below" "dropped_below" (sA 42) ::
  o495 P ::
  o496 P ::
  oT [] ::
  oF [] ::
  oT [.str "root" 832, .str "word" 833, .str "key" 834, .str "node" 835] ::
  oT [] ::
  oN "tree_dropped" "tree_dropped" (sA 43) ::
  o502 P ::
  o503 P ::
  o504 P ::
  o505 P ::
  oT [] ::
  oF [] ::
  oT [.str "shelf" 842, .str "root" 843, .str "way" 844, .str "met_places" 845, .str "times" 846, .str "longer" 847, .str "node" 848, .str "kids" 849, .str "kid" 850] ::
  oT [] ::
  oN "tree_gathered" "tree_gathered" (sA 44) ::
  o511 P ::
  o512 P ::
  oT [] ::
  oF [] ::
  oN "_law_urn" "_law_urn" (sA 46) ::
  o516 P ::
  o517 P ::
  oT [] ::
  oF [] ::
  oT [.str "urn" 865, .str "many" 866, .str "lot" 867, .str "at" 868, .str "cells" 869] ::
  oT [] ::
  oN "_law_lot" "_law_lot" (sA 47) ::
  o523 P ::
  o524 P ::
  oT [] ::
  oF [] ::
  oT [.str "word" 876, .str "number" 877] ::
  oT [] ::
  oN "_law_object" "_law_object" (sA 48) ::
  o530 P ::
  o531 P ::
  oT [] ::
  oF [] ::
  oT [.str "word" 884, .str "number" 885] ::
  oT [] ::
  oN "_law_key" "_law_key" (sA 49) ::
  o537 P ::
  o538 P ::
  oT [] ::
  oF [] ::
  oN "_law_plan" "_law_plan" (sA 50) ::
  o542 P ::
  o543 P ::
  oT [] ::
  oF [] ::
  oN "_law_shelf" "_law_shelf" (sA 51) ::
  o547 P ::
  o548 P ::
  oT [] ::
  oF [] ::
  oT [.str "plan" 904, .str "counts" 905, .str "at" 906, .str "row" 907, .str "one" 908] ::
  oT [] ::
  oN "_law_counts" "_law_counts" (sA 52) ::
  o554 P ::
  o555 P ::
  oT [] ::
  oF [] ::
  oN "_law_walk" "_law_walk" (sA 53) ::
  o559 P ::
  o560 P ::
  oT [] ::
  oF [] ::
  oN "_law_whole" "_law_whole" (sA 54) ::
  o564 P ::
  o565 P ::
  oT [] ::
  oF [] ::
  oT [.str "ask" 927] ::
  oT [] ::
  oN "_law_heard" "_law_heard" (sA 55) ::
  o571 P ::
  o572 P ::
  oT [] ::
  o574 P ::
  oT [.str "word" 934, .str "shelf" 935, .str "heard" 936] ::
  oT [.str "word" 937, .str "shelf" 938, .str "root" 939] ::
  oN "_law_asked" "_law_asked" (sA 56) ::
  o578 P ::
  o579 P ::
  oT [] ::
  o581 P ::
  oT [.str "urn" 946, .str "word" 947, .str "width" 948, .str "ends" 949, .str "empty" 950, .str "way" 951, .str "kid" 952, .str "before" 953, .str "heard" 954] ::
  oT [.str "word" 955, .str "width" 956, .str "key" 957, .str "root" 958] ::
  oN "_law_hurt_right" "_law_hurt_right" (sA 57) ::
  o585 P ::
  o586 P ::
  oT [] ::
  oF [] ::
  oN "law" "law" (sA 58) ::
  o590 P ::
  o591 P :: []
noncomputable def h0 (P : Params) : List Obj :=
  oB P ::
  oD P (.type "dict") 2 [("builtins", 162, .ref 4), ("__main__", 163, .ref 5)] ::
  oD P .none 0 [] ::
  oD P (.type "dict") 9 [("__name__", 165, .str "__main__" 164), ("__doc__", 166, .none), ("__package__", 167, .none), ("__loader__", 168, .builtin "__main__.__loader__#opaque"), ("__spec__", 169, .none), ("__annotations__", 170, .ref 6), ("__builtins__", 171, .ref 4), ("__file__", 173, .str "/claim/cut.py" 172), ("__cached__", 174, .none)] ::
  oM 0 ::
  oM 3 ::
  oD P (.type "dict") 0 [] ::
  oT [] ::
  oF [] ::
  oG "code" [.str "<module>" 176, .str "<module>" 177, .str "/claim/cut.py" 178, .int 1 0, .int 0 0, .int 0 0, .int 0 0, .int 0 0, .ref 7, .bool false, .int 175 0, .ref 8, .none, .none, .none, .none, .int 179 0, .int 1 0, .str "/claim/cut.py" 180] ::
  oR [some (.ref 9), some (.ref 3), some (.ref 3), none, some (.str "__main__" 164), none, some (.ref 0)] ::
  oT [] ::
  oF [] ::
  oG "code" [.str "<module>" 182, .str "<module>" 183, .str "/claim/cut.py" 184, .int 1 0, .int 0 0, .int 0 0, .int 0 0, .int 0 0, .ref 11, .bool false, .int 181 0, .ref 12, .none, .none, .none, .none, .int 185 0, .int 1 0, .str "/claim/cut.py" 186] ::
  oR [some (.ref 13), some (.ref 3), some (.ref 3), none, some (.str "__main__" 164), none, some (.ref 0)] :: []
noncomputable def h1 (P : Params) : List Obj :=
  oB P ::
  oD P (.type "dict") 2 [("builtins", 162, .ref 4), ("__main__", 163, .ref 5)] ::
  oD P .none 2 [("type.__subclasses__.Exception.0", 232, .int 46 0), ("type.__subclasses__.Exception.n", 233, .int 1 0)] ::
  oD P (.type "dict") 13 [("__name__", 165, .str "paperhold.decimals" 252), ("__doc__", 166, .none), ("__package__", 167, .none), ("__loader__", 168, .builtin "__main__.__loader__#opaque"), ("__spec__", 169, .none), ("__annotations__", 170, .ref 6), ("__builtins__", 171, .ref 4), ("__file__", 173, .str "/claim/cut.py" 172), ("__cached__", 174, .none), ("_wall", 193, .ref 21), ("PaperError", 235, .ref 46), ("TreeFault", 251, .ref 59), ("Decimal", 368, .ref 155)] ::
  oM 0 ::
  oM 3 ::
  oD P (.type "dict") 0 [] ::
  oT [] ::
  oF [] ::
  oG "code" [.str "<module>" 176, .str "<module>" 177, .str "/claim/cut.py" 178, .int 1 0, .int 0 0, .int 0 0, .int 0 0, .int 0 0, .ref 7, .bool false, .int 175 0, .ref 8, .none, .none, .none, .none, .int 179 0, .int 1 0, .str "/claim/cut.py" 180] ::
  oR [some (.ref 9), some (.ref 3), some (.ref 3), none, some (.str "__main__" 164), none, some (.ref 0)] ::
  oT [] ::
  oF [.int 1 0, .int 0 0, .ref 20, .int 5 0, .int 0 0, .ref 27, .int 14 0, .int 0 0, .ref 55, .int 17 0, .int 0 0, .ref 67] ::
  oG "code" [.str "<module>" 182, .str "<module>" 183, .str "/claim/cut.py" 184, .int 1 0, .int 0 0, .int 0 0, .int 0 0, .int 0 0, .ref 11, .bool false, .int 181 0, .ref 12, .none, .none, .none, .none, .int 185 0, .int 1 0, .str "/claim/cut.py" 186] ::
  oR [some (.ref 13), some (.ref 3), some (.ref 3), none, some (.str "__main__" 164), none, some (.ref 0)] :: []
noncomputable def h2 (P : Params) : List Obj :=
  oB P ::
  oD P (.type "dict") 2 [("builtins", 162, .ref 4), ("__main__", 163, .ref 5)] ::
  oD P .none 2 [("type.__subclasses__.Exception.0", 232, .int 46 0), ("type.__subclasses__.Exception.n", 233, .int 1 0)] ::
  oD P (.type "dict") 20 [("__name__", 165, .str "paperhold.objects" 383), ("__doc__", 166, .none), ("__package__", 167, .none), ("__loader__", 168, .builtin "__main__.__loader__#opaque"), ("__spec__", 169, .none), ("__annotations__", 170, .ref 6), ("__builtins__", 171, .ref 4), ("__file__", 173, .str "/claim/cut.py" 172), ("__cached__", 174, .none), ("_wall", 193, .ref 21), ("PaperError", 235, .ref 46), ("TreeFault", 251, .ref 59), ("Decimal", 368, .ref 155), ("sign_text", 375, .ref 166), ("decimal_of", 382, .ref 173), ("MOST_HOPS", 386, .int 30 385), ("Name", 415, .ref 190), ("String", 446, .ref 212), ("Stream", 477, .ref 233), ("Reference", 515, .ref 261)] ::
  oM 0 ::
  oM 3 ::
  oD P (.type "dict") 0 [] ::
  oT [] ::
  oF [] ::
  oG "code" [.str "<module>" 176, .str "<module>" 177, .str "/claim/cut.py" 178, .int 1 0, .int 0 0, .int 0 0, .int 0 0, .int 0 0, .ref 7, .bool false, .int 175 0, .ref 8, .none, .none, .none, .none, .int 179 0, .int 1 0, .str "/claim/cut.py" 180] ::
  oR [some (.ref 9), some (.ref 3), some (.ref 3), none, some (.str "__main__" 164), none, some (.ref 0)] ::
  oT [] ::
  oF [.int 1 0, .int 0 0, .ref 20, .int 5 0, .int 0 0, .ref 27, .int 14 0, .int 0 0, .ref 55, .int 17 0, .int 0 0, .ref 67, .int 63 0, .int 0 0, .ref 165, .int 65 0, .int 0 0, .ref 172, .int 73 0, .int 0 0, .ref 179, .int 77 0, .int 0 0, .ref 200, .int 82 0, .int 0 0, .ref 222, .int 87 0, .int 0 0, .ref 243] ::
  oG "code" [.str "<module>" 182, .str "<module>" 183, .str "/claim/cut.py" 184, .int 1 0, .int 0 0, .int 0 0, .int 0 0, .int 0 0, .ref 11, .bool false, .int 181 0, .ref 12, .none, .none, .none, .none, .int 185 0, .int 1 0, .str "/claim/cut.py" 186] ::
  oR [some (.ref 13), some (.ref 3), some (.ref 3), none, some (.str "__main__" 164), none, some (.ref 0)] :: []
noncomputable def h3 (P : Params) : List Obj :=
  oB P ::
  oD P (.type "dict") 2 [("builtins", 162, .ref 4), ("__main__", 163, .ref 5)] ::
  oD P .none 2 [("type.__subclasses__.Exception.0", 232, .int 46 0), ("type.__subclasses__.Exception.n", 233, .int 1 0)] ::
  oD P (.type "dict") 26 [("__name__", 165, .str "paperhold.objects" 383), ("__doc__", 166, .none), ("__package__", 167, .none), ("__loader__", 168, .builtin "__main__.__loader__#opaque"), ("__spec__", 169, .none), ("__annotations__", 170, .ref 6), ("__builtins__", 171, .ref 4), ("__file__", 173, .str "/claim/cut.py" 172), ("__cached__", 174, .none), ("_wall", 193, .ref 21), ("PaperError", 235, .ref 46), ("TreeFault", 251, .ref 59), ("Decimal", 368, .ref 155), ("sign_text", 375, .ref 166), ("decimal_of", 382, .ref 173), ("MOST_HOPS", 386, .int 30 385), ("Name", 415, .ref 190), ("String", 446, .ref 212), ("Stream", 477, .ref 233), ("Reference", 515, .ref 261), ("kind_of", 522, .ref 272), ("told_plain", 530, .ref 279), ("told", 536, .ref 284), ("told_objects", 537, .ref 284), ("Lookup", 589, .ref 316), ("Shelf", 652, .ref 370)] ::
  oM 0 ::
  oM 3 ::
  oD P (.type "dict") 0 [] ::
  oT [] ::
  oF [] ::
  oG "code" [.str "<module>" 176, .str "<module>" 177, .str "/claim/cut.py" 178, .int 1 0, .int 0 0, .int 0 0, .int 0 0, .int 0 0, .ref 7, .bool false, .int 175 0, .ref 8, .none, .none, .none, .none, .int 179 0, .int 1 0, .str "/claim/cut.py" 180] ::
  oR [some (.ref 9), some (.ref 3), some (.ref 3), none, some (.str "__main__" 164), none, some (.ref 0)] ::
  oT [] ::
  oF [.int 1 0, .int 0 0, .ref 20, .int 5 0, .int 0 0, .ref 27, .int 14 0, .int 0 0, .ref 55, .int 17 0, .int 0 0, .ref 67, .int 63 0, .int 0 0, .ref 165, .int 65 0, .int 0 0, .ref 172, .int 73 0, .int 0 0, .ref 179, .int 77 0, .int 0 0, .ref 200, .int 82 0, .int 0 0, .ref 222, .int 87 0, .int 0 0, .ref 243, .int 95 0, .int 0 0, .ref 271, .int 117 0, .int 0 0, .ref 278, .int 131 0, .int 0 0, .ref 283, .int 141 0, .int 0 0, .ref 290, .int 160 0, .int 0 0, .ref 326] ::
  oG "code" [.str "<module>" 182, .str "<module>" 183, .str "/claim/cut.py" 184, .int 1 0, .int 0 0, .int 0 0, .int 0 0, .int 0 0, .ref 11, .bool false, .int 181 0, .ref 12, .none, .none, .none, .none, .int 185 0, .int 1 0, .str "/claim/cut.py" 186] ::
  oR [some (.ref 13), some (.ref 3), some (.ref 3), none, some (.str "__main__" 164), none, some (.ref 0)] :: []
noncomputable def h4 (P : Params) : List Obj :=
  oB P ::
  oD P (.type "dict") 2 [("builtins", 162, .ref 4), ("__main__", 163, .ref 5)] ::
  o2 P ::
  o3 P ::
  oM 0 ::
  oM 3 ::
  oD P (.type "dict") 0 [] ::
  oT [] ::
  oF [] ::
  oG "code" [.str "<module>" 176, .str "<module>" 177, .str "/claim/cut.py" 178, .int 1 0, .int 0 0, .int 0 0, .int 0 0, .int 0 0, .ref 7, .bool false, .int 175 0, .ref 8, .none, .none, .none, .none, .int 179 0, .int 1 0, .str "/claim/cut.py" 180] ::
  oR [some (.ref 9), some (.ref 3), some (.ref 3), none, some (.str "__main__" 164), none, some (.ref 0)] ::
  oT [] ::
  oF (.int 1 0 :: .int 0 0 :: .ref 20 :: .int 5 0 :: .int 0 0 :: .ref 27 :: .int 14 0 :: .int 0 0 :: .ref 55 :: .int 17 0 :: .int 0 0 :: .ref 67 :: .int 63 0 :: .int 0 0 :: .ref 165 :: .int 65 0 :: .int 0 0 :: .ref 172 :: .int 73 0 :: .int 0 0 :: .ref 179 :: .int 77 0 :: .int 0 0 :: .ref 200 :: .int 82 0 :: .int 0 0 :: .ref 222 :: .int 87 0 :: .int 0 0 :: .ref 243 :: .int 95 0 :: .int 0 0 :: .ref 271 :: .int 117 0 :: .int 0 0 :: .ref 278 :: .int 131 0 :: .int 0 0 :: .ref 283 :: .int 141 0 :: .int 0 0 :: .ref 290 :: .int 160 0 :: .int 0 0 :: .ref 326 :: .int 184 0 :: .int 0 0 :: .ref 378 :: .int 186 0 :: .int 0 0 :: .ref 385 :: .int 192 0 :: .int 0 0 :: .ref 392 :: .int 197 0 :: .int 0 0 :: .ref 399 :: .int 202 0 :: .int 0 0 :: .ref 404 :: .int 209 0 :: .int 0 0 :: .ref 411 :: .int 214 0 :: .int 0 0 :: .ref 418 :: .int 226 0 :: .int 0 0 :: .ref 423 :: .int 239 0 :: .int 0 0 :: .ref 430 :: .int 249 0 :: .int 0 0 :: .ref 437 :: .int 259 0 :: .int 0 0 :: .ref 442 :: .int 278 0 :: .int 0 0 :: .ref 449 :: .int 287 0 :: .int 0 0 :: .ref 456 :: .int 293 0 :: .int 0 0 :: .ref 463 :: .int 295 0 :: .int 0 0 :: .ref 468 :: .int 297 0 :: .int 0 0 :: .ref 473 :: .int 302 0 :: .int 0 0 :: .ref 478 :: .int 307 0 :: .int 0 0 :: .ref 483 :: .int 317 0 :: .int 0 0 :: .ref 490 :: .int 322 0 :: .int 0 0 :: .ref 495 :: .int 333 0 :: .int 0 0 :: .ref 502 :: .int 340 0 :: .int 0 0 :: .ref 511 :: .int 351 0 :: .int 0 0 :: .ref 516 :: .int 353 0 :: .int 0 0 :: .ref 523 :: .int 366 0 :: .int 0 0 :: .ref 530 :: .int 368 0 :: .int 0 0 :: .ref 537 :: .int 370 0 :: .int 0 0 :: .ref 542 :: .int 378 0 :: .int 0 0 :: .ref 547 :: .int 390 0 :: .int 0 0 :: .ref 554 :: .int 396 0 :: .int 0 0 :: .ref 559 :: .int 403 0 :: .int 0 0 :: .ref 564 :: .int 408 0 :: .int 0 0 :: .ref 571 :: .int 413 0 :: .int 0 0 :: .ref 578 :: .int 420 0 :: .int 0 0 :: .ref 585 :: .int 433 0 :: .int 0 0 :: .ref 590 :: []) ::
  oG "code" [.str "<module>" 182, .str "<module>" 183, .str "/claim/cut.py" 184, .int 1 0, .int 0 0, .int 0 0, .int 0 0, .int 0 0, .ref 11, .bool false, .int 181 0, .ref 12, .none, .none, .none, .none, .int 185 0, .int 1 0, .str "/claim/cut.py" 186] ::
  oR [some (.ref 13), some (.ref 3), some (.ref 3), none, some (.str "__main__" 164), none, some (.ref 0)] :: []
noncomputable def heap0 (P : Params) : Heap := ⟨(h0 P).toArray, {}⟩
noncomputable def heap1 (P : Params) : Heap := ⟨(h1 P ++ c1 P).toArray, {}⟩
noncomputable def heap2 (P : Params) : Heap := ⟨(h2 P ++ (c1 P ++ c2 P)).toArray, {}⟩
noncomputable def heap3 (P : Params) : Heap := ⟨(h3 P ++ (c1 P ++ (c2 P ++ c3 P))).toArray, {}⟩
noncomputable def heap4 (P : Params) : Heap := ⟨(h4 P ++ (c1 P ++ (c2 P ++ (c3 P ++ c4 P)))).toArray, {}⟩
end
section
open PySem PySem.W PyProof.Rows
noncomputable def env0 : Env := { scope := pw.main.scope, locals := mainNs, globals := mainNs, cells := [], code := .ref 13, frame := some 14 }
noncomputable def body0 : List Stmt := behindTheImports pw
noncomputable def cod0 : Code := .body body0 env0
noncomputable def p0 : Pos := ⟨0, 0, 0, 0⟩
noncomputable def fr0 : List Frame := [topFrame p0]
noncomputable def sts1 : List Stmt := pw.main.body.take 6
noncomputable def sts2 : List Stmt := (pw.main.body.drop 6).take 8
noncomputable def sts3 : List Stmt := (pw.main.body.drop 14).take 6
noncomputable def sts4 : List Stmt := pw.main.body.drop 20
noncomputable def st (H : Params → Heap) (k : Nat) (w : World) (os : OsState) : Shared := ⟨H w.params, Array.mk [], boot_drawn, k, os⟩
theorem pre0 : ∀ (w : World), (fun os => topGo treeTable pw w 11 (some (.ref 6)) 12 (st boot_heap boot_toks w os) (topStub pw)) = fun os => some (st heap0 187 w os, ⟨denote treeTable cod0, cod0, p0, fr0⟩) := by
  intro w; kernel_rfl
theorem blk0 : ∀ (w : World), (fun os => segRun treeTable pw w 11 (some (.ref 6)) 1 1 (st heap0 187 w os) (blockOf body0 env0 cod0 p0 fr0)) = fun os => some (.next, st heap0 187 w os, cod0, p0) := by
  intro w; kernel_rfl
theorem run1 : ∀ (w : World), (fun os => segRun treeTable pw w 11 (some (.ref 6)) 1 1101 (st heap0 187 w os) (piecesOf sts1 env0 cod0 p0 fr0)) = fun os => some (.next, st heap1 369 w os, cod0, ⟨17, 0, 62, 16⟩) := by
  intro w; kernel_rfl
theorem run2 : ∀ (w : World), (fun os => segRun treeTable pw w 11 (some (.ref 6)) 1 1003 (st heap1 369 w os) (piecesOf sts2 env0 cod0 ⟨17, 0, 62, 16⟩ fr0)) = fun os => some (.next, st heap2 516 w os, cod0, ⟨87, 0, 94, 45⟩) := by
  intro w; kernel_rfl
theorem run3 : ∀ (w : World), (fun os => segRun treeTable pw w 11 (some (.ref 6)) 1 791 (st heap2 516 w os) (piecesOf sts3 env0 cod0 ⟨87, 0, 94, 45⟩ fr0)) = fun os => some (.next, st heap3 653 w os, cod0, ⟨160, 0, 180, 49⟩) := by
  intro w; kernel_rfl
theorem run4 : ∀ (w : World), (fun os => segRun treeTable pw w 11 (some (.ref 6)) 1 1089 (st heap3 653 w os) (piecesOf sts4 env0 cod0 ⟨160, 0, 180, 49⟩ fr0)) = fun os => some (.next, st heap4 968 w os, cod0, ⟨433, 0, 445, 109⟩) := by
  intro w; kernel_rfl
theorem fin0 : ∀ (w : World), (fun os => topRun treeTable pw w 11 (some (.ref 6)) 2 (st heap4 968 w os) ⟨doneF .next, cod0, ⟨433, 0, 445, 109⟩, fr0⟩) = fun os => some (st heap4 968 w os) := by
  intro w; kernel_rfl
theorem body_is : body0 = sts1 ++ (sts2 ++ (sts3 ++ (sts4 ++ []))) := by kernel_rfl
theorem top0 (w : World) (os : OsState) : topRun treeTable pw w 11 (some (.ref 6)) (12 + (1 + (1101 + (1003 + (791 + (1089 + 2)))))) (st boot_heap boot_toks w os) (topStub pw) = some (st heap4 968 w os) := by
  refine go_top (congrFun (pre0 w) os) ?_
  refine piece_block (congrFun (blk0 w) os) ?_
  rw [body_is]
  refine piece_app (congrFun (run1 w) os) ?_
  refine piece_app (congrFun (run2 w) os) ?_
  refine piece_app (congrFun (run3 w) os) ?_
  refine piece_app (congrFun (run4 w) os) ?_
  exact piece_nil (congrFun (fin0 w) os)
end
section
open PySem PySem.W PyProof.Rows
noncomputable def q0 : Program := view PySem.Challenge.pw_sa0515_01 [58]
noncomputable def loose0 : List Str := PySem.Challenge.pw_sa0515_01.boundNames.filter (fun n => n != ("law" : Str))
theorem as_is : ∀ P, as0 = (K0 P).map (·.1) := by intro P; kernel_rfl
noncomputable abbrev hk0 : Hook := kHook K0 as0 as_is
theorem size0 : ∀ w : World, ((boot_heap w.params).isNs mainGlobals && (Array.mk [] : Array GenState).size == 0, (boot_heap w.params).objs.size, (boot_heap w.params).nsMap mainGlobals "__annotations__") = (true, 11, some (.ref 6)) := by
  intro w; kernel_rfl
theorem open0 : ∀ w : World, (fencedOpening treeTable pw w 8100).map (fun s => (s.heap, s.gens, s.drawn, s.toks)) = some (boot_heap w.params, Array.mk [], boot_drawn, boot_toks) := by
  refine boot_open ?_ ?_ ?_
  · kernel_rfl
  · kernel_rfl
  · intro s; kernel_rfl
theorem looks0 : ∀ w : World, (fun os => ((staticsOk (importedModules pw.main.body) (boot_heap w.params) (heap4 w.params) && namesBound pw (heap4 w.params) && gensDone ⟨heap4 w.params, Array.mk [], boot_drawn, 968, os⟩ && laidKept (boot_heap w.params) (heap4 w.params)),
        openSeen q0 loose0 (importedModules pw.main.body) (fun s => xlAt q0 [] s && recOk [] s) true ⟨heap4 w.params, Array.mk [], boot_drawn, 968, os⟩, hk0.obs ⟨heap4 w.params, Array.mk [], boot_drawn, 968, os⟩)) = fun _ => (true, openGood q0 loose0, hk0.val w) := by
  intro w; kernel_rfl
theorem left0 : LeftO pw q0 loose0 (fun s => xlAt q0 [] s && recOk [] s) hk0.obs hk0.val 8100 true :=
  LeftO.of_pieces (H₀ := boot_heap) (H₁ := heap4) (gs₀ := Array.mk []) (gs₁ := Array.mk []) (d₀ := boot_drawn) (d₁ := boot_drawn) (k₀ := boot_toks) (k₁ := 968) (m₀ := 11) (ann := some (.ref 6)) (M := 12 + (1 + (1101 + (1003 + (791 + (1089 + 2))))))
    open0 size0 (fun w os => top0 w os) (by kernel_rfl) looks0
end
section
open PySem PySem.W PyProof.Rows
noncomputable def d0 : DefRec := { name := "law", params := fArgs (sA 58), body := fBody (sA 58), scope := fScope (sA 58), pos := ⟨433, 0, 445, 109⟩ }
theorem said0 : PySem.Challenge.rw_sa0515_01.wellSaid = true := by
  unfold OpenLaw.wellSaid
  repeat' (with_reducible refine look_both ?_ ?_)
  · unfold OpenRow.wellSaid OpenRow.partSaid
    repeat' (with_reducible refine look_both ?_ ?_)
    all_goals decide +kernel
  all_goals decide +kernel
theorem head (hc : WalkO q0 loose0 (XL q0 []) hk0.says PySem.Challenge.rw_sa0515_01.row.toRowW d0 [] fun f vs => PySem.call f vs) : PySem.Challenge.rw_sa0515_01.Holds := by
  refine holds_law said0 fun said => ?_
  refine holds_open (r := PySem.Challenge.rw_sa0515_01.row) (q := q0) (loose := loose0) (Xt := fun s => xlAt q0 [] s && recOk [] s) (XP := XL q0 []) (Yf := hk0.obs) (Ya := hk0.val) (YP := hk0.says) (d := d0) (kwd := []) (N := 8100)
    left0 hk0.of hk0.keeps (fun s e => xl_of s (Bool.and_eq_true_iff.mp e).1) XL.keeps ?_ ?_ ?_ (fun s e => recFacts_of (Bool.and_eq_true_iff.mp e).2) (by kernel_rfl) said (by decide +kernel) ⟨rfl, rfl, rfl, rfl, rfl, by decide +kernel⟩ ?_ hc
  · kernel_rfl
  · kernel_rfl
  · kernel_rfl
  · exact ⟨[.list []], by decide +kernel, by decide +kernel⟩
end
section
open PySem PySem.W PyProof.Rows

noncomputable def Sub (h h' : Heap) : Prop := ∀ b o, h.get? b = some o → h'.get? b = some o
theorem Sub.nil {h h' : Heap} {a : Addr} (x : Sub h h') (n : h'.get? a = Option.none) : h.get? a = Option.none := by
  cases q : h.get? a with
  | none => rfl
  | some o => have e := x a o q; rw [n] at e; cases e
theorem Sub.fresh {t h : Heap} (x : Sub t h) : t.get? h.objs.size = none := by
  cases q : t.get? h.objs.size with
  | none => rfl
  | some o => exact absurd (Heap.lt_size (x _ _ q)) (Nat.lt_irrefl _)
theorem Sub.push (h : Heap) (o : Obj) : Sub h (h.push o) := fun _ _ e => Heap.get?_push_of_some _ e
/-- all of h stays in h'; the frames' (F) slots alone may turn -/
noncomputable def Ext (F : List Addr) (h h' : Heap) : Prop := ∀ a o, h.get? a = some o → ∃ sl, h'.get? a = some { o with slots := sl } ∧ (a ∉ F → sl = o.slots)
theorem Ext.refl (F : List Addr) (h : Heap) : Ext F h h := fun _ o e => ⟨o.slots, e, fun _ => rfl⟩
theorem Ext.of_sub {F : List Addr} {h h' : Heap} (k : Sub h h') : Ext F h h' := fun _ o e => ⟨o.slots, k _ _ e, fun _ => rfl⟩
theorem Ext.trans {F : List Addr} {h₁ h₂ h₃ : Heap} (x : Ext F h₁ h₂) (y : Ext F h₂ h₃) : Ext F h₁ h₃ := fun a o e => by
  obtain ⟨sl, e1, f1⟩ := x a o e
  obtain ⟨sl', e2, f2⟩ := y a _ e1
  exact ⟨sl', e2, fun q => (f2 q).trans (f1 q)⟩
theorem Ext.step {F : List Addr} {h₁ h₂ h₃ : Heap} (x : Ext F h₁ h₂) (y : ∀ b o o', h₁.get? b = some o → h₂.get? b = some o' → h₃.get? b = some o') : Ext F h₁ h₃ := fun a o e => by
  obtain ⟨sl, e1, f1⟩ := x a o e
  exact ⟨sl, y a o _ e e1, f1⟩
theorem Ext.get {F : List Addr} {h h' : Heap} {a : Addr} {o : Obj} (x : Ext F h h') (e : h.get? a = some o) (q : a ∉ F) : h'.get? a = some o := by
  obtain ⟨sl, e1, f1⟩ := x a o e
  rw [f1 q] at e1; exact e1
theorem Ext.ns {F : List Addr} {h h' : Heap} {a : Addr} {m : Str → Option Value} (x : Ext F h h') (n : h.Ns a m) : h'.Ns a m := by
  obtain ⟨o, es, ep, ho, hd, r⟩ := n
  obtain ⟨sl, e1, _⟩ := x a o ho
  exact ⟨_, es, ep, e1, hd, r⟩

/-! a ghost heap with one more object -/
noncomputable def voidObj : Obj := { cls := .none, data := .freed }
noncomputable def gput (t : Heap) (a : Addr) (o : Obj) : Heap := ⟨((t.objs ++ Array.replicate (a + 1 - t.objs.size) voidObj).setIfInBounds a o), t.life⟩
theorem gput_self {t : Heap} {a : Addr} {o : Obj} (hf : o.isFreed = false) : (gput t a o).get? a = some o := by
  refine Heap.get?_some_iff.mpr ⟨?_, hf⟩
  have : a < (t.objs ++ Array.replicate (a + 1 - t.objs.size) voidObj).size := by rw [Array.size_append, Array.size_replicate]; exact (by omega : ∀ x y : Nat, x < y + (x + 1 - y)) a _
  show ((t.objs ++ Array.replicate (a + 1 - t.objs.size) voidObj).setIfInBounds a o)[a]? = some o
  rw [Array.getElem?_setIfInBounds_self_of_lt this]
theorem gput_ne {t : Heap} {a b : Addr} {o : Obj} (hb : b ≠ a) : (gput t a o).get? b = t.get? b := by
  have key : ∀ x : Obj, (gput t a o).get? b = some x ↔ t.get? b = some x := by
    intro x
    rw [Heap.get?_some_iff, Heap.get?_some_iff]
    have e : (gput t a o).objs[b]? = (t.objs ++ Array.replicate (a + 1 - t.objs.size) voidObj)[b]? := by
      show ((t.objs ++ Array.replicate (a + 1 - t.objs.size) voidObj).setIfInBounds a o)[b]? = _
      rw [Array.getElem?_setIfInBounds_ne (Ne.symm hb)]
    rw [e]
    by_cases h : b < t.objs.size
    · rw [Array.getElem?_append_left h]
    · rw [Array.getElem?_append_right (Nat.le_of_not_lt h)]
      constructor
      · rintro ⟨e1, e2⟩
        rw [Array.getElem?_replicate] at e1
        split at e1
        · cases e1; cases e2
        · cases e1
      · rintro ⟨e1, _⟩
        rw [Array.getElem?_eq_none (Nat.le_of_not_lt h)] at e1; cases e1
  cases h1 : (gput t a o).get? b with
  | some x => exact ((key x).mp h1).symm
  | none =>
    cases h2 : t.get? b with
    | none => rfl
    | some x => rw [(key x).mpr h2] at h1; cases h1
theorem gput_sub {t : Heap} {a : Addr} {o : Obj} (n : t.get? a = none) : Sub t (gput t a o) := fun b x q => by
  rw [gput_ne (fun r => by subst r; rw [n] at q; cases q)]; exact q

/-- what is constant within one body: the frame L, where its names lie, the cells it reads -/
structure Cx where
  wh : Heap
  t₀ : Heap
  N : Nat
  L : Addr
  loc : Addr
  cells : List (Str × Addr)
  outer : List Env
  gens : Array GenState
  drawn : Drawn
  os : OsState
noncomputable def Cx.F (c : Cx) : List Addr := c.L :: c.outer.filterMap (·.frame)
noncomputable def Cx.G (c : Cx) : List Addr := c.loc :: c.F
theorem Cx.FG {c : Cx} {a : Addr} (h : a ∈ c.F) : a ∈ c.G := .tail _ h
/-- the names: of the frame, of the cells; are the cells this body's own? -/
structure Nm where
  m : Str → Option Value
  k : Str → Option Value := fun _ => none
  own : Bool := true
noncomputable abbrev Nm.set (n : Nm) (x : Str) (v : Value) : Nm := ⟨fun y => if y = x then some v else n.m y, n.k, n.own⟩
noncomputable abbrev Nm.cset (n : Nm) (x : Str) (v : Value) : Nm := ⟨n.m, fun y => if y = x then some v else n.k y, n.own⟩

noncomputable def FrObj (h : Heap) (L : Addr) : Prop := ∃ o, h.get? L = some o ∧ ∀ vs, o.data ≠ .fields vs
theorem FrObj.ext {F : List Addr} {h h' : Heap} {L : Addr} (x : Ext F h h') (f : FrObj h L) : FrObj h' L := by
  obtain ⟨o, b, d⟩ := f
  obtain ⟨sl, e, _⟩ := x L o b
  exact ⟨_, e, d⟩
theorem FrObj.sub {h h' : Heap} {L : Addr} (x : Sub h h') (f : FrObj h L) : FrObj h' L := let ⟨o, b, d⟩ := f; ⟨o, x _ _ b, d⟩
theorem FrObj.of_ns {h : Heap} {L : Addr} {m : Str → Option Value} (n : h.Ns L m) : FrObj h L := by
  obtain ⟨o, es, ep, ho, hd, _⟩ := n
  exact ⟨o, ho, fun vs q => by rw [hd] at q; cases q⟩
theorem FrObj.lt {h : Heap} {L : Addr} (f : FrObj h L) : L < h.objs.size := let ⟨_, b, _⟩ := f; Heap.lt_size b
noncomputable def FrameAt (h : Heap) (env : Env) : Prop := env.scope.kind = .function ∧ ∃ L, env.frame = some L ∧ FrObj h L
theorem FrameAt.ext {F : List Addr} {h h' : Heap} {env : Env} (x : Ext F h h') (f : FrameAt h env) : FrameAt h' env := by
  obtain ⟨k, L, a, b⟩ := f
  exact ⟨k, L, a, b.ext x⟩

/-- the state in a body: names, what stood at entry, ghost (frozen) data, mutable objects -/
structure SH (P : Heap → Prop) (c : Cx) (t : Heap) (mu : List (Addr × (Obj → Prop))) (n : Nm) (h : Heap) : Prop where
  ns : h.Ns c.loc n.m
  whole : Ext c.F c.wh h
  keep : Sub t h
  outW : c.wh.get? c.loc = none
  outT : ∀ a ∈ c.G, t.get? a = none
  mus : ∀ p ∈ mu, (∃ o, h.get? p.1 = some o ∧ p.2 o) ∧ p.1 ∉ c.G ∧ t.get? p.1 = none ∧ c.wh.get? p.1 = none
  nod : (mu.map (·.1)).Nodup
  cel : ∀ x a, c.cells.lookup x = some a → h.IsCell a (n.k x) ∧ a ∉ c.G ∧ (∀ p ∈ mu, p.1 ≠ a) ∧ (n.own = true → t.get? a = none ∧ c.wh.get? a = none)
  apart : n.own = true → c.cells.Pairwise fun x y => x.2 ≠ y.2
  base : Sub c.t₀ t
  new : ∀ a, a < c.N → t.get? a = c.t₀.get? a
  hN : c.N ≤ c.loc
  me : FrObj h c.L
  frames : ∀ env ∈ c.outer, FrameAt c.wh env
  whN : ∀ a o, c.wh.get? a = some o → a < c.N
  pf : P t

noncomputable abbrev St (P : Heap → Prop) (c : Cx) (t : Heap) (mu : List (Addr × (Obj → Prop))) (n : Nm) (s : Shared) : Prop :=
  SH P c t mu n s.heap ∧ s.gens = c.gens ∧ s.drawn = c.drawn ∧ s.os = c.os

/-- one entry of the mutable objects turned -/
inductive Upd (a : Addr) (o o' : Obj → Prop) : List (Addr × (Obj → Prop)) → List (Addr × (Obj → Prop)) → Prop where
  | head {l} : Upd a o o' ((a, o) :: l) ((a, o') :: l)
  | tail {p l l'} : Upd a o o' l l' → Upd a o o' (p :: l) (p :: l')
theorem Upd.mem {a : Addr} {o o' : Obj → Prop} {l l' : List (Addr × (Obj → Prop))} (x : Upd a o o' l l') : (a, o) ∈ l := by
  induction x with
  | head => exact .head _
  | tail _ ih => exact .tail _ ih
theorem Upd.map {a : Addr} {o o' : Obj → Prop} {l l' : List (Addr × (Obj → Prop))} (x : Upd a o o' l l') : l'.map (·.1) = l.map (·.1) := by
  induction x with
  | head => rfl
  | tail _ ih => rw [List.map_cons, List.map_cons, ih]
theorem Upd.of {a : Addr} {o o' : Obj → Prop} {l l' : List (Addr × (Obj → Prop))} (x : Upd a o o' l l') : ∀ p ∈ l', p = (a, o') ∨ p ∈ l := by
  induction x with
  | head =>
    intro p h
    rcases List.mem_cons.mp h with h | h
    · exact .inl h
    · exact .inr (.tail _ h)
  | tail x ih =>
    intro p h
    rcases List.mem_cons.mp h with h | h
    · exact .inr (h ▸ .head _)
    · rcases ih p h with h | h
      · exact .inl h
      · exact .inr (.tail _ h)
theorem Upd.split {a : Addr} {o o' : Obj → Prop} {l l' : List (Addr × (Obj → Prop))} (x : Upd a o o' l l') : ∃ pre post, l = pre ++ (a, o) :: post ∧ l' = pre ++ (a, o') :: post := by
  induction x with
  | head => exact ⟨[], _, rfl, rfl⟩
  | tail _ ih =>
    obtain ⟨pre, post, e, e'⟩ := ih
    exact ⟨_ :: pre, post, by rw [e]; rfl, by rw [e']; rfl⟩

section
variable {P : Heap → Prop} {c : Cx} {t h h' : Heap} {mu mu' : List (Addr × (Obj → Prop))} {n n' : Nm}
theorem SH.NL (S : SH P c t mu n h) : c.N ≤ h.objs.size := Nat.le_of_lt (Nat.lt_of_le_of_lt S.hN S.ns.lt)
/-- the frames stand -/
theorem SH.F_lt (S : SH P c t mu n h) {a : Addr} (ha : a ∈ c.F) : a < h.objs.size := by
  rcases List.mem_cons.mp ha with rfl | ha
  · exact S.me.lt
  · obtain ⟨env, he, q⟩ := List.mem_filterMap.mp ha
    obtain ⟨_, L, e1, e2⟩ := (S.frames env he).ext S.whole
    rw [e1] at q; cases q
    exact e2.lt
theorem SH.G_lt (S : SH P c t mu n h) {a : Addr} (ha : a ∈ c.G) : a < h.objs.size := by
  rcases List.mem_cons.mp ha with rfl | ha
  · exact S.ns.lt
  · exact S.F_lt ha
/-- the heap has grown, nothing that stood has turned -/
theorem SH.grow (S : SH P c t mu n h) (k : Sub h h') : SH P c t mu n h' :=
  { S with
    ns := S.ns.keeps k
    whole := S.whole.trans (Ext.of_sub k)
    keep := fun b o e => k b o (S.keep b o e)
    me := S.me.sub k
    cel := fun x a e => let ⟨q, r⟩ := S.cel x a e; ⟨q.keeps k, r⟩
    mus := fun p hp => let ⟨⟨o, a, q⟩, r⟩ := S.mus p hp; ⟨⟨o, k _ _ a, q⟩, r⟩ }
theorem SH.push (S : SH P c t mu n h) (o : Obj) : SH P c t mu n (h.push o) := S.grow (Sub.push h o)
/-- a new mutable object -/
theorem SH.newMu {o : Obj} {p : Obj → Prop} (S : SH P c t mu n h) (ho : p o) (hf : o.isFreed = false := by rfl) : SH P c t ((h.objs.size, p) :: mu) n (h.push o) := by
  have S' := S.push o
  refine { S' with mus := fun p hp => ?_, nod := ?_, cel := fun x a e => ?_ }
  · rcases List.mem_cons.mp hp with rfl | hp
    · refine ⟨⟨o, Heap.get?_push_size _ hf, ho⟩, fun q => absurd (S.G_lt q) (Nat.lt_irrefl _), S.keep.fresh, ?_⟩
      cases q : c.wh.get? h.objs.size with
      | none => rfl
      | some o' => exact absurd (S.whN _ _ q) (Nat.not_lt.mpr S.NL)
    · exact S'.mus p hp
  · rw [List.map_cons, List.nodup_cons]
    refine ⟨fun hm => ?_, S.nod⟩
    obtain ⟨p, hp, e⟩ := List.mem_map.mp hm
    obtain ⟨⟨o', q, _⟩, _⟩ := S.mus p hp
    have := Heap.lt_size q
    rw [e] at this
    exact absurd this (Nat.lt_irrefl _)
  · obtain ⟨q1, q2, q3, q4⟩ := S'.cel x a e
    refine ⟨q1, q2, fun p hp => ?_, q4⟩
    rcases List.mem_cons.mp hp with rfl | hp
    · exact fun z => absurd (S.cel x a e).1.lt (by have z' : h.objs.size = a := z; rw [z']; exact Nat.lt_irrefl _)
    · exact q3 p hp
/-- frozen: a mutable object of this body goes into the ghost -/
theorem SH.freeze {a : Addr} {p₀ : Obj → Prop} (PE : ∀ {g g' : Heap}, Sub g g' → P g → P g') (S : SH P c t ((a, p₀) :: mu) n h) (hN : c.N ≤ a) :
    ∃ t' o, Sub t t' ∧ t'.get? a = some o ∧ p₀ o ∧ SH P c t' mu n h := by
  obtain ⟨⟨o, e1, e0⟩, e2, e3, e4⟩ := S.mus (a, p₀) (.head _)
  have hf : o.isFreed = false := (Heap.get?_some_iff.mp e1).2
  have ex : Sub t (gput t a o) := gput_sub e3
  refine ⟨gput t a o, o, ex, gput_self hf, e0, ?_⟩
  have nd := S.nod
  rw [List.map_cons, List.nodup_cons] at nd
  exact { S with
    keep := fun b x q => by
      by_cases r : b = a
      · subst r
        rw [gput_self hf] at q; cases q; exact e1
      · rw [gput_ne r] at q; exact S.keep b x q
    outT := fun b hb => by rw [gput_ne (fun r => by subst r; exact e2 hb)]; exact S.outT b hb
    mus := fun p hp => by
      obtain ⟨f1, f2, f3, f4⟩ := S.mus p (.tail _ hp)
      refine ⟨f1, f2, ?_, f4⟩
      rw [gput_ne (fun r => nd.1 (List.mem_map.mpr ⟨p, hp, r⟩))]; exact f3
    nod := nd.2
    cel := fun x b q => by
      obtain ⟨f1, f2, f3, f4⟩ := S.cel x b q
      refine ⟨f1, f2, fun p hp => f3 p (.tail _ hp), fun z => ⟨?_, (f4 z).2⟩⟩
      rw [gput_ne (Ne.symm (f3 _ (.head _)))]; exact (f4 z).1
    base := fun b x q => ex b x (S.base b x q)
    new := fun b hb => by rw [gput_ne (Nat.ne_of_lt (Nat.lt_of_lt_of_le hb hN))]; exact S.new b hb
    pf := PE ex S.pf }
theorem SH.newIm {o : Obj} (PE : ∀ {g g' : Heap}, Sub g g' → P g → P g') (S : SH P c t mu n h) (hf : o.isFreed = false := by rfl) :
    ∃ t', Sub t t' ∧ t'.get? h.objs.size = some o ∧ SH P c t' mu n (h.push o) := by
  obtain ⟨t', o', a, b, d, e⟩ := (S.newMu (p := fun x => x = o) rfl hf).freeze PE S.NL
  exact ⟨t', a, d ▸ b, e⟩
/-- the ghost forgets what came between -/
theorem SH.shrink {t' : Heap} (S : SH P c t' mu n h) (x : Sub c.t₀ t) (y : Sub t t') (hp : P t) : SH P c t mu n h :=
  { S with
    keep := fun b o e => S.keep b o (y b o e)
    outT := fun a ha => y.nil (S.outT a ha)
    mus := fun p hp => let ⟨a, b, d, e⟩ := S.mus p hp; ⟨a, b, y.nil d, e⟩
    cel := fun z a e => let ⟨a1, a2, a3, a4⟩ := S.cel z a e; ⟨a1, a2, a3, fun q => ⟨y.nil (a4 q).1, (a4 q).2⟩⟩
    base := x
    new := fun a ha => by
      cases q : c.t₀.get? a with
      | some o => exact x _ _ q
      | none => exact y.nil ((S.new a ha).trans q)
    pf := hp }
theorem nodup_mid {pre post : List (Addr × (Obj → Prop))} {a : Addr} {o : Obj → Prop} (nd : ((pre ++ (a, o) :: post).map (·.1)).Nodup) : ∀ p ∈ pre ++ post, p.1 ≠ a := by
  intro p hp r
  have this : (pre.map (·.1) ++ a :: post.map (·.1)).Nodup := by simpa using nd
  rcases List.mem_append.mp hp with hp | hp
  · exact (List.nodup_append.mp this).2.2 p.1 (List.mem_map_of_mem hp) a (.head _) r
  · have h2 := (List.nodup_append.mp this).2.1
    rw [List.nodup_cons] at h2
    exact h2.1 (r ▸ List.mem_map_of_mem hp)
/-- one mutable object is written -/
theorem SH.write {a : Addr} {o o' : Obj → Prop} {ob : Obj} (S : SH P c t mu n h) (U : Upd a o o' mu mu') (hs : ∀ b x, b ≠ a → h.get? b = some x → h'.get? b = some x) (e : h'.get? a = some ob) (ho : o' ob) :
    SH P c t mu' n h' := by
  obtain ⟨pre, post, rfl, rfl⟩ := U.split
  obtain ⟨e1, e2, e3, e4⟩ := S.mus (a, o) (by simp)
  have nd := S.nod
  have ne := nodup_mid nd
  have hme : FrObj h' c.L := by
    obtain ⟨x, q, r⟩ := S.me
    exact ⟨x, hs _ _ (fun z => e2 (z ▸ Cx.FG (.head _))) q, r⟩
  refine { S with
    ns := S.ns.extBut hs (fun q => e2 (q ▸ List.mem_cons_self))
    whole := S.whole.step fun b x y q1 q2 => hs b y (fun r => by subst r; rw [e4] at q1; cases q1) q2
    keep := fun b x q => hs b x (fun r => by subst r; rw [e3] at q; cases q) (S.keep b x q)
    me := hme
    mus := fun p hp => ?_
    nod := by simpa using nd
    cel := fun x b q => ?_ }
  · rcases List.mem_append.mp hp with q | q
    · obtain ⟨⟨y, f1, f0⟩, f⟩ := S.mus p (List.mem_append_left _ q)
      exact ⟨⟨y, hs _ _ (ne p (List.mem_append_left _ q)) f1, f0⟩, f⟩
    · rcases List.mem_cons.mp q with rfl | q
      · exact ⟨⟨ob, e, ho⟩, e2, e3, e4⟩
      · obtain ⟨⟨y, f1, f0⟩, f⟩ := S.mus p (List.mem_append_right _ (.tail _ q))
        exact ⟨⟨y, hs _ _ (ne p (List.mem_append_right _ q)) f1, f0⟩, f⟩
  · obtain ⟨⟨x, f1, f1'⟩, f2, f3, f4⟩ := S.cel x b q
    refine ⟨⟨x, hs _ _ (fun z => f3 (a, o) (by simp) z.symm) f1, f1'⟩, f2, fun p hp => ?_, f4⟩
    rcases List.mem_append.mp hp with q | q
    · exact f3 p (List.mem_append_left _ q)
    · rcases List.mem_cons.mp q with rfl | q
      · exact f3 (a, o) (by simp)
      · exact f3 p (List.mem_append_right _ (.tail _ q))
/-- a name is stored -/
theorem SH.set {m' : Str → Option Value} (S : SH P c t mu n h) (hn : h'.Ns c.loc m') (hs : Heap.SameBut c.loc h h') : SH P c t mu ⟨m', n.k, n.own⟩ h' := by
  have k : ∀ b x, b ≠ c.loc → h.get? b = some x → h'.get? b = some x := fun b x n q => (hs.2 b n).trans q
  have hme : FrObj h' c.L := by
    by_cases q : c.L = c.loc
    · rw [q]; exact FrObj.of_ns hn
    · obtain ⟨o, a, b⟩ := S.me
      exact ⟨o, k _ _ q a, b⟩
  exact { S with
    ns := hn
    whole := S.whole.step fun b x y q1 q2 => k b y (fun r => by subst r; rw [S.outW] at q1; cases q1) q2
    keep := fun b x q => k b x (fun r => by subst r; rw [S.outT _ (.head _)] at q; cases q) (S.keep b x q)
    me := hme
    mus := fun p hp => let ⟨⟨y, f1, f0⟩, f2, f⟩ := S.mus p hp; ⟨⟨y, k _ _ (fun r => f2 (r ▸ .head _)) f1, f0⟩, f2, f⟩
    cel := fun x b q => by
      obtain ⟨⟨x, f1, f1'⟩, f2, f⟩ := S.cel x b q
      exact ⟨⟨x, k _ _ (fun z => f2 (z ▸ .head _)) f1, f1'⟩, f2, f⟩ }
/-- a cell is stored -/
theorem SH.cset {x : Str} {a : Addr} {v : Value} (S : SH P c t mu n h) (ho : n.own = true) (hc : c.cells.lookup x = some a) (hn : h'.IsCell a (some v)) (hs : Heap.SameBut a h h') : SH P c t mu (n.cset x v) h' := by
  obtain ⟨_, e2, e3, e4⟩ := S.cel x a hc
  have k : ∀ b x, b ≠ a → h.get? b = some x → h'.get? b = some x := fun b x n q => (hs.2 b n).trans q
  have hme : FrObj h' c.L := by
    obtain ⟨o, q1, q2⟩ := S.me
    exact ⟨o, k _ _ (fun z => e2 (z ▸ Cx.FG (.head _))) q1, q2⟩
  exact { S with
    ns := S.ns.sameBut hs (fun q => e2 (q ▸ .head _))
    whole := S.whole.step fun b x y q1 q2 => k b y (fun r => by subst r; rw [(e4 ho).2] at q1; cases q1) q2
    keep := fun b x q => k b x (fun r => by subst r; rw [(e4 ho).1] at q; cases q) (S.keep b x q)
    me := hme
    mus := fun p hp => let ⟨⟨y, f1, f0⟩, f⟩ := S.mus p hp; ⟨⟨y, k _ _ (e3 p hp) f1, f0⟩, f⟩
    cel := fun y b q => by
      obtain ⟨⟨z, f1, f1'⟩, f⟩ := S.cel y b q
      by_cases r : y = x
      · subst r
        rw [hc] at q; cases q
        exact ⟨by simpa using hn, f⟩
      · refine ⟨?_, f⟩
        show h'.IsCell b (if y = x then some v else n.k y)
        rw [if_neg r]
        exact ⟨z, k _ _ (fun e => r (name_of_addr (S.apart ho) (mem_of_lookup q) (e ▸ mem_of_lookup hc))) f1, f1'⟩ }
theorem SH.sub (S : SH P c t mu n h) (hs : mu'.Sublist mu) : SH P c t mu' n h :=
  { S with mus := fun p hp => S.mus p (hs.subset hp), nod := S.nod.sublist (hs.map _), cel := fun x a e => let ⟨q1, q2, q3, q4⟩ := S.cel x a e; ⟨q1, q2, fun p hp => q3 p (hs.subset hp), q4⟩ }
theorem SH.perm (S : SH P c t mu n h) (hs : mu.Perm mu') : SH P c t mu' n h :=
  { S with mus := fun p hp => S.mus p (hs.mem_iff.mpr hp), nod := (hs.map _).nodup_iff.mp S.nod, cel := fun x a e => let ⟨q1, q2, q3, q4⟩ := S.cel x a e; ⟨q1, q2, fun p hp => q3 p (hs.mem_iff.mpr hp), q4⟩ }
/-- the body's own cells are read only from here on -/
theorem SH.hold (S : SH P c t mu n h) : SH P c t mu ⟨n.m, n.k, false⟩ h :=
  { S with cel := fun x a e => let ⟨q1, q2, q3, _⟩ := S.cel x a e; ⟨q1, q2, q3, fun z => nomatch z⟩, apart := fun z => nomatch z }
end
end
section
open PySem PySem.W PyProof.Rows PySem.Calls

theorem hide_sub {h : Heap} {l : List Addr} : Sub (hideAll h l) h := fun _ _ e => of_hideAll _ e

/-- c₁ is a body's context under c, entered at the heap h, with D handed to it -/
structure Under (c : Cx) (t h : Heap) (D : List (Addr × (Obj → Prop))) (c₁ : Cx) : Prop where
  wh : c₁.wh = hideAll h (D.map (·.1))
  t₀ : c₁.t₀ = t
  N : c₁.N = h.objs.size
  G : ∀ a ∈ c₁.G, a ∈ c.F ∨ h.objs.size ≤ a

/-- the callee's constants, handed D; cs: its cells -/
noncomputable def Cx.call (c : Cx) (t h : Heap) (env : Env) (D : List (Addr × (Obj → Prop))) (cs : List (Str × Addr)) : Cx :=
  { c with wh := hideAll h (D.map (·.1)), t₀ := t, N := h.objs.size, L := h.objs.size, loc := h.objs.size, cells := cs, outer := env :: c.outer }
/-- a comprehension's constants -/
noncomputable def Cx.comp (c : Cx) (t h : Heap) (D : List (Addr × (Obj → Prop))) (cs : List (Str × Addr)) : Cx :=
  { c with wh := hideAll h (D.map (·.1)), t₀ := t, N := h.objs.size, loc := h.objs.size, cells := cs }
theorem Cx.call_F {c : Cx} {t h : Heap} {env : Env} {D : List (Addr × (Obj → Prop))} {cs : List (Str × Addr)} (hf : env.frame = some c.L) : (c.call t h env D cs).F = h.objs.size :: c.F := by
  show h.objs.size :: (env :: c.outer).filterMap (·.frame) = _
  rw [List.filterMap_cons, hf]; rfl
theorem Under.call {c : Cx} {t h : Heap} {env : Env} {D : List (Addr × (Obj → Prop))} {cs : List (Str × Addr)} (hf : env.frame = some c.L) : Under c t h D (c.call t h env D cs) where
  wh := rfl
  t₀ := rfl
  N := rfl
  G := fun a ha => by
    rcases List.mem_cons.mp ha with rfl | ha
    · exact .inr (Nat.le_refl _)
    · rw [Cx.call_F hf] at ha
      rcases List.mem_cons.mp ha with rfl | ha
      · exact .inr (Nat.le_refl _)
      · exact .inl ha
theorem Under.comp {c : Cx} {t h : Heap} {D : List (Addr × (Obj → Prop))} {cs : List (Str × Addr)} : Under c t h D (c.comp t h D cs) where
  wh := rfl
  t₀ := rfl
  N := rfl
  G := fun a ha => by
    rcases List.mem_cons.mp ha with rfl | ha
    · exact .inr (Nat.le_refl _)
    · exact .inl ha

section
variable {P : Heap → Prop} {c c₁ : Cx} {t t' h h₁ h' : Heap} {D D' R X J : List (Addr × (Obj → Prop))} {n n' : Nm} {env : Env}
theorem SH.notD (S : SH P c t (D ++ R) n h) {a : Addr} (ha : a ∈ c.G) : a ∉ D.map (·.1) := fun q => by
  obtain ⟨p, hp, e⟩ := List.mem_map.mp q
  exact (S.mus p (List.mem_append_left _ hp)).2.1 (e ▸ ha)
theorem SH.enter (S : SH P c t (D ++ R) n h) (U : Under c t h D c₁) (k : Sub h h₁) (hl : h.objs.size ≤ c₁.loc) (hn : h₁.Ns c₁.loc n'.m)
    (hc : ∀ x a, c₁.cells.lookup x = some a → h₁.IsCell a (n'.k x) ∧ a ∉ c₁.G ∧ (∀ p ∈ D, p.1 ≠ a) ∧ (n'.own = true → h.objs.size ≤ a))
    (ha : n'.own = true → c₁.cells.Pairwise fun x y => x.2 ≠ y.2) (hme : FrObj h₁ c₁.L) (hfr : ∀ env ∈ c₁.outer, FrameAt c₁.wh env) :
    SH P c₁ t D n' h₁ := by
  have fresh : ∀ {a}, h.objs.size ≤ a → t.get? a = none := fun {a} q => by
    cases e : t.get? a with
    | none => rfl
    | some o => exact absurd (Nat.lt_of_lt_of_le (Heap.lt_size (S.keep _ _ e)) q) (Nat.lt_irrefl _)
  have freshW : ∀ {a}, h.objs.size ≤ a → c₁.wh.get? a = none := fun {a} q => by
    cases e : c₁.wh.get? a with
    | none => rfl
    | some o => rw [U.wh] at e; exact absurd (Nat.lt_of_lt_of_le (Heap.lt_size (of_hideAll _ e)) q) (Nat.lt_irrefl _)
  exact {
    ns := hn
    whole := Ext.of_sub fun b o e => k b o (of_hideAll _ (U.wh ▸ e))
    keep := fun b o e => k b o (S.keep b o e)
    outW := freshW hl
    outT := fun a ha => by
      rcases U.G a ha with q | q
      · exact S.outT a (Cx.FG q)
      · exact fresh q
    mus := fun p hp => by
      obtain ⟨⟨y, a, a'⟩, b, d, e⟩ := S.mus p (List.mem_append_left _ hp)
      refine ⟨⟨y, k _ _ a, a'⟩, fun q => ?_, d, by rw [U.wh]; exact hideAll_none _ (List.mem_map_of_mem hp)⟩
      rcases U.G _ q with q | q
      · exact b (Cx.FG q)
      · exact absurd (Nat.lt_of_lt_of_le (Heap.lt_size a) q) (Nat.lt_irrefl _)
    nod := by
      have := S.nod
      rw [List.map_append] at this
      exact (List.nodup_append.mp this).1
    cel := fun x a e => let ⟨q1, q2, q3, q4⟩ := hc x a e; ⟨q1, q2, q3, fun z => ⟨fresh (q4 z), freshW (q4 z)⟩⟩
    apart := ha
    base := by rw [U.t₀]; exact fun _ _ e => e
    new := fun _ _ => by rw [U.t₀]
    hN := by rw [U.N]; exact hl
    me := hme
    frames := hfr
    whN := fun a o e => by rw [U.wh] at e; rw [U.N]; exact Heap.lt_size (of_hideAll _ e)
    pf := S.pf }
theorem SH.outerD (S : SH P c t (D ++ R) n h) : ∀ env ∈ c.outer, FrameAt (hideAll h (D.map (·.1))) env := fun e he => by
  obtain ⟨a, L₁, e1, o, e2, e3⟩ := (S.frames e he).ext S.whole
  exact ⟨a, L₁, e1, o, hideAll_get _ e2 (S.notD (Cx.FG (.tail _ (List.mem_filterMap.mpr ⟨e, he, e1⟩)))), e3⟩
theorem SH.meD (S : SH P c t (D ++ R) n h) : FrObj (hideAll h (D.map (·.1))) c.L := by
  obtain ⟨o, a, b⟩ := S.me
  exact ⟨o, hideAll_get _ a (S.notD (Cx.FG (.head _))), b⟩
theorem SH.frObj' (S : SH P c t (D ++ R) n h) {a : Addr} (ha : a ∈ c.F) : FrObj h a := by
  rcases List.mem_cons.mp ha with rfl | ha
  · exact S.me
  · obtain ⟨env, he, q⟩ := List.mem_filterMap.mp ha
    obtain ⟨_, L, e1, e2⟩ := (S.frames env he).ext S.whole
    rw [e1] at q; cases q
    exact e2
theorem SH.leave (S : SH P c t (D ++ R) n h) (U : Under c t h D c₁) (S' : SH P c₁ t' (X ++ (D' ++ J)) n' h') (hD : ∀ a ∈ D'.map (·.1), a ∈ D.map (·.1)) (hX : ∀ p ∈ X, h.get? p.1 = none) :
    SH P c t' (X ++ (D' ++ R)) n h' := by
  have inW : ∀ a o, h.get? a = some o → a ∉ D.map (·.1) → a ∉ c.F → h'.get? a = some o := fun a o e n q => by
    refine S'.whole.get (by rw [U.wh]; exact hideAll_get _ e n) fun z => ?_
    rcases U.G _ (Cx.FG z) with z | z
    · exact q z
    · exact absurd (Nat.lt_of_lt_of_le (Heap.lt_size e) z) (Nat.lt_irrefl _)
  have nd : ((D ++ R).map (·.1)).Nodup := S.nod
  rw [List.map_append] at nd
  have ndR : ∀ p ∈ R, p.1 ∉ D.map (·.1) := fun p hp q => (List.nodup_append.mp nd).2.2 _ q _ (List.mem_map_of_mem hp) rfl
  have ltR : ∀ p ∈ R, p.1 < h.objs.size := fun p hp => let ⟨⟨_, q, _⟩, _⟩ := S.mus p (List.mem_append_right _ hp); Heap.lt_size q
  have inD : ∀ p ∈ D', ∃ q ∈ D, q.1 = p.1 := fun p hp => by
    have : p.1 ∈ D.map (·.1) := hD _ (List.mem_map_of_mem hp)
    obtain ⟨q, hq, e⟩ := List.mem_map.mp this
    exact ⟨q, hq, e⟩
  have ltD : ∀ p ∈ D', p.1 < h.objs.size := fun p hp => by
    obtain ⟨q, hq, e⟩ := inD p hp
    obtain ⟨⟨_, z, _⟩, _⟩ := S.mus q (List.mem_append_left _ hq)
    exact e ▸ Heap.lt_size z
  have old : ∀ {a}, a < h.objs.size → t'.get? a = t.get? a := fun {a} q => by
    have := S'.new a (by rw [U.N]; exact q)
    rw [U.t₀] at this; exact this
  have apartX : ∀ {a o}, h.get? a = some o → ∀ p ∈ X, p.1 ≠ a := fun q p hp z => by have := hX p hp; rw [z, q] at this; cases this
  exact { S with
    ns := by
      obtain ⟨o, es, ep, ho, r⟩ := S.ns
      have w : c₁.wh.Ns c.loc n.m := ⟨o, es, ep, by rw [U.wh]; exact hideAll_get _ ho (S.notD (.head _)), r⟩
      exact S'.whole.ns w
    whole := fun a o e => by
      obtain ⟨sl, e1, f1⟩ := S.whole a o e
      have n : a ∉ D.map (·.1) := fun q => by
        obtain ⟨p, hp, r⟩ := List.mem_map.mp q
        have := (S.mus p (List.mem_append_left _ hp)).2.2.2
        rw [r, e] at this; cases this
      obtain ⟨sl', e2, f2⟩ := S'.whole a _ (by rw [U.wh]; exact hideAll_get _ e1 n)
      refine ⟨sl', e2, fun q => (f2 fun z => ?_).trans (f1 q)⟩
      rcases U.G _ (Cx.FG z) with z | z
      · exact q z
      · exact absurd (Nat.lt_of_lt_of_le (Heap.lt_size e1) z) (Nat.lt_irrefl _)
    keep := S'.keep
    outT := fun a ha => (old (S.G_lt ha)).trans (S.outT a ha)
    mus := fun p hp => by
      rcases List.mem_append.mp hp with hp | hp
      · obtain ⟨a, b, d, _⟩ := S'.mus p (List.mem_append_left _ hp)
        have nG : p.1 ∉ c.G := fun q => by
          rcases List.mem_cons.mp q with q | q
          · obtain ⟨o, es, ep, e, _⟩ := S.ns
            exact apartX e p hp q
          · obtain ⟨o, e, _⟩ := S.frObj' q
            exact apartX e p hp rfl
        refine ⟨a, nG, d, ?_⟩
        cases q : c.wh.get? p.1 with
        | none => rfl
        | some o => exact absurd rfl (apartX (S.whole.get q (fun z => nG (Cx.FG z))) p hp)
      · rcases List.mem_append.mp hp with hp | hp
        · obtain ⟨a, _, d, _⟩ := S'.mus p (List.mem_append_right _ (List.mem_append_left _ hp))
          obtain ⟨q, hq, e⟩ := inD p hp
          have := S.mus q (List.mem_append_left _ hq)
          rw [e] at this
          exact ⟨a, this.2.1, d, this.2.2.2⟩
        · obtain ⟨⟨y, a, a'⟩, b, d, e⟩ := S.mus p (List.mem_append_right _ hp)
          exact ⟨⟨y, inW _ _ a (ndR p hp) (fun z => b (Cx.FG z)), a'⟩, b, (old (ltR p hp)).trans d, e⟩
    nod := by
      have n1 : ((X ++ (D' ++ J)).map (·.1)).Nodup := S'.nod
      rw [List.map_append, List.map_append] at n1
      rw [List.map_append]
      have n2 := List.nodup_append.mp n1
      refine List.nodup_append.mpr ⟨n2.1, ?_, fun a ha b hb => ?_⟩
      · rw [List.map_append]
        have nd' := List.nodup_append.mp nd
        have n3 := List.nodup_append.mp n2.2.1
        exact List.nodup_append.mpr ⟨n3.1, nd'.2.1, fun a ha b hb => nd'.2.2 a (hD a ha) b hb⟩
      · rintro rfl
        obtain ⟨p, hp, rfl⟩ := List.mem_map.mp ha
        rw [List.map_append] at hb
        rcases List.mem_append.mp hb with hb | hb
        · obtain ⟨q, hq, e⟩ := List.mem_map.mp hb
          obtain ⟨q', hq', e'⟩ := inD q hq
          obtain ⟨⟨_, z, _⟩, _⟩ := S.mus q' (List.mem_append_left _ hq')
          exact apartX z p hp (e.symm.trans e'.symm)
        · obtain ⟨q, hq, e⟩ := List.mem_map.mp hb
          obtain ⟨⟨_, z, _⟩, _⟩ := S.mus q (List.mem_append_right _ hq)
          exact apartX z p hp e.symm
    cel := fun x a e => by
      obtain ⟨⟨o, q1, q1'⟩, q2, q3, q4⟩ := S.cel x a e
      have la := Heap.lt_size q1
      have nD : a ∉ D.map (·.1) := fun q => by
        obtain ⟨p, hp, r⟩ := List.mem_map.mp q
        exact q3 p (List.mem_append_left _ hp) r
      refine ⟨⟨o, inW _ _ q1 nD (fun z => q2 (Cx.FG z)), q1'⟩, q2, fun p hp => ?_, fun z => ⟨(old la).trans (q4 z).1, (q4 z).2⟩⟩
      rcases List.mem_append.mp hp with hp | hp
      · exact apartX q1 p hp
      · rcases List.mem_append.mp hp with hp | hp
        · obtain ⟨q, hq, e⟩ := inD p hp
          exact e ▸ q3 q (List.mem_append_left _ hq)
        · exact q3 p (List.mem_append_right _ hp)
    base := fun b o e => S'.base b o (by rw [U.t₀]; exact S.base b o e)
    new := fun a ha => (old (Nat.lt_of_lt_of_le ha S.NL)).trans (S.new a ha)
    me := FrObj.ext S'.whole (by rw [U.wh]; exact S.meD)
    pf := S'.pf }
/-- what the callee made is not there in the caller's heap -/
theorem SH.news (U : Under c t h D c₁) (S' : SH P c₁ t' (X ++ (D' ++ J)) n' h') (hD : D'.map (·.1) = D.map (·.1)) : ∀ p ∈ X, h.get? p.1 = none := fun p hp => by
  obtain ⟨_, _, _, q⟩ := S'.mus p (List.mem_append_left _ hp)
  rw [U.wh] at q
  cases e : h.get? p.1 with
  | none => rfl
  | some o =>
    have hm : p.1 ∈ D.map (·.1) := Classical.byContradiction fun z => by rw [hideAll_get _ e z] at q; cases q
    rw [← hD] at hm
    have nd := S'.nod
    rw [List.map_append, List.map_append] at nd
    exact absurd rfl ((List.nodup_append.mp nd).2.2 _ (List.mem_map_of_mem hp) _ (List.mem_append_left _ hm))
end

/-- what a body asks of what is around it: k levels of room -/
structure Ar (A : Around) (env : Env) (c : Cx) (k : Nat) : Prop where
  hd : A.handled = none
  fr : ∃ fe, A.frames = some (fe :: c.outer) ∧ fe.frame = some c.L ∧ fe.scope.kind = .function
  hf : env.frame = some c.L
  hk : env.scope.kind = .function
  hL : env.locals = c.loc
  hC : env.cells = c.cells
  hG : env.globals = mainGlobals
  hB : env.builtins = builtinsNs
  dp : A.depth + k < 900
  un : A.units + 20 * k < 9000
section
variable {A : Around} {env : Env} {c : Cx} {k k' : Nat}
theorem Ar.less (R : Ar A env c k) (h : k' ≤ k) : Ar A env c k' := { R with dp := by have := R.dp; omega, un := by have := R.un; omega }
theorem Ar.room (R : Ar A env c k) : A.depth < recursionLimit := by have := R.dp; show A.depth < 1000; omega
theorem Ar.units (R : Ar A env c k) : A.units < cLine := by have := R.un; show A.units < 9900; omega
theorem Ar.units64 (R : Ar A env c k) : A.units + 64 < cLine := by have := R.un; show A.units + 64 < 9900; omega
end
/-- the way back: from the callee's state to the caller's -/
noncomputable def Back (P : Heap → Prop) (c : Cx) (t : Heap) (D R : List (Addr × (Obj → Prop))) (n : Nm) (c₁ : Cx) : Prop :=
  ∀ t' X D' J n' s', St P c₁ t' (X ++ (D' ++ J)) n' s' → D'.map (·.1) = D.map (·.1) → St P c t' (X ++ (D' ++ R)) n s'

section
variable {prog : Program} {w : World} {A : Around} {s : Shared} {P : Heap → Prop} {c : Cx} {t : Heap} {D R : List (Addr × (Obj → Prop))} {n : Nm} {Q E : Value → Shared → Prop} {env : Env}
  {name qual : Str} {params : Arguments} {body : List Stmt} {scope : Scope} {dV kV doc pm cdv ct : Value} {an : Option Addr} {fo : Obj} {f : Addr} {args : List Value} {binds : List (Str × Value)} {k : Nat}
/-- a call of a def without cells -/
theorem code_def {Rr : Result → Shared → Prop} (S : St P c t (D ++ R) n s) (Ra : Ar A env c (k + 1)) (hlim : t.NoLimit)
    (ho : t.get? f = some fo) (hd : fo.data = .func (fnOf name qual params body scope dV kV doc pm an cdv ct)) (hcd : t.CodeRec cdv qual)
    (hbind : BindsTo s (fnOf name qual params body scope dV kV doc pm an cdv ct) ⟨args, []⟩ binds) (hloc : ∀ y ∈ binds, scope.names.lookup y.1 = some .local)
    (hcell : ∀ x ∈ scope.names, x.2 ≠ .cell) (hco : scope.isCoroutine = false) (hgen : scope.isGenerator = false) (hk : scope.kind = .function)
    (h : ∀ (c₁ : Cx) s₁, let env₁ : Env := envOf qual scope c₁.L f cdv; let A₁ : Around := A.deeper env₁; let n₁ : Nm := ⟨fun y => binds.reverse.lookup y, fun _ => none, true⟩; c₁.t₀ = t → c.N ≤ c₁.N → A₁.frames = some (env₁ :: c₁.outer) → St P c₁ t D n₁ s₁ → Ar A₁ env₁ c₁ k → Back P c t D R n c₁ →
      let Q₁ : Flow → Shared → Prop := fun fl s' => Rr (.ok (.ret (match fl with | .ret v => v | _ => .none))) s'
      let E₁ : Value → Shared → Prop := fun e s' => wpAny (model prog w) A₁ (leaving env₁ e) (fun _ s'' => Rr (.error e) s'') (fun e' s'' => Rr (.error e') s'') s'
      wpAny (model prog w) A₁ (execs body env₁) Q₁ E₁ s₁) :
    codeAny (model prog w) A (.call (.ref f) ⟨args, []⟩) Rr s := by
  have kp := S.1.keep
  obtain ⟨fe, hfr, hff, hfk⟩ := Ra.fr
  refine codeAny_call_def (fd := fnOf name qual params body scope dV kV doc pm an cdv ct) (body := body) (binds := binds) Ra.room (kp _ _ ho) hd (hlim.keeps kp) (hcd.keeps kp) rfl hbind hcell hloc (fun h₁ hns hk₁ => ?_) hco hgen hk
  have U : Under c t s.heap D (c.call t s.heap fe D []) := .call hff
  have S₁ : SH P (c.call t s.heap fe D []) t D ⟨fun y => binds.reverse.lookup y, fun _ => none, true⟩ h₁ :=
    S.1.enter U hk₁ (Nat.le_refl _) hns (fun x a e => nomatch e) (fun _ => List.Pairwise.nil) (FrObj.of_ns hns) fun e he => by
      rcases List.mem_cons.mp he with rfl | he
      · exact ⟨hfk, c.L, hff, S.1.meD⟩
      · exact S.1.outerD e he
  refine h (c.call t s.heap fe D []) { s with heap := h₁, toks := s.toks + binds.length } rfl S.1.NL (by show A.frames.map _ = _; rw [hfr]; rfl) ⟨S₁, S.2⟩
    ⟨Ra.hd, ⟨_, by show A.frames.map _ = _; rw [hfr]; rfl, rfl, hk⟩, rfl, hk, rfl, rfl, rfl, rfl, ?_, ?_⟩ fun t' X D' J n' s' S' hD => ⟨S.1.leave U S'.1 (fun a h => hD ▸ h) (SH.news U S'.1 hD), S'.2⟩
  · have := Ra.dp; show A.depth + 1 + k < 900; omega
  · have := Ra.un; show A.units + 3 + 20 * k < 9000; omega
theorem call_def (S : St P c t (D ++ R) n s) (Ra : Ar A env c (k + 1)) (hlim : t.NoLimit)
    (ho : t.get? f = some fo) (hd : fo.data = .func (fnOf name qual params body scope dV kV doc pm an cdv ct)) (hcd : t.CodeRec cdv qual)
    (hbind : BindsTo s (fnOf name qual params body scope dV kV doc pm an cdv ct) ⟨args, []⟩ binds) (hloc : ∀ y ∈ binds, scope.names.lookup y.1 = some .local)
    (hcell : ∀ x ∈ scope.names, x.2 ≠ .cell) (hco : scope.isCoroutine = false) (hgen : scope.isGenerator = false) (hk : scope.kind = .function)
    (h : ∀ (c₁ : Cx) s₁, let env₁ : Env := envOf qual scope c₁.L f cdv; let A₁ : Around := A.deeper env₁; let n₁ : Nm := ⟨fun y => binds.reverse.lookup y, fun _ => none, true⟩; c₁.t₀ = t → c.N ≤ c₁.N → A₁.frames = some (env₁ :: c₁.outer) → St P c₁ t D n₁ s₁ → Ar A₁ env₁ c₁ k → Back P c t D R n c₁ →
      let Q₁ : Flow → Shared → Prop := fun fl s' => Q (match fl with | .ret v => v | _ => .none) s'
      let E₁ : Value → Shared → Prop := fun e s' => wpAny (model prog w) A₁ (leaving env₁ e) (fun _ s'' => E e s'') (fun e' s'' => E e' s'') s'
      wpAny (model prog w) A₁ (execs body env₁) Q₁ E₁ s₁) :
    wpAny (model prog w) A (call (.ref f) args) Q E s :=
  wpAny_call (code_def S Ra hlim ho hd hcd hbind hloc hcell hco hgen hk h)
/-- a call of a def with cells -/
theorem call_defC (S : St P c t (D ++ R) n s) (Ra : Ar A env c (k + 1)) (hlim : t.NoLimit)
    (ho : t.get? f = some fo) (hd : fo.data = .func (fnOf name qual params body scope dV kV doc pm an cdv ct)) (hcd : t.CodeRec cdv qual)
    (hbind : bindArgs (fnOf name qual params body scope dV kV doc pm an cdv ct) ⟨args, []⟩ = pure binds)
    (hkind : ∀ x ∈ binds, scope.names.lookup x.1 = some .local ∨ (scope.names.lookup x.1 = some .cell ∧ ((cellsFrom (s.heap.objs.size + 1) scope.names []).lookup x.1).isSome = true))
    (hco : scope.isCoroutine = false) (hgen : scope.isGenerator = false) (hk : scope.kind = .function)
    (h : ∀ (c₁ : Cx) s₁, let env₁ : Env := callEnvC (fnOf name qual params body scope dV kV doc pm an cdv ct) c₁.L f; let A₁ : Around := A.deeper env₁; let n₁ : Nm := ⟨bindL (fun x => scope.names.lookup x) binds fun _ => none, bindC (fun x => scope.names.lookup x) binds fun _ => none, true⟩;
      c₁.t₀ = t → c.N ≤ c₁.N → A₁.frames = some (env₁ :: c₁.outer) → c₁.cells = cellsFrom (c₁.L + 1) scope.names [] → St P c₁ t D n₁ s₁ → Ar A₁ env₁ c₁ k → Back P c t D R n c₁ →
      let Q₁ : Flow → Shared → Prop := fun fl s' => Q (match fl with | .ret v => v | _ => .none) s'
      let E₁ : Value → Shared → Prop := fun e s' => wpAny (model prog w) A₁ (leaving env₁ e) (fun _ s'' => E e s'') (fun e' s'' => E e' s'') s'
      wpAny (model prog w) A₁ (execs body env₁) Q₁ E₁ s₁) :
    wpAny (model prog w) A (call (.ref f) args) Q E s := by
  have kp := S.1.keep
  obtain ⟨fe, hfr, hff, hfk⟩ := Ra.fr
  refine wpAny_call ?_
  refine codeAny_call_cells (fd := fnOf name qual params body scope dV kV doc pm an cdv ct) (body := body) (binds := binds) Ra.room (kp _ _ ho) hd (hlim.keeps kp) (hcd.keeps kp) rfl hbind rfl hkind (fun s₁ I => ?_) hco hgen hk
  have U : Under c t s.heap D (c.call t s.heap fe D (cellsFrom (s.heap.objs.size + 1) scope.names [])) := .call hff
  have S₁ : SH P (c.call t s.heap fe D (cellsFrom (s.heap.objs.size + 1) scope.names [])) t D ⟨bindL (fun x => scope.names.lookup x) binds fun _ => none, bindC (fun x => scope.names.lookup x) binds fun _ => none, true⟩ s₁.heap :=
    S.1.enter U I.toInCall.keep (Nat.le_refl _) I.toInCall.ns (fun x a e => by
      have e' : (cellsFrom (s.heap.objs.size + 1) scope.names []).lookup x = some a := e
      have ab : s.heap.objs.size < a := I.above x a (mem_of_lookup e')
      refine ⟨I.cell x a e', fun q => ?_, fun p hp z => ?_, fun _ => Nat.le_of_lt ab⟩
      · rcases List.mem_cons.mp q with rfl | q
        · exact Nat.lt_irrefl _ ab
        · rw [Cx.call_F hff] at q
          rcases List.mem_cons.mp q with rfl | q
          · exact Nat.lt_irrefl _ ab
          · exact absurd (S.1.F_lt q) (Nat.not_lt.mpr (Nat.le_of_lt ab))
      · obtain ⟨⟨_, this, _⟩, _⟩ := S.1.mus p (List.mem_append_left _ hp)
        have := Heap.lt_size this
        rw [z] at this
        exact absurd this (Nat.not_lt.mpr (Nat.le_of_lt ab))) (fun _ => I.apart) (FrObj.of_ns I.toInCall.ns) fun e he => by
      rcases List.mem_cons.mp he with rfl | he
      · exact ⟨hfk, c.L, hff, S.1.meD⟩
      · exact S.1.outerD e he
  obtain ⟨h₁, tk, es⟩ := I.toInCall.same
  have S2 : s₁.gens = c.gens ∧ s₁.drawn = c.drawn ∧ s₁.os = c.os := by rw [es]; exact S.2
  refine h (c.call t s.heap fe D (cellsFrom (s.heap.objs.size + 1) scope.names [])) s₁ rfl S.1.NL (by show A.frames.map _ = _; rw [hfr]; rfl) rfl ⟨S₁, S2⟩
    ⟨Ra.hd, ⟨_, by show A.frames.map _ = _; rw [hfr]; rfl, rfl, hk⟩, rfl, hk, rfl, rfl, rfl, rfl, ?_, ?_⟩ fun t' X D' J n' s' S' hD => ⟨S.1.leave U S'.1 (fun a h => hD ▸ h) (SH.news U S'.1 hD), S'.2⟩
  · have := Ra.dp; show A.depth + 1 + k < 900; omega
  · have := Ra.un; show A.units + 3 + 20 * k < 9000; omega
end
end
section
open PySem PySem.W PyProof.Rows PySem.Calls
/-- what the walk asks of the top -/
structure PF (w : World) (mg mb : Str → Option Value) (h : Heap) : Prop where
  X : (K1 w.params).In h
  g : h.Ns mainGlobals mg
  b : h.Ns builtinsNs mb
  nl : h.NoLimit
  bi : ∀ x : Str, x ≠ "__name__" → mb x = bootBuiltins x
  bm : ∃ bm ob, mg "__builtins__" = some (.ref bm) ∧ bm ≠ builtinsNs ∧ h.get? bm = some ob ∧ ob.cls = .type "module" ∧ ob.dict = some builtinsNs ∧ ob.data = .plain
theorem PF.mono {w : World} {mg mb : Str → Option Value} {g g' : Heap} (x : Sub g g') (H : PF w mg mb g) : PF w mg mb g' :=
  ⟨H.X.keeps x, H.g.keeps x, H.b.keeps x, H.nl.keeps x, H.bi, let ⟨bm, ob, h1, h2, h3, r⟩ := H.bm; ⟨bm, ob, h1, h2, x _ _ h3, r⟩⟩

theorem k1_of {P : Params} {h : Heap} (X : (K0 P).In h) : (K1 P).In h := fun a o e => by
  refine X a o ?_
  have n1 : (K1 P).lookup 574 = none := by kernel_rfl
  have n2 : (K1 P).lookup 581 = none := by kernel_rfl
  have q1 : (a == 574) = false := by
    cases q : a == 574 with
    | false => rfl
    | true => rw [eq_of_beq q, n1] at e; cases e
  have q2 : (a == 581) = false := by
    cases q : a == 581 with
    | false => rfl
    | true => rw [eq_of_beq q, n2] at e; cases e
  show (List.lookup a ((574, o574 P) :: (581, o581 P) :: K1 P)) = some o
  rw [List.lookup_cons, q1]; simp only [Bool.false_eq_true]
  rw [List.lookup_cons, q2]; exact e
theorem k0_574 {P : Params} {h : Heap} (X : (K0 P).In h) : h.get? 574 = some (o574 P) := X 574 _ (by rfl)
theorem k0_581 {P : Params} {h : Heap} (X : (K0 P).In h) : h.get? 581 = some (o581 P) := X 581 _ (by rfl)
noncomputable def gl0 : List (Str × Option (Option Value)) := ("_wall", some (some (.ref 21))) :: ("PaperError", some (some (.ref 46))) :: ("TreeFault", some (some (.ref 59))) :: ("Decimal", some (some (.ref 155))) :: ("sign_text", some (some (.ref 166))) :: ("decimal_of", some (some (.ref 173))) :: ("MOST_HOPS", some (some (.int 30 385))) :: ("Name", some (some (.ref 190))) :: ("String", some (some (.ref 212))) :: ("Stream", some (some (.ref 233))) :: ("Reference", some (some (.ref 261))) :: ("kind_of", some (some (.ref 272))) :: ("told_plain", some (some (.ref 279))) :: ("told", some (some (.ref 284))) :: ("told_objects", some (some (.ref 284))) :: ("Lookup", some (some (.ref 316))) :: ("Shelf", some (some (.ref 370))) :: ("MOST_DEEP", some (some (.int 40 655))) :: ("MOST_PLACES", some (some (.int 16 657))) :: ("key_object", some (some (.ref 379))) :: ("key_of", some (some (.ref 386))) :: ("node_of", some (some (.ref 393))) :: ("row_of", some (some (.ref 400))) :: ("node_pairs", some (some (.ref 405))) :: ("node_limits", some (some (.ref 412))) :: ("longer_way", some (some (.ref 419))) :: ("tree_pairs", some (some (.ref 424))) :: ("first_at_least", some (some (.ref 431))) :: ("kid_for", some (some (.ref 438))) :: ("tree_span", some (some (.ref 443))) :: ("even_parts", some (some (.ref 450))) :: ("leaf_node", some (some (.ref 457))) :: ("inner_node", some (some (.ref 464))) :: ("as_root", some (some (.ref 469))) :: ("own_pairs", some (some (.ref 474))) :: ("own_ends", some (some (.ref 479))) :: ("put_below", some (some (.ref 484))) :: ("tree_put", some (some (.ref 491))) :: ("dropped_below", some (some (.ref 496))) :: ("tree_dropped", some (some (.ref 503))) :: ("tree_gathered", some (some (.ref 512))) :: ("_law_urn", some (some (.ref 517))) :: ("_law_lot", some (some (.ref 524))) :: ("_law_object", some (some (.ref 531))) :: ("_law_key", some (some (.ref 538))) :: ("_law_plan", some (some (.ref 543))) :: ("_law_shelf", some (some (.ref 548))) :: ("_law_counts", some (some (.ref 555))) :: ("_law_walk", some (some (.ref 560))) :: ("_law_whole", some (some (.ref 565))) :: ("_law_heard", some (some (.ref 572))) :: ("_law_asked", some (some (.ref 579))) :: ("_law_hurt_right", some (some (.ref 586))) :: ("law", some (some (.ref 591))) :: ("len", some none) :: ("isinstance", some none) :: ("range", some none) :: ("tuple", some none) :: ("sorted", some none) :: ("dict", some none) :: ("min", some none) :: ("max", some none) :: ("abs", some none) :: ("int", some none) :: ("reversed", some none) :: ("enumerate", some none) :: ("bytes", some none) :: ("bool", some none) :: ("list", some none) :: ("Exception", some none) :: []
theorem gl_map (P : Params) : gl0.map (fun x => nsIn (K1 P) mainGlobals x.1) = gl0.map (·.2) := by kernel_rfl
theorem map_at {α β : Type} {f g : α → β} : ∀ {l : List α}, l.map f = l.map g → ∀ x ∈ l, f x = g x := by
  intro l h x hx
  induction l with
  | nil => cases hx
  | cons a r ih =>
    rcases List.mem_cons.mp hx with rfl | hx
    · exact (List.cons.inj h).1
    · exact ih (List.cons.inj h).2 hx
theorem gl_at (P : Params) (i : Nat) {x : Str} {r : Option (Option Value)} (e : gl0[i]? = some (x, r)) : nsIn (K1 P) mainGlobals x = r := map_at (gl_map P) _ (List.mem_of_getElem? e)
section
variable {w : World} {mg mb : Str → Option Value} {t : Heap}
theorem n_wall (H : PF w mg mb t) : mg "_wall" = some (.ref 21) := mg_of H.X H.g (gl_at _ 0 rfl)
theorem n_PaperError (H : PF w mg mb t) : mg "PaperError" = some (.ref 46) := mg_of H.X H.g (gl_at _ 1 rfl)
theorem n_TreeFault (H : PF w mg mb t) : mg "TreeFault" = some (.ref 59) := mg_of H.X H.g (gl_at _ 2 rfl)
theorem n_Decimal (H : PF w mg mb t) : mg "Decimal" = some (.ref 155) := mg_of H.X H.g (gl_at _ 3 rfl)
theorem n_sign_text (H : PF w mg mb t) : mg "sign_text" = some (.ref 166) := mg_of H.X H.g (gl_at _ 4 rfl)
theorem n_decimal_of (H : PF w mg mb t) : mg "decimal_of" = some (.ref 173) := mg_of H.X H.g (gl_at _ 5 rfl)
theorem n_MOST_HOPS (H : PF w mg mb t) : mg "MOST_HOPS" = some (.int 30 385) := mg_of H.X H.g (gl_at _ 6 rfl)
theorem n_Name (H : PF w mg mb t) : mg "Name" = some (.ref 190) := mg_of H.X H.g (gl_at _ 7 rfl)
theorem n_String (H : PF w mg mb t) : mg "String" = some (.ref 212) := mg_of H.X H.g (gl_at _ 8 rfl)
theorem n_Stream (H : PF w mg mb t) : mg "Stream" = some (.ref 233) := mg_of H.X H.g (gl_at _ 9 rfl)
theorem n_Reference (H : PF w mg mb t) : mg "Reference" = some (.ref 261) := mg_of H.X H.g (gl_at _ 10 rfl)
theorem n_kind_of (H : PF w mg mb t) : mg "kind_of" = some (.ref 272) := mg_of H.X H.g (gl_at _ 11 rfl)
theorem n_told_plain (H : PF w mg mb t) : mg "told_plain" = some (.ref 279) := mg_of H.X H.g (gl_at _ 12 rfl)
theorem n_told (H : PF w mg mb t) : mg "told" = some (.ref 284) := mg_of H.X H.g (gl_at _ 13 rfl)
theorem n_told_objects (H : PF w mg mb t) : mg "told_objects" = some (.ref 284) := mg_of H.X H.g (gl_at _ 14 rfl)
theorem n_Lookup (H : PF w mg mb t) : mg "Lookup" = some (.ref 316) := mg_of H.X H.g (gl_at _ 15 rfl)
theorem n_Shelf (H : PF w mg mb t) : mg "Shelf" = some (.ref 370) := mg_of H.X H.g (gl_at _ 16 rfl)
theorem n_MOST_DEEP (H : PF w mg mb t) : mg "MOST_DEEP" = some (.int 40 655) := mg_of H.X H.g (gl_at _ 17 rfl)
theorem n_MOST_PLACES (H : PF w mg mb t) : mg "MOST_PLACES" = some (.int 16 657) := mg_of H.X H.g (gl_at _ 18 rfl)
theorem n_key_object (H : PF w mg mb t) : mg "key_object" = some (.ref 379) := mg_of H.X H.g (gl_at _ 19 rfl)
theorem n_key_of (H : PF w mg mb t) : mg "key_of" = some (.ref 386) := mg_of H.X H.g (gl_at _ 20 rfl)
theorem n_node_of (H : PF w mg mb t) : mg "node_of" = some (.ref 393) := mg_of H.X H.g (gl_at _ 21 rfl)
theorem n_row_of (H : PF w mg mb t) : mg "row_of" = some (.ref 400) := mg_of H.X H.g (gl_at _ 22 rfl)
theorem n_node_pairs (H : PF w mg mb t) : mg "node_pairs" = some (.ref 405) := mg_of H.X H.g (gl_at _ 23 rfl)
theorem n_node_limits (H : PF w mg mb t) : mg "node_limits" = some (.ref 412) := mg_of H.X H.g (gl_at _ 24 rfl)
theorem n_longer_way (H : PF w mg mb t) : mg "longer_way" = some (.ref 419) := mg_of H.X H.g (gl_at _ 25 rfl)
theorem n_tree_pairs (H : PF w mg mb t) : mg "tree_pairs" = some (.ref 424) := mg_of H.X H.g (gl_at _ 26 rfl)
theorem n_first_at_least (H : PF w mg mb t) : mg "first_at_least" = some (.ref 431) := mg_of H.X H.g (gl_at _ 27 rfl)
theorem n_kid_for (H : PF w mg mb t) : mg "kid_for" = some (.ref 438) := mg_of H.X H.g (gl_at _ 28 rfl)
theorem n_tree_span (H : PF w mg mb t) : mg "tree_span" = some (.ref 443) := mg_of H.X H.g (gl_at _ 29 rfl)
theorem n_even_parts (H : PF w mg mb t) : mg "even_parts" = some (.ref 450) := mg_of H.X H.g (gl_at _ 30 rfl)
theorem n_leaf_node (H : PF w mg mb t) : mg "leaf_node" = some (.ref 457) := mg_of H.X H.g (gl_at _ 31 rfl)
theorem n_inner_node (H : PF w mg mb t) : mg "inner_node" = some (.ref 464) := mg_of H.X H.g (gl_at _ 32 rfl)
theorem n_as_root (H : PF w mg mb t) : mg "as_root" = some (.ref 469) := mg_of H.X H.g (gl_at _ 33 rfl)
theorem n_own_pairs (H : PF w mg mb t) : mg "own_pairs" = some (.ref 474) := mg_of H.X H.g (gl_at _ 34 rfl)
theorem n_own_ends (H : PF w mg mb t) : mg "own_ends" = some (.ref 479) := mg_of H.X H.g (gl_at _ 35 rfl)
theorem n_put_below (H : PF w mg mb t) : mg "put_below" = some (.ref 484) := mg_of H.X H.g (gl_at _ 36 rfl)
theorem n_tree_put (H : PF w mg mb t) : mg "tree_put" = some (.ref 491) := mg_of H.X H.g (gl_at _ 37 rfl)
theorem n_dropped_below (H : PF w mg mb t) : mg "dropped_below" = some (.ref 496) := mg_of H.X H.g (gl_at _ 38 rfl)
theorem n_tree_dropped (H : PF w mg mb t) : mg "tree_dropped" = some (.ref 503) := mg_of H.X H.g (gl_at _ 39 rfl)
theorem n_tree_gathered (H : PF w mg mb t) : mg "tree_gathered" = some (.ref 512) := mg_of H.X H.g (gl_at _ 40 rfl)
theorem n_law_urn (H : PF w mg mb t) : mg "_law_urn" = some (.ref 517) := mg_of H.X H.g (gl_at _ 41 rfl)
theorem n_law_lot (H : PF w mg mb t) : mg "_law_lot" = some (.ref 524) := mg_of H.X H.g (gl_at _ 42 rfl)
theorem n_law_object (H : PF w mg mb t) : mg "_law_object" = some (.ref 531) := mg_of H.X H.g (gl_at _ 43 rfl)
theorem n_law_key (H : PF w mg mb t) : mg "_law_key" = some (.ref 538) := mg_of H.X H.g (gl_at _ 44 rfl)
theorem n_law_plan (H : PF w mg mb t) : mg "_law_plan" = some (.ref 543) := mg_of H.X H.g (gl_at _ 45 rfl)
theorem n_law_shelf (H : PF w mg mb t) : mg "_law_shelf" = some (.ref 548) := mg_of H.X H.g (gl_at _ 46 rfl)
theorem n_law_counts (H : PF w mg mb t) : mg "_law_counts" = some (.ref 555) := mg_of H.X H.g (gl_at _ 47 rfl)
theorem n_law_walk (H : PF w mg mb t) : mg "_law_walk" = some (.ref 560) := mg_of H.X H.g (gl_at _ 48 rfl)
theorem n_law_whole (H : PF w mg mb t) : mg "_law_whole" = some (.ref 565) := mg_of H.X H.g (gl_at _ 49 rfl)
theorem n_law_heard (H : PF w mg mb t) : mg "_law_heard" = some (.ref 572) := mg_of H.X H.g (gl_at _ 50 rfl)
theorem n_law_asked (H : PF w mg mb t) : mg "_law_asked" = some (.ref 579) := mg_of H.X H.g (gl_at _ 51 rfl)
theorem n_law_hurt_right (H : PF w mg mb t) : mg "_law_hurt_right" = some (.ref 586) := mg_of H.X H.g (gl_at _ 52 rfl)
theorem n_law (H : PF w mg mb t) : mg "law" = some (.ref 591) := mg_of H.X H.g (gl_at _ 53 rfl)
theorem n_len (H : PF w mg mb t) : mg "len" = none := mg_none_of H.X H.g (gl_at _ 54 rfl)
theorem b_len (H : PF w mg mb t) : mb "len" = some (.builtin "len") := (H.bi _ (by decide)).trans (by boot_by_name)
theorem n_isinstance (H : PF w mg mb t) : mg "isinstance" = none := mg_none_of H.X H.g (gl_at _ 55 rfl)
theorem b_isinstance (H : PF w mg mb t) : mb "isinstance" = some (.builtin "isinstance") := (H.bi _ (by decide)).trans (by boot_by_name)
theorem n_range (H : PF w mg mb t) : mg "range" = none := mg_none_of H.X H.g (gl_at _ 56 rfl)
theorem b_range (H : PF w mg mb t) : mb "range" = some (.type "range") := (H.bi _ (by decide)).trans (by boot_by_name)
theorem n_tuple (H : PF w mg mb t) : mg "tuple" = none := mg_none_of H.X H.g (gl_at _ 57 rfl)
theorem b_tuple (H : PF w mg mb t) : mb "tuple" = some (.type "tuple") := (H.bi _ (by decide)).trans (by boot_by_name)
theorem n_sorted (H : PF w mg mb t) : mg "sorted" = none := mg_none_of H.X H.g (gl_at _ 58 rfl)
theorem b_sorted (H : PF w mg mb t) : mb "sorted" = some (.builtin "sorted") := (H.bi _ (by decide)).trans (by boot_by_name)
theorem n_dict (H : PF w mg mb t) : mg "dict" = none := mg_none_of H.X H.g (gl_at _ 59 rfl)
theorem b_dict (H : PF w mg mb t) : mb "dict" = some (.type "dict") := (H.bi _ (by decide)).trans (by boot_by_name)
theorem n_min (H : PF w mg mb t) : mg "min" = none := mg_none_of H.X H.g (gl_at _ 60 rfl)
theorem b_min (H : PF w mg mb t) : mb "min" = some (.builtin "min") := (H.bi _ (by decide)).trans (by boot_by_name)
theorem n_max (H : PF w mg mb t) : mg "max" = none := mg_none_of H.X H.g (gl_at _ 61 rfl)
theorem b_max (H : PF w mg mb t) : mb "max" = some (.builtin "max") := (H.bi _ (by decide)).trans (by boot_by_name)
theorem n_abs (H : PF w mg mb t) : mg "abs" = none := mg_none_of H.X H.g (gl_at _ 62 rfl)
theorem b_abs (H : PF w mg mb t) : mb "abs" = some (.builtin "abs") := (H.bi _ (by decide)).trans (by boot_by_name)
theorem n_int (H : PF w mg mb t) : mg "int" = none := mg_none_of H.X H.g (gl_at _ 63 rfl)
theorem b_int (H : PF w mg mb t) : mb "int" = some (.type "int") := (H.bi _ (by decide)).trans (by boot_by_name)
theorem n_reversed (H : PF w mg mb t) : mg "reversed" = none := mg_none_of H.X H.g (gl_at _ 64 rfl)
theorem b_reversed (H : PF w mg mb t) : mb "reversed" = some (.type "reversed") := (H.bi _ (by decide)).trans (by boot_by_name)
theorem n_enumerate (H : PF w mg mb t) : mg "enumerate" = none := mg_none_of H.X H.g (gl_at _ 65 rfl)
theorem b_enumerate (H : PF w mg mb t) : mb "enumerate" = some (.type "enumerate") := (H.bi _ (by decide)).trans (by boot_by_name)
theorem n_bytes (H : PF w mg mb t) : mg "bytes" = none := mg_none_of H.X H.g (gl_at _ 66 rfl)
theorem b_bytes (H : PF w mg mb t) : mb "bytes" = some (.type "bytes") := (H.bi _ (by decide)).trans (by boot_by_name)
theorem n_bool (H : PF w mg mb t) : mg "bool" = none := mg_none_of H.X H.g (gl_at _ 67 rfl)
theorem b_bool (H : PF w mg mb t) : mb "bool" = some (.type "bool") := (H.bi _ (by decide)).trans (by boot_by_name)
theorem n_list (H : PF w mg mb t) : mg "list" = none := mg_none_of H.X H.g (gl_at _ 68 rfl)
theorem b_list (H : PF w mg mb t) : mb "list" = some (.type "list") := (H.bi _ (by decide)).trans (by boot_by_name)
theorem n_Exception (H : PF w mg mb t) : mg "Exception" = none := mg_none_of H.X H.g (gl_at _ 69 rfl)
theorem b_Exception (H : PF w mg mb t) : mb "Exception" = some (.type "Exception") := (H.bi _ (by decide)).trans (by boot_by_name)
end
theorem k_2 (P : Params) : (K1 P).lookup 2 = some (o2 P) := by kernel_rfl
theorem k_3 (P : Params) : (K1 P).lookup 3 = some (o3 P) := by kernel_rfl
theorem k_20 (P : Params) : (K1 P).lookup 20 = some (o20 P) := by kernel_rfl
theorem k_21 (P : Params) : (K1 P).lookup 21 = some (o21 P) := by kernel_rfl
theorem k_27 (P : Params) : (K1 P).lookup 27 = some (o27 P) := by kernel_rfl
theorem k_29 (P : Params) : (K1 P).lookup 29 = some (o29 P) := by kernel_rfl
theorem k_35 (P : Params) : (K1 P).lookup 35 = some (o35 P) := by kernel_rfl
theorem k_36 (P : Params) : (K1 P).lookup 36 = some (o36 P) := by kernel_rfl
theorem k_42 (P : Params) : (K1 P).lookup 42 = some (o42 P) := by kernel_rfl
theorem k_43 (P : Params) : (K1 P).lookup 43 = some (o43 P) := by kernel_rfl
theorem k_45 (P : Params) : (K1 P).lookup 45 = some (o45 P) := by kernel_rfl
theorem k_46 (P : Params) : (K1 P).lookup 46 = some (o46 P) := by kernel_rfl
theorem k_55 (P : Params) : (K1 P).lookup 55 = some (o55 P) := by kernel_rfl
theorem k_58 (P : Params) : (K1 P).lookup 58 = some (o58 P) := by kernel_rfl
theorem k_59 (P : Params) : (K1 P).lookup 59 = some (o59 P) := by kernel_rfl
theorem k_67 (P : Params) : (K1 P).lookup 67 = some (o67 P) := by kernel_rfl
theorem k_154 (P : Params) : (K1 P).lookup 154 = some (o154 P) := by kernel_rfl
theorem k_155 (P : Params) : (K1 P).lookup 155 = some (o155 P) := by kernel_rfl
theorem k_165 (P : Params) : (K1 P).lookup 165 = some (o165 P) := by kernel_rfl
theorem k_166 (P : Params) : (K1 P).lookup 166 = some (o166 P) := by kernel_rfl
theorem k_172 (P : Params) : (K1 P).lookup 172 = some (o172 P) := by kernel_rfl
theorem k_173 (P : Params) : (K1 P).lookup 173 = some (o173 P) := by kernel_rfl
theorem k_179 (P : Params) : (K1 P).lookup 179 = some (o179 P) := by kernel_rfl
theorem k_186 (P : Params) : (K1 P).lookup 186 = some (o186 P) := by kernel_rfl
theorem k_187 (P : Params) : (K1 P).lookup 187 = some (o187 P) := by kernel_rfl
theorem k_189 (P : Params) : (K1 P).lookup 189 = some (o189 P) := by kernel_rfl
theorem k_190 (P : Params) : (K1 P).lookup 190 = some (o190 P) := by kernel_rfl
theorem k_200 (P : Params) : (K1 P).lookup 200 = some (o200 P) := by kernel_rfl
theorem k_202 (P : Params) : (K1 P).lookup 202 = some (o202 P) := by kernel_rfl
theorem k_208 (P : Params) : (K1 P).lookup 208 = some (o208 P) := by kernel_rfl
theorem k_209 (P : Params) : (K1 P).lookup 209 = some (o209 P) := by kernel_rfl
theorem k_211 (P : Params) : (K1 P).lookup 211 = some (o211 P) := by kernel_rfl
theorem k_212 (P : Params) : (K1 P).lookup 212 = some (o212 P) := by kernel_rfl
theorem k_222 (P : Params) : (K1 P).lookup 222 = some (o222 P) := by kernel_rfl
theorem k_229 (P : Params) : (K1 P).lookup 229 = some (o229 P) := by kernel_rfl
theorem k_230 (P : Params) : (K1 P).lookup 230 = some (o230 P) := by kernel_rfl
theorem k_232 (P : Params) : (K1 P).lookup 232 = some (o232 P) := by kernel_rfl
theorem k_233 (P : Params) : (K1 P).lookup 233 = some (o233 P) := by kernel_rfl
theorem k_243 (P : Params) : (K1 P).lookup 243 = some (o243 P) := by kernel_rfl
theorem k_250 (P : Params) : (K1 P).lookup 250 = some (o250 P) := by kernel_rfl
theorem k_251 (P : Params) : (K1 P).lookup 251 = some (o251 P) := by kernel_rfl
theorem k_257 (P : Params) : (K1 P).lookup 257 = some (o257 P) := by kernel_rfl
theorem k_258 (P : Params) : (K1 P).lookup 258 = some (o258 P) := by kernel_rfl
theorem k_260 (P : Params) : (K1 P).lookup 260 = some (o260 P) := by kernel_rfl
theorem k_261 (P : Params) : (K1 P).lookup 261 = some (o261 P) := by kernel_rfl
theorem k_271 (P : Params) : (K1 P).lookup 271 = some (o271 P) := by kernel_rfl
theorem k_272 (P : Params) : (K1 P).lookup 272 = some (o272 P) := by kernel_rfl
theorem k_278 (P : Params) : (K1 P).lookup 278 = some (o278 P) := by kernel_rfl
theorem k_279 (P : Params) : (K1 P).lookup 279 = some (o279 P) := by kernel_rfl
theorem k_283 (P : Params) : (K1 P).lookup 283 = some (o283 P) := by kernel_rfl
theorem k_284 (P : Params) : (K1 P).lookup 284 = some (o284 P) := by kernel_rfl
theorem k_290 (P : Params) : (K1 P).lookup 290 = some (o290 P) := by kernel_rfl
theorem k_292 (P : Params) : (K1 P).lookup 292 = some (o292 P) := by kernel_rfl
theorem k_298 (P : Params) : (K1 P).lookup 298 = some (o298 P) := by kernel_rfl
theorem k_299 (P : Params) : (K1 P).lookup 299 = some (o299 P) := by kernel_rfl
theorem k_305 (P : Params) : (K1 P).lookup 305 = some (o305 P) := by kernel_rfl
theorem k_306 (P : Params) : (K1 P).lookup 306 = some (o306 P) := by kernel_rfl
theorem k_312 (P : Params) : (K1 P).lookup 312 = some (o312 P) := by kernel_rfl
theorem k_313 (P : Params) : (K1 P).lookup 313 = some (o313 P) := by kernel_rfl
theorem k_315 (P : Params) : (K1 P).lookup 315 = some (o315 P) := by kernel_rfl
theorem k_316 (P : Params) : (K1 P).lookup 316 = some (o316 P) := by kernel_rfl
theorem k_326 (P : Params) : (K1 P).lookup 326 = some (o326 P) := by kernel_rfl
theorem k_333 (P : Params) : (K1 P).lookup 333 = some (o333 P) := by kernel_rfl
theorem k_334 (P : Params) : (K1 P).lookup 334 = some (o334 P) := by kernel_rfl
theorem k_340 (P : Params) : (K1 P).lookup 340 = some (o340 P) := by kernel_rfl
theorem k_341 (P : Params) : (K1 P).lookup 341 = some (o341 P) := by kernel_rfl
theorem k_347 (P : Params) : (K1 P).lookup 347 = some (o347 P) := by kernel_rfl
theorem k_348 (P : Params) : (K1 P).lookup 348 = some (o348 P) := by kernel_rfl
theorem k_354 (P : Params) : (K1 P).lookup 354 = some (o354 P) := by kernel_rfl
theorem k_355 (P : Params) : (K1 P).lookup 355 = some (o355 P) := by kernel_rfl
theorem k_361 (P : Params) : (K1 P).lookup 361 = some (o361 P) := by kernel_rfl
theorem k_362 (P : Params) : (K1 P).lookup 362 = some (o362 P) := by kernel_rfl
theorem k_366 (P : Params) : (K1 P).lookup 366 = some (o366 P) := by kernel_rfl
theorem k_367 (P : Params) : (K1 P).lookup 367 = some (o367 P) := by kernel_rfl
theorem k_369 (P : Params) : (K1 P).lookup 369 = some (o369 P) := by kernel_rfl
theorem k_370 (P : Params) : (K1 P).lookup 370 = some (o370 P) := by kernel_rfl
theorem k_378 (P : Params) : (K1 P).lookup 378 = some (o378 P) := by kernel_rfl
theorem k_379 (P : Params) : (K1 P).lookup 379 = some (o379 P) := by kernel_rfl
theorem k_385 (P : Params) : (K1 P).lookup 385 = some (o385 P) := by kernel_rfl
theorem k_386 (P : Params) : (K1 P).lookup 386 = some (o386 P) := by kernel_rfl
theorem k_392 (P : Params) : (K1 P).lookup 392 = some (o392 P) := by kernel_rfl
theorem k_393 (P : Params) : (K1 P).lookup 393 = some (o393 P) := by kernel_rfl
theorem k_399 (P : Params) : (K1 P).lookup 399 = some (o399 P) := by kernel_rfl
theorem k_400 (P : Params) : (K1 P).lookup 400 = some (o400 P) := by kernel_rfl
theorem k_404 (P : Params) : (K1 P).lookup 404 = some (o404 P) := by kernel_rfl
theorem k_405 (P : Params) : (K1 P).lookup 405 = some (o405 P) := by kernel_rfl
theorem k_411 (P : Params) : (K1 P).lookup 411 = some (o411 P) := by kernel_rfl
theorem k_412 (P : Params) : (K1 P).lookup 412 = some (o412 P) := by kernel_rfl
theorem k_418 (P : Params) : (K1 P).lookup 418 = some (o418 P) := by kernel_rfl
theorem k_419 (P : Params) : (K1 P).lookup 419 = some (o419 P) := by kernel_rfl
theorem k_423 (P : Params) : (K1 P).lookup 423 = some (o423 P) := by kernel_rfl
theorem k_424 (P : Params) : (K1 P).lookup 424 = some (o424 P) := by kernel_rfl
theorem k_430 (P : Params) : (K1 P).lookup 430 = some (o430 P) := by kernel_rfl
theorem k_431 (P : Params) : (K1 P).lookup 431 = some (o431 P) := by kernel_rfl
theorem k_437 (P : Params) : (K1 P).lookup 437 = some (o437 P) := by kernel_rfl
theorem k_438 (P : Params) : (K1 P).lookup 438 = some (o438 P) := by kernel_rfl
theorem k_442 (P : Params) : (K1 P).lookup 442 = some (o442 P) := by kernel_rfl
theorem k_443 (P : Params) : (K1 P).lookup 443 = some (o443 P) := by kernel_rfl
theorem k_449 (P : Params) : (K1 P).lookup 449 = some (o449 P) := by kernel_rfl
theorem k_450 (P : Params) : (K1 P).lookup 450 = some (o450 P) := by kernel_rfl
theorem k_456 (P : Params) : (K1 P).lookup 456 = some (o456 P) := by kernel_rfl
theorem k_457 (P : Params) : (K1 P).lookup 457 = some (o457 P) := by kernel_rfl
theorem k_463 (P : Params) : (K1 P).lookup 463 = some (o463 P) := by kernel_rfl
theorem k_464 (P : Params) : (K1 P).lookup 464 = some (o464 P) := by kernel_rfl
theorem k_468 (P : Params) : (K1 P).lookup 468 = some (o468 P) := by kernel_rfl
theorem k_469 (P : Params) : (K1 P).lookup 469 = some (o469 P) := by kernel_rfl
theorem k_473 (P : Params) : (K1 P).lookup 473 = some (o473 P) := by kernel_rfl
theorem k_474 (P : Params) : (K1 P).lookup 474 = some (o474 P) := by kernel_rfl
theorem k_478 (P : Params) : (K1 P).lookup 478 = some (o478 P) := by kernel_rfl
theorem k_479 (P : Params) : (K1 P).lookup 479 = some (o479 P) := by kernel_rfl
theorem k_483 (P : Params) : (K1 P).lookup 483 = some (o483 P) := by kernel_rfl
theorem k_484 (P : Params) : (K1 P).lookup 484 = some (o484 P) := by kernel_rfl
theorem k_490 (P : Params) : (K1 P).lookup 490 = some (o490 P) := by kernel_rfl
theorem k_491 (P : Params) : (K1 P).lookup 491 = some (o491 P) := by kernel_rfl
theorem k_495 (P : Params) : (K1 P).lookup 495 = some (o495 P) := by kernel_rfl
theorem k_496 (P : Params) : (K1 P).lookup 496 = some (o496 P) := by kernel_rfl
theorem k_502 (P : Params) : (K1 P).lookup 502 = some (o502 P) := by kernel_rfl
theorem k_503 (P : Params) : (K1 P).lookup 503 = some (o503 P) := by kernel_rfl
theorem k_504 (P : Params) : (K1 P).lookup 504 = some (o504 P) := by kernel_rfl
theorem k_505 (P : Params) : (K1 P).lookup 505 = some (o505 P) := by kernel_rfl
theorem k_511 (P : Params) : (K1 P).lookup 511 = some (o511 P) := by kernel_rfl
theorem k_512 (P : Params) : (K1 P).lookup 512 = some (o512 P) := by kernel_rfl
theorem k_516 (P : Params) : (K1 P).lookup 516 = some (o516 P) := by kernel_rfl
theorem k_517 (P : Params) : (K1 P).lookup 517 = some (o517 P) := by kernel_rfl
theorem k_523 (P : Params) : (K1 P).lookup 523 = some (o523 P) := by kernel_rfl
theorem k_524 (P : Params) : (K1 P).lookup 524 = some (o524 P) := by kernel_rfl
theorem k_530 (P : Params) : (K1 P).lookup 530 = some (o530 P) := by kernel_rfl
theorem k_531 (P : Params) : (K1 P).lookup 531 = some (o531 P) := by kernel_rfl
theorem k_537 (P : Params) : (K1 P).lookup 537 = some (o537 P) := by kernel_rfl
theorem k_538 (P : Params) : (K1 P).lookup 538 = some (o538 P) := by kernel_rfl
theorem k_542 (P : Params) : (K1 P).lookup 542 = some (o542 P) := by kernel_rfl
theorem k_543 (P : Params) : (K1 P).lookup 543 = some (o543 P) := by kernel_rfl
theorem k_547 (P : Params) : (K1 P).lookup 547 = some (o547 P) := by kernel_rfl
theorem k_548 (P : Params) : (K1 P).lookup 548 = some (o548 P) := by kernel_rfl
theorem k_554 (P : Params) : (K1 P).lookup 554 = some (o554 P) := by kernel_rfl
theorem k_555 (P : Params) : (K1 P).lookup 555 = some (o555 P) := by kernel_rfl
theorem k_559 (P : Params) : (K1 P).lookup 559 = some (o559 P) := by kernel_rfl
theorem k_560 (P : Params) : (K1 P).lookup 560 = some (o560 P) := by kernel_rfl
theorem k_564 (P : Params) : (K1 P).lookup 564 = some (o564 P) := by kernel_rfl
theorem k_565 (P : Params) : (K1 P).lookup 565 = some (o565 P) := by kernel_rfl
theorem k_571 (P : Params) : (K1 P).lookup 571 = some (o571 P) := by kernel_rfl
theorem k_572 (P : Params) : (K1 P).lookup 572 = some (o572 P) := by kernel_rfl
theorem k_578 (P : Params) : (K1 P).lookup 578 = some (o578 P) := by kernel_rfl
theorem k_579 (P : Params) : (K1 P).lookup 579 = some (o579 P) := by kernel_rfl
theorem k_585 (P : Params) : (K1 P).lookup 585 = some (o585 P) := by kernel_rfl
theorem k_586 (P : Params) : (K1 P).lookup 586 = some (o586 P) := by kernel_rfl
theorem k_590 (P : Params) : (K1 P).lookup 590 = some (o590 P) := by kernel_rfl
theorem k_591 (P : Params) : (K1 P).lookup 591 = some (o591 P) := by kernel_rfl
section
variable {w : World} {mg mb : Str → Option Value} {t : Heap}
theorem at_2 (H : PF w mg mb t) : t.get? 2 = some (o2 w.params) := H.X _ _ (k_2 _)
theorem at_3 (H : PF w mg mb t) : t.get? 3 = some (o3 w.params) := H.X _ _ (k_3 _)
theorem at_20 (H : PF w mg mb t) : t.get? 20 = some (o20 w.params) := H.X _ _ (k_20 _)
theorem at_21 (H : PF w mg mb t) : t.get? 21 = some (o21 w.params) := H.X _ _ (k_21 _)
theorem at_27 (H : PF w mg mb t) : t.get? 27 = some (o27 w.params) := H.X _ _ (k_27 _)
theorem at_29 (H : PF w mg mb t) : t.get? 29 = some (o29 w.params) := H.X _ _ (k_29 _)
theorem at_35 (H : PF w mg mb t) : t.get? 35 = some (o35 w.params) := H.X _ _ (k_35 _)
theorem at_36 (H : PF w mg mb t) : t.get? 36 = some (o36 w.params) := H.X _ _ (k_36 _)
theorem at_42 (H : PF w mg mb t) : t.get? 42 = some (o42 w.params) := H.X _ _ (k_42 _)
theorem at_43 (H : PF w mg mb t) : t.get? 43 = some (o43 w.params) := H.X _ _ (k_43 _)
theorem at_45 (H : PF w mg mb t) : t.get? 45 = some (o45 w.params) := H.X _ _ (k_45 _)
theorem at_46 (H : PF w mg mb t) : t.get? 46 = some (o46 w.params) := H.X _ _ (k_46 _)
theorem at_55 (H : PF w mg mb t) : t.get? 55 = some (o55 w.params) := H.X _ _ (k_55 _)
theorem at_58 (H : PF w mg mb t) : t.get? 58 = some (o58 w.params) := H.X _ _ (k_58 _)
theorem at_59 (H : PF w mg mb t) : t.get? 59 = some (o59 w.params) := H.X _ _ (k_59 _)
theorem at_67 (H : PF w mg mb t) : t.get? 67 = some (o67 w.params) := H.X _ _ (k_67 _)
theorem at_154 (H : PF w mg mb t) : t.get? 154 = some (o154 w.params) := H.X _ _ (k_154 _)
theorem at_155 (H : PF w mg mb t) : t.get? 155 = some (o155 w.params) := H.X _ _ (k_155 _)
theorem at_165 (H : PF w mg mb t) : t.get? 165 = some (o165 w.params) := H.X _ _ (k_165 _)
theorem at_166 (H : PF w mg mb t) : t.get? 166 = some (o166 w.params) := H.X _ _ (k_166 _)
theorem at_172 (H : PF w mg mb t) : t.get? 172 = some (o172 w.params) := H.X _ _ (k_172 _)
theorem at_173 (H : PF w mg mb t) : t.get? 173 = some (o173 w.params) := H.X _ _ (k_173 _)
theorem at_179 (H : PF w mg mb t) : t.get? 179 = some (o179 w.params) := H.X _ _ (k_179 _)
theorem at_186 (H : PF w mg mb t) : t.get? 186 = some (o186 w.params) := H.X _ _ (k_186 _)
theorem at_187 (H : PF w mg mb t) : t.get? 187 = some (o187 w.params) := H.X _ _ (k_187 _)
theorem at_189 (H : PF w mg mb t) : t.get? 189 = some (o189 w.params) := H.X _ _ (k_189 _)
theorem at_190 (H : PF w mg mb t) : t.get? 190 = some (o190 w.params) := H.X _ _ (k_190 _)
theorem at_200 (H : PF w mg mb t) : t.get? 200 = some (o200 w.params) := H.X _ _ (k_200 _)
theorem at_202 (H : PF w mg mb t) : t.get? 202 = some (o202 w.params) := H.X _ _ (k_202 _)
theorem at_208 (H : PF w mg mb t) : t.get? 208 = some (o208 w.params) := H.X _ _ (k_208 _)
theorem at_209 (H : PF w mg mb t) : t.get? 209 = some (o209 w.params) := H.X _ _ (k_209 _)
theorem at_211 (H : PF w mg mb t) : t.get? 211 = some (o211 w.params) := H.X _ _ (k_211 _)
theorem at_212 (H : PF w mg mb t) : t.get? 212 = some (o212 w.params) := H.X _ _ (k_212 _)
theorem at_222 (H : PF w mg mb t) : t.get? 222 = some (o222 w.params) := H.X _ _ (k_222 _)
theorem at_229 (H : PF w mg mb t) : t.get? 229 = some (o229 w.params) := H.X _ _ (k_229 _)
theorem at_230 (H : PF w mg mb t) : t.get? 230 = some (o230 w.params) := H.X _ _ (k_230 _)
theorem at_232 (H : PF w mg mb t) : t.get? 232 = some (o232 w.params) := H.X _ _ (k_232 _)
theorem at_233 (H : PF w mg mb t) : t.get? 233 = some (o233 w.params) := H.X _ _ (k_233 _)
theorem at_243 (H : PF w mg mb t) : t.get? 243 = some (o243 w.params) := H.X _ _ (k_243 _)
theorem at_250 (H : PF w mg mb t) : t.get? 250 = some (o250 w.params) := H.X _ _ (k_250 _)
theorem at_251 (H : PF w mg mb t) : t.get? 251 = some (o251 w.params) := H.X _ _ (k_251 _)
theorem at_257 (H : PF w mg mb t) : t.get? 257 = some (o257 w.params) := H.X _ _ (k_257 _)
theorem at_258 (H : PF w mg mb t) : t.get? 258 = some (o258 w.params) := H.X _ _ (k_258 _)
theorem at_260 (H : PF w mg mb t) : t.get? 260 = some (o260 w.params) := H.X _ _ (k_260 _)
theorem at_261 (H : PF w mg mb t) : t.get? 261 = some (o261 w.params) := H.X _ _ (k_261 _)
theorem at_271 (H : PF w mg mb t) : t.get? 271 = some (o271 w.params) := H.X _ _ (k_271 _)
theorem at_272 (H : PF w mg mb t) : t.get? 272 = some (o272 w.params) := H.X _ _ (k_272 _)
theorem at_278 (H : PF w mg mb t) : t.get? 278 = some (o278 w.params) := H.X _ _ (k_278 _)
theorem at_279 (H : PF w mg mb t) : t.get? 279 = some (o279 w.params) := H.X _ _ (k_279 _)
theorem at_283 (H : PF w mg mb t) : t.get? 283 = some (o283 w.params) := H.X _ _ (k_283 _)
theorem at_284 (H : PF w mg mb t) : t.get? 284 = some (o284 w.params) := H.X _ _ (k_284 _)
theorem at_290 (H : PF w mg mb t) : t.get? 290 = some (o290 w.params) := H.X _ _ (k_290 _)
theorem at_292 (H : PF w mg mb t) : t.get? 292 = some (o292 w.params) := H.X _ _ (k_292 _)
theorem at_298 (H : PF w mg mb t) : t.get? 298 = some (o298 w.params) := H.X _ _ (k_298 _)
theorem at_299 (H : PF w mg mb t) : t.get? 299 = some (o299 w.params) := H.X _ _ (k_299 _)
theorem at_305 (H : PF w mg mb t) : t.get? 305 = some (o305 w.params) := H.X _ _ (k_305 _)
theorem at_306 (H : PF w mg mb t) : t.get? 306 = some (o306 w.params) := H.X _ _ (k_306 _)
theorem at_312 (H : PF w mg mb t) : t.get? 312 = some (o312 w.params) := H.X _ _ (k_312 _)
theorem at_313 (H : PF w mg mb t) : t.get? 313 = some (o313 w.params) := H.X _ _ (k_313 _)
theorem at_315 (H : PF w mg mb t) : t.get? 315 = some (o315 w.params) := H.X _ _ (k_315 _)
theorem at_316 (H : PF w mg mb t) : t.get? 316 = some (o316 w.params) := H.X _ _ (k_316 _)
theorem at_326 (H : PF w mg mb t) : t.get? 326 = some (o326 w.params) := H.X _ _ (k_326 _)
theorem at_333 (H : PF w mg mb t) : t.get? 333 = some (o333 w.params) := H.X _ _ (k_333 _)
theorem at_334 (H : PF w mg mb t) : t.get? 334 = some (o334 w.params) := H.X _ _ (k_334 _)
theorem at_340 (H : PF w mg mb t) : t.get? 340 = some (o340 w.params) := H.X _ _ (k_340 _)
theorem at_341 (H : PF w mg mb t) : t.get? 341 = some (o341 w.params) := H.X _ _ (k_341 _)
theorem at_347 (H : PF w mg mb t) : t.get? 347 = some (o347 w.params) := H.X _ _ (k_347 _)
theorem at_348 (H : PF w mg mb t) : t.get? 348 = some (o348 w.params) := H.X _ _ (k_348 _)
theorem at_354 (H : PF w mg mb t) : t.get? 354 = some (o354 w.params) := H.X _ _ (k_354 _)
theorem at_355 (H : PF w mg mb t) : t.get? 355 = some (o355 w.params) := H.X _ _ (k_355 _)
theorem at_361 (H : PF w mg mb t) : t.get? 361 = some (o361 w.params) := H.X _ _ (k_361 _)
theorem at_362 (H : PF w mg mb t) : t.get? 362 = some (o362 w.params) := H.X _ _ (k_362 _)
theorem at_366 (H : PF w mg mb t) : t.get? 366 = some (o366 w.params) := H.X _ _ (k_366 _)
theorem at_367 (H : PF w mg mb t) : t.get? 367 = some (o367 w.params) := H.X _ _ (k_367 _)
theorem at_369 (H : PF w mg mb t) : t.get? 369 = some (o369 w.params) := H.X _ _ (k_369 _)
theorem at_370 (H : PF w mg mb t) : t.get? 370 = some (o370 w.params) := H.X _ _ (k_370 _)
theorem at_378 (H : PF w mg mb t) : t.get? 378 = some (o378 w.params) := H.X _ _ (k_378 _)
theorem at_379 (H : PF w mg mb t) : t.get? 379 = some (o379 w.params) := H.X _ _ (k_379 _)
theorem at_385 (H : PF w mg mb t) : t.get? 385 = some (o385 w.params) := H.X _ _ (k_385 _)
theorem at_386 (H : PF w mg mb t) : t.get? 386 = some (o386 w.params) := H.X _ _ (k_386 _)
theorem at_392 (H : PF w mg mb t) : t.get? 392 = some (o392 w.params) := H.X _ _ (k_392 _)
theorem at_393 (H : PF w mg mb t) : t.get? 393 = some (o393 w.params) := H.X _ _ (k_393 _)
theorem at_399 (H : PF w mg mb t) : t.get? 399 = some (o399 w.params) := H.X _ _ (k_399 _)
theorem at_400 (H : PF w mg mb t) : t.get? 400 = some (o400 w.params) := H.X _ _ (k_400 _)
theorem at_404 (H : PF w mg mb t) : t.get? 404 = some (o404 w.params) := H.X _ _ (k_404 _)
theorem at_405 (H : PF w mg mb t) : t.get? 405 = some (o405 w.params) := H.X _ _ (k_405 _)
theorem at_411 (H : PF w mg mb t) : t.get? 411 = some (o411 w.params) := H.X _ _ (k_411 _)
theorem at_412 (H : PF w mg mb t) : t.get? 412 = some (o412 w.params) := H.X _ _ (k_412 _)
theorem at_418 (H : PF w mg mb t) : t.get? 418 = some (o418 w.params) := H.X _ _ (k_418 _)
theorem at_419 (H : PF w mg mb t) : t.get? 419 = some (o419 w.params) := H.X _ _ (k_419 _)
theorem at_423 (H : PF w mg mb t) : t.get? 423 = some (o423 w.params) := H.X _ _ (k_423 _)
theorem at_424 (H : PF w mg mb t) : t.get? 424 = some (o424 w.params) := H.X _ _ (k_424 _)
theorem at_430 (H : PF w mg mb t) : t.get? 430 = some (o430 w.params) := H.X _ _ (k_430 _)
theorem at_431 (H : PF w mg mb t) : t.get? 431 = some (o431 w.params) := H.X _ _ (k_431 _)
theorem at_437 (H : PF w mg mb t) : t.get? 437 = some (o437 w.params) := H.X _ _ (k_437 _)
theorem at_438 (H : PF w mg mb t) : t.get? 438 = some (o438 w.params) := H.X _ _ (k_438 _)
theorem at_442 (H : PF w mg mb t) : t.get? 442 = some (o442 w.params) := H.X _ _ (k_442 _)
theorem at_443 (H : PF w mg mb t) : t.get? 443 = some (o443 w.params) := H.X _ _ (k_443 _)
theorem at_449 (H : PF w mg mb t) : t.get? 449 = some (o449 w.params) := H.X _ _ (k_449 _)
theorem at_450 (H : PF w mg mb t) : t.get? 450 = some (o450 w.params) := H.X _ _ (k_450 _)
theorem at_456 (H : PF w mg mb t) : t.get? 456 = some (o456 w.params) := H.X _ _ (k_456 _)
theorem at_457 (H : PF w mg mb t) : t.get? 457 = some (o457 w.params) := H.X _ _ (k_457 _)
theorem at_463 (H : PF w mg mb t) : t.get? 463 = some (o463 w.params) := H.X _ _ (k_463 _)
theorem at_464 (H : PF w mg mb t) : t.get? 464 = some (o464 w.params) := H.X _ _ (k_464 _)
theorem at_468 (H : PF w mg mb t) : t.get? 468 = some (o468 w.params) := H.X _ _ (k_468 _)
theorem at_469 (H : PF w mg mb t) : t.get? 469 = some (o469 w.params) := H.X _ _ (k_469 _)
theorem at_473 (H : PF w mg mb t) : t.get? 473 = some (o473 w.params) := H.X _ _ (k_473 _)
theorem at_474 (H : PF w mg mb t) : t.get? 474 = some (o474 w.params) := H.X _ _ (k_474 _)
theorem at_478 (H : PF w mg mb t) : t.get? 478 = some (o478 w.params) := H.X _ _ (k_478 _)
theorem at_479 (H : PF w mg mb t) : t.get? 479 = some (o479 w.params) := H.X _ _ (k_479 _)
theorem at_483 (H : PF w mg mb t) : t.get? 483 = some (o483 w.params) := H.X _ _ (k_483 _)
theorem at_484 (H : PF w mg mb t) : t.get? 484 = some (o484 w.params) := H.X _ _ (k_484 _)
theorem at_490 (H : PF w mg mb t) : t.get? 490 = some (o490 w.params) := H.X _ _ (k_490 _)
theorem at_491 (H : PF w mg mb t) : t.get? 491 = some (o491 w.params) := H.X _ _ (k_491 _)
theorem at_495 (H : PF w mg mb t) : t.get? 495 = some (o495 w.params) := H.X _ _ (k_495 _)
theorem at_496 (H : PF w mg mb t) : t.get? 496 = some (o496 w.params) := H.X _ _ (k_496 _)
theorem at_502 (H : PF w mg mb t) : t.get? 502 = some (o502 w.params) := H.X _ _ (k_502 _)
theorem at_503 (H : PF w mg mb t) : t.get? 503 = some (o503 w.params) := H.X _ _ (k_503 _)
theorem at_504 (H : PF w mg mb t) : t.get? 504 = some (o504 w.params) := H.X _ _ (k_504 _)
theorem at_505 (H : PF w mg mb t) : t.get? 505 = some (o505 w.params) := H.X _ _ (k_505 _)
theorem at_511 (H : PF w mg mb t) : t.get? 511 = some (o511 w.params) := H.X _ _ (k_511 _)
theorem at_512 (H : PF w mg mb t) : t.get? 512 = some (o512 w.params) := H.X _ _ (k_512 _)
theorem at_516 (H : PF w mg mb t) : t.get? 516 = some (o516 w.params) := H.X _ _ (k_516 _)
theorem at_517 (H : PF w mg mb t) : t.get? 517 = some (o517 w.params) := H.X _ _ (k_517 _)
theorem at_523 (H : PF w mg mb t) : t.get? 523 = some (o523 w.params) := H.X _ _ (k_523 _)
theorem at_524 (H : PF w mg mb t) : t.get? 524 = some (o524 w.params) := H.X _ _ (k_524 _)
theorem at_530 (H : PF w mg mb t) : t.get? 530 = some (o530 w.params) := H.X _ _ (k_530 _)
theorem at_531 (H : PF w mg mb t) : t.get? 531 = some (o531 w.params) := H.X _ _ (k_531 _)
theorem at_537 (H : PF w mg mb t) : t.get? 537 = some (o537 w.params) := H.X _ _ (k_537 _)
theorem at_538 (H : PF w mg mb t) : t.get? 538 = some (o538 w.params) := H.X _ _ (k_538 _)
theorem at_542 (H : PF w mg mb t) : t.get? 542 = some (o542 w.params) := H.X _ _ (k_542 _)
theorem at_543 (H : PF w mg mb t) : t.get? 543 = some (o543 w.params) := H.X _ _ (k_543 _)
theorem at_547 (H : PF w mg mb t) : t.get? 547 = some (o547 w.params) := H.X _ _ (k_547 _)
theorem at_548 (H : PF w mg mb t) : t.get? 548 = some (o548 w.params) := H.X _ _ (k_548 _)
theorem at_554 (H : PF w mg mb t) : t.get? 554 = some (o554 w.params) := H.X _ _ (k_554 _)
theorem at_555 (H : PF w mg mb t) : t.get? 555 = some (o555 w.params) := H.X _ _ (k_555 _)
theorem at_559 (H : PF w mg mb t) : t.get? 559 = some (o559 w.params) := H.X _ _ (k_559 _)
theorem at_560 (H : PF w mg mb t) : t.get? 560 = some (o560 w.params) := H.X _ _ (k_560 _)
theorem at_564 (H : PF w mg mb t) : t.get? 564 = some (o564 w.params) := H.X _ _ (k_564 _)
theorem at_565 (H : PF w mg mb t) : t.get? 565 = some (o565 w.params) := H.X _ _ (k_565 _)
theorem at_571 (H : PF w mg mb t) : t.get? 571 = some (o571 w.params) := H.X _ _ (k_571 _)
theorem at_572 (H : PF w mg mb t) : t.get? 572 = some (o572 w.params) := H.X _ _ (k_572 _)
theorem at_578 (H : PF w mg mb t) : t.get? 578 = some (o578 w.params) := H.X _ _ (k_578 _)
theorem at_579 (H : PF w mg mb t) : t.get? 579 = some (o579 w.params) := H.X _ _ (k_579 _)
theorem at_585 (H : PF w mg mb t) : t.get? 585 = some (o585 w.params) := H.X _ _ (k_585 _)
theorem at_586 (H : PF w mg mb t) : t.get? 586 = some (o586 w.params) := H.X _ _ (k_586 _)
theorem at_590 (H : PF w mg mb t) : t.get? 590 = some (o590 w.params) := H.X _ _ (k_590 _)
theorem at_591 (H : PF w mg mb t) : t.get? 591 = some (o591 w.params) := H.X _ _ (k_591 _)
theorem cr_21 (H : PF w mg mb t) : t.CodeRec (.ref 20) "_wall" := codeRec_of H.X (by kernel_rfl)
theorem cr_36 (H : PF w mg mb t) : t.CodeRec (.ref 35) "PaperError.__init__" := codeRec_of H.X (by kernel_rfl)
theorem cr_43 (H : PF w mg mb t) : t.CodeRec (.ref 42) "PaperError.told" := codeRec_of H.X (by kernel_rfl)
theorem cr_166 (H : PF w mg mb t) : t.CodeRec (.ref 165) "sign_text" := codeRec_of H.X (by kernel_rfl)
theorem cr_173 (H : PF w mg mb t) : t.CodeRec (.ref 172) "decimal_of" := codeRec_of H.X (by kernel_rfl)
theorem cr_187 (H : PF w mg mb t) : t.CodeRec (.ref 186) "Name.__init__" := codeRec_of H.X (by kernel_rfl)
theorem cr_209 (H : PF w mg mb t) : t.CodeRec (.ref 208) "String.__init__" := codeRec_of H.X (by kernel_rfl)
theorem cr_230 (H : PF w mg mb t) : t.CodeRec (.ref 229) "Stream.__init__" := codeRec_of H.X (by kernel_rfl)
theorem cr_251 (H : PF w mg mb t) : t.CodeRec (.ref 250) "Reference.__init__" := codeRec_of H.X (by kernel_rfl)
theorem cr_258 (H : PF w mg mb t) : t.CodeRec (.ref 257) "Reference.pair" := codeRec_of H.X (by kernel_rfl)
theorem cr_272 (H : PF w mg mb t) : t.CodeRec (.ref 271) "kind_of" := codeRec_of H.X (by kernel_rfl)
theorem cr_279 (H : PF w mg mb t) : t.CodeRec (.ref 278) "told_plain" := codeRec_of H.X (by kernel_rfl)
theorem cr_284 (H : PF w mg mb t) : t.CodeRec (.ref 283) "told" := codeRec_of H.X (by kernel_rfl)
theorem cr_299 (H : PF w mg mb t) : t.CodeRec (.ref 298) "Lookup.__init__" := codeRec_of H.X (by kernel_rfl)
theorem cr_306 (H : PF w mg mb t) : t.CodeRec (.ref 305) "Lookup.fetch" := codeRec_of H.X (by kernel_rfl)
theorem cr_313 (H : PF w mg mb t) : t.CodeRec (.ref 312) "Lookup.get" := codeRec_of H.X (by kernel_rfl)
theorem cr_334 (H : PF w mg mb t) : t.CodeRec (.ref 333) "Shelf.put" := codeRec_of H.X (by kernel_rfl)
theorem cr_341 (H : PF w mg mb t) : t.CodeRec (.ref 340) "Shelf.add" := codeRec_of H.X (by kernel_rfl)
theorem cr_348 (H : PF w mg mb t) : t.CodeRec (.ref 347) "Shelf.drop" := codeRec_of H.X (by kernel_rfl)
theorem cr_355 (H : PF w mg mb t) : t.CodeRec (.ref 354) "Shelf.numbers" := codeRec_of H.X (by kernel_rfl)
theorem cr_362 (H : PF w mg mb t) : t.CodeRec (.ref 361) "Shelf.root" := codeRec_of H.X (by kernel_rfl)
theorem cr_367 (H : PF w mg mb t) : t.CodeRec (.ref 366) "Shelf.told" := codeRec_of H.X (by kernel_rfl)
theorem cr_379 (H : PF w mg mb t) : t.CodeRec (.ref 378) "key_object" := codeRec_of H.X (by kernel_rfl)
theorem cr_386 (H : PF w mg mb t) : t.CodeRec (.ref 385) "key_of" := codeRec_of H.X (by kernel_rfl)
theorem cr_393 (H : PF w mg mb t) : t.CodeRec (.ref 392) "node_of" := codeRec_of H.X (by kernel_rfl)
theorem cr_400 (H : PF w mg mb t) : t.CodeRec (.ref 399) "row_of" := codeRec_of H.X (by kernel_rfl)
theorem cr_405 (H : PF w mg mb t) : t.CodeRec (.ref 404) "node_pairs" := codeRec_of H.X (by kernel_rfl)
theorem cr_412 (H : PF w mg mb t) : t.CodeRec (.ref 411) "node_limits" := codeRec_of H.X (by kernel_rfl)
theorem cr_419 (H : PF w mg mb t) : t.CodeRec (.ref 418) "longer_way" := codeRec_of H.X (by kernel_rfl)
theorem cr_424 (H : PF w mg mb t) : t.CodeRec (.ref 423) "tree_pairs" := codeRec_of H.X (by kernel_rfl)
theorem cr_431 (H : PF w mg mb t) : t.CodeRec (.ref 430) "first_at_least" := codeRec_of H.X (by kernel_rfl)
theorem cr_438 (H : PF w mg mb t) : t.CodeRec (.ref 437) "kid_for" := codeRec_of H.X (by kernel_rfl)
theorem cr_443 (H : PF w mg mb t) : t.CodeRec (.ref 442) "tree_span" := codeRec_of H.X (by kernel_rfl)
theorem cr_450 (H : PF w mg mb t) : t.CodeRec (.ref 449) "even_parts" := codeRec_of H.X (by kernel_rfl)
theorem cr_457 (H : PF w mg mb t) : t.CodeRec (.ref 456) "leaf_node" := codeRec_of H.X (by kernel_rfl)
theorem cr_464 (H : PF w mg mb t) : t.CodeRec (.ref 463) "inner_node" := codeRec_of H.X (by kernel_rfl)
theorem cr_469 (H : PF w mg mb t) : t.CodeRec (.ref 468) "as_root" := codeRec_of H.X (by kernel_rfl)
theorem cr_474 (H : PF w mg mb t) : t.CodeRec (.ref 473) "own_pairs" := codeRec_of H.X (by kernel_rfl)
theorem cr_479 (H : PF w mg mb t) : t.CodeRec (.ref 478) "own_ends" := codeRec_of H.X (by kernel_rfl)
theorem cr_484 (H : PF w mg mb t) : t.CodeRec (.ref 483) "put_below" := codeRec_of H.X (by kernel_rfl)
theorem cr_491 (H : PF w mg mb t) : t.CodeRec (.ref 490) "tree_put" := codeRec_of H.X (by kernel_rfl)
theorem cr_496 (H : PF w mg mb t) : t.CodeRec (.ref 495) "dropped_below" := codeRec_of H.X (by kernel_rfl)
theorem cr_503 (H : PF w mg mb t) : t.CodeRec (.ref 502) "tree_dropped" := codeRec_of H.X (by kernel_rfl)
theorem cr_512 (H : PF w mg mb t) : t.CodeRec (.ref 511) "tree_gathered" := codeRec_of H.X (by kernel_rfl)
theorem cr_517 (H : PF w mg mb t) : t.CodeRec (.ref 516) "_law_urn" := codeRec_of H.X (by kernel_rfl)
theorem cr_524 (H : PF w mg mb t) : t.CodeRec (.ref 523) "_law_lot" := codeRec_of H.X (by kernel_rfl)
theorem cr_531 (H : PF w mg mb t) : t.CodeRec (.ref 530) "_law_object" := codeRec_of H.X (by kernel_rfl)
theorem cr_538 (H : PF w mg mb t) : t.CodeRec (.ref 537) "_law_key" := codeRec_of H.X (by kernel_rfl)
theorem cr_543 (H : PF w mg mb t) : t.CodeRec (.ref 542) "_law_plan" := codeRec_of H.X (by kernel_rfl)
theorem cr_548 (H : PF w mg mb t) : t.CodeRec (.ref 547) "_law_shelf" := codeRec_of H.X (by kernel_rfl)
theorem cr_555 (H : PF w mg mb t) : t.CodeRec (.ref 554) "_law_counts" := codeRec_of H.X (by kernel_rfl)
theorem cr_560 (H : PF w mg mb t) : t.CodeRec (.ref 559) "_law_walk" := codeRec_of H.X (by kernel_rfl)
theorem cr_565 (H : PF w mg mb t) : t.CodeRec (.ref 564) "_law_whole" := codeRec_of H.X (by kernel_rfl)
theorem cr_572 (H : PF w mg mb t) : t.CodeRec (.ref 571) "_law_heard" := codeRec_of H.X (by kernel_rfl)
theorem cr_579 (H : PF w mg mb t) : t.CodeRec (.ref 578) "_law_asked" := codeRec_of H.X (by kernel_rfl)
theorem cr_586 (H : PF w mg mb t) : t.CodeRec (.ref 585) "_law_hurt_right" := codeRec_of H.X (by kernel_rfl)
theorem cr_591 (H : PF w mg mb t) : t.CodeRec (.ref 590) "law" := codeRec_of H.X (by kernel_rfl)
end
end
section
open PySem PySem.W PyProof.Rows PySem.Calls
section
variable {prog : Program} {w : World} {mg mb : Str → Option Value} {A : Around} {s : Shared} {c : Cx} {t : Heap} {mu mu' : List (Addr × (Obj → Prop))} {n : Nm} {E : Value → Shared → Prop} {env : Env} {k : Nat}
  {x : Str} {pos : Pos} {v : Value}
noncomputable abbrev ST (w : World) (mg mb : Str → Option Value) := St (PF w mg mb)
theorem ev_local {Q : Value → Shared → Prop} (Ra : Ar A env c k) (S : ST w mg mb c t mu n s) (hv : n.m x = some v) (h : Q v s) (hl : env.kindOf x = some .local) (hd : (x == ("__debug__" : Str)) = false := by decide) :
    wpAny (model prog w) A (eval (.Name x pos) env) Q E s := wpAny_Name (wpAny_loadName_local Ra.hk hl (Ra.hL ▸ S.1.ns) hv h) hd
theorem ev_cell {a : Addr} {Q : Value → Shared → Prop} (Ra : Ar A env c k) (S : ST w mg mb c t mu n s) (hc : env.cells.lookup x = some a) (hv : n.k x = some v) (h : Q v s) (hl : env.kindOf x = some .cell) (hd : (x == ("__debug__" : Str)) = false := by decide) :
    wpAny (model prog w) A (eval (.Name x pos) env) Q E s := wpAny_Name (wpAny_loadName_cell Ra.hk hl hc (hv ▸ (S.1.cel x a (Ra.hC ▸ hc)).1) h) hd
theorem ev_free {a : Addr} {Q : Value → Shared → Prop} (Ra : Ar A env c k) (S : ST w mg mb c t mu n s) (hc : env.cells.lookup x = some a) (hv : n.k x = some v) (h : Q v s) (hl : env.kindOf x = some .free) (hd : (x == ("__debug__" : Str)) = false := by decide)
    (hn : (x == ("__classdict__" : Str)) = false := by decide) :
    wpAny (model prog w) A (eval (.Name x pos) env) Q E s := wpAny_Name (wpAny_loadName_free Ra.hk hl hc (hv ▸ (S.1.cel x a (Ra.hC ▸ hc)).1) h hn) hd
theorem ev_glob {Q : Value → Shared → Prop} (Ra : Ar A env c k) (S : ST w mg mb c t mu n s) (hv : mg x = some v) (h : Q v s) (hl : env.kindOf x = some .globalImplicit) (hd : (x == ("__debug__" : Str)) = false := by decide) :
    wpAny (model prog w) A (eval (.Name x pos) env) Q E s := Name_function_global Ra.hk hl (loadGlobal_global (by rw [Ra.hG]; exact S.1.pf.g.keeps S.1.keep) hv h) hd
theorem ev_blt {Q : Value → Shared → Prop} (Ra : Ar A env c k) (S : ST w mg mb c t mu n s) (hn : mg x = none) (hv : mb x = some v) (h : Q v s) (hl : env.kindOf x = some .globalImplicit) (hd : (x == ("__debug__" : Str)) = false := by decide) :
    wpAny (model prog w) A (eval (.Name x pos) env) Q E s := Name_function_global Ra.hk hl (loadGlobal_builtin (by rw [Ra.hG]; exact S.1.pf.g.keeps S.1.keep) hn (by rw [Ra.hB]; exact S.1.pf.b.keeps S.1.keep) hv h) hd
theorem st_local {Q : Unit → Shared → Prop} (Ra : Ar A env c k) (S : ST w mg mb c t mu n s) (hl : env.kindOf x = some .local)
    (h : let m₁ : Nm := n.set x v; ∀ s', ST w mg mb c t mu m₁ s' → Q () s') : wpAny (model prog w) A (storeName env x v) Q E s := by
  refine wpAny_storeName_local hl (Ra.hL ▸ S.1.ns) (fun h' hn hs => ?_) ?_
  · rw [Ra.hL] at hn hs
    exact h _ ⟨S.1.set hn hs, S.2⟩
  · rw [Ra.hk]; rfl
theorem st_cell {a : Addr} {Q : Unit → Shared → Prop} (Ra : Ar A env c k) (S : ST w mg mb c t mu n s) (ho : n.own = true) (hc : env.cells.lookup x = some a) (hl : env.kindOf x = some .cell)
    (h : let m₁ : Nm := n.cset x v; ∀ s', ST w mg mb c t mu m₁ s' → Q () s') : wpAny (model prog w) A (storeName env x v) Q E s := by
  have hc' : c.cells.lookup x = some a := Ra.hC ▸ hc
  exact wpAny_storeName_cell Ra.hk hl hc (S.1.cel x a hc').1 fun h' hn hs => h _ ⟨S.1.cset ho hc' hn hs, S.2⟩

theorem w_cons {M : Model} {st : Stmt} {rest : List Stmt} {Q : Flow → Shared → Prop} {E : Value → Shared → Prop}
    (h : let K : Flow → Shared → Prop := fun f s' => match f with | .next => wpAny M A (execs rest env) Q E s' | f => Q f s'; wpAny M A (exec st env) K E s) : wpAny M A (execs (st :: rest) env) Q E s := wpAny_execs_cons h
/-- a while: I says of the turns that are left what holds -/
theorem while_go {test : PySem.Expr} {body orelse : List Stmt} {R : Result → Shared → Prop} (I : Nat → Shared → Prop)
    (turn : ∀ n s, I n s →
      let Eb : Value → Shared → Prop := notedBy (model prog w) A env fun e s' => R (.error e) s'
      let Qb : Flow → Shared → Prop := fun f s₃ => match f with
            | .next | .cont => ∃ m, m < n ∧ I m s₃
            | .brk => R (.ok .next) s₃
            | .ret v => R (.ok (.ret v)) s₃
      wpAny (model prog w) A (isTrue test env (eval test env)) (fun b s₂ =>
        if b then wpAny (model prog w) A (execs body env) Qb Eb s₂
        else wpAny (model prog w) A (execs orelse env) (fun f s₃ => R (.ok f) s₃) Eb s₂) Eb s)
    (n : Nat) (h : I n s) : codeAny (model prog w) A (.whileLoop test body orelse env) R s := codeAny_whileLoop I turn n h

theorem St.newIm {o : Obj} (S : ST w mg mb c t mu n s) (hf : o.isFreed = false := by rfl) : ∃ t', Sub t t' ∧ t'.get? s.heap.objs.size = some o ∧ ST w mg mb c t' mu n { s with heap := s.heap.push o } := by
  obtain ⟨t', a, b, d⟩ := S.1.newIm (fun x y => PF.mono x y) hf
  exact ⟨t', a, b, d, S.2⟩
theorem St.newMu {o : Obj} {p : Obj → Prop} (S : ST w mg mb c t mu n s) (ho : p o) (hf : o.isFreed = false := by rfl) : ST w mg mb c t ((s.heap.objs.size, p) :: mu) n { s with heap := s.heap.push o } := ⟨S.1.newMu ho hf, S.2⟩
theorem St.freeze {a : Addr} {p : Obj → Prop} (S : ST w mg mb c t ((a, p) :: mu) n s) (hN : c.N ≤ a) : ∃ t' o, Sub t t' ∧ t'.get? a = some o ∧ p o ∧ ST w mg mb c t' mu n s := by
  obtain ⟨t', o, a, b, d, e⟩ := S.1.freeze (fun x y => PF.mono x y) hN
  exact ⟨t', o, a, b, d, e, S.2⟩
theorem St.shrink {t' : Heap} (S : ST w mg mb c t' mu n s) (x : Sub c.t₀ t) (y : Sub t t') (hp : PF w mg mb t) : ST w mg mb c t mu n s := ⟨S.1.shrink x y hp, S.2⟩
theorem St.grow {h' : Heap} {k : Nat} (S : ST w mg mb c t mu n s) (x : Sub s.heap h') : ST w mg mb c t mu n { s with heap := h', toks := k } := ⟨S.1.grow x, S.2⟩
theorem St.write {a : Addr} {p p' : Obj → Prop} {o' : Obj} {h' : Heap} {k : Nat} (S : ST w mg mb c t mu n s) (U : Upd a p p' mu mu') (hs : ∀ b x, b ≠ a → s.heap.get? b = some x → h'.get? b = some x) (e : h'.get? a = some o') (ho : p' o') :
    ST w mg mb c t mu' n { s with heap := h', toks := k } := ⟨S.1.write U hs e ho, S.2⟩
theorem St.get {a : Addr} {o : Obj} (S : ST w mg mb c t mu n s) (e : t.get? a = some o) : s.heap.get? a = some o := S.1.keep _ _ e
theorem St.inMu {a : Addr} {p : Obj → Prop} (S : ST w mg mb c t mu n s) (e : (a, p) ∈ mu) : ∃ o, s.heap.get? a = some o ∧ p o := (S.1.mus _ e).1
theorem St.NL (S : ST w mg mb c t mu n s) : c.N ≤ s.heap.objs.size := S.1.NL
theorem St.sub (S : ST w mg mb c t mu n s) (hs : mu'.Sublist mu) : ST w mg mb c t mu' n s := ⟨S.1.sub hs, S.2⟩
theorem St.perm (S : ST w mg mb c t mu n s) (hs : mu.Perm mu') : ST w mg mb c t mu' n s := ⟨S.1.perm hs, S.2⟩
theorem St.toks {k : Nat} (S : ST w mg mb c t mu n s) : ST w mg mb c t mu n { s with toks := k } := S
theorem Back.st {D R : List (Addr × (Obj → Prop))} {c₁ : Cx} (bk : Back (PF w mg mb) c t D R n c₁) {n' : Nm} (S : ST w mg mb c₁ t D n' s) : ST w mg mb c t (D ++ R) n s := bk t [] D [] n' s (by simpa using S) rfl
/-- nothing handed over: the caller's state as it was, behind a callee that dropped what it made -/
theorem Back.same {J : List (Addr × (Obj → Prop))} {c₁ : Cx} {t' : Heap} {n' : Nm} (bk : Back (PF w mg mb) c t [] mu n c₁) (S : ST w mg mb c₁ t' J n' s) : ST w mg mb c t' mu n s := bk t' [] [] J n' s S rfl
end
end
section
open PySem PySem.W PyProof.Rows PySem.Calls
/-- what the global names and the built-in ones mean -/
inductive GV : Str → Value → Prop
  | gwall : GV "_wall" (.ref 21)
  | gPaperError : GV "PaperError" (.ref 46)
  | gTreeFault : GV "TreeFault" (.ref 59)
  | gDecimal : GV "Decimal" (.ref 155)
  | gName : GV "Name" (.ref 190)
  | gString : GV "String" (.ref 212)
  | gStream : GV "Stream" (.ref 233)
  | gReference : GV "Reference" (.ref 261)
  | gkindof : GV "kind_of" (.ref 272)
  | gtoldplain : GV "told_plain" (.ref 279)
  | gtoldobjects : GV "told_objects" (.ref 284)
  | gLookup : GV "Lookup" (.ref 316)
  | gShelf : GV "Shelf" (.ref 370)
  | gkeyobject : GV "key_object" (.ref 379)
  | gkeyof : GV "key_of" (.ref 386)
  | gnodeof : GV "node_of" (.ref 393)
  | growof : GV "row_of" (.ref 400)
  | gnodepairs : GV "node_pairs" (.ref 405)
  | gnodelimits : GV "node_limits" (.ref 412)
  | glongerway : GV "longer_way" (.ref 419)
  | gtreepairs : GV "tree_pairs" (.ref 424)
  | gfirstatleast : GV "first_at_least" (.ref 431)
  | gkidfor : GV "kid_for" (.ref 438)
  | gtreespan : GV "tree_span" (.ref 443)
  | gevenparts : GV "even_parts" (.ref 450)
  | gleafnode : GV "leaf_node" (.ref 457)
  | ginnernode : GV "inner_node" (.ref 464)
  | gasroot : GV "as_root" (.ref 469)
  | gownpairs : GV "own_pairs" (.ref 474)
  | gownends : GV "own_ends" (.ref 479)
  | gputbelow : GV "put_below" (.ref 484)
  | gtreeput : GV "tree_put" (.ref 491)
  | gdroppedbelow : GV "dropped_below" (.ref 496)
  | gtreedropped : GV "tree_dropped" (.ref 503)
  | gtreegathered : GV "tree_gathered" (.ref 512)
  | glawurn : GV "_law_urn" (.ref 517)
  | glawlot : GV "_law_lot" (.ref 524)
  | glawobject : GV "_law_object" (.ref 531)
  | glawkey : GV "_law_key" (.ref 538)
  | glawplan : GV "_law_plan" (.ref 543)
  | glawshelf : GV "_law_shelf" (.ref 548)
  | glawcounts : GV "_law_counts" (.ref 555)
  | glawwalk : GV "_law_walk" (.ref 560)
  | glawwhole : GV "_law_whole" (.ref 565)
  | glawheard : GV "_law_heard" (.ref 572)
  | glawasked : GV "_law_asked" (.ref 579)
  | glawhurtright : GV "_law_hurt_right" (.ref 586)
  | gMOSTHOPS : GV "MOST_HOPS" (.int 30 385)
  | gMOSTDEEP : GV "MOST_DEEP" (.int 40 655)
  | gMOSTPLACES : GV "MOST_PLACES" (.int 16 657)
  | glen : GV "len" (.builtin "len")
  | gisinstance : GV "isinstance" (.builtin "isinstance")
  | grange : GV "range" (.type "range")
  | gtuple : GV "tuple" (.type "tuple")
  | gsorted : GV "sorted" (.builtin "sorted")
  | gdict : GV "dict" (.type "dict")
  | gmin : GV "min" (.builtin "min")
  | gmax : GV "max" (.builtin "max")
  | gabs : GV "abs" (.builtin "abs")
  | gint : GV "int" (.type "int")
  | greversed : GV "reversed" (.type "reversed")
  | genumerate : GV "enumerate" (.type "enumerate")
  | gbytes : GV "bytes" (.type "bytes")
  | gbool : GV "bool" (.type "bool")
  | glist : GV "list" (.type "list")
  | gException : GV "Exception" (.type "Exception")
theorem GV.ok {w : World} {mg mb : Str → Option Value} {t : Heap} (H : PF w mg mb t) {x : Str} {v : Value} (e : GV x v) : (x == ("__debug__" : Str)) = false ∧ (mg x = some v ∨ (mg x = none ∧ mb x = some v)) :=
  GV.rec (motive := fun x v _ => (x == ("__debug__" : Str)) = false ∧ (mg x = some v ∨ (mg x = none ∧ mb x = some v)))
    ⟨by decide, .inl (n_wall H)⟩
    ⟨by decide, .inl (n_PaperError H)⟩
    ⟨by decide, .inl (n_TreeFault H)⟩
    ⟨by decide, .inl (n_Decimal H)⟩
    ⟨by decide, .inl (n_Name H)⟩
    ⟨by decide, .inl (n_String H)⟩
    ⟨by decide, .inl (n_Stream H)⟩
    ⟨by decide, .inl (n_Reference H)⟩
    ⟨by decide, .inl (n_kind_of H)⟩
    ⟨by decide, .inl (n_told_plain H)⟩
    ⟨by decide, .inl (n_told_objects H)⟩
    ⟨by decide, .inl (n_Lookup H)⟩
    ⟨by decide, .inl (n_Shelf H)⟩
    ⟨by decide, .inl (n_key_object H)⟩
    ⟨by decide, .inl (n_key_of H)⟩
    ⟨by decide, .inl (n_node_of H)⟩
    ⟨by decide, .inl (n_row_of H)⟩
    ⟨by decide, .inl (n_node_pairs H)⟩
    ⟨by decide, .inl (n_node_limits H)⟩
    ⟨by decide, .inl (n_longer_way H)⟩
    ⟨by decide, .inl (n_tree_pairs H)⟩
    ⟨by decide, .inl (n_first_at_least H)⟩
    ⟨by decide, .inl (n_kid_for H)⟩
    ⟨by decide, .inl (n_tree_span H)⟩
    ⟨by decide, .inl (n_even_parts H)⟩
    ⟨by decide, .inl (n_leaf_node H)⟩
    ⟨by decide, .inl (n_inner_node H)⟩
    ⟨by decide, .inl (n_as_root H)⟩
    ⟨by decide, .inl (n_own_pairs H)⟩
    ⟨by decide, .inl (n_own_ends H)⟩
    ⟨by decide, .inl (n_put_below H)⟩
    ⟨by decide, .inl (n_tree_put H)⟩
    ⟨by decide, .inl (n_dropped_below H)⟩
    ⟨by decide, .inl (n_tree_dropped H)⟩
    ⟨by decide, .inl (n_tree_gathered H)⟩
    ⟨by decide, .inl (n_law_urn H)⟩
    ⟨by decide, .inl (n_law_lot H)⟩
    ⟨by decide, .inl (n_law_object H)⟩
    ⟨by decide, .inl (n_law_key H)⟩
    ⟨by decide, .inl (n_law_plan H)⟩
    ⟨by decide, .inl (n_law_shelf H)⟩
    ⟨by decide, .inl (n_law_counts H)⟩
    ⟨by decide, .inl (n_law_walk H)⟩
    ⟨by decide, .inl (n_law_whole H)⟩
    ⟨by decide, .inl (n_law_heard H)⟩
    ⟨by decide, .inl (n_law_asked H)⟩
    ⟨by decide, .inl (n_law_hurt_right H)⟩
    ⟨by decide, .inl (n_MOST_HOPS H)⟩
    ⟨by decide, .inl (n_MOST_DEEP H)⟩
    ⟨by decide, .inl (n_MOST_PLACES H)⟩
    ⟨by decide, .inr ⟨n_len H, b_len H⟩⟩
    ⟨by decide, .inr ⟨n_isinstance H, b_isinstance H⟩⟩
    ⟨by decide, .inr ⟨n_range H, b_range H⟩⟩
    ⟨by decide, .inr ⟨n_tuple H, b_tuple H⟩⟩
    ⟨by decide, .inr ⟨n_sorted H, b_sorted H⟩⟩
    ⟨by decide, .inr ⟨n_dict H, b_dict H⟩⟩
    ⟨by decide, .inr ⟨n_min H, b_min H⟩⟩
    ⟨by decide, .inr ⟨n_max H, b_max H⟩⟩
    ⟨by decide, .inr ⟨n_abs H, b_abs H⟩⟩
    ⟨by decide, .inr ⟨n_int H, b_int H⟩⟩
    ⟨by decide, .inr ⟨n_reversed H, b_reversed H⟩⟩
    ⟨by decide, .inr ⟨n_enumerate H, b_enumerate H⟩⟩
    ⟨by decide, .inr ⟨n_bytes H, b_bytes H⟩⟩
    ⟨by decide, .inr ⟨n_bool H, b_bool H⟩⟩
    ⟨by decide, .inr ⟨n_list H, b_list H⟩⟩
    ⟨by decide, .inr ⟨n_Exception H, b_Exception H⟩⟩ e
section
variable {prog : Program} {w : World} {mg mb : Str → Option Value} {A : Around} {s : Shared} {c : Cx} {t : Heap} {mu : List (Addr × (Obj → Prop))} {n : Nm} {Q E : Value → Shared → Prop} {env : Env} {k : Nat} {pos : Pos}
theorem g_any {x : Str} {v : Value} (e : GV x v) (h : Q v s) (l : env.kindOf x = some .globalImplicit) (r : Ar A env c k) (S : ST w mg mb c t mu n s) : wpAny (model prog w) A (eval (.Name x pos) env) Q E s :=
  (e.ok S.1.pf).2.elim (fun q => ev_glob r S q h l (e.ok S.1.pf).1) fun q => ev_blt r S q.1 q.2 h l (e.ok S.1.pf).1
end
end
section
open PySem PySem.W PyProof.Rows PySem.Calls
/-! shapes of objects -/
noncomputable def LstO (vs : List Value) : Obj → Prop := fun o => ∃ n, o = { cls := .type "list", data := .seq vs.toArray n }
noncomputable def TupO (vs : List Value) : Obj → Prop := fun o => ∃ n, o = { cls := .type "tuple", data := .seq vs.toArray n }
noncomputable def InsO (C dx : Addr) : Obj → Prop := fun o => o = instObj C dx
noncomputable def NsO (k : Nat) (m : Str → Option Value) : Obj → Prop := fun o => ∃ es ep, o.data = .dict es ep ∧ StrKeys es ∧ es.size ≤ k ∧ ∀ name, nsFind es name = m name
noncomputable def At (h : Heap) (a : Addr) (p : Obj → Prop) : Prop := ∃ o, h.get? a = some o ∧ p o
theorem At.sub {h h' : Heap} {a : Addr} {p : Obj → Prop} (x : At h a p) (k : Sub h h') : At h' a p := let ⟨o, e, q⟩ := x; ⟨o, k _ _ e, q⟩
theorem At.isList {h : Heap} {a : Addr} {vs : List Value} (x : At h a (LstO vs)) : h.IsList a vs.toArray := by obtain ⟨_, e, n, rfl⟩ := x; exact ⟨_, e, rfl, n, rfl⟩
theorem At.isTup {h : Heap} {a : Addr} {vs : List Value} (x : At h a (TupO vs)) : IsTup h a vs.toArray := by obtain ⟨_, e, n, rfl⟩ := x; exact ⟨_, e, rfl, n, rfl⟩
theorem At.isL {h : Heap} {a : Addr} {vs : List Value} (x : At h a (LstO vs)) : ∃ n, IsL h a vs.toArray n := by obtain ⟨_, e, n, rfl⟩ := x; exact ⟨n, e⟩
theorem At.isT {h : Heap} {a : Addr} {vs : List Value} (x : At h a (TupO vs)) : ∃ n, IsT h a vs.toArray n := by obtain ⟨_, e, n, rfl⟩ := x; exact ⟨n, e⟩
theorem NsO.look {k : Nat} {o : Obj} {m : Str → Option Value} (x : NsO k m o) (name : Str) : lookIn name o = some (m name) := by
  obtain ⟨es, ep, hd, hk, _, hf⟩ := x
  unfold lookIn
  rw [hd]
  dsimp only
  rw [← hf name]
  unfold nsFind findBy
  rw [← Array.find?_toList]
  cases h : es.toList.find? (fun e => e.key.isStr name) with
  | some e => rfl
  | none =>
    dsimp only
    have : es.toList.any (·.refKey) = false := by
      rw [List.any_eq_false]
      intro e he
      obtain ⟨n, t, h⟩ := hk e (Array.mem_toList_iff.mp he)
      simp [DictEntry.refKey, h]
    rw [this]; rfl
theorem NsO.put {k : Nat} {o : Obj} {m : Str → Option Value} {name : Str} {hash : Int} {tk : Tok} {v : Value} (x : NsO k m o) :
    NsO (k + 1) (fun y => if y = name then some v else m y) (Obj.putName name hash (.str name tk) v o) := by
  obtain ⟨es, ep, hd, hk, hz, hm⟩ := x
  obtain ⟨c, d, dt, sl⟩ := o
  obtain rfl : dt = .dict es ep := hd
  cases hi : es.findIdx? (·.key.isStr name) with
  | some i =>
    refine ⟨es.modify i fun e => { e with val := v }, ep, by simp only [Obj.putName_eq, Obj.putNameByArray, hi], hk.modify _ _, by rw [Array.size_modify]; omega, fun y => ?_⟩
    show _ = if y = name then some v else m y
    rw [← hm]; exact findBy_modify (fun n v => v.isStr n) Value.isStr_inj es name y v i hi
  | none =>
    refine ⟨es.push ⟨hash, .str name tk, v⟩, ep + 1, by simp only [Obj.putName_eq, Obj.putNameByArray, hi], hk.push _ _ _ _, by rw [Array.size_push]; omega, fun y => ?_⟩
    show _ = if y = name then some v else m y
    rw [← hm]
    exact findBy_push (fun n v => v.isStr n) es name y _ _ v (fun z => by
      show (name == z) = decide (z = name)
      by_cases h : z = name
      · subst h; simp
      · have : ¬ name = z := fun e => h e.symm
        simp [h, this]) hi
theorem nsO_nil : NsO 0 (fun _ => none) emptyDict := ⟨#[], 0, rfl, fun e h => by simp at h, Nat.le_refl _, fun _ => rfl⟩
section
variable {prog : Program} {w : World} {K : Type} [DecidableEq K] {knd : KeyKind prog w K}
noncomputable def DctO (knd : KeyKind prog w K) (kvs : List (K × Value)) : Obj → Prop := fun o => o.IsDictOf knd kvs
theorem At.dct {h : Heap} {a : Addr} {kvs : List (K × Value)} (x : At h a (DctO knd kvs)) : h.DictOf knd a kvs := Heap.dictOf_iff.mpr x
theorem at_dct {h : Heap} {a : Addr} {kvs : List (K × Value)} (x : h.DictOf knd a kvs) : At h a (DctO knd kvs) := Heap.dictOf_iff.mp x
theorem dctO_nil : DctO knd [] { cls := .type "dict", data := .dict #[] } := ⟨#[], 0, ⟨rfl, rfl, rfl⟩, rfl, fun e h => by simp at h, Pairs.nil, List.nodup_nil⟩
end
section
variable {prog : Program} {w : World} {mg mb : Str → Option Value} {A : Around} {s : Shared} {c : Cx} {t t' : Heap} {mu mu' : List (Addr × (Obj → Prop))} {n : Nm} {Q : Value → Shared → Prop} {E : Value → Shared → Prop} {env : Env} {k : Nat} {a b : Addr} {p : Obj → Prop}
  {vs us : List Value}
theorem St.atT (S : ST w mg mb c t mu n s) (x : At t a p) : At s.heap a p := x.sub S.1.keep
theorem St.atM (S : ST w mg mb c t mu n s) (x : (a, p) ∈ mu) : At s.heap a p := S.inMu x
theorem St.neSys (S : ST w mg mb c t mu n s) : (s.heap.objs.size == sysModules) = false := by
  have := modules_low (S.1.pf.nl.keeps S.1.keep)
  exact beq_false_of_ne (Nat.ne_of_gt this)
theorem St.freezeT (S : ST w mg mb c t ((a, p) :: mu) n s) (hN : c.N ≤ a) : ∃ t', Sub t t' ∧ At t' a p ∧ ST w mg mb c t' mu n s := by
  obtain ⟨t', o, e1, e2, e3, e4⟩ := S.freeze hN
  exact ⟨t', e1, ⟨o, e2, e3⟩, e4⟩

theorem new_tup (S : ST w mg mb c t mu n s) (hz : vs.length ≤ sizeLine)
    (h : ∀ s' t' a, Sub t t' → At t' a (TupO vs) → ST w mg mb c t' mu n s' → Q (.ref a) s') : wpAny (model prog w) A (newTuple vs) Q E s := by
  obtain ⟨t', x, e, S'⟩ := S.newIm (o := { cls := .type "tuple", data := .seq vs.toArray })
  exact wpAny_newObj_type (h _ t' _ x ⟨_, e, 0, rfl⟩ S') (by show vs.toArray.size ≤ sizeLine; rw [List.size_toArray]; exact hz)
theorem new_lst (S : ST w mg mb c t mu n s) (hz : vs.length ≤ sizeLine)
    (h : ∀ s' a, c.N ≤ a → ST w mg mb c t ((a, LstO vs) :: mu) n s' → Q (.ref a) s') : wpAny (model prog w) A (newList vs) Q E s :=
  wpAny_newObj_type (h _ _ S.NL (S.newMu ⟨0, rfl⟩)) (by show vs.toArray.size ≤ sizeLine; rw [List.size_toArray]; exact hz)
theorem new_dict {pos : Pos} (S : ST w mg mb c t mu n s)
    (h : ∀ s' a, c.N ≤ a → (a == sysModules) = false → ST w mg mb c t ((a, DctO (strKind prog w) []) :: mu) n s' → Q (.ref a) s') : wpAny (model prog w) A (eval (.Dict [] [] pos) env) Q E s := by
  refine wpAny_Dict_empty ?_
  exact h _ _ S.NL S.neSys (S.newMu dctO_nil)
/-! reads -/
theorem len_l (S : ST w mg mb c t mu n s) (x : At s.heap a (LstO vs)) (hz : vs.length ≤ sizeLine) (h : ∀ s' tk, ST w mg mb c t mu n s' → s'.heap = s.heap → Q (.int vs.length tk) s') : wpAny (model prog w) A (call (.builtin "len") [.ref a]) Q E s := by
  refine len_list x.isList ?_ ?_
  · rw [List.size_toArray]; rw [sizeLine_eq] at hz; omega
  · rw [List.size_toArray]; exact h _ _ S.toks rfl
theorem len_t (S : ST w mg mb c t mu n s) (x : At s.heap a (TupO vs)) (hz : vs.length ≤ sizeLine) (h : ∀ s' tk, ST w mg mb c t mu n s' → s'.heap = s.heap → Q (.int vs.length tk) s') : wpAny (model prog w) A (call (.builtin "len") [.ref a]) Q E s := by
  refine len_tuple x.isTup ?_ ?_
  · rw [List.size_toArray]; rw [sizeLine_eq] at hz; omega
  · rw [List.size_toArray]; exact h _ _ S.toks rfl
theorem item_l {value slice : Expr} {i : Int} {u : Tok} {v : Value} (x : At s.heap a (LstO vs)) (h0 : 0 ≤ i) (h1 : i < 2 ^ 63) (hv : vs[i.toNat]? = some v) (h : Q v s)
    (hs : subscripted slice false (.ref a) (.int i u) = operate [.ref a, .int i u] (getItem (.ref a) (.int i u)) := by with_unfolding_all rfl) :
    wpAny (model prog w) A (subscriptTail value slice (.ref a) (.int i u)) Q E s :=
  tail_any x.isList.typeIs slot_list_getitem.lookup (wpAny_getItem_list x.isList h0 h1 (by simpa using hv) h) hs
theorem item_t {value slice : Expr} {i : Int} {u : Tok} {j : Nat} {v : Value} (x : At s.heap a (TupO vs)) (h0 : -2 ^ 63 ≤ i) (h1 : i < 2 ^ 63) (hj : seqIndex? i vs.length = some j) (hv : vs[j]? = some v) (h : Q v s)
    (hs : subscripted slice false (.ref a) (.int i u) = operate [.ref a, .int i u] (getItem (.ref a) (.int i u)) := by with_unfolding_all rfl) :
    wpAny (model prog w) A (subscriptTail value slice (.ref a) (.int i u)) Q E s := by
  obtain ⟨n, x⟩ := x.isT
  exact tail_any ⟨_, x, rfl⟩ PySem.F.slot_tuple_getitem.lookup (P.getItem_tuple x h0 h1 (by rw [List.size_toArray]; exact hj) (by simpa using hv) h) hs
section
variable {K : Type} [DecidableEq K] {knd : KeyKind prog w K} {kvs : List (K × Value)} {kk : K} {key : Value}
theorem item_d {value slice : Expr} {v : Value} (S : ST w mg mb c t mu n s) (x : At s.heap a (DctO knd kvs)) (hk : knd.is kk key = true) (hv : valueAt kvs kk = some v) (h : ∀ s', ST w mg mb c t mu n s' → s'.heap = s.heap → Q v s')
    (hs : subscripted slice false (.ref a) key = operate [.ref a, key] (getItem (.ref a) key) := by with_unfolding_all rfl) :
    wpAny (model prog w) A (subscriptTail value slice (.ref a) key) Q E s :=
  tail_any x.dct.typeIs slot_dict_getitem.lookup (wpAny_getItem_of hk x.dct.mapOf hv (h _ S.toks rfl)) hs
theorem in_d (S : ST w mg mb c t mu n s) (x : At s.heap a (DctO knd kvs)) (lo : (a == sysModules) = false) (hk : knd.is kk key = true) (h : ∀ s', ST w mg mb c t mu n s' → s'.heap = s.heap → Q (.bool (valueAt kvs kk).isSome) s') :
    wpAny (model prog w) A (compareOp .In key (.ref a)) Q E s := wpAny_in_of hk lo x.dct.mapOf (h _ S.toks rfl)
theorem notin_d (S : ST w mg mb c t mu n s) (x : At s.heap a (DctO knd kvs)) (lo : (a == sysModules) = false) (hk : knd.is kk key = true) (h : ∀ s', ST w mg mb c t mu n s' → s'.heap = s.heap → Q (.bool (!(valueAt kvs kk).isSome)) s') :
    wpAny (model prog w) A (compareOp .NotIn key (.ref a)) Q E s := wpAny_notIn_of hk lo x.dct.mapOf (h _ S.toks rfl)
theorem set_d {v : Value} {Q : Unit → Shared → Prop} (S : ST w mg mb c t mu n s) (U : Upd a (DctO knd kvs) (DctO knd (stored kvs kk v)) mu mu') (hk : knd.is kk key = true) (hz : kvs.length ≤ sizeLine)
    (h : ∀ s', ST w mg mb c t mu' n s' → Q () s') : wpAny (model prog w) A (setItem (.ref a) key v) Q E s := by
  refine wpAny_setItem_pairs (hsz := hz) hk (At.dct (S.atM U.mem)) fun h' hd hs => ?_
  obtain ⟨o, e, q⟩ := at_dct hd
  exact h _ (S.write U (fun b x hb e => (hs.2 b hb).trans e) e q)
end
/-! writes -/
theorem append_l {v : Value} (S : ST w mg mb c t mu n s) (U : Upd a (LstO vs) (LstO (vs ++ [v])) mu mu') (hz : vs.length ≤ sizeLine) (h : ∀ s', ST w mg mb c t mu' n s' → Q .none s') :
    wpAny (model prog w) A (call (.builtin "list.append") [.ref a, v]) Q E s := by
  obtain ⟨_, e, k, rfl⟩ := S.inMu U.mem
  refine append_at e (fun h' hs e' => ?_) (by rw [List.size_toArray]; exact hz)
  exact h _ (S.write U (fun b x hb e => (hs.2 b hb).trans e) e' ⟨_, by simp; rfl⟩)
end
end
section
open PySem PySem.W PyProof.Rows PySem.Calls
noncomputable abbrev excNew (t : Addr) : Obj := { cls := .ref 59, data := .fields #[.ref t, .none, .none, .none, .bool false, .none] }
structure FaultCls (M : Model) (h : Heap) : Prop where
  obj : ∃ oc od cd sl, h.get? 59 = some ⟨oc, od, .cls cd, sl⟩ ∧ cd.hasDel = false ∧ cd.mro.isEmpty = false
  made : Looks M h (Bind.madeBy (.ref 59)) (some "Exception.__new__")
  base : Looks M h (Bind.staticBase (.ref 59)) (.ref 59)
  sub : ∀ b r, subIn (K1 M.w.params) (.ref 59) b = some r → Looks M h (isSubtype (.ref 59) b) r
  call : Looks M h (specialOf (.ref 59) "__call__") (some (.builtin "type.__call__"))
  typ : Looks M h (isInstance (.ref 59) (.type "type")) true
  init : Looks M h (typeLookup (.ref 59) "__init__") (some (.ref 36))
theorem faultCls {M : Model} {h : Heap} (X : (K1 M.w.params).In h) : FaultCls M h := by
  have ho := X _ _ (k_59 M.w.params)
  have made : Looks M h (Bind.madeBy (.ref 59)) (some "Exception.__new__") := by
    have hm : Looks M h (mroOf (.ref 59)) [.ref 59, .ref 46, .type "Exception", .type "BaseException", .type "object"] :=
      (looks_clsIn (cd := { name := "TreeFault", bases := [.ref 46], mro := [.ref 59, .ref 46, .type "Exception", .type "BaseException", .type "object"], ns := 58, qualname := "TreeFault", subclasses := [] }) X (by kernel_rfl)).andThen .now
    intro A Q E s k q
    unfold Bind.madeBy
    refine wpAny_bind (hm A _ E s k ?_)
    rw [List.forIn_cons]
    refine wpAny_bind (wpAny_bind (wpAny_bind (wpAny_bind (wpAny_loadPart (k _ _ ho) (wpAny_pure ?_)))))
    exact wpAny_pure (wpAny_pure (wpAny_pure q))
  refine ⟨⟨_, _, _, _, ho, rfl, rfl⟩, made, ?_, fun b r e => looks_subIn X e, looks_specialIn X (by kernel_rfl), looks_instIn X (by kernel_rfl), looks_findIn X (by kernel_rfl)⟩
  have hm : Looks M h (mroOf (.ref 59)) [.ref 59, .ref 46, .type "Exception", .type "BaseException", .type "object"] :=
      (looks_clsIn (cd := { name := "TreeFault", bases := [.ref 46], mro := [.ref 59, .ref 46, .type "Exception", .type "BaseException", .type "object"], ns := 58, qualname := "TreeFault", subclasses := [] }) X (by kernel_rfl)).andThen .now
  intro A Q E s k q
  unfold Bind.staticBase
  refine wpAny_bind (hm A _ E s k ?_)
  rw [List.forIn_cons]
  exact wpAny_bind (wpAny_bind (wpAny_bind (made A _ E s k (wpAny_pure (wpAny_pure (wpAny_pure q))))))
section
variable {prog : Program} {w : World} {A : Around} {R : Result → Shared → Prop} {h : Heap} {g : Array GenState} {d : Drawn} {t : Nat} {os : OsState} {rest : List Value}
theorem fault_new (Y : FaultCls (model prog w) h) (hrest : rest.length ≤ sizeLine)
    (hq : R (.ok (.ret (.ref (h.objs.size + 1)))) ⟨(h.push { cls := .type "tuple", data := .seq rest.toArray }).push (excNew h.objs.size), g, d, t, os⟩) :
    codeAny (model prog w) A (.call (.builtin "Exception.__new__") ⟨.ref 59 :: rest, []⟩) R ⟨h, g, d, t, os⟩ := by
  have F := PySem.F.excBase_Exception
  have hends := F.ends
  have YE := Y.sub (.type "Exception") true (by kernel_rfl)
  have YA := Y.sub (.type "AttributeError") false (by kernel_rfl)
  have YN := Y.sub (.type "NameError") false (by kernel_rfl)
  have Yb := Y.base
  have Ym := Y.made
  obtain ⟨oc, od, cd, sl, hC, e1, e2⟩ := Y.obj
  have here : Looks (model prog w) h (Bind.madeHere "BaseException.__new__" (.ref 59)) () := Yb.andThen (Ym.andThen (Looks.of_pure (by kernel_rfl)))
  refine codeAny_call_builtin_code (Code.quiet_builtin _ F.quiet) ?_
  · simp only [checkBuiltinCall, F.newKind, F.newSplit, F.newRow]
    have here2 : Looks (model prog w) h (Bind.madeHere "Exception.__new__" (.ref 59)) () := Yb.andThen (Ym.andThen (Looks.of_pure (by kernel_rfl)))
    have args : Bind.checkArgs "Exception.__new__" ⟨.any, "Exception", "Exception", .cls, [⟨"args", .varPos, false⟩, ⟨"kwargs", .varKw, false⟩]⟩ ⟨.ref 59 :: rest, []⟩ = pure () := by kernel_rfl
    rw [args]
    repeat (first | simp only [bne_self_eq_false, Bool.false_eq_true, if_false] | lk)
    refine codeAny_builtinAt F.entry ?_
    unfold Builtin.«BaseException.__new__»
    refine PySem.wpAt_bind ?_
    show PySem.wpAt _ _ _ (stack >>= _) _ _ _
    refine PySem.wpAt_bind (PySem.wpAt_stack fun p below => PySem.wpAt_of_wpAny ?_)
    wp_walk
    refine PySem.wpAt_of_wpAny ?_
    rw [F.owner]
    repeat (first | simp only [Bool.not_true, Bool.false_eq_true, if_false] | lk)
    rw [if_neg (by rw [List.size_toArray]; exact Nat.not_lt.mpr hrest)]
    unfold newObjAsIs
    refine wpAny_bind (wpAny_alloc ?_)
    have hC' := Heap.get?_push_of_some (excNew h.objs.size) (Heap.get?_push_of_some { cls := .type "tuple", data := .seq rest.toArray } hC)
    repeat lk
    rw [if_neg (by rw [e1]; decide)]
    refine wpAny_pure (wpAny_pure ?_)
    show R _ _
    rw [Heap.size_push]
    exact hq
theorem fault_make (X : (K1 w.params).In h) (hrest : rest.length ≤ sizeLine)
    (hq : codeAny (model prog w) (A.under (.builtin "type.__call__" ⟨.ref 59 :: rest, []⟩)) (.call (.ref 36) ⟨.ref (h.objs.size + 1) :: rest, []⟩) (InitBack (h.objs.size + 1) R)
      ⟨(h.push { cls := .type "tuple", data := .seq rest.toArray }).push (excNew h.objs.size), g, d, t, os⟩) :
    codeAny (model prog w) A (.call (.ref 59) ⟨rest, []⟩) R ⟨h, g, d, t, os⟩ := by
  have Y : FaultCls (model prog w) h := faultCls X
  obtain ⟨oc, od, cd, sl, hC, e1, e2⟩ := Y.obj
  have call := Y.call
  have typ := Y.typ
  have made := Y.made
  refine codeAny_of_tree ?_
  show wpAny _ _ (callAny (.ref 59) _) _ _ _
  refine nd_load hC ?_
  show wpAny _ _ (callAny.viaDunder (.ref 59) _) _ _ _
  unfold callAny.viaDunder
  refine wpAny_bind (call.at ?_)
  dsimp only
  rw [tc_bind]
  refine wpAny_bind (wpAny_pure (wpAny_bind (wpAny_pure ?_)))
  refine wpAny_pure (a := Fin.again (.call (.builtin "type.__call__") ⟨.ref 59 :: rest, []⟩)) (And.intro rfl ?_)
  refine codeAny_call_builtin_at (Code.quiet_builtin _ (by decide +kernel)) entry_typeCall (check_slot tc_kind tc_split typ (tc_args _ _ _) ?_)
  unfold Builtin.«type.__call__»
  have hm : Looks (model prog w) h (mroOf (.ref 59)) cd.mro := ((Looks.ld (part := none) hC).andThen .now).andThen .now
  repeat (first | simp only [e2, Bool.false_eq_true, if_false] | with_reducible refine wpAny_call ?_ | lk)
  refine fault_new Y hrest ?_
  have k : ∀ b o, h.get? b = some o → ((h.push { cls := .type "tuple", data := .seq rest.toArray }).push (excNew h.objs.size)).get? b = some o := fun b o e => Heap.get?_push_of_some _ (Heap.get?_push_of_some _ e)
  have hx : ((h.push { cls := .type "tuple", data := .seq rest.toArray }).push (excNew h.objs.size)).get? (h.objs.size + 1) = some (excNew h.objs.size) := by heap_get
  have t1 : Looks (model prog w) ((h.push { cls := .type "tuple", data := .seq rest.toArray }).push (excNew h.objs.size)) (typeOf (.ref (h.objs.size + 1))) (.ref 59) := (Looks.ld hx).andThen .now
  have s1 := (Y.sub (.ref 59) true (by kernel_rfl)).keeps k
  have i1 := Y.init.keeps k
  have b1 := (bind_fn (M := model prog w) (f := 36) X (.ref (h.objs.size + 1)) (by kernel_rfl)).keeps k
  unfold isInstance callSpecial? specialOf
  repeat (first | with_reducible refine wpAny_call ?_ | lk)
  refine codeAny_mono hq fun r s' z => ?_
  rcases r with e | (v | _ | _ | _) <;> first | exact z | exact z.elim | skip
  obtain ⟨rfl, z⟩ := z
  exact wpAny_pure (wpAny_pure z)
end
end
section
open PySem PySem.W PyProof.Rows PySem.Calls Builtin.ObjectAttr
noncomputable def ExcD (od : Option Addr) (T : Value) : Obj → Prop := fun o => ∃ vs a0, o = { cls := .ref 59, dict := od, data := .fields vs } ∧ vs[0]? = some a0 ∧ vs[1]? = some T
noncomputable def ExcO (T : Value) : Obj → Prop := fun o => o.cls = .ref 59 ∧ ∃ vs a0, o.data = .fields vs ∧ vs[0]? = some a0 ∧ vs[1]? = some T
theorem ExcD.o {od : Option Addr} {T : Value} {o : Obj} (x : ExcD od T o) : ExcO T o := by
  obtain ⟨vs, a0, rfl, a, b⟩ := x
  exact ⟨rfl, vs, a0, rfl, a, b⟩
noncomputable def TbO (fl : Value) : Obj → Prop := fun o => ∃ ts, o.data = .fields ts ∧ ts[3]? = some fl
section
variable {prog : Program} {w : World} {mg mb : Str → Option Value} {A : Around} {s : Shared} {c : Cx} {t : Heap} {mu mu' : List (Addr × (Obj → Prop))} {n : Nm} {E : Value → Shared → Prop} {env : Env} {k : Nat}
theorem St.X (S : ST w mg mb c t mu n s) : (K1 w.params).In s.heap := S.1.pf.X.keeps S.1.keep
theorem notFreed_dict {o : Obj} {es : Array DictEntry} {n : Nat} (h : o.data = .dict es n) : o.isFreed = false := by
  obtain ⟨_, _, d, _⟩ := o
  cases h; rfl
theorem notFreed_fields {o : Obj} {vs : Array Value} (h : o.data = .fields vs) : o.isFreed = false := by
  obtain ⟨_, _, d, _⟩ := o
  cases h; rfl
/-- a store into an own dict -/
theorem store_in {dx : Addr} {name : Str} {tk : Tok} {v : Value} {m : Str → Option Value} {Q : Fin → Shared → Prop} (S : ST w mg mb c t mu n s) (U : Upd dx (NsO k m) (NsO (k + 1) (fun y => if y = name then some v else m y)) mu mu') (hk : k ≤ 1000)
    (h : ∀ s', ST w mg mb c t mu' n s' → Q (.done (.ret .none)) s') : wpAny (model prog w) A (storeInDict dx (.str name tk) name v) Q E s := by
  obtain ⟨o, e, N⟩ := S.inMu U.mem
  have N' := NsO.put (name := name) (hash := PyData.keyHash w.params name) (tk := s.toks) (v := v) N
  obtain ⟨es', ep', hd', _, hz', _⟩ := id N'
  obtain ⟨es, ep, hd, hkk, hz, _⟩ := id N
  have e' : (s.heap.update dx (Obj.putName name (PyData.keyHash w.params name) (.str name s.toks) v)).get? dx = some (Obj.putName name (PyData.keyHash w.params name) (.str name s.toks) v o) :=
    Heap.get?_update_self _ e (notFreed_dict hd')
  refine wpAny_bind (wpAny_pure (wpAny_bind ?_))
  unfold nsSet
  refine wpAny_bind (wpAny_bind (wpAny_askSetting (wpAny_pure (wpAny_bind (wpAny_mkText (wpAny_bind (wpAny_loadPart e ?_)))))))
  rw [hd]
  dsimp only
  have cc : (!es.any (·.key.isStr name) && es.any (·.refKey)) = false := by
    have : es.any (·.refKey) = false := by
      rw [Array.any_eq_false']; intro e he; obtain ⟨n, t, h⟩ := hkk e he; simp [DictEntry.refKey, h]
    rw [this, Bool.and_false]
  rw [aRefKeyMayBeTheName_at, cc]
  refine wpAny_updatePart e ?_
  refine wpAny_bind (wpAny_lookBehind e' (by rw [hd']; exact pastItsLine_dict (by rw [sizeLine_eq]; omega)) ?_)
  exact wpAny_pure (h _ (S.write U (fun b x hb e => (Heap.get?_update_other _ _ (Ne.symm hb)).trans e) e' N'))
theorem exc_type (S : ST w mg mb c t mu n s) {e : Addr} {od : Option Addr} {T : Value} (x : (e, ExcD od T) ∈ mu) : Looks (model prog w) s.heap (typeOf (.ref e)) (.ref 59) := by
  obtain ⟨o, ho, vs, a0, rfl, h0, h1⟩ := S.inMu x
  exact (Looks.ld ho).andThen .now
/-- Exception.__init__(self, what) -/
theorem exc_init {e : Addr} {od : Option Addr} {T msg : Value} {Q : Value → Shared → Prop} (S : ST w mg mb c t mu n s) (U : Upd e (ExcD od T) (ExcD od T) mu mu)
    (h : ∀ s', ST w mg mb c t mu n s' → Q .none s') : wpAny (model prog w) A (call (.builtin "Exception.__init__") [.ref e, msg]) Q E s := by
  have F := PySem.F.excBase_Exception
  have hT := exc_type (prog := prog) S U.mem
  have Y := faultCls (M := model prog w) S.X
  have hI : Looks (model prog w) s.heap (isInstance (.ref e) (.type "Exception")) true := hT.andThen (Y.sub (.type "Exception") true (by kernel_rfl))
  refine wpAny_call (codeAny_call_builtin F.init.plain F.initEntry ?_)
  simp only [checkBuiltinCall, F.initKind, F.initSplit, F.initRow]
  have hshort := F.noStar
  have h59 := S.X _ _ (k_59 w.params)
  obtain ⟨_, ho, vs, a0, rfl, h0, h1⟩ := S.inMu U.mem
  obtain ⟨hh, g, d, tk, os⟩ := s
  repeat (first | with_reducible refine wpAny_bind (Looks.at hI ?_) | with_reducible refine Looks.at hT ?_ | with_reducible refine wpAny_load h59 ?_ | wp_step)
  have hz : 0 < vs.size := (Array.getElem?_eq_some_iff.mp h0).1
  have S1 := S.grow (k := tk) (Sub.push hh { cls := .type "tuple", data := .seq [msg].toArray })
  have S2 := S1.write (k := tk) (h' := (hh.push { cls := .type "tuple", data := .seq [msg].toArray }).update e (Obj.mapFields (·.setIfInBounds 0 (.ref hh.objs.size)))) U
    (fun b x hb e => (Heap.get?_update_other _ _ (Ne.symm hb)).trans e) (Heap.get?_update_self _ (Heap.get?_push_of_some _ ho) rfl)
    ⟨vs.setIfInBounds 0 (.ref hh.objs.size), .ref hh.objs.size, rfl, by simp [hz], by rw [Array.getElem?_setIfInBounds_ne (by decide)]; exact h1⟩
  rw [h0]
  refine wpAny_pure (wpAny_bind (wpAny_setField (Heap.get?_push_of_some _ ho) rfl hz ?_))
  cases a0 <;> first
    | exact wpAny_pure (wpAny_pure (h _ S2))
    | exact wpAny_letGo (wpAny_pure (h _ S2))
theorem refuse_exc (self : Value) : refuseLoop self "__setattr__" [.ref 59, .ref 46, .type "Exception", .type "BaseException", .type "object"] = pure () := by
  rw [refuseLoop_ref, refuseLoop_ref]
  kernel_rfl
theorem exc_instAt0 {T : Value} {e : Addr} {o : Obj} (ho : s.heap.get? e = some o) (x : ExcD none T o) : InstAt s.heap e o 59 none := by
  obtain ⟨vs, a0, rfl, _⟩ := x
  exact ⟨ho, rfl, rfl, trivial⟩
theorem exc_instAt1 {dx : Addr} {T : Value} {e : Addr} {o p : Obj} (ho : s.heap.get? e = some o) (x : ExcD (some dx) T o) (hd : s.heap.get? dx = some p) : InstAt s.heap e o 59 (some p) := by
  obtain ⟨vs, a0, rfl, _⟩ := x
  exact ⟨ho, rfl, rfl, hd⟩
theorem cls59 : clsIn (K1 w.params) 59 = some { name := "TreeFault", bases := [.ref 46], mro := [.ref 59, .ref 46, .type "Exception", .type "BaseException", .type "object"], ns := 58, qualname := "TreeFault", subclasses := [] } := by kernel_rfl
theorem osa_exc {e : Addr} {name : Str} {tk : Tok} {v : Value} {R : Result → Shared → Prop} (X : (K1 w.params).In s.heap) (hT : Looks (model prog w) s.heap (typeOf (.ref e)) (.ref 59))
    (ht : takerIn (K1 w.params) 59 name = some none)
    (h : wpAny (model prog w) A.in1 (storeInOwnDict (.ref e) (.ref 59) (.str name tk) name v false)
      (fun fin s' => match fin with | .done f => R (.ok f) s' | .again c' => c'.quiet = true ∧ codeAny (model prog w) A c' R s') (fun e s' => R (.error e) s') s)
    (hn : findIn (K1 w.params) (.ref 59) name = some none) :
    codeAny (model prog w) A (.call (.builtin "object.__setattr__") ⟨[.ref e, .str name tk, v], []⟩) R s := by
  have SF := PySem.F.store_object
  have sub : Looks (model prog w) s.heap (isInstance (.ref e) (.type "object")) true := hT.andThen (looks_subIn X (by kernel_rfl))
  refine codeAny_call_builtin SF.slot.plain SF.entry (@check_slot (model prog w) _ _ s "object.__setattr__" "object" "__setattr__" (.ref e) [.str name tk, v] [] _ SF.kind SF.split sub (SF.args (.ref e) (.str name tk) v) ?_)
  have hm : Looks (model prog w) s.heap (mroOf (.ref 59)) [.ref 59, .ref 46, .type "Exception", .type "BaseException", .type "object"] := (looks_clsIn X cls59).andThen .now
  rw [osa_eq, refuse_eq]
  refine wpAny_bind (wpAny_bind (hT.here (wpAny_bind (hm.here ?_))))
  rw [refuse_exc]
  exact wpAny_pure (wpAny_bind (hT.here (wpAny_bind ((looks_findIn X hn).here (wpAny_bind (wpAny_pure h))))))
theorem exc_set0 {e : Addr} {T v : Value} {name : Str} {Q : Unit → Shared → Prop} (S : ST w mg mb c t ((e, ExcD none T) :: mu) n s)
    (hs : findIn (K1 w.params) (.ref 59) "__setattr__" = some (some (.builtin "object.__setattr__"))) (hn : findIn (K1 w.params) (.ref 59) name = some none) (ht : takerIn (K1 w.params) 59 name = some none)
    (h : ∀ s' dx m, ST w mg mb c t ((dx, NsO 1 m) :: (e, ExcD (some dx) T) :: mu) n s' → Q () s') : wpAny (model prog w) A (setAttr (.ref e) name v) Q E s := by
  obtain ⟨o, ho, x⟩ := S.inMu (.head _)
  have I : InstAt s.heap e o 59 none := exc_instAt0 ho x
  refine set_plain S.X I hs ?_
  have S0 : ST w mg mb c t ((e, ExcD none T) :: mu) n { s with toks := s.toks + 1 } := S
  refine osa_exc S0.X I.type ht ?_ hn
  obtain ⟨vs, a0, rfl, h0, h1⟩ := x
  have h59 := S.X _ _ (k_59 w.params)
  refine wpAny_bind (wpAny_pure (wpAny_bind (wpAny_bind ?_)))
  refine wpAny_loadPart ho (wpAny_bind ((looks_clsIn (M := model prog w) S0.X cls59).here ?_))
  refine wpAny_bind (wpAny_alloc ?_)
  refine wpAny_bind (wpAny_update (Heap.get?_push_of_some _ ho) (wpAny_pure ?_))
  have S1 := S0.newMu (o := emptyDict) (p := NsO 0 fun _ => none) nsO_nil
  have S2 := S1.write (k := s.toks + 1) (h' := (s.heap.push emptyDict).update e fun o => { o with dict := some s.heap.objs.size }) (p' := ExcD (some s.heap.objs.size) T) (.tail (.head))
    (fun b x hb e => (Heap.get?_update_other _ _ (Ne.symm hb)).trans e) (Heap.get?_update_self _ (Heap.get?_push_of_some _ ho) rfl) ⟨vs, a0, rfl, h0, h1⟩
  exact store_in S2 .head (Nat.zero_le _) fun s' S' => h s' _ _ S'
theorem exc_set1 {e dx : Addr} {k : Nat} {m : Str → Option Value} {T v : Value} {name : Str} {Q : Unit → Shared → Prop} (S : ST w mg mb c t ((dx, NsO k m) :: (e, ExcD (some dx) T) :: mu) n s) (hk : k ≤ 1000)
    (hs : findIn (K1 w.params) (.ref 59) "__setattr__" = some (some (.builtin "object.__setattr__"))) (hn : findIn (K1 w.params) (.ref 59) name = some none) (ht : takerIn (K1 w.params) 59 name = some none)
    (h : ∀ s' m, ST w mg mb c t ((dx, NsO (k + 1) m) :: (e, ExcD (some dx) T) :: mu) n s' → Q () s') : wpAny (model prog w) A (setAttr (.ref e) name v) Q E s := by
  obtain ⟨o, ho, x⟩ := S.inMu (.tail _ (.head _))
  obtain ⟨od, hod, _⟩ := S.inMu (.head _)
  have I : InstAt s.heap e o 59 (some od) := exc_instAt1 ho x hod
  refine set_plain S.X I hs ?_
  have S0 : ST w mg mb c t ((dx, NsO k m) :: (e, ExcD (some dx) T) :: mu) n { s with toks := s.toks + 1 } := S
  refine osa_exc S0.X I.type ht ?_ hn
  obtain ⟨vs, a0, rfl, h0, h1⟩ := x
  refine wpAny_bind (wpAny_pure (wpAny_bind (wpAny_bind ?_)))
  refine wpAny_loadPart ho (wpAny_bind ((looks_clsIn (M := model prog w) S0.X cls59).here ?_))
  refine wpAny_pure ?_
  exact store_in S0 .head hk fun s' S' => h s' _ S'
theorem meth_type {T : String} {name : Str} {v : Value} {pl : Sem Bool} {Q : Value × List Value → Shared → Prop} (S : ST w mg mb c t mu n s) (ht : typeOf (.type T) = pure (.type "type")) (hs : Manifest.isStub T = false)
    (e : findCls (K1 w.params) (.type T) (.type "type") name = some (.val v)) (hh : handedIn v = true) (h : ∀ s', ST w mg mb c t mu n s' → s'.heap = s.heap → Q (v, []) s') : wpAny (model prog w) A (getMethod (.type T) name pl) Q E s := by
  have X := S.X
  have hstub : opaqueClassAbove (.type T) = pure none := by unfold opaqueClassAbove; dsimp only; rw [hs]; rfl
  have L0 : Looks (model prog w) s.heap (typeOf (.type T)) (.type "type") := Looks.of_pure ht
  have hg : findIn (K1 w.params) (.type "type") "__getattribute__" = some (some (.builtin "type.__getattribute__")) := type_tga
  unfold getMethod specialOf
  refine wpAny_bind (wpAny_bind (L0.here ((looks_findIn X hg).here ?_)))
  dsimp only
  rw [if_pos canon_tga]
  refine wpAny_bind (wpAny_mono (Q := fun v => Q (v, [])) (E := E) ?_ (fun _ _ z => wpAny_pure z) fun _ _ z => z)
  have LO : Looks (model prog w) s.heap (opaqueClassAbove (.type T)) none := Looks.of_pure hstub
  exact cls_open X LO L0 hg (looks_hook X (r := none) (by rfl)) (by show subIn (K1 w.params) _ _ = _; rfl) e
    (wpAny_pure (by show wpAny _ _ (handedOut v) _ _ _; rw [handedOut_of hh]; exact wpAny_pure (h _ S.toks rfl)))
theorem St.pf (S : ST w mg mb c t mu n s) : PF w mg mb t := S.1.pf
theorem cw_fn {pos : Pos} {f : Addr} {o : Obj} {fd : FuncData} {e : PySem.Expr} {rest : List PySem.Expr} {Q : Value → Shared → Prop} (hk : (K1 w.params).lookup f = some o) (hd : o.data = .func fd)
    (h : wpAny (model prog w) A (spliced (backTo pos (starEach (e :: rest) env))) (fun vs s₁ => (K1 w.params).In s₁.heap ∧ wpAny (model prog w) A (call (.ref f) vs) Q E s₁) E s)
    (he : starEach (e :: rest) env = (false, eval e env) :: starEach rest env := by rfl) :
    wpAny (model prog w) A (callWith pos (.ref f) [] (backTo pos (starEach (e :: rest) env)) []) Q E s :=
  callWith_def hd (wpAny_mono h (fun _ _ z => ⟨z.1 _ _ hk, z.2⟩) fun _ _ z => z) he
theorem St.weak {a : Addr} {p p' : Obj → Prop} (S : ST w mg mb c t mu n s) (U : Upd a p p' mu mu') (hp : ∀ o, p o → p' o) : ST w mg mb c t mu' n s := by
  obtain ⟨o, e, q⟩ := S.inMu U.mem
  exact ⟨S.1.write U (fun _ _ _ e => e) e (hp _ q), S.2⟩
end
end
open PySem PySem.W PyProof.Rows PySem.Calls
set_option compiler.extract_closed false
local macro_rules | `(tactic| w_left) => `(tactic| first
  | ((with_reducible show wpAny _ _ (eval (Expr.Name _ _) _) _ _ _); first
    | (refine ev_local (by assumption) (by assumption) (by first | rfl | assumption) ?_ rfl)
    | (refine ev_cell (by assumption) (by assumption) rfl (by first | rfl | assumption) ?_ rfl)
    | (refine ev_free (by assumption) (by assumption) rfl (by first | rfl | assumption) ?_ rfl)
    | (refine g_any (by with_reducible constructor) ?_ rfl (by assumption) (by assumption)))
  | ((with_reducible show wpAny _ _ (eval _ _) _ _ _); first
    | (with_reducible refine wpAny_Constant_int ?_)
    | (with_reducible refine wpAny_Constant_str ?_)
    | (with_reducible refine wpAny_Constant_none ?_)
    | (with_reducible refine wpAny_Constant_bool ?_)
    | (with_reducible refine wpAny_BinOp ?_)
    | ((with_reducible show wpAny _ _ (eval (Expr.Compare _ [_] [_] _) _) _ _ _); refine wpAny_Compare1 ?_)
    | ((with_reducible show wpAny _ _ (eval (Expr.Compare _ (_ :: _ :: _) _ _) _) _ _ _); refine PyProof.Rows.Compare_chain ?_)
    | (with_reducible refine PyProof.Rows.IfExp_ ?_)
    | (with_reducible refine PyProof.Rows.Subscript_ ?_)
    | (with_reducible refine PyProof.Rows.Tuple_ ?_)
    | (with_reducible refine PyProof.Rows.List_ ?_)
    | (with_reducible refine PyProof.Rows.UnaryOp_ ?_)
    | ((with_reducible show wpAny _ _ (eval (Expr.Call (Expr.Attribute _ _ _) _ [] _) _) _ _ _); refine PyProof.Rows.MethodCall_ ?_)
    | ((with_reducible show wpAny _ _ (eval (Expr.Call _ _ [] _) _) _ _ _); refine PyProof.Rows.Call_ ?_)
    | (with_reducible refine PyProof.Rows.Attribute_Name_ ?_)
    | ((with_reducible show wpAny _ _ (eval (Expr.Attribute _ _ _) _) _ _ _); refine PyProof.Rows.Attribute_any_ ?_)
    | ((with_reducible show wpAny _ _ (eval (Expr.Slice _ _ _ _) _) _ _ _); refine wpAny_Slice ?_)
    | ((with_reducible show wpAny _ _ (eval (Expr.BoolOp _ [_] _) _) _ _ _); refine PyProof.Rows.BoolOp_one ?_)
    | ((with_reducible show wpAny _ _ (eval (Expr.BoolOp BoolOp.And (_ :: _ :: _) _) _) _ _ _); refine PyProof.Rows.BoolOp_and ?_))
  | ((with_reducible show wpAny _ _ (execs (_ :: _) _) _ _ _); with_reducible refine w_cons ?_; set_option tactic.hygienic false in intro)
  | (with_reducible refine wpAny_execs_nil ?_)
  | (with_reducible refine PyProof.Rows.ite_tt ?_)
  | (with_reducible refine PyProof.Rows.ite_ff ?_)
  | ((with_reducible show wpAny _ _ (exec _ _) _ _ _); first
    | (with_reducible refine wpAny_Return_some ?_)
    | (with_reducible refine wpAny_Return_none ?_)
    | (with_reducible refine wpAny_If ?_)
    | ((with_reducible show wpAny _ _ (exec (Stmt.Assign [Expr.Name _ _] _ _) _) _ _ _); refine wpAny_Assign_Name ?_)
    | ((with_reducible show wpAny _ _ (exec (Stmt.Assign [Expr.Attribute _ _ _] _ _) _) _ _ _); refine plainObj_wpAny_Assign_Attribute ?_)
    | ((with_reducible show wpAny _ _ (exec (Stmt.Assign [Expr.Subscript _ _ _] _ _) _) _ _ _); refine wpAny_Assign_Subscript ?_)
    | ((with_reducible show wpAny _ _ (exec (Stmt.Assign [Expr.Tuple _ _ _] _ _) _) _ _ _); refine PyProof.Rows.Assign_Tuple ?_)
    | ((with_reducible show wpAny _ _ (exec (Stmt.Assign [Expr.Tuple _ _ _] _ _) _) _ _ _); refine PyProof.Rows.Assign_Tuple_swapped ?_ rfl rfl)
    | ((with_reducible show wpAny _ _ (exec (Stmt.Expr _ _) _) _ _ _); refine wpAny_Expr_any ?_)
    | ((with_reducible show wpAny _ _ (exec (Stmt.For _ _ _ _ _) _) _ _ _); refine wpAny_For ?_)
    | (with_reducible refine wpAny_While ?_)
    | ((with_reducible show wpAny _ _ (exec (Stmt.Raise (some _) none _) _) _ _ _); refine raise_fault (by assumption) (by assumption) ?_))
  | ((with_reducible show wpAny _ _ (assign (Expr.Name _ _) _ _) _ _ _); first
    | (refine PyProof.Rows.assign_Name ?_))
  | ((with_reducible show wpAny _ _ (bindName _ _ _) _ _ _); first
    | (refine PyProof.Rows.bindName_ ?_))
  | ((with_reducible show wpAny _ _ (isTrue _ _ _) _ _ _); first
    | (with_reducible refine wpAny_isTrue_Compare1 ?_)
    | (with_reducible refine PyProof.Rows.isTrue_chain ?_)
    | (with_reducible refine wpAny_isTrue_BoolOp ?_)
    | (with_reducible refine PyProof.Rows.isTrue_not ?_)
    | ((with_reducible show wpAny _ _ (isTrue (Expr.Name _ _) _ _) _ _ _); refine PyProof.Rows.isTrue_plain ?_)
    | ((with_reducible show wpAny _ _ (isTrue (Expr.Call _ _ _ _) _ _) _ _ _); refine PyProof.Rows.isTrue_plain ?_))
  | (with_reducible refine wpAny_allTrue_And_cons ?_)
  | (with_reducible refine wpAny_allTrue_And_nil ?_)
  | (with_reducible refine wpAny_allTrue_Or_cons ?_)
  | (with_reducible refine wpAny_allTrue_Or_nil ?_)
  | (with_reducible refine no_tests ?_)
  | (with_reducible refine wpAny_tests_one ?_)
  | ((with_reducible show wpAny _ _ (testChain _ _ _ _) _ _ _); first | (with_reducible refine PyProof.Rows.test_link ?_) | (refine PyProof.Rows.test_last ?_))
  | ((with_reducible show wpAny _ _ (evalPart _ _) _ _ _); first
    | (with_reducible refine evp_none ?_)
    | (with_reducible refine evp_some ?_))
  | ((with_reducible show wpAny _ _ (spliced _) _ _ _); first
    | (refine PyProof.Rows.spliced_more ?_)
    | (refine PyProof.Rows.spliced_none ?_))
  | ((with_reducible show wpAny _ _ (callWith _ (Value.ref _) _ _ _) _ _ _); first
    | (refine cwK (by assumption) (by kernel_rfl) ?_)
    | (refine cwK0 (by assumption) (by kernel_rfl) ?_))
  | ((with_reducible show (K1 _).In _ ∧ _); refine St.XX (by assumption) ?_; try dsimp only [List.nil_append, List.cons_append])
  | ((with_reducible show wpAny _ _ (callWith _ (Value.builtin _) _ _ _) _ _ _); first
    | ((with_reducible show wpAny _ _ (callWith _ _ [] (backTo _ (starEach (_ :: _) _)) []) _ _ _); refine PyProof.Rows.callWith_builtin1 ?_)
    | ((with_reducible show wpAny _ _ (callWith _ _ _ (backTo _ (starEach (_ :: _) _)) []) _ _ _); refine PyProof.Rows.callWith_method1 ?_)
    | (refine PyProof.Rows.callWith_method0 ?_))
  | ((with_reducible show wpAny _ _ (callWith _ (Value.type _) _ _ _) _ _ _); first
    | (refine PyProof.Rows.callWith_type1 ?_)
    | (refine PyProof.Rows.callWith_type0 ?_))
  | (with_reducible refine wpAny_truthy_bool ?_)
  | ((with_reducible show wpAny _ _ (binaryOp _ _ _) _ _ _); first
    | (with_reducible refine PyProof.Rows.add_int ?_)
    | (with_reducible refine PyProof.Rows.sub_int ?_)
    | (with_reducible refine PyProof.Rows.mod_int' (by decide) ?_))
  | ((with_reducible show wpAny _ _ (unaryOp _ _) _ _ _); first
    | (with_reducible refine PyProof.Rows.neg_int ?_)
    | (with_reducible refine PySem.P.neg_int ?_))
  | ((with_reducible show wpAny _ _ (assignInOrder _ _) _ _ _); first
    | (refine assignInOrder_cons ?_)
    | (refine assignInOrder_nil ?_))
  | ((with_reducible show wpAny _ _ (compareOp _ _ _) _ _ _); first
    | (with_reducible refine PyProof.Rows.is_none_none ?_)
    | (with_reducible refine PyProof.Rows.is_int_none ?_)
    | (with_reducible refine PyProof.Rows.is_ref_none ?_)
    | (with_reducible refine PyProof.Rows.isnot_ref_none ?_)
    | (with_reducible refine PyProof.Rows.isnot_none_none ?_)
    | (with_reducible refine PyProof.Rows.eq_int ?_)
    | (with_reducible refine PyProof.Rows.ne_int ?_)
    | (with_reducible refine PyProof.Rows.lt_int ?_)
    | (with_reducible refine PyProof.Rows.le_int ?_)
    | (with_reducible refine PyProof.Rows.gt_int ?_)
    | (with_reducible refine PyProof.Rows.ge_int ?_)
    | (with_reducible refine PyProof.Rows.eq_str ?_)
    | (with_reducible refine PyProof.Rows.ne_str ?_))
  | (with_reducible refine PySem.W.ite_neg (by decide) ?_)
  | (with_reducible refine PySem.W.ite_pos (by decide) ?_)
  | ((with_reducible show wpAny _ _ (storeName _ _ _) _ _ _); first
    | (refine st_local (by assumption) (by assumption) rfl ?_; (set_option tactic.hygienic false in intro); intro _ _)
    | (refine st_cell (by assumption) (by assumption) (by first | rfl | assumption) rfl rfl ?_; (set_option tactic.hygienic false in intro); intro _ _))
  | ((fail_if_success (with_reducible show wpAny _ _ _ _ _ _)); show wpAny _ _ (execs _ _) _ _ _))

section
open PySem PySem.W PyProof.Rows PySem.Calls
section
variable {prog : Program} {w : World} {mg mb : Str → Option Value} {A : Around} {s : Shared} {c : Cx} {t : Heap} {mu : List (Addr × (Obj → Prop))} {n : Nm} {Q E : Value → Shared → Prop} {env : Env} {k : Nat}
theorem Ar.make (R : Ar A env c (k + 1)) {C : Addr} {rest : List Value} : Ar (A.under (.builtin "type.__call__" ⟨.ref C :: rest, []⟩)) env c k := by
  have e1 : (A.under (.builtin "type.__call__" ⟨.ref C :: rest, []⟩)).depth = A.depth + 1 := rfl
  have e2 : (A.under (.builtin "type.__call__" ⟨.ref C :: rest, []⟩)).units = A.units + 1 := rfl
  have e3 : (A.under (.builtin "type.__call__" ⟨.ref C :: rest, []⟩)).frames = A.frames := rfl
  have e4 : (A.under (.builtin "type.__call__" ⟨.ref C :: rest, []⟩)).handled = A.handled := rfl
  exact { R with hd := e4 ▸ R.hd, fr := e3 ▸ R.fr, dp := by have := R.dp; rw [e1]; omega, un := by have := R.un; rw [e2]; omega }
theorem init_fault {msg : Value} {e : Addr} {Rr : Result → Shared → Prop} (S : ST w mg mb c t ((e, ExcD none .none) :: mu) n s) (Ra : Ar A env c (k + 1))
    (ret : ∀ s', ST w mg mb c t ((e, ExcO .none) :: mu) n s' → Rr (.ok (.ret .none)) s') : codeAny (model prog w) A (.call (.ref 36) ⟨[.ref e, msg], []⟩) Rr s := by
  refine code_def (D := [(e, ExcD none .none)]) (R := mu) (binds := [("self", .ref e), ("what", msg), ("at", .int (-1) 209)]) S Ra S.1.pf.nl (at_36 S.1.pf) rfl (cr_36 S.1.pf)
    (BindsTo.of_defaults rfl (S.get (at_29 S.1.pf)) rfl rfl rfl) (locs rfl) (by decide +kernel) rfl rfl rfl ?_
  intro c₁ s₁ env₁ A₁ n₀ _ _ _ S₁ R₁ bk Q₁ E₁
  refine w_cons ?_
  intro K₀
  repeat w_left
  refine meth_type S₁ (by kernel_rfl) (by decide +kernel) (v := .builtin "Exception.__init__") (by kernel_rfl) rfl fun s₂ S₂ _ => ?_
  repeat w_left
  refine exc_init S₂ .head fun s₃ S₃ => ?_
  try dsimp only
  repeat w_left
  refine exc_set0 S₃ (by kernel_rfl) (by kernel_rfl) (by kernel_rfl) fun s₄ dx m S₄ => ?_
  try dsimp only
  repeat w_left
  refine exc_set1 S₄ (by decide) (by kernel_rfl) (by kernel_rfl) (by kernel_rfl) fun s₅ m S₅ => ?_
  try dsimp only
  repeat w_left
  refine ret _ ?_
  have S₆ := (S₅.perm (List.Perm.swap ..)).weak (p' := ExcO .none) .head fun o x => x.o
  exact bk _ [] [(e, ExcO .none)] _ _ _ S₆ rfl
/-- raise TreeFault(msg) -/
theorem make_fault {msg : Value} (S : ST w mg mb c t mu n s) (Ra : Ar A env c (k + 2)) (ret : ∀ e s', ST w mg mb c t ((e, ExcO .none) :: mu) n s' → Q (.ref e) s') :
    wpAny (model prog w) A (call (.ref 59) [msg]) Q E s := by
  obtain ⟨h, g, d, tk, os⟩ := s
  refine wpAny_call (fault_make S.X (by show 1 ≤ _; decide) ?_)
  have S1 := (S.grow (k := tk) (Sub.push h { cls := .type "tuple", data := .seq [msg].toArray })).newMu (o := excNew h.objs.size) (p := ExcD none .none) ⟨_, _, rfl, rfl, rfl⟩
  have e1 : (h.push { cls := .type "tuple", data := .seq [msg].toArray }).objs.size = h.objs.size + 1 := Heap.size_push ..
  dsimp only at S1
  rw [e1] at S1
  exact init_fault S1 Ra.make fun s' S' => ⟨rfl, ret _ _ S'⟩
theorem raise_fault {x : PySem.Expr} {pos : Pos} {Q : Flow → Shared → Prop} (_S : ST w mg mb c t mu n s) (Ra : Ar A env c k)
    (h : wpAny (model prog w) A (eval x env) (fun v s₁ => ∃ e mu t n, v = .ref e ∧ ST w mg mb c t ((e, ExcO .none) :: mu) n s₁ ∧ E (.ref e) s₁) E s) :
    wpAny (model prog w) A (exec (.Raise (some x) none pos) env) Q E s := by
  rw [arm_exec_Raise]
  have hh := Ra.hd
  show wpAny _ A (do standAt pos; raiseStmt env (some (do let v ← eval x env; standAt pos; pure v)) none) Q E s
  refine wpAny_bind (wpAny_standAt ?_)
  unfold raiseStmt
  refine wpAny_bind (wpAny_bind (wpAny_mono h (fun v s₁ h₁ => wpAny_bind (wpAny_standAt (wpAny_pure ?_))) fun _ _ x => x))
  obtain ⟨e, mu, t, n, rfl, S, hE⟩ := h₁
  obtain ⟨⟨oc, od, oda, osl⟩, ho, hc, vs, a0, hdd, h0, h1⟩ := S.inMu (.head _)
  dsimp only at hc hdd
  subst hc hdd
  have X := S.X
  obtain ⟨hh', g, d, tk, os⟩ := s₁
  have T : Looks (model prog w) hh' (typeOf (.ref e)) (.ref 59) := (Looks.ld ho).andThen .now
  have I : Looks (model prog w) hh' (isInstance (.ref e) (.type "BaseException")) true := T.andThen (looks_subIn X (by kernel_rfl))
  have h59 := X _ _ (k_59 w.params)
  dsimp only at h59
  repeat (first | with_reducible refine wpAny_bind (Looks.at I ?_) | with_reducible refine wpAny_loadPart h59 ?_ | with_reducible refine wpAny_load ho ?_ | with_reducible refine wpAny_loadPart ho ?_ | wp_step)
  rw [h1]
  refine wpAny_pure ?_
  rw [if_neg (by decide)]
  refine wpAny_pure ?_
  unfold raiseNew
  refine wpAny_bind (wpAny_handled ?_)
  rw [hh]
  first
    | exact wpAny_throw hE
    | exact wpAny_bind (wpAny_pure (wpAny_throw hE))
end
end
open PySem PySem.W PyProof.Rows PySem.Calls
local macro_rules | `(tactic| w_left) => `(tactic| first
  | ((with_reducible show wpAny _ _ (exec _ _) _ _ _); first
    | ((with_reducible show wpAny _ _ (exec (Stmt.Raise (some _) none _) _) _ _ _); refine raise_fault (by assumption) (by assumption) ?_)))
section
open PySem PySem.W PyProof.Rows PySem.Calls
section
variable {P : Heap → Prop} {c : Cx} {t h h' : Heap} {mu old new : List (Addr × (Obj → Prop))} {n : Nm}
theorem SH.frObj (S : SH P c t mu n h) {a : Addr} (ha : a ∈ c.F) : FrObj h a := by
  rcases List.mem_cons.mp ha with rfl | ha
  · exact S.me
  · obtain ⟨env, he, q⟩ := List.mem_filterMap.mp ha
    obtain ⟨_, L, e1, e2⟩ := (S.frames env he).ext S.whole
    rw [e1] at q; cases q
    exact e2
/-- the heap has turned in the frames' slots and in the objects 'old', for which 'new' stand now -/
theorem SH.noted (S : SH P c t (old ++ mu) n h) (hb : (hideAll h (old.map (·.1) ++ c.F)).StaysIn h') (hF : h.UpToSlots h')
    (hn : ∀ p ∈ new, (∃ o, h'.get? p.1 = some o ∧ p.2 o) ∧ (p.1 ∈ old.map (·.1) ∨ (hideAll h (old.map (·.1) ++ c.F)).get? p.1 = none ∧ p.1 ∉ c.F)) (hd : (new.map (·.1)).Nodup) :
    SH P c t (new ++ mu) n h' := by
  have nd := S.nod
  rw [List.map_append] at nd
  have nd' := List.nodup_append.mp nd
  have keep : ∀ a o, h.get? a = some o → a ∉ old.map (·.1) → a ∉ c.F → h'.get? a = some o := fun a o e q1 q2 =>
    hb a o (hideAll_get _ e fun z => (List.mem_append.mp z).elim q1 q2)
  have fr : ∀ a, a ∈ c.F → ∀ o, h.get? a = some o → ∃ sl, h'.get? a = some { o with slots := sl } := fun a ha o e => by
    obtain ⟨o', e', r⟩ := S.frObj ha
    obtain rfl : o' = o := Option.some.inj (e'.symm.trans e)
    exact hF a _ e r
  have oldM : ∀ a, a ∈ old.map (·.1) → a ∉ c.G ∧ t.get? a = none ∧ c.wh.get? a = none ∧ a ∉ mu.map (·.1) ∧ ∀ x b, c.cells.lookup x = some b → a ≠ b := fun a ha => by
    obtain ⟨p, hp, rfl⟩ := List.mem_map.mp ha
    obtain ⟨_, q2, q3, q4⟩ := S.mus p (List.mem_append_left _ hp)
    exact ⟨q2, q3, q4, fun z => nd'.2.2 _ ha _ z rfl, fun x b e => (S.cel x b e).2.2.1 p (List.mem_append_left _ hp)⟩
  have gone : ∀ p ∈ new, p.1 ∈ old.map (·.1) ∨ h.get? p.1 = none := fun p hp => by
    rcases (hn p hp).2 with q | ⟨q, q'⟩
    · exact .inl q
    · by_cases z : p.1 ∈ old.map (·.1)
      · exact .inl z
      · right
        cases e : h.get? p.1 with
        | none => rfl
        | some o => rw [hideAll_get _ e (fun y => (List.mem_append.mp y).elim z q')] at q; cases q
  have newM : ∀ p ∈ new, p.1 ∉ c.G ∧ t.get? p.1 = none ∧ c.wh.get? p.1 = none ∧ p.1 ∉ mu.map (·.1) ∧ ∀ x b, c.cells.lookup x = some b → p.1 ≠ b := fun p hp => by
    rcases gone p hp with q | q
    · exact oldM _ q
    · by_cases z : p.1 ∈ old.map (·.1)
      · exact oldM _ z
      have nF : p.1 ∉ c.F := (hn p hp).2.elim (fun y => absurd y z) (·.2)
      have none_of : ∀ {b}, (∃ o, h.get? b = some o) → p.1 ≠ b := fun ⟨o, e⟩ r => by rw [r, e] at q; cases q
      refine ⟨fun r => ?_, ?_, ?_, fun r => ?_, fun x b e => none_of (let ⟨⟨o, e, _⟩, _⟩ := S.cel x b e; ⟨o, e⟩)⟩
      · rcases List.mem_cons.mp r with r | r
        · obtain ⟨o, es, ep, e, _⟩ := S.ns
          exact none_of ⟨o, e⟩ r
        · exact nF r
      · cases e : t.get? p.1 with
        | none => rfl
        | some o => rw [S.keep _ _ e] at q; cases q
      · cases e : c.wh.get? p.1 with
        | none => rfl
        | some o => rw [S.whole.get e nF] at q; cases q
      · obtain ⟨p', hp', r'⟩ := List.mem_map.mp r
        obtain ⟨⟨o, e, _⟩, _⟩ := S.mus p' (List.mem_append_right _ hp')
        exact none_of ⟨o, e⟩ r'.symm
  exact { S with
    ns := by
      by_cases z : c.loc ∈ c.F
      · exact hF.ns S.ns
      · obtain ⟨o, es, ep, e, r⟩ := S.ns
        exact ⟨o, es, ep, keep _ _ e (fun y => (oldM _ y).1 (.head _)) z, r⟩
    whole := fun a o e => by
      obtain ⟨sl, e1, f1⟩ := S.whole a o e
      by_cases z : a ∈ c.F
      · obtain ⟨sl', e2⟩ := fr a z _ e1
        exact ⟨sl', e2, fun y => absurd z y⟩
      · exact ⟨sl, keep _ _ e1 (fun y => by rw [(oldM _ y).2.2.1] at e; cases e) z, fun _ => f1 z⟩
    keep := fun a o e => keep _ _ (S.keep a o e) (fun y => by rw [(oldM _ y).2.1] at e; cases e) (fun y => by rw [S.outT a (Cx.FG y)] at e; cases e)
    mus := fun p hp => by
      rcases List.mem_append.mp hp with hp | hp
      · exact ⟨(hn p hp).1, (newM p hp).1, (newM p hp).2.1, (newM p hp).2.2.1⟩
      · obtain ⟨⟨o, e, q⟩, q2, q3, q4⟩ := S.mus p (List.mem_append_right _ hp)
        exact ⟨⟨o, keep _ _ e (fun y => (oldM _ y).2.2.2.1 (List.mem_map_of_mem hp)) (fun y => q2 (Cx.FG y)), q⟩, q2, q3, q4⟩
    nod := by
      rw [List.map_append]
      exact List.nodup_append.mpr ⟨hd, nd'.2.1, fun a ha b hb r => by
        obtain ⟨p, hp, rfl⟩ := List.mem_map.mp ha
        exact (newM p hp).2.2.2.1 (r ▸ hb)⟩
    cel := fun x a e => by
      obtain ⟨⟨o, f1, f1'⟩, f2, f3, f4⟩ := S.cel x a e
      refine ⟨⟨o, keep _ _ f1 (fun y => (oldM _ y).2.2.2.2 x a e rfl) (fun y => f2 (Cx.FG y)), f1'⟩, f2, fun p hp => ?_, f4⟩
      rcases List.mem_append.mp hp with hp | hp
      · exact (newM p hp).2.2.2.2 x a e
      · exact f3 p (List.mem_append_right _ hp)
    me := by
      obtain ⟨o, e, r⟩ := S.me
      obtain ⟨sl, e'⟩ := fr _ (.head _) o e
      exact ⟨_, e', r⟩ }
theorem SH.funFrames (S : SH P c t mu n h) {env : Env} (hk : env.scope.kind = .function) (hf : env.frame = some c.L) {l : List Addr} (hl : ∀ a ∈ c.F, a ∈ l) : h.FunFrames (hideAll h l) (env :: c.outer) := by
  have one : ∀ (e : Env), e.scope.kind = .function → ∀ L, e.frame = some L → L ∈ c.F → e.scope.kind ≠ .module ∧ (∃ L o, e.frame = some L ∧ (hideAll h l).get? L = none ∧ h.get? L = some o ∧ ∀ vs, o.data ≠ .fields vs) := fun e hk L hL hin => by
    obtain ⟨o, q, r⟩ := S.frObj hin
    exact ⟨by rw [hk]; decide, L, o, hL, hideAll_none _ (hl _ hin), q, r⟩
  have all : ∀ (o : List Env), (∀ e ∈ o, e ∈ c.outer) → h.FunFrames (hideAll h l) o := fun o => by
    induction o with
    | nil => exact fun _ => trivial
    | cons e o ih =>
      intro hin
      obtain ⟨k, L, e1, _⟩ := S.frames e (hin e (.head _))
      obtain ⟨a, b⟩ := one e k L e1 (.tail _ (List.mem_filterMap.mpr ⟨e, hin e (.head _), e1⟩))
      exact ⟨a, b, ih fun e he => hin e (.tail _ he)⟩
  obtain ⟨a, b⟩ := one env hk _ hf (.head _)
  exact ⟨a, b, all _ fun _ h => h⟩
end
section
variable {prog : Program} {w : World} {mg mb : Str → Option Value} {A : Around} {s : Shared} {c : Cx} {t : Heap} {mu : List (Addr × (Obj → Prop))} {n : Nm} {E : Value → Shared → Prop} {env : Env} {k : Nat} {Q : Unit → Shared → Prop} {e T : Addr}
theorem traced {h h' : Heap} {a0 fl : Value} {old : List Addr} (hx : h'.TracedAtW (hideAll h (old ++ c.F)) e (.ref 59) a0 fl) (hl : ∀ a ∈ c.F, FrObj h' a) :
    ∃ T, (∃ o, h'.get? e = some o ∧ ExcO (.ref T) o) ∧ (∃ o, h'.get? T = some o ∧ TbO fl o) ∧ (hideAll h (old ++ c.F)).get? T = none ∧ T ∉ c.F ∧ e ≠ T := by
  obtain ⟨oe, vs, T, oT, ts, he, ⟨hc, h0⟩, hdd, h1, hnT, hTe, hT, hdT, h3⟩ := hx
  refine ⟨T, ⟨_, he, hc, vs, a0, hdd, h0, h1⟩, ⟨oT, hT, ts, hdT, h3⟩, hnT, fun z => ?_, Ne.symm hTe⟩
  obtain ⟨o, q, r⟩ := hl T z
  rw [hT] at q; cases q
  exact r ts hdT
/-- noteFrame of an exception that flies (or of one that is new) -/
theorem note_new (S : ST w mg mb c t ((e, ExcO .none) :: mu) n s) (Ra : Ar A env c k) (hF : A.frames = some (env :: c.outer))
    (h : ∀ s' T, ST w mg mb c t ((e, ExcO (.ref T)) :: (T, TbO (rawInt c.L)) :: mu) n s' → Q () s') : wpAny (model prog w) A (noteFrame (.ref e) env) Q E s := by
  obtain ⟨oe, he, hc, vs, a0, hd, h0, h1⟩ := S.inMu (.head _)
  have hl := S.1.funFrames (env := env) Ra.hk Ra.hf (l := [e] ++ c.F) fun a ha => List.mem_append_right _ ha
  unfold noteFrame
  simp only [Ra.hf]
  refine wpAny_bind (wpAny_field he hd h1 ?_)
  rw [if_neg (by decide)]
  refine wpAny_entryW hF hl Ra.hf he (fun b o q => of_hideAll _ q) (hideAll_none _ (.head _)) hd (Array.getElem?_eq_some_iff.mp h1).1 h0 fun h' hN => ?_
  obtain ⟨k1, k2, k3, k4⟩ := hN
  rw [hc] at k3
  have frs : ∀ a ∈ c.F, FrObj h' a := fun a ha => by
    obtain ⟨o, q, r⟩ := S.1.frObj ha
    obtain ⟨sl, q'⟩ := k4 a o q r
    exact ⟨_, q', r⟩
  obtain ⟨T, x1, x2, x3, x4, x5⟩ := traced k3 frs
  refine h _ T ⟨SH.noted (old := [(e, ExcO .none)]) (new := [(e, ExcO (.ref T)), (T, TbO (rawInt c.L))]) S.1 k1 k4 (fun p hp => ?_) (by simp [x5]), S.2⟩
  rcases List.mem_cons.mp hp with rfl | hp
  · exact ⟨x1, .inl (.head _)⟩
  · rcases List.mem_cons.mp hp with rfl | hp
    · exact ⟨x2, .inr ⟨x3, x4⟩⟩
    · cases hp
theorem note_on (S : ST w mg mb c t ((e, ExcO (.ref T)) :: (T, TbO .none) :: mu) n s) (Ra : Ar A env c k) (hF : A.frames = some (env :: c.outer))
    (h : ∀ s' T, ST w mg mb c t ((e, ExcO (.ref T)) :: (T, TbO (rawInt c.L)) :: mu) n s' → Q () s') : wpAny (model prog w) A (noteFrame (.ref e) env) Q E s := by
  obtain ⟨oe, he, hc, vs, a0, hd, h0, h1⟩ := S.inMu (.head _)
  obtain ⟨oT, hT, ts, hdT, h3⟩ := S.inMu (.tail _ (.head _))
  have neT : T ≠ e := fun z => by
    have := S.1.nod
    rw [List.map_cons, List.map_cons, List.nodup_cons] at this
    exact this.1 (z ▸ .head _)
  have hl := S.1.funFrames (env := env) Ra.hk Ra.hf (l := [e, T] ++ c.F) fun a ha => List.mem_append_right _ ha
  refine wpAny_noteFrame_onW (base := hideAll s.heap ([e, T] ++ c.F)) hF hl Ra.hf ⟨oe, vs, T, oT, ts, he, ⟨hc, h0⟩, hd, h1, hideAll_none _ (.tail _ (.head _)), neT, hT, hdT, h3⟩ (fun b o q => of_hideAll _ q) (hideAll_none _ (.head _)) fun h' hN => ?_
  obtain ⟨k1, k2, k3, k4⟩ := hN
  have frs : ∀ a ∈ c.F, FrObj h' a := fun a ha => by
    obtain ⟨o, q, r⟩ := S.1.frObj ha
    obtain ⟨sl, q'⟩ := k4 a o q r
    exact ⟨_, q', r⟩
  obtain ⟨T', x1, x2, x3, x4, x5⟩ := traced k3 frs
  refine h _ T' ⟨SH.noted (old := [(e, ExcO (.ref T)), (T, TbO .none)]) (new := [(e, ExcO (.ref T')), (T', TbO (rawInt c.L))]) S.1 k1 k4 (fun p hp => ?_) (by simp [x5]), S.2⟩
  rcases List.mem_cons.mp hp with rfl | hp
  · exact ⟨x1, .inl (.head _)⟩
  · rcases List.mem_cons.mp hp with rfl | hp
    · exact ⟨x2, .inr ⟨x3, x4⟩⟩
    · cases hp
theorem note_again (S : ST w mg mb c t ((e, ExcO (.ref T)) :: (T, TbO (rawInt c.L)) :: mu) n s) (Ra : Ar A env c k) (h : Q () s) : wpAny (model prog w) A (noteFrame (.ref e) env) Q E s := by
  obtain ⟨oe, he, hc, vs, a0, hd, h0, h1⟩ := S.inMu (.head _)
  obtain ⟨oT, hT, ts, hdT, h3⟩ := S.inMu (.tail _ (.head _))
  have neT : T ≠ e := fun z => by
    have := S.1.nod
    rw [List.map_cons, List.map_cons, List.nodup_cons] at this
    exact this.1 (z ▸ .head _)
  exact wpAny_noteFrame_againW (base := hideAll s.heap [T]) (cls := .ref 59) (a0 := a0) Ra.hf ⟨oe, vs, T, oT, ts, he, ⟨hc, h0⟩, hd, h1, hideAll_none _ (.head _), neT, hT, hdT, h3⟩ h
theorem lands {fl : Value} (S : ST w mg mb c t ((e, ExcO (.ref T)) :: (T, TbO fl) :: mu) n s)
    (h : ∀ s', ST w mg mb c t ((e, ExcO (.ref T)) :: (T, TbO .none) :: mu) n s' → Q () s') : wpAny (model prog w) A (setFlight (.ref e) none) Q E s := by
  obtain ⟨oe, he, hc, vs, a0, hd, h0, h1⟩ := S.inMu (.head _)
  obtain ⟨oT, hT, ts, hdT, h3⟩ := S.inMu (.tail _ (.head _))
  have hz : 3 < ts.size := (Array.getElem?_eq_some_iff.mp h3).1
  refine PySem.wpAny_setFlight_none he hd h1 hT hdT hz ?_
  have hd' := Obj.data_mapFields hdT (·.setIfInBounds 3 Value.none)
  exact h _ (S.write (.tail .head) (fun b x hb e => (Heap.get?_update_other _ _ (Ne.symm hb)).trans e) (Heap.get?_update_self _ hT (notFreed_fields hd')) ⟨_, hd', by simp [hz]⟩)
/-- leaving a frame with an exception that is new, that flies, or that is noted here -/
theorem leave_new (S : ST w mg mb c t ((e, ExcO .none) :: mu) n s) (Ra : Ar A env c k) (hF : A.frames = some (env :: c.outer))
    (h : ∀ s' T, ST w mg mb c t ((e, ExcO (.ref T)) :: (T, TbO .none) :: mu) n s' → Q () s') : wpAny (model prog w) A (leaving env (.ref e)) Q E s := by
  unfold leaving
  exact wpAny_bind (note_new S Ra hF fun s' T S' => lands S' fun s'' S'' => h _ _ S'')
theorem leave_on (S : ST w mg mb c t ((e, ExcO (.ref T)) :: (T, TbO .none) :: mu) n s) (Ra : Ar A env c k) (hF : A.frames = some (env :: c.outer))
    (h : ∀ s' T, ST w mg mb c t ((e, ExcO (.ref T)) :: (T, TbO .none) :: mu) n s' → Q () s') : wpAny (model prog w) A (leaving env (.ref e)) Q E s := by
  unfold leaving
  exact wpAny_bind (note_on S Ra hF fun s' T S' => lands S' fun s'' S'' => h _ _ S'')
theorem leave_held (S : ST w mg mb c t ((e, ExcO (.ref T)) :: (T, TbO (rawInt c.L)) :: mu) n s) (Ra : Ar A env c k)
    (h : ∀ s', ST w mg mb c t ((e, ExcO (.ref T)) :: (T, TbO .none) :: mu) n s' → Q () s') : wpAny (model prog w) A (leaving env (.ref e)) Q E s := by
  unfold leaving
  exact wpAny_bind (note_again S Ra (lands S fun s'' S'' => h _ S''))
theorem came_back {E : Value → Shared → Prop} (S : ST w mg mb c t ((e, ExcO (.ref T)) :: (T, TbO (rawInt c.L)) :: mu) n s) (Ra : Ar A env c k)
    (h : ∀ s', ST w mg mb c t ((e, ExcO (.ref T)) :: (T, TbO (rawInt c.L)) :: mu) n s' → E (.ref e) s') : cameBackBy (model prog w) A env E (.ref e) s := by
  obtain ⟨oe, he, hc, vs, a0, hd, h0, h1⟩ := S.inMu (.head _)
  obtain ⟨oT, hT, ts, hdT, h3⟩ := S.inMu (.tail _ (.head _))
  have hz : 3 < ts.size := (Array.getElem?_eq_some_iff.mp h3).1
  refine wpAny_bind (wpAny_field he hd h1 ?_)
  rw [if_neg (show ¬ (Value.ref T == Value.none) = true by simp)]
  rw [Ra.hf]
  unfold setFlight
  refine wpAny_bind (wpAny_field he hd h1 ?_)
  rw [if_pos (show (Value.ref T != Value.none) = true from by simp)]
  refine wpAny_setField hT hdT hz ?_
  have hd' := Obj.data_mapFields hdT (·.setIfInBounds 3 (rawInt c.L))
  exact h _ (S.write (.tail .head) (fun b x hb e => (Heap.get?_update_other _ _ (Ne.symm hb)).trans e) (Heap.get?_update_self _ hT (notFreed_fields hd')) ⟨_, hd', by simp [hz]⟩)
theorem matches_fault {Q : Bool → Shared → Prop} (S : ST w mg mb c t ((e, ExcO (.ref T)) :: mu) n s) (h : Q true s) : wpAny (model prog w) A (excMatches (.ref e) (.ref 59)) Q E s := by
  obtain ⟨oe, he, hc, vs, a0, hd, h0, h1⟩ := S.inMu (.head _)
  have X := S.X
  have h59 := X _ _ (k_59 w.params)
  have T1 : Looks (model prog w) s.heap (typeOf (.ref e)) (.ref 59) := hc ▸ (Looks.ld he).andThen .now
  have I1 : Looks (model prog w) s.heap (isInstance (.ref 59) (.type "tuple")) false := looks_instIn X (by kernel_rfl)
  have I2 : Looks (model prog w) s.heap (isSubtype (.ref 59) (.type "BaseException")) true := looks_subIn X (by kernel_rfl)
  have I3 : Looks (model prog w) s.heap (isSubtype (.ref 59) (.ref 59)) true := looks_subIn X (by kernel_rfl)
  obtain ⟨hh, g, d, tk, os⟩ := s
  dsimp only at h59 T1 I1 I2 I3
  unfold excMatches
  repeat (first | with_reducible refine Looks.at I1 ?_ | with_reducible refine Looks.at I2 ?_ | with_reducible refine Looks.at I3 ?_ | with_reducible refine Looks.at T1 ?_ | with_reducible refine wpAny_load h59 ?_ | with_reducible refine wpAny_loadPart h59 ?_ | wp_step)
  exact h
end
end
section
open PySem PySem.W PyProof.Rows PySem.Calls
/-- what the values say -/
inductive Dt where
  | int (i : Int)
  | str (s : Str)
  | byt (b : List UInt8)
  | ref (n g : Int)
  | oct (b : List UInt8)
  | lst (l : List Dt)
  | tup (l : List Dt)
  | dct (l : List (Str × Dt))
inductive Rep (prog : Program) (w : World) (t : Heap) : Value → Dt → Prop where
  | int (i : Int) (tk : Tok) : Rep prog w t (.int i tk) (.int i)
  | str (x : Str) (tk : Tok) : Rep prog w t (.str x tk) (.str x)
  | byt (b : List UInt8) (tk : Tok) : Rep prog w t (.bytes b.toArray tk) (.byt b)
  | ref {x dx : Addr} {m : Str → Option Value} {n g : Int} {tn tg : Tok} : At t x (InsO 261 dx) → At t dx (NsO 2 m) → m "number" = some (.int n tn) → m "generation" = some (.int g tg) → Rep prog w t (.ref x) (.ref n g)
  | oct {x dx : Addr} {m : Str → Option Value} {b : List UInt8} {tk : Tok} : At t x (InsO 212 dx) → At t dx (NsO 2 m) → m "octets" = some (.bytes b.toArray tk) → m "is_hex" = some (.bool false) → Rep prog w t (.ref x) (.oct b)
  | lst {a : Addr} {vs : List Value} {ds : List Dt} : At t a (LstO vs) → vs.length = ds.length → (∀ (i : Nat) v d, vs[i]? = some v → ds[i]? = some d → Rep prog w t v d) → Rep prog w t (.ref a) (.lst ds)
  | tup {a : Addr} {vs : List Value} {ds : List Dt} : At t a (TupO vs) → vs.length = ds.length → (∀ (i : Nat) v d, vs[i]? = some v → ds[i]? = some d → Rep prog w t v d) → Rep prog w t (.ref a) (.tup ds)
  | dct {a : Addr} {kvs : List (Str × Value)} {ds : List (Str × Dt)} : At t a (DctO (strKind prog w) kvs) → (a == sysModules) = false → kvs.map (·.1) = ds.map (·.1) →
      (∀ (i : Nat) k v k' d, kvs[i]? = some (k, v) → ds[i]? = some (k', d) → Rep prog w t v d) → Rep prog w t (.ref a) (.dct ds)
noncomputable def Reps (prog : Program) (w : World) (t : Heap) (vs : List Value) (ds : List Dt) : Prop := vs.length = ds.length ∧ ∀ (i : Nat) v d, vs[i]? = some v → ds[i]? = some d → Rep prog w t v d
section
variable {prog : Program} {w : World} {t t' : Heap} {v : Value} {d : Dt} {vs us : List Value} {ds es : List Dt}
theorem Rep.sub (x : Sub t t') : ∀ {v : Value} {d : Dt}, Rep prog w t v d → Rep prog w t' v d := by
  intro v d r
  induction r with
  | int i tk => exact .int i tk
  | str y tk => exact .str y tk
  | byt b tk => exact .byt b tk
  | ref a b e f => exact .ref (a.sub x) (b.sub x) e f
  | oct a b e f => exact .oct (a.sub x) (b.sub x) e f
  | lst a b _ ih => exact .lst (a.sub x) b ih
  | tup a b _ ih => exact .tup (a.sub x) b ih
  | dct a b e _ ih => exact .dct (a.sub x) b e ih
theorem Reps.sub (x : Sub t t') (r : Reps prog w t vs ds) : Reps prog w t' vs ds := ⟨r.1, fun i v d a b => (r.2 i v d a b).sub x⟩
theorem Reps.nil : Reps prog w t [] [] := ⟨rfl, fun i v d a => by simp at a⟩
theorem Reps.cons (a : Rep prog w t v d) (r : Reps prog w t vs ds) : Reps prog w t (v :: vs) (d :: ds) := ⟨by rw [List.length_cons, List.length_cons, r.1], fun i v' d' x y => by
  cases i with
  | zero => cases x; cases y; exact a
  | succ i => exact r.2 i v' d' x y⟩
theorem Reps.append : ∀ {vs : List Value} {ds : List Dt}, Reps prog w t vs ds → Reps prog w t us es → Reps prog w t (vs ++ us) (ds ++ es)
  | [], [], _, s => s
  | v :: vs, d :: ds, r, s => Reps.cons (r.2 0 v d rfl rfl) (Reps.append ⟨by have := r.1; simpa using this, fun i v d a b => r.2 (i + 1) v d a b⟩ s)
  | [], _ :: _, r, _ => by have := r.1; simp at this
  | _ :: _, [], r, _ => by have := r.1; simp at this
theorem Reps.snoc (r : Reps prog w t vs ds) (a : Rep prog w t v d) : Reps prog w t (vs ++ [v]) (ds ++ [d]) := r.append (Reps.cons a Reps.nil)
theorem Reps.get (r : Reps prog w t vs ds) {i : Nat} (e : ds[i]? = some d) : ∃ v, vs[i]? = some v ∧ Rep prog w t v d := by
  have hi : i < vs.length := by rw [r.1]; exact (List.getElem?_eq_some_iff.mp e).1
  exact ⟨vs[i], List.getElem?_eq_getElem hi, r.2 i _ d (List.getElem?_eq_getElem hi) e⟩
theorem Reps.getv (r : Reps prog w t vs ds) {i : Nat} (e : vs[i]? = some v) : ∃ d, ds[i]? = some d ∧ Rep prog w t v d := by
  have hi : i < ds.length := by rw [← r.1]; exact (List.getElem?_eq_some_iff.mp e).1
  exact ⟨ds[i], List.getElem?_eq_getElem hi, r.2 i v _ e (List.getElem?_eq_getElem hi)⟩
theorem Reps.take (r : Reps prog w t vs ds) (k : Nat) : Reps prog w t (vs.take k) (ds.take k) := ⟨by rw [List.length_take, List.length_take, r.1], fun i v d a b => by
  rw [List.getElem?_take] at a b
  split at a
  · rename_i h; rw [if_pos h] at b; exact r.2 i v d a b
  · cases a⟩
theorem Reps.drop (r : Reps prog w t vs ds) (k : Nat) : Reps prog w t (vs.drop k) (ds.drop k) := ⟨by rw [List.length_drop, List.length_drop, r.1], fun i v d a b => by
  rw [List.getElem?_drop] at a b
  exact r.2 _ v d a b⟩
theorem Rep.lst_inv (r : Rep prog w t v (.lst ds)) : ∃ a vs, v = .ref a ∧ At t a (LstO vs) ∧ Reps prog w t vs ds := by cases r with | lst a b c => exact ⟨_, _, rfl, a, b, c⟩
theorem Rep.tup_inv (r : Rep prog w t v (.tup ds)) : ∃ a vs, v = .ref a ∧ At t a (TupO vs) ∧ Reps prog w t vs ds := by cases r with | tup a b c => exact ⟨_, _, rfl, a, b, c⟩
theorem Rep.int_inv {i : Int} (r : Rep prog w t v (.int i)) : ∃ tk, v = .int i tk := by cases r with | int i tk => exact ⟨tk, rfl⟩
theorem Rep.str_inv {i : Str} (r : Rep prog w t v (.str i)) : ∃ tk, v = .str i tk := by cases r with | str i tk => exact ⟨tk, rfl⟩
theorem Rep.byt_inv {b : List UInt8} (r : Rep prog w t v (.byt b)) : ∃ tk, v = .bytes b.toArray tk := by cases r with | byt i tk => exact ⟨tk, rfl⟩
theorem Rep.dct_inv {ds : List (Str × Dt)} (r : Rep prog w t v (.dct ds)) : ∃ a kvs, v = .ref a ∧ At t a (DctO (strKind prog w) kvs) ∧ (a == sysModules) = false ∧ kvs.map (·.1) = ds.map (·.1) ∧
    ∀ (i : Nat) k v k' d, kvs[i]? = some (k, v) → ds[i]? = some (k', d) → Rep prog w t v d := by cases r with | dct a b c e => exact ⟨_, _, rfl, a, b, c, e⟩
/-- what a dict of data holds under a name -/
noncomputable def dAt (ds : List (Str × Dt)) (k : Str) : Option Dt := (ds.find? fun x => x.1 = k).map (·.2)
theorem dAt_rep : ∀ {kvs : List (Str × Value)} {ds : List (Str × Dt)}, kvs.map (·.1) = ds.map (·.1) → (∀ (i : Nat) k v k' d, kvs[i]? = some (k, v) → ds[i]? = some (k', d) → Rep prog w t v d) → ∀ (k : Str),
    match dAt ds k with | some d => ∃ v, valueAt kvs k = some v ∧ Rep prog w t v d | none => valueAt kvs k = none
  | [], [], _, _, k => rfl
  | (k₀, v₀) :: kvs, (k₁, d₁) :: ds, e, h, k => by
    obtain ⟨e1, e2⟩ := List.cons.inj e
    have e1 : k₀ = k₁ := e1
    subst e1
    have ih := dAt_rep e2 (fun i k v k' d a b => h (i + 1) k v k' d a b) k
    unfold dAt valueAt at *
    by_cases q : k₀ = k
    · rw [List.find?_cons_of_pos (by simpa using q), List.find?_cons_of_pos (by simpa using q)]
      exact ⟨v₀, rfl, h 0 _ _ _ _ rfl rfl⟩
    · rw [List.find?_cons_of_neg (by simpa using q), List.find?_cons_of_neg (by simpa using q)]
      exact ih
  | [], _ :: _, e, _, _ => by cases e
  | _ :: _, [], e, _, _ => by cases e
end
/-! the words of the law -/
noncomputable def wd (b : Bool) : Str := if b then "Names" else "Nums"
noncomputable def b1 (i : Nat) : List UInt8 := [(65 + i).toUInt8]
noncomputable def kDt (b : Bool) (i : Nat) : Dt := if b then .byt (b1 i) else .int i
noncomputable def oDt (b : Bool) (i : Nat) : Dt := if b then .oct (b1 i) else .int i
end
section
open PySem PySem.W PyProof.Rows PySem.Calls Builtin.ObjectAttr
section
variable {prog : Program} {w : World} {mg mb : Str → Option Value} {A : Around} {s : Shared} {c : Cx} {t : Heap} {mu mu' : List (Addr × (Obj → Prop))} {n : Nm} {E : Value → Shared → Prop} {env : Env} {k : Nat} {Q : Value → Shared → Prop}
theorem At.inst {h : Heap} {x dx C : Addr} {m : Str → Option Value} (a : At h x (InsO C dx)) (b : At h dx (NsO k m)) : ∃ od, InstAt h x (instObj C dx) C (some od) ∧ NsO k m od := by
  obtain ⟨o, e, rfl⟩ := a
  obtain ⟨od, e', q⟩ := b
  exact ⟨od, ⟨e, rfl, rfl, e'⟩, q⟩
/-- a store into a plain object's dict -/
theorem set_inst {x dx C : Addr} {m : Str → Option Value} {name : Str} {v : Value} {Q : Unit → Shared → Prop} (S : ST w mg mb c t mu n s) (hx : At s.heap x (InsO C dx))
    (U : Upd dx (NsO k m) (NsO (k + 1) (fun y => if y = name then some v else m y)) mu mu') (hk : k ≤ 1000)
    (hp : plainOver (K1 w.params) C = true) (ht : takerIn (K1 w.params) C name = some none) (hh : (clsIn (K1 w.params) C).any (·.hasDict) = true) (hs : findIn (K1 w.params) (.ref C) "__setattr__" = some (some (.builtin "object.__setattr__")))
    (h : ∀ s', ST w mg mb c t mu' n s' → Q () s') : wpAny (model prog w) A (setAttr (.ref x) name v) Q E s := by
  obtain ⟨od, I, _⟩ := hx.inst (S.atM U.mem)
  refine set_plain S.X I hs ?_
  have S0 : ST w mg mb c t mu n { s with toks := s.toks + 1 } := S
  refine osa_open S0.X I hp ht fun b => ?_
  obtain ⟨cd, hc, hd'⟩ := any_some hh
  obtain ⟨ox, ho, rfl⟩ := hx
  refine wpAny_bind (wpAny_pure (wpAny_bind (wpAny_bind ?_)))
  refine wpAny_loadPart ho (wpAny_bind ((looks_clsIn (M := model prog w) S0.X hc).here ?_))
  rw [hd']
  refine wpAny_pure ?_
  exact store_in S0 U hk fun s' S' => h s' S'
/-- a new plain object -/
theorem make_inst {C fI : Addr} {rest : List Value} (S : ST w mg mb c t mu n s) (hm : makesIn (K1 w.params) C = true) (hi : findIn (K1 w.params) (.ref C) "__init__" = some (some (.ref fI))) (hf : typeIn (K1 w.params) (.ref fI) = some (.type "function"))
    (h : ∀ x dx s', c.N ≤ dx → c.N ≤ x → ST w mg mb c t ((x, InsO C dx) :: (dx, NsO 0 fun _ => none) :: mu) n s' →
      codeAny (model prog w) (A.under (.builtin "type.__call__" ⟨.ref C :: rest, []⟩)) (.call (.ref fI) ⟨.ref x :: rest, []⟩) (fun r s' => match r with | .ok (.ret v) => v = .none ∧ Q (.ref x) s' | .ok _ => False | .error e => E e s') s') :
    wpAny (model prog w) A (call (.ref C) rest) Q E s := by
  obtain ⟨hh, g, d, tk, os⟩ := s
  refine wpAny_call (make_core (makes_of S.X hm) (looks_findIn S.X hi) (fun self => bind_fn S.X self hf) (.inl rfl) ?_)
  have S1 := (S.newMu (o := emptyDict) (p := NsO 0 fun _ => none) nsO_nil).newMu (o := instObj C hh.objs.size) (p := InsO C hh.objs.size) rfl
  have e1 : (hh.push emptyDict).objs.size = hh.objs.size + 1 := Heap.size_push ..
  dsimp only at S1
  rw [e1] at S1
  exact codeAny_mono (h _ _ _ S.NL (Nat.le_succ_of_le S.NL) S1) fun r s' z => by
    rcases r with e | (v | _ | _ | _) <;> exact z
/-- an attribute of an object, by its own dict -/
theorem get_inst {x dx C : Addr} {m : Str → Option Value} {name : Str} {v : Value} {expr : Bool} (S : ST w mg mb c t mu n s) (hx : At s.heap x (InsO C dx)) (hd : At s.heap dx (NsO k m)) (hv : m name = some v)
    (hga : findIn (K1 w.params) (.ref C) "__getattribute__" = some (some (.builtin "object.__getattribute__"))) (hn : findIn (K1 w.params) (.ref C) name = some none) (hc : (clsIn (K1 w.params) C).any (·.hasDict) = true)
    (hh : handedIn v = true) (h : ∀ s', ST w mg mb c t mu n s' → s'.heap = s.heap → Q v s') : wpAny (model prog w) A (getAttr (.ref x) name expr) Q E s := by
  obtain ⟨od, I, N⟩ := hx.inst hd
  obtain ⟨cd, hc, hd'⟩ := any_some hc
  refine get_value S.X I hga ?_ hh (h _ S.toks rfl)
  unfold findObj
  rw [hc, Option.bind_some, hn, Option.bind_some, Option.bind_some, Option.bind_some]
  dsimp only
  unfold PySem.W.ownOf
  rw [if_pos hd']
  dsimp only
  rw [N.look, hv]
  rfl
/-- a method of an object -/
theorem meth_inst {x dx C f : Addr} {m : Str → Option Value} {name : Str} {pl : Sem Bool} {Q : Value × List Value → Shared → Prop} (S : ST w mg mb c t mu n s) (hx : At s.heap x (InsO C dx)) (hd : At s.heap dx (NsO k m)) (hv : m name = none)
    (hga : findIn (K1 w.params) (.ref C) "__getattribute__" = some (some (.builtin "object.__getattribute__"))) (hk : findIn (K1 w.params) (.ref C) "__getattr__" = some none)
    (hf : findIn (K1 w.params) (.ref C) name = some (some (.ref f))) (ht : typeIn (K1 w.params) (.ref f) = some (.type "function")) (h : Q (.ref f, [.ref x]) s) :
    wpAny (model prog w) A (getMethod (.ref x) name pl) Q E s := by
  obtain ⟨od, I, N⟩ := hx.inst hd
  exact method_fn S.X I hga hk hf ht (by unfold shadowIn; dsimp only; rw [N.look, hv]; rfl) h
theorem cwK {f : Value} {first : List Value} {pos : Pos} {e : PySem.Expr} {rest : List PySem.Expr} (S : ST w mg mb c t mu n s) (hk : keepIn (K1 w.params) f = true)
    (h : wpAny (model prog w) A (spliced (backTo pos (starEach (e :: rest) env))) (fun vs s₁ => (K1 w.params).In s₁.heap ∧ wpAny (model prog w) A (call f (first ++ vs)) Q E s₁) E s)
    (he : starEach (e :: rest) env = (false, eval e env) :: starEach rest env := by rfl) (hplain : (backTo pos (starEach rest env)).any (·.1) = false := by rfl) :
    wpAny (model prog w) A (callWith pos f first (backTo pos (starEach (e :: rest) env)) []) Q E s := callWith_K (h₀ := s.heap) S.X hk h he hplain
theorem cwK0 {f : Value} {first : List Value} {pos : Pos} (S : ST w mg mb c t mu n s) (hk : keepIn (K1 w.params) f = true) (h : wpAny (model prog w) A (call f (first ++ [])) Q E s) :
    wpAny (model prog w) A (callWith pos f first (backTo pos (starEach [] env)) []) Q E s := callWith_K0 S.X hk h
theorem St.XX {P : Prop} (S : ST w mg mb c t mu n s) (h : P) : (K1 w.params).In s.heap ∧ P := ⟨S.X, h⟩
theorem new_dictK {K : Type} [DecidableEq K] {knd : KeyKind prog w K} {pos : Pos} (S : ST w mg mb c t mu n s)
    (h : ∀ s' a, c.N ≤ a → (a == sysModules) = false → ST w mg mb c t ((a, DctO knd []) :: mu) n s' → Q (.ref a) s') : wpAny (model prog w) A (eval (.Dict [] [] pos) env) Q E s :=
  wpAny_Dict_empty (h _ _ S.NL S.neSys (S.newMu dctO_nil))
end
end
open PySem PySem.W PyProof.Rows PySem.Calls
local macro_rules | `(tactic| w_left) => `(tactic| first
  | ((with_reducible show wpAny _ _ (callWith _ (Value.ref _) _ _ _) _ _ _); first
    | (refine cwK (by assumption) (by kernel_rfl) ?_)
    | (refine cwK0 (by assumption) (by kernel_rfl) ?_))
  | ((with_reducible show (K1 _).In _ ∧ _); refine St.XX (by assumption) ?_; try dsimp only [List.nil_append, List.cons_append]))
section
open PySem PySem.W PyProof.Rows PySem.Calls
section
variable {prog : Program} {w : World} {mg mb : Str → Option Value} {A : Around} {s : Shared} {c : Cx} {t : Heap} {mu : List (Addr × (Obj → Prop))} {n : Nm} {Q E : Value → Shared → Prop} {env : Env} {k : Nat}
theorem mk_String {b : List UInt8} {tk : Tok} (S : ST w mg mb c t mu n s) (Ra : Ar A env c (k + 2))
    (ret : ∀ v t' s', Sub t t' → Rep prog w t' v (.oct b) → ST w mg mb c t' mu n s' → Q v s') : wpAny (model prog w) A (call (.ref 212) [.bytes b.toArray tk]) Q E s := by
  refine make_inst S (by kernel_rfl) (fI := 209) (by kernel_rfl) (by kernel_rfl) fun x dx s₁ hdx hx S₁ => ?_
  refine code_def (D := [(x, InsO 212 dx), (dx, NsO 0 fun _ => none)]) (R := mu) (k := k) (binds := [("self", .ref x), ("octets", .bytes b.toArray tk), ("is_hex", .bool false)]) S₁ Ra.make S.1.pf.nl (at_209 S.1.pf) rfl (cr_209 S.1.pf)
    (BindsTo.of_defaults rfl (S₁.get (at_202 S.1.pf)) rfl rfl rfl) (locs rfl) (by decide +kernel) rfl rfl rfl ?_
  intro c₁ s₂ env₁ A₁ n₀ _ _ _ S₂ R₁ bk Q₁ E₁
  refine w_cons ?_
  intro K₀
  repeat w_left
  refine set_inst S₂ (S₂.atM (.head _)) (.tail .head) (by decide) (by kernel_rfl) (by kernel_rfl) (by kernel_rfl) (by kernel_rfl) fun s₃ S₃ => ?_
  try dsimp only
  repeat w_left
  refine set_inst S₃ (S₃.atM (.head _)) (.tail .head) (by decide) (by kernel_rfl) (by kernel_rfl) (by kernel_rfl) (by kernel_rfl) fun s₄ S₄ => ?_
  try dsimp only
  repeat w_left
  refine ⟨rfl, ?_⟩
  have S₅ := bk _ [] [_, _] [] _ _ S₄ rfl
  obtain ⟨t₁, x1, a1, S₆⟩ := S₅.freezeT hx
  obtain ⟨t₂, x2, a2, S₇⟩ := S₆.freezeT hdx
  exact ret _ _ _ (fun a o e => x2 _ _ (x1 _ _ e)) (.oct (tk := tk) (a1.sub x2) a2 rfl rfl) S₇
end
end
section
open PySem PySem.W PyProof.Rows PySem.Calls
section
variable {prog : Program} {w : World} {mg mb : Str → Option Value} {A : Around} {s : Shared} {c : Cx} {t : Heap} {mu : List (Addr × (Obj → Prop))} {n : Nm} {Q E : Value → Shared → Prop} {env : Env} {k : Nat}
theorem mk_Reference {i g : Int} {ti tg : Tok} (S : ST w mg mb c t mu n s) (Ra : Ar A env c (k + 2))
    (ret : ∀ v t' s', Sub t t' → Rep prog w t' v (.ref i g) → ST w mg mb c t' mu n s' → Q v s') : wpAny (model prog w) A (call (.ref 261) [.int i ti, .int g tg]) Q E s := by
  refine make_inst S (by kernel_rfl) (fI := 251) (by kernel_rfl) (by kernel_rfl) fun x dx s₁ hdx hx S₁ => ?_
  refine code_def (D := [(x, InsO 261 dx), (dx, NsO 0 fun _ => none)]) (R := mu) (k := k) (binds := [("self", .ref x), ("number", .int i ti), ("generation", .int g tg)]) S₁ Ra.make S.1.pf.nl (at_251 S.1.pf) rfl (cr_251 S.1.pf)
    (BindsTo.of_eq rfl) (locs rfl) (by decide +kernel) rfl rfl rfl ?_
  intro c₁ s₂ env₁ A₁ n₀ _ hN _ S₂ R₁ bk Q₁ E₁
  refine w_cons ?_
  intro K₀
  repeat w_left
  refine set_inst S₂ (S₂.atM (.head _)) (.tail .head) (by decide) (by kernel_rfl) (by kernel_rfl) (by kernel_rfl) (by kernel_rfl) fun s₃ S₃ => ?_
  try dsimp only
  repeat w_left
  refine set_inst S₃ (S₃.atM (.head _)) (.tail .head) (by decide) (by kernel_rfl) (by kernel_rfl) (by kernel_rfl) (by kernel_rfl) fun s₄ S₄ => ?_
  try dsimp only
  repeat w_left
  refine ⟨rfl, ?_⟩
  have S₅ := bk _ [] [_, _] [] _ _ S₄ rfl
  obtain ⟨t₁, x1, a1, S₆⟩ := S₅.freezeT hx
  obtain ⟨t₂, x2, a2, S₇⟩ := S₆.freezeT hdx
  exact ret _ _ _ (fun a o e => x2 _ _ (x1 _ _ e)) (.ref (tn := ti) (tg := tg) (a1.sub x2) a2 rfl rfl) S₇
/-- a shelf: an object, its dict, its two dicts -/
theorem mk_Shelf (S : ST w mg mb c t mu n s) (Ra : Ar A env c (k + 2))
    (ret : ∀ x dx a b m s', c.N ≤ x → c.N ≤ dx → c.N ≤ a → c.N ≤ b → (a == sysModules) = false → (b == sysModules) = false → m "table" = some (.ref a) → m "trailer" = some (.ref b) → (∀ y : Str, y ≠ "table" → y ≠ "trailer" → m y = none) →
      ST w mg mb c t ((b, DctO (PySem.strKind prog w) []) :: (a, DctO (intKind prog w) []) :: (x, InsO 370 dx) :: (dx, NsO 2 m) :: mu) n s' → Q (.ref x) s') : wpAny (model prog w) A (call (.ref 370) []) Q E s := by
  refine make_inst S (by kernel_rfl) (fI := 299) (by kernel_rfl) (by kernel_rfl) fun x dx s₁ hdx hx S₁ => ?_
  refine code_def (D := [(x, InsO 370 dx), (dx, NsO 0 fun _ => none)]) (R := mu) (k := k) (binds := [("self", .ref x), ("table", .none), ("trailer", .none)]) S₁ Ra.make S.1.pf.nl (at_299 S.1.pf) rfl (cr_299 S.1.pf)
    (BindsTo.of_defaults rfl (S₁.get (at_292 S.1.pf)) rfl rfl rfl) (locs rfl) (by decide +kernel) rfl rfl rfl ?_
  intro c₁ s₂ env₁ A₁ n₀ _ hN _ S₂ R₁ bk Q₁ E₁
  refine w_cons ?_
  intro K₀
  repeat w_left
  refine new_dictK (knd := intKind prog w) S₂ fun s₃ a ha sa S₃ => ?_
  repeat w_left
  refine set_inst S₃ (S₃.atM (.tail _ (.head _))) (.tail (.tail .head)) (by decide) (by kernel_rfl) (by kernel_rfl) (by kernel_rfl) (by kernel_rfl) fun s₄ S₄ => ?_
  repeat w_left
  refine new_dictK (knd := PySem.strKind prog w) S₄ fun s₅ b hb sb S₅ => ?_
  repeat w_left
  refine set_inst S₅ (S₅.atM (.tail _ (.tail _ (.head _)))) (.tail (.tail (.tail .head))) (by decide) (by kernel_rfl) (by kernel_rfl) (by kernel_rfl) (by kernel_rfl) fun s₆ S₆ => ?_
  repeat w_left
  refine ⟨rfl, ret x dx a b _ _ hx hdx (Nat.le_trans hN ha) (Nat.le_trans hN hb) sa sb rfl rfl (fun y h1 h2 => ?_) (bk _ [_, _] [_, _] [] _ _ S₆ rfl)⟩
  show (if y = "trailer" then _ else if y = "table" then _ else none) = none
  rw [if_neg h2, if_neg h1]
end
end
section
open PySem PySem.W PyProof.Rows PySem.Calls Builtin.ObjectAttr
noncomputable def TyOf (P : Params) (h : Heap) (v tp : Value) : Prop := v ≠ .builtin "__main__.__loader__#opaque" ∧ ∃ H, KitX (K1 P) v tp H ∧ H h
noncomputable def dTy : Dt → Value
  | .int _ => .type "int"
  | .str _ => .type "str"
  | .byt _ => .type "bytes"
  | .ref _ _ => .ref 261
  | .oct _ => .ref 212
  | .lst _ => .type "list"
  | .tup _ => .type "tuple"
  | .dct _ => .type "dict"
noncomputable def notByt : Dt → Bool
  | .byt _ => false
  | _ => true
section
variable {prog : Program} {w : World} {mg mb : Str → Option Value} {A : Around} {s : Shared} {c : Cx} {t : Heap} {mu mu' : List (Addr × (Obj → Prop))} {n : Nm} {E : Value → Shared → Prop} {env : Env} {k : Nat} {Q : Value → Shared → Prop} {v : Value} {d : Dt} {vs : List Value} {a x dx : Addr} {m : Str → Option Value}
theorem ty_list {h : Heap} (x : At h a (LstO vs)) : TyOf w.params h (.ref a) (.type "list") := by obtain ⟨_, e, n, rfl⟩ := x; exact ⟨nofun, _, kitx_list, ⟨_, e, rfl⟩⟩
theorem ty_tup {h : Heap} (x : At h a (TupO vs)) : TyOf w.params h (.ref a) (.type "tuple") := by obtain ⟨_, e, n, rfl⟩ := x; exact ⟨nofun, _, kitx_tuple, ⟨_, e, rfl⟩⟩
theorem ty_dict {h : Heap} {K : Type} [DecidableEq K] {knd : KeyKind prog w K} {kvs : List (K × Value)} (x : At h a (DctO knd kvs)) : TyOf w.params h (.ref a) (.type "dict") := by
  obtain ⟨o, e, es, ep, hc, _⟩ := x; exact ⟨nofun, _, kitx_dict, ⟨_, e, hc.1⟩⟩
theorem ty_none {h : Heap} : TyOf w.params h .none (.type "NoneType") := ⟨by decide, _, kitx_none, trivial⟩
theorem ty_int {h : Heap} {i : Int} {tk : Tok} : TyOf w.params h (.int i tk) (.type "int") := ⟨nofun, _, kitx_int, trivial⟩
theorem ty_str {h : Heap} {i : Str} {tk : Tok} : TyOf w.params h (.str i tk) (.type "str") := ⟨nofun, _, kitx_str, trivial⟩
theorem ty_261 {h : Heap} (hx : At h x (InsO 261 dx)) (hd : At h dx (NsO k m)) : TyOf w.params h (.ref x) (.ref 261) := by
  obtain ⟨od, I, _⟩ := hx.inst hd
  exact ⟨nofun, _, kitx_own (by kernel_rfl) (by kernel_rfl) (by kernel_rfl) (by kernel_rfl) (by kernel_rfl) (by kernel_rfl), I⟩
theorem ty_212 {h : Heap} (hx : At h x (InsO 212 dx)) (hd : At h dx (NsO k m)) : TyOf w.params h (.ref x) (.ref 212) := by
  obtain ⟨od, I, _⟩ := hx.inst hd
  exact ⟨nofun, _, kitx_own (by kernel_rfl) (by kernel_rfl) (by kernel_rfl) (by kernel_rfl) (by kernel_rfl) (by kernel_rfl), I⟩
theorem Rep.ty (S : ST w mg mb c t mu n s) (r : Rep prog w t v d) (hb : notByt d = true) : TyOf w.params s.heap v (dTy d) := by
  cases r with
  | int i tk => exact ty_int
  | str i tk => exact ty_str
  | byt => cases hb
  | ref a b _ _ => exact ty_261 (S.atT a) (S.atT b)
  | oct a b _ _ => exact ty_212 (S.atT a) (S.atT b)
  | lst a _ _ => exact ty_list (S.atT a)
  | tup a _ _ => exact ty_tup (S.atT a)
  | dct a _ _ _ => exact ty_dict (S.atT a)
theorem isi {tp cc : Value} {b : Bool} (S : ST w mg mb c t mu n s) (T : TyOf w.params s.heap v tp) (e : kitOne (K1 w.params) tp cc = some b) (h : ∀ s', ST w mg mb c t mu n s' → s'.heap = s.heap → Q (.bool b) s') :
    wpAny (model prog w) A (call (.builtin "isinstance") [v, cc]) Q E s := by
  obtain ⟨hx, H, Z, p⟩ := T
  exact kia_one Z S.X p e hx fun tk => h _ S.toks rfl
/-- the parts of a Reference, of a String -/
theorem ref_number {i g : Int} {expr : Bool} (S : ST w mg mb c t mu n s) (r : Rep prog w t v (.ref i g)) (h : ∀ s' tk, ST w mg mb c t mu n s' → s'.heap = s.heap → Q (.int i tk) s') : wpAny (model prog w) A (getAttr v "number" expr) Q E s := by
  cases r with
  | ref a b e f => exact get_inst S (S.atT a) (S.atT b) e (by kernel_rfl) (by kernel_rfl) (by kernel_rfl) rfl fun s' S' q => h s' _ S' q
theorem ref_generation {i g : Int} {expr : Bool} (S : ST w mg mb c t mu n s) (r : Rep prog w t v (.ref i g)) (h : ∀ s' tk, ST w mg mb c t mu n s' → s'.heap = s.heap → Q (.int g tk) s') : wpAny (model prog w) A (getAttr v "generation" expr) Q E s := by
  cases r with
  | ref a b e f => exact get_inst S (S.atT a) (S.atT b) f (by kernel_rfl) (by kernel_rfl) (by kernel_rfl) rfl fun s' S' q => h s' _ S' q
theorem oct_octets {b : List UInt8} {expr : Bool} (S : ST w mg mb c t mu n s) (r : Rep prog w t v (.oct b)) (h : ∀ s' tk, ST w mg mb c t mu n s' → s'.heap = s.heap → Q (.bytes b.toArray tk) s') : wpAny (model prog w) A (getAttr v "octets" expr) Q E s := by
  cases r with
  | oct a b e f => exact get_inst S (S.atT a) (S.atT b) e (by kernel_rfl) (by kernel_rfl) (by kernel_rfl) rfl fun s' S' q => h s' _ S' q
/-- bytes([i]) -/
theorem call_bytes1 {i : Nat} {tk : Tok} (S : ST w mg mb c t mu n s) (Ra : Ar A env c k) (x : At s.heap a (LstO [.int i tk])) (hi : i < 256) (h : ∀ s' u, ST w mg mb c t mu n s' → Q (.bytes [i.toUInt8].toArray u) s') :
    wpAny (model prog w) A (call (.type "bytes") [.ref a]) Q E s := by
  refine call_bytes_ints (ns := [(i : Int)]) x.isList (IntsAre.cons _ _ IntsAre.nil) (fun n hn => ?_) (by show 1 ≤ _; decide) Ra.hd fun h' u k hk => ?_
  · rw [List.mem_singleton] at hn; subst hn; omega
  · have e : byteArr [(i : Int)] = [i.toUInt8].toArray := by simp [byteArr]
    rw [e]
    exact h _ _ (S.grow hk)
end
end
section
open PySem PySem.W PyProof.Rows PySem.Calls
theorem zi (i : Nat) : (0 : Int) + (i : Int) * 1 = (i : Int) := by omega
theorem i63 {a b : Nat} (h : a < b) (h2 : b ≤ 10000) : (a : Int) < 2 ^ 63 := by omega
theorem sz1 {n m : Nat} (h : n ≤ m) (hm : m ≤ 10000) : n ≤ sizeLine := by rw [sizeLine_eq]; omega
theorem sz2 {n m : Nat} (h : n = m) {l : Nat} (hl : m ≤ l) (hm : l ≤ 10000) : n ≤ sizeLine := by rw [sizeLine_eq]; omega
noncomputable def LitO (l : Addr) (i : Nat) : Obj → Prop := fun o => o.cls = .type "list_iterator" ∧ o.data = .fields #[.ref l, .int i 0]
noncomputable def RitO (a c len : Int) (i : Nat) : Obj → Prop := fun o => o = { cls := .type "range_iterator", data := .fields #[rawInt (a + i * c), rawInt (len - i), rawInt c] }
noncomputable def RevO (l : Addr) (j : Int) : Obj → Prop := fun o => o.cls = .type "list_reverseiterator" ∧ o.data = .fields #[.ref l, rawInt j]
noncomputable def EnuO (it : Addr) (i : Int) : Obj → Prop := fun o => ∃ old, o = { cls := .type "enumerate", dict := none, data := .fields #[.none, .bool false, .ref it, rawInt i, .none, old], slots := #[] }
noncomputable def EnoO (it : Addr) (i : Int) (v : Value) : Obj → Prop := fun o => ∃ a item, v = .ref a ∧ o = { cls := .type "enumerate", dict := none, data := .fields #[rawInt a, .bool false, .ref it, rawInt i, .none, item], slots := #[] }
noncomputable abbrev Mus := List (Addr × (Obj → Prop))
/-- what an iterator gives, turn by turn; im: its objects, imo: the same when an item has been handed out -/
structure ItOK (prog : Program) (w : World) (mg mb : Str → Option Value) (it : Addr) (ok : Heap → Prop) (im : Nat → Mus) (imo : Nat → Value → Mus) (val : Nat → Heap → Value → Prop) (len : Nat) : Prop where
  item : ∀ {A : Around} {env : Env} {c : Cx} {k : Nat} {t : Heap} {mu : Mus} {n : Nm} {s : Shared} {i : Nat} {Q : Option Value → Shared → Prop} {E : Value → Shared → Prop},
    Ar A env c k → ST w mg mb c t (im i ++ mu) n s → ok s.heap → i < len → (∀ v t' s', Sub t t' → val i t' v → ST w mg mb c t' (imo i v ++ mu) n s' → Q (some v) s') → wpAny (model prog w) A (pyNext (.ref it)) Q E s
  last : ∀ {A : Around} {env : Env} {c : Cx} {k : Nat} {t : Heap} {mu : Mus} {n : Nm} {s : Shared} {Q : Option Value → Shared → Prop} {E : Value → Shared → Prop},
    Ar A env c k → ST w mg mb c t (im len ++ mu) n s → ok s.heap → (∀ s', ST w mg mb c t mu n s' → Q none s') → wpAny (model prog w) A (pyNext (.ref it)) Q E s
noncomputable abbrev plainO (im : Nat → Mus) : Nat → Value → Mus := fun i _ => im (i + 1)
structure OwnOK (prog : Program) (w : World) (mg mb : Str → Option Value) (target : PySem.Expr) (it : Addr) (im : Nat → Mus) (imo : Nat → Value → Mus) (val : Nat → Heap → Value → Prop) : Prop where
  own : ∀ {A : Around} {c : Cx} {t : Heap} {mu : Mus} {n : Nm} {s : Shared} {i : Nat} {v : Value} {Q : Unit → Shared → Prop} {E : Value → Shared → Prop},
    ST w mg mb c t (imo i v ++ mu) n s → val i t v → (∀ s', ST w mg mb c t (im (i + 1) ++ mu) n s' → Q () s') → wpAny (model prog w) A (letOwnedTupleGo target (.ref it) v) Q E s
theorem own_plain {prog : Program} {w : World} {mg mb : Str → Option Value} {target : PySem.Expr} {it : Addr} {im : Nat → Mus} {val : Nat → Heap → Value → Prop} (ht : ∀ v, letOwnedTupleGo target (.ref it) v = pure ()) :
    OwnOK prog w mg mb target it im (plainO im) val := ⟨fun {A c t mu n s i v Q E} S _ h => by rw [ht v]; exact wpAny_pure (h _ S)⟩
section
variable {prog : Program} {w : World} {mg mb : Str → Option Value}
/-- an end: all but the iterator stands -/
theorem St.dropTo {c : Cx} {t : Heap} {mu : List (Addr × (Obj → Prop))} {n : Nm} {s : Shared} {it : Addr} {p : Obj → Prop} {h' : Heap} {tk : Nat} (S : ST w mg mb c t ((it, p) :: mu) n s) (hs : Heap.ExtBut it s.heap h') : ST w mg mb c t mu n { s with heap := h', toks := tk } := by
  have key : ∀ b o, b ≠ it → s.heap.get? b = some o → h'.get? b = some o := fun b o hb e => hs b o hb e
  obtain ⟨_, e2, e3, e4⟩ := S.1.mus _ (.head _)
  have S1 := S.1
  have nd := S1.nod
  rw [List.map_cons, List.nodup_cons] at nd
  refine ⟨{ S1 with
    ns := ?_, whole := ?_, keep := ?_, mus := ?_, nod := nd.2, cel := ?_, me := ?_ }, S.2⟩
  · obtain ⟨o, es, ep, e, r⟩ := S1.ns
    exact ⟨o, es, ep, key _ _ (fun z => e2 (z ▸ .head _)) e, r⟩
  · exact S1.whole.step fun b x y q1 q2 => key _ _ (fun z => by rw [z, e4] at q1; cases q1) q2
  · exact fun a o e => key _ _ (fun z => by rw [z, e3] at e; cases e) (S1.keep a o e)
  · intro p hp
    obtain ⟨⟨o, e, q⟩, r⟩ := S1.mus p (.tail _ hp)
    exact ⟨⟨o, key _ _ (fun z => nd.1 (List.mem_map.mpr ⟨p, hp, z⟩)) e, q⟩, r⟩
  · intro x a e
    obtain ⟨⟨o, f1, f1'⟩, f2, f3, f4⟩ := S1.cel x a e
    exact ⟨⟨o, key _ _ (fun z => f3 _ (.head _) z.symm) f1, f1'⟩, f2, fun p hp => f3 p (.tail _ hp), f4⟩
  · obtain ⟨o, e, r⟩ := S1.me
    exact ⟨o, key _ _ (fun z => e2 (z ▸ Cx.FG (.head _))) e, r⟩
/-- some mutable objects have turned, all else stands -/
theorem SH.remake {P : Heap → Prop} {c : Cx} {t h h' : Heap} {mu old new : Mus} {n : Nm} (S : SH P c t (old ++ mu) n h)
    (hn : ∀ p ∈ new, p.1 ∈ old.map (·.1) ∧ ∃ o, h'.get? p.1 = some o ∧ p.2 o) (hd : (new.map (·.1)).Nodup) (_ : ((old ++ mu).map (·.1)).Nodup)
    (key : ∀ b o, b ∉ old.map (·.1) → h.get? b = some o → h'.get? b = some o) : SH P c t (new ++ mu) n h' := by
  have nd := S.nod
  rw [List.map_append] at nd
  have nd' := List.nodup_append.mp nd
  have oldM : ∀ a, a ∈ old.map (·.1) → a ∉ c.G ∧ t.get? a = none ∧ c.wh.get? a = none ∧ a ∉ mu.map (·.1) ∧ ∀ x b, c.cells.lookup x = some b → a ≠ b := fun a ha => by
    obtain ⟨p, hp, rfl⟩ := List.mem_map.mp ha
    obtain ⟨_, q2, q3, q4⟩ := S.mus p (List.mem_append_left _ hp)
    exact ⟨q2, q3, q4, fun z => nd'.2.2 _ ha _ z rfl, fun x b e => (S.cel x b e).2.2.1 p (List.mem_append_left _ hp)⟩
  exact { S with
    ns := by
      obtain ⟨o, es, ep, e, r⟩ := S.ns
      exact ⟨o, es, ep, key _ _ (fun y => (oldM _ y).1 (.head _)) e, r⟩
    whole := S.whole.step fun b x y q1 q2 => key b y (fun z => by rw [(oldM _ z).2.2.1] at q1; cases q1) q2
    keep := fun a o e => key _ _ (fun y => by rw [(oldM _ y).2.1] at e; cases e) (S.keep a o e)
    mus := fun p hp => by
      rcases List.mem_append.mp hp with hp | hp
      · obtain ⟨q1, q2⟩ := hn p hp
        exact ⟨q2, (oldM _ q1).1, (oldM _ q1).2.1, (oldM _ q1).2.2.1⟩
      · obtain ⟨⟨o, e, q⟩, r⟩ := S.mus p (List.mem_append_right _ hp)
        exact ⟨⟨o, key _ _ (fun y => (oldM _ y).2.2.2.1 (List.mem_map_of_mem hp)) e, q⟩, r⟩
    nod := by
      rw [List.map_append]
      exact List.nodup_append.mpr ⟨hd, nd'.2.1, fun a ha b hb r => by
        obtain ⟨p, hp, rfl⟩ := List.mem_map.mp ha
        exact (oldM _ (hn p hp).1).2.2.2.1 (r ▸ hb)⟩
    cel := fun x a e => by
      obtain ⟨⟨o, f1, f1'⟩, f2, f3, f4⟩ := S.cel x a e
      refine ⟨⟨o, key _ _ (fun y => (oldM _ y).2.2.2.2 x a e rfl) f1, f1'⟩, f2, fun p hp => ?_, f4⟩
      rcases List.mem_append.mp hp with hp | hp
      · exact (oldM _ (hn p hp).1).2.2.2.2 x a e
      · exact f3 p (List.mem_append_right _ hp)
    me := by
      obtain ⟨o, e, r⟩ := S.me
      exact ⟨o, key _ _ (fun y => (oldM _ y).1 (Cx.FG (.head _))) e, r⟩ }
theorem it_list {l it : Addr} {vs : List Value} : ItOK prog w mg mb it (fun h => At h l (LstO vs)) (fun i => [(it, LitO l i)]) (plainO fun i => [(it, LitO l i)]) (fun i _ v => vs[i]? = some v) vs.length where
  item := fun {A env c k t mu n s i Q E} Ra S ok hi h => by
    obtain ⟨o, e, hc, hd⟩ := S.inMu (.head _)
    refine wpAny_pyNext_list_item (x := vs[i]) ⟨o, e, hc, hd⟩ ok.isList (by simp [hi]) fun h' hit hs => ?_
    obtain ⟨o', e', hc', hd'⟩ := hit
    exact h _ t _ (fun _ _ e => e) (List.getElem?_eq_getElem hi) (S.write .head (fun b x hb e => (hs.2 b hb).trans e) e' ⟨hc', hd'⟩)
  last := fun {A env c k t mu n s Q E} Ra S ok h => by
    obtain ⟨o, e, hc, hd⟩ := S.inMu (.head _)
    refine wpAny_pyNext_list_end Ra.hd ⟨o, e, hc, hd⟩ ok.isList (by simp) fun h' hs => ?_
    exact h _ (S.dropTo hs)
theorem it_rev {l it : Addr} {vs : List Value} : ItOK prog w mg mb it (fun h => At h l (LstO vs)) (fun i => [(it, RevO l ((vs.length : Int) - 1 - i))]) (plainO fun i => [(it, RevO l ((vs.length : Int) - 1 - i))]) (fun i _ v => vs.reverse[i]? = some v) vs.length where
  item := fun {A env c k t mu n s i Q E} Ra S ok hi h => by
    obtain ⟨o, e, hc, hd⟩ := S.inMu (.head _)
    have e1 : (vs.length : Int) - 1 - (i : Int) = ((vs.length - 1 - i : Nat) : Int) := by omega
    rw [e1] at hd
    refine wpAny_pyNext_rev_item (x := vs[vs.length - 1 - i]) ⟨o, e, hc, hd⟩ ok.isList (by simp) fun h' hit hs => ?_
    obtain ⟨o', e', hc', hd'⟩ := hit
    have e2 : ((vs.length - 1 - i : Nat) : Int) - 1 = (vs.length : Int) - 1 - ((i + 1 : Nat) : Int) := by omega
    rw [e2] at hd'
    exact h _ t _ (fun _ _ e => e) (by rw [List.getElem?_reverse hi, List.getElem?_eq_getElem]) (S.write .head (fun b x hb e => (hs.2 b hb).trans e) e' ⟨hc', hd'⟩)
  last := fun {A env c k t mu n s Q E} Ra S ok h => by
    obtain ⟨o, e, hc, hd⟩ := S.inMu (.head _)
    have e1 : (vs.length : Int) - 1 - (vs.length : Int) = -1 := by omega
    rw [e1] at hd
    exact wpAny_pyNext_rev_end Ra.hd ⟨o, e, hc, hd⟩ fun h' hs => h _ (S.dropTo hs)
theorem it_range {a cc : Int} {len : Nat} {it : Addr} : ItOK prog w mg mb it (fun _ => True) (fun i => [(it, RitO a cc len i)]) (plainO fun i => [(it, RitO a cc len i)]) (fun i _ v => ∃ tk, v = .int (a + i * cc) tk) len where
  item := fun {A env c k t mu n s i Q E} Ra S ok hi h => by
    obtain ⟨o, e, rfl⟩ := S.inMu (.head _)
    refine wpAny_pyNext_range_item e (by omega) fun h' hit hs => ?_
    refine h _ t _ (fun _ _ e => e) ⟨_, rfl⟩ (S.write .head (fun b x hb e => (hs.2 b hb).trans e) hit ?_)
    show _ = _
    rw [show a + (i : Int) * cc + cc = a + ((i + 1 : Nat) : Int) * cc by rw [Int.natCast_add, Int.add_mul]; omega, show (len : Int) - (i : Int) - 1 = len - ((i + 1 : Nat) : Int) by omega]
  last := fun {A env c k t mu n s Q E} Ra S ok h => by
    obtain ⟨o, e, rfl⟩ := S.inMu (.head _)
    exact wpAny_pyNext_range_end Ra.hd e (by omega) fun h' hs => h _ (S.dropTo hs)
theorem it_enum {l it e : Addr} {vs : List Value} : ItOK prog w mg mb e (fun h => At h l (LstO vs)) (fun i => [(e, EnuO it i), (it, LitO l i)]) (fun i v => [(e, EnoO it ((i + 1 : Nat) : Int) v), (it, LitO l (i + 1))])
    (fun i t v => ∃ a tk x, v = .ref a ∧ At t a (TupO [.int i tk, x]) ∧ vs[i]? = some x) vs.length where
  item := fun {A env c k t mu n s i Q E} Ra S ok hi h => by
    obtain ⟨o, e1, old, rfl⟩ := S.inMu (.head _)
    obtain ⟨o2, e2, hc, hd⟩ := S.inMu (.tail _ (.head _))
    have ne : e ≠ it := fun z => by
      have := S.1.nod
      rw [List.cons_append, List.map_cons, List.nodup_cons] at this
      exact this.1 (z ▸ .head _)
    refine wpAny_pyNext_enum_item e1 ⟨o2, e2, hc, hd⟩ ok.isList (x := vs[i]) (by simp [hi]) ne fun h' q1 q2 q3 q4 q5 => ?_
    obtain ⟨o', e', hc', hd'⟩ := q2
    have fr : s.heap.get? s.heap.objs.size = none := Heap.get?_none_of_le (Nat.le_refl _)
    have S1 := (S.newMu (o := { cls := .type "tuple", data := .seq #[.int i s.toks, vs[i]] }) (p := TupO [.int i s.toks, vs[i]]) ⟨0, rfl⟩)
    have S2 : ST w mg mb c t ((e, EnoO it ((i + 1 : Nat) : Int) (.ref s.heap.objs.size)) :: (it, LitO l (i + 1)) :: (s.heap.objs.size, TupO [.int i s.toks, vs[i]]) :: mu) n { s with heap := h', toks := s.toks + 1 } := by
      refine ⟨SH.remake (new := [(e, EnoO it ((i + 1 : Nat) : Int) (.ref s.heap.objs.size)), (it, LitO l (i + 1)), (s.heap.objs.size, TupO [.int i s.toks, vs[i]])]) (old := [(s.heap.objs.size, TupO [.int i s.toks, vs[i]]), (e, EnuO it i), (it, LitO l i)]) S1.1 ?_ ?_ ?_ ?_, S.2⟩
      · intro p hp
        rcases List.mem_cons.mp hp with rfl | hp
        · exact ⟨.tail _ (.head _), _, q1, s.heap.objs.size, vs[i], rfl, by rw [Int.natCast_add]; rfl⟩
        · rcases List.mem_cons.mp hp with rfl | hp
          · exact ⟨.tail _ (.tail _ (.head _)), _, e', hc', hd'⟩
          · rcases List.mem_cons.mp hp with rfl | hp
            · exact ⟨.head _, _, q3, 0, rfl⟩
            · cases hp
      · have nd := S1.1.nod
        simp only [List.cons_append, List.nil_append, List.map_cons, List.nodup_cons, List.map_nil, List.not_mem_nil, not_false_eq_true, List.nodup_nil, and_true, List.mem_cons, not_or] at nd ⊢
        exact ⟨⟨nd.2.1.1, Ne.symm nd.1.1⟩, Ne.symm nd.1.2.1⟩
      · exact S1.1.nod
      · intro b o hb e0
        have h0 : b ≠ e := fun z => hb (by simp [z])
        have h1 : b ≠ it := fun z => hb (by simp [z])
        have h2 : b ≠ s.heap.objs.size := fun z => hb (by simp [z])
        refine q5 b o h0 h1 ?_
        have := e0
        rwa [show ({ s with heap := s.heap.push { cls := .type "tuple", data := .seq #[.int i s.toks, vs[i]] } } : Shared).heap = s.heap.push { cls := .type "tuple", data := .seq #[.int i s.toks, vs[i]] } from rfl, Heap.get?_push_ne _ _ _ h2] at this
    have S3 := S2.perm (List.perm_middle (l₁ := [(e, EnoO it ((i + 1 : Nat) : Int) (.ref s.heap.objs.size)), (it, LitO l (i + 1))]))
    obtain ⟨t', x1, a1, S4⟩ := S3.freezeT S.NL
    exact h _ t' _ x1 ⟨_, _, _, rfl, a1, List.getElem?_eq_getElem hi⟩ S4
  last := fun {A env c k t mu n s Q E} Ra S ok h => by
    obtain ⟨o, e1, old, rfl⟩ := S.inMu (.head _)
    obtain ⟨o2, e2, hc, hd⟩ := S.inMu (.tail _ (.head _))
    refine wpAny_pyNext_enum_end Ra.hd e1 ⟨o2, e2, hc, hd⟩ ok.isList (by simp) fun h' hs => ?_
    exact h _ ((S.sub (List.sublist_cons_self ..)).dropTo hs)
theorem own_enum {l it e : Addr} {vs : List Value} {elts : List PySem.Expr} {x1 : Nat} {pos : Pos} : OwnOK prog w mg mb (.Tuple elts x1 pos) e (fun i => [(e, EnuO it i), (it, LitO l i)]) (fun i v => [(e, EnoO it ((i + 1 : Nat) : Int) v), (it, LitO l (i + 1))])
    (fun i t v => ∃ a tk x, v = .ref a ∧ At t a (TupO [.int i tk, x]) ∧ vs[i]? = some x) := ⟨fun {A c t mu n s i v Q E} S _ h => by
  obtain ⟨o, e1, a, item, rfl, rfl⟩ := S.inMu (.head _)
  refine wpAny_letOwnedTupleGo_enum (i := ((i + 1 : Nat) : Int)) e1 fun h' q hs => ?_
  exact h _ (S.write .head (fun b x hb e => (hs.2 b hb).trans e) q ⟨_, rfl⟩)⟩
variable {A : Around} {s : Shared} {c : Cx} {t : Heap} {mu mu' : Mus} {n : Nm} {E : Value → Shared → Prop} {env : Env} {k : Nat}
/-- a for over an iterator that stands: J says of the turns that are done what data, objects and names there are -/
theorem for_go {ok : Heap → Prop} {im : Nat → Mus} {imo : Nat → Value → Mus} {val : Nat → Heap → Value → Prop} {len : Nat} {target : PySem.Expr} {it : Addr} {body : List Stmt} {R : Result → Shared → Prop} (Z : ItOK prog w mg mb it ok im imo val len)
    (Zo : OwnOK prog w mg mb target it im imo val)
    (J : Nat → Heap → Mus → Nm → Prop) (Ra : Ar A env c k) (S : ST w mg mb c t (im 0 ++ mu) n s) (h0 : J 0 t mu n)
    (hok : ∀ i t' mu' n' s' p, J i t' mu' n' → ST w mg mb c t' (p ++ mu') n' s' → ok s'.heap)
    (turn : ∀ i v t₀ t' mu' n' s', i < len → val i t' v → J i t₀ mu' n' → Sub t₀ t' → ST w mg mb c t' (im (i + 1) ++ mu') n' s' →
      let Eb : Value → Shared → Prop := notedBy (model prog w) A env fun e s' => R (.error e) s'
      let Qb : Flow → Shared → Prop := fun f s₃ => match f with
        | .next | .cont => ∃ t'' mu'' n'', J (i + 1) t'' mu'' n'' ∧ ST w mg mb c t'' (im (i + 1) ++ mu'') n'' s₃
        | .brk => R (.ok .next) s₃
        | .ret v => R (.ok (.ret v)) s₃
      wpAny (model prog w) A (assign target env v) (fun _ s₂ => wpAny (model prog w) A (execs body env) Qb Eb s₂) Eb s')
    (done : ∀ t' mu' n' s', J len t' mu' n' → ST w mg mb c t' mu' n' s' → R (.ok .next) s') :
    codeAny (model prog w) A (.forLoop target (.ref it) body [] env) R s := by
  refine codeAny_forLoop_any (I := fun m s' => ∃ i t' mu' n', i ≤ len ∧ m = len - i ∧ J i t' mu' n' ∧ ST w mg mb c t' (im i ++ mu') n' s') (fun m s' hI => ?_) len ⟨0, t, mu, n, Nat.zero_le _, rfl, h0, S⟩
  obtain ⟨i, t', mu', n', hi, rfl, hJ, S'⟩ := hI
  rcases Nat.lt_or_ge i len with hlt | hge
  · refine Z.item Ra S' (hok i _ _ _ _ _ hJ S') hlt fun v t₁ s₁ x1 hv S₁ => ?_
    refine Zo.own S₁ hv fun s₂ S₂ => ?_
    refine wpAny_mono (turn i v _ _ _ _ _ hlt hv hJ x1 S₂) (fun _ s₂ h₂ => wpAny_mono h₂ (fun f s₃ h₃ => ?_) fun _ _ z => z) fun _ _ z => z
    cases f with
    | next => obtain ⟨t'', mu'', n'', j, S''⟩ := h₃; exact ⟨len - (i + 1), by omega, i + 1, _, _, _, hlt, rfl, j, S''⟩
    | cont => obtain ⟨t'', mu'', n'', j, S''⟩ := h₃; exact ⟨len - (i + 1), by omega, i + 1, _, _, _, hlt, rfl, j, S''⟩
    | brk => exact h₃
    | ret v => exact h₃
  · obtain rfl : i = len := Nat.le_antisymm hi hge
    refine Z.last Ra S' (hok _ _ _ _ _ _ hJ S') fun s₁ S₁ => ?_
    exact wpAny_execs_nil (done _ _ _ _ hJ S₁)
theorem iter_enum {l : Addr} {vs : List Value} {Q : Value → Shared → Prop} (S : ST w mg mb c t mu n s) (x : At s.heap l (LstO vs)) (h : ∀ e it s', c.N ≤ e → c.N ≤ it → ST w mg mb c t ((e, EnuO it 0) :: (it, LitO l 0) :: mu) n s' → Q (.ref e) s') :
    wpAny (model prog w) A (call (.type "enumerate") [.ref l]) (fun x s₁ => wpAny (model prog w) A (pyIter x) Q E s₁) E s := by
  refine call_enumerate_list x.isList fun h' q1 q2 q3 q4 => ?_
  refine wpAny_pyIter_enum q1 ?_
  obtain ⟨o, e', hc, hd⟩ := q2
  have S1 := (S.newMu (o := emptyDict) (p := fun o => o = emptyDict) rfl).newMu (o := emptyDict) (p := fun o => o = emptyDict) rfl
  have ez : (s.heap.push emptyDict).objs.size = s.heap.objs.size + 1 := Heap.size_push ..
  dsimp only at S1
  rw [ez] at S1
  refine h _ s.heap.objs.size _ (Nat.le_succ_of_le S.NL) S.NL ⟨SH.remake (new := [(s.heap.objs.size + 1, EnuO s.heap.objs.size 0), (s.heap.objs.size, LitO l 0)]) (old := [(s.heap.objs.size + 1, fun o => o = emptyDict), (s.heap.objs.size, fun o => o = emptyDict)]) S1.1 ?_ ?_ ?_ ?_, S.2⟩
  · intro p hp
    rcases List.mem_cons.mp hp with rfl | hp
    · exact ⟨.head _, _, q1, _, rfl⟩
    · rcases List.mem_cons.mp hp with rfl | hp
      · exact ⟨.tail _ (.head _), _, e', hc, hd⟩
      · cases hp
  · simp
  · exact S1.1.nod
  · intro b o hb e0
    have h1 : b ≠ s.heap.objs.size := fun z => hb (by simp [z])
    have h2 : b ≠ s.heap.objs.size + 1 := fun z => hb (by simp [z])
    refine q4 b o ?_
    have := e0
    rwa [show ({ s with heap := (s.heap.push emptyDict).push emptyDict } : Shared).heap = (s.heap.push emptyDict).push emptyDict from rfl, Heap.get?_push_ne _ _ _ (by rw [ez]; exact h2), Heap.get?_push_ne _ _ _ h1] at this
theorem call_rev {l : Addr} {vs : List Value} {Q : Value → Shared → Prop} (S : ST w mg mb c t mu n s) (x : At s.heap l (LstO vs)) (h : ∀ it s', c.N ≤ it → ST w mg mb c t ((it, RevO l ((vs.length : Int) - 1 - (0 : Nat))) :: mu) n s' → Q (.ref it) s') :
    wpAny (model prog w) A (call (.type "reversed") [.ref l]) Q E s := by
  refine call_reversed_list x.isList ?_
  exact h _ _ S.NL (S.newMu ⟨rfl, by show Data.fields #[Value.ref l, rawInt _] = _; congr 4; simp⟩)
theorem iter_rev {it l : Addr} {j : Int} {Q : Value → Shared → Prop} (S : ST w mg mb c t mu n s) (hm : (it, RevO l j) ∈ mu) (h : Q (.ref it) s) : wpAny (model prog w) A (pyIter (.ref it)) Q E s := by
  obtain ⟨o, e, hc, hd⟩ := S.inMu hm
  exact wpAny_pyIter_revIter ⟨o, e, hc, hd⟩ h
theorem iter_list {l : Addr} {vs : List Value} {Q : Value → Shared → Prop} (S : ST w mg mb c t mu n s) (x : At s.heap l (LstO vs)) (h : ∀ it s', c.N ≤ it → ST w mg mb c t ((it, LitO l 0) :: mu) n s' → Q (.ref it) s') :
    wpAny (model prog w) A (pyIter (.ref l)) Q E s := wpAny_pyIter_list x.isList (h _ _ S.NL (S.newMu ⟨rfl, rfl⟩))
theorem iter_range1 {m : Nat} {tk : Tok} {Q : Value → Shared → Prop} (S : ST w mg mb c t mu n s) (hm : m < 2 ^ 60) (h : ∀ it s', c.N ≤ it → ST w mg mb c t ((it, RitO 0 1 m 0) :: mu) n s' → Q (.ref it) s') :
    wpAny (model prog w) A (call (.type "range") [.int m tk]) (fun x s₁ => wpAny (model prog w) A (pyIter x) Q E s₁) E s := by
  refine call_range_1 ?_
  have S1 := S.newMu (p := fun o => o = { cls := .type "range", data := .fields #[.int 0 s.toks, .int m tk, .int 1 (s.toks + 1)] }) rfl
  obtain ⟨o, e, rfl⟩ := S1.inMu (.head _)
  refine wpAny_pyIter_range e (small_one (by omega) (by omega) (by omega) (by omega)) ?_
  have S2 := (S1.sub (List.sublist_cons_self ..)).newMu (o := { cls := .type "range_iterator", data := .fields #[rawInt 0, rawInt (Builtin.Range.rangeSize 0 m 1), rawInt 1] }) (p := RitO 0 1 m 0) (by
    have e1 : Builtin.Range.rangeSize 0 (m : Int) 1 = m := by rw [rangeSize_one]; split <;> omega
    rw [e1]
    show _ = _
    simp)
  exact h _ _ (by rw [Heap.size_push]; exact Nat.le_succ_of_le S.NL) S2
end
end
section
open PySem PySem.W PyProof.Rows PySem.Calls
section
variable {prog : Program} {w : World} {mg mb : Str → Option Value} {A : Around} {s : Shared} {c : Cx} {t : Heap} {mu : List (Addr × (Obj → Prop))} {n : Nm} {Q E : Value → Shared → Prop} {env : Env} {k : Nat} {b : Bool} {tk ti : Tok}
theorem int65 (i : Nat) : (65 : Int) + (i : Int) = ((65 + i : Nat) : Int) := by omega
theorem law_key_spec {i : Nat} (S : ST w mg mb c t mu n s) (Ra : Ar A env c (k + 1)) (hi : i < 100)
    (ret : ∀ v s', Rep prog w t v (kDt b i) → ST w mg mb c t mu n s' → Q v s') : wpAny (model prog w) A (call (.ref 538) [.str (wd b) tk, .int i ti]) Q E s := by
  refine call_def (D := []) (R := mu) (k := k) (binds := [("word", .str (wd b) tk), ("number", .int i ti)]) S Ra S.1.pf.nl (at_538 S.1.pf) rfl (cr_538 S.1.pf) (BindsTo.of_eq rfl) (locs rfl) (by decide +kernel) rfl rfl rfl ?_
  intro c₁ s₁ env₁ A₁ n₀ _ hN _ S₁ R₁ bk Q₁ E₁
  refine w_cons ?_
  intro K₀
  repeat w_left
  cases b
  · refine PySem.W.ite_neg (by decide) ?_
    repeat w_left
    exact ret _ _ (.int _ _) (bk.same S₁)
  · refine PySem.W.ite_pos (by decide) ?_
    repeat w_left
    refine new_lst S₁ (by show 1 ≤ _; decide) fun s₂ a ha S₂ => ?_
    repeat w_left
    rw [int65] at S₂
    refine call_bytes1 S₂ R₁ (S₂.atM (.head _)) (by omega) fun s₃ u S₃ => ?_
    exact ret _ _ (.byt _ _) (bk.same S₃)
theorem law_object_spec {i : Nat} (S : ST w mg mb c t mu n s) (Ra : Ar A env c (k + 3)) (hi : i < 100)
    (ret : ∀ v t' s', Sub t t' → Rep prog w t' v (oDt b i) → ST w mg mb c t' mu n s' → Q v s') : wpAny (model prog w) A (call (.ref 531) [.str (wd b) tk, .int i ti]) Q E s := by
  refine call_def (D := []) (R := mu) (k := k + 2) (binds := [("word", .str (wd b) tk), ("number", .int i ti)]) S Ra S.1.pf.nl (at_531 S.1.pf) rfl (cr_531 S.1.pf) (BindsTo.of_eq rfl) (locs rfl) (by decide +kernel) rfl rfl rfl ?_
  intro c₁ s₁ env₁ A₁ n₀ _ hN _ S₁ R₁ bk Q₁ E₁
  refine w_cons ?_
  intro K₀
  repeat w_left
  cases b
  · refine PySem.W.ite_neg (by decide) ?_
    repeat w_left
    exact ret _ _ _ (fun _ _ e => e) (.int _ _) (bk.same S₁)
  · refine PySem.W.ite_pos (by decide) ?_
    repeat w_left
    refine new_lst S₁ (by show 1 ≤ _; decide) fun s₂ a ha S₂ => ?_
    repeat w_left
    rw [int65] at S₂
    refine call_bytes1 S₂ R₁ (S₂.atM (.head _)) (by omega) fun s₃ u S₃ => ?_
    repeat w_left
    refine mk_String S₃ R₁ fun v t' s₄ x r S₄ => ?_
    exact ret _ _ _ x r (bk.same S₄)
/-- key_object(word, key) for a key of this word -/
theorem key_object_spec {v : Value} {i : Nat} (S : ST w mg mb c t mu n s) (Ra : Ar A env c (k + 3)) (hv : Rep prog w t v (kDt b i))
    (ret : ∀ v t' s', Sub t t' → Rep prog w t' v (oDt b i) → ST w mg mb c t' mu n s' → Q v s') : wpAny (model prog w) A (call (.ref 379) [.str (wd b) tk, v]) Q E s := by
  refine call_def (D := []) (R := mu) (k := k + 2) (binds := [("word", .str (wd b) tk), ("key", v)]) S Ra S.1.pf.nl (at_379 S.1.pf) rfl (cr_379 S.1.pf) (BindsTo.of_eq rfl) (locs rfl) (by decide +kernel) rfl rfl rfl ?_
  intro c₁ s₁ env₁ A₁ n₀ _ hN _ S₁ R₁ bk Q₁ E₁
  refine w_cons ?_
  intro K₀
  repeat w_left
  cases b
  · refine PySem.W.ite_neg (by decide) ?_
    repeat w_left
    exact ret _ _ _ (fun _ _ e => e) hv (bk.same S₁)
  · refine PySem.W.ite_pos (by decide) ?_
    obtain ⟨tk, rfl⟩ := hv.byt_inv
    repeat w_left
    refine mk_String S₁ R₁ fun v t' s₄ x r S₄ => ?_
    exact ret _ _ _ x r (bk.same S₄)
/-- key_of(word, value) for a value of this word -/
theorem key_of_spec {v : Value} {i : Nat} (S : ST w mg mb c t mu n s) (Ra : Ar A env c (k + 1)) (hv : Rep prog w t v (oDt b i))
    (ret : ∀ v s', Rep prog w t v (kDt b i) → ST w mg mb c t mu n s' → Q v s') : wpAny (model prog w) A (call (.ref 386) [.str (wd b) tk, v]) Q E s := by
  refine call_def (D := []) (R := mu) (k := k) (binds := [("word", .str (wd b) tk), ("value", v)]) S Ra S.1.pf.nl (at_386 S.1.pf) rfl (cr_386 S.1.pf) (BindsTo.of_eq rfl) (locs rfl) (by decide +kernel) rfl rfl rfl ?_
  intro c₁ s₁ env₁ A₁ n₀ _ hN _ S₁ R₁ bk Q₁ E₁
  refine w_cons ?_
  intro K₀
  repeat w_left
  cases b
  · repeat w_left
    refine isi S₁ (hv.ty S₁ rfl) (b := true) (by kernel_rfl) fun s₂ S₂ e => ?_
    repeat w_left
    refine isi S₂ (hv.ty S₂ rfl) (b := false) (by kernel_rfl) fun s₃ S₃ e => ?_
    repeat w_left
    exact ret _ _ hv (bk.same S₃)
  · repeat w_left
    refine isi S₁ (hv.ty S₁ rfl) (b := true) (by kernel_rfl) fun s₂ S₂ e => ?_
    repeat w_left
    refine oct_octets S₂ hv fun s₃ u S₃ e => ?_
    exact ret _ _ (.byt _ _) (bk.same S₃)
end
end
section
open PySem PySem.W PyProof.Rows PySem.Calls
section
variable {prog : Program} {w : World} {mg mb : Str → Option Value} {A : Around} {s : Shared} {c : Cx} {t t' : Heap} {mu mu' : List (Addr × (Obj → Prop))} {n : Nm} {Q : Value → Shared → Prop} {E : Value → Shared → Prop} {env : Env} {k : Nat} {a b : Addr} {vs us : List Value}
section
variable {K : Type} [DecidableEq K] {knd : KeyKind prog w K} {kvs : List (K × Value)} {kk : K} {key dflt : Value}
theorem meth_d {name : Str} {id : String} {pl : Sem Bool} {Q : Value × List Value → Shared → Prop} (x : At s.heap a (DctO knd kvs)) (slot : Slot "dict" name id) (ty : typeOf (.builtin id) = pure (.type "method_descriptor")) (h : Q (.builtin id, [.ref a]) s) :
    wpAny (model prog w) A (getMethod (.ref a) name pl) Q E s := getMethod_builtin x.dct.typeIs PySem.F.plainAttrs_dict slot ty x.dct.mapOf.noDict h
theorem get1_d (S : ST w mg mb c t mu n s) (x : At s.heap a (DctO knd kvs)) (lo : (a == sysModules) = false) (hk : knd.is kk key = true) (h : ∀ s', ST w mg mb c t mu n s' → s'.heap = s.heap → Q ((valueAt kvs kk).getD .none) s') :
    wpAny (model prog w) A (call (.builtin "dict.get") [.ref a, key]) Q E s :=
  call_meetsIn PySem.F.slot_dict_get x.dct.typeIs PySem.F.entry_dict_get (PySem.F.args_dict_get_2 _ _) (meets_dict_get knd a hk lo) ⟨_, x.dct.mapOf, h _ S.toks rfl⟩
theorem get2_d (S : ST w mg mb c t mu n s) (x : At s.heap a (DctO knd kvs)) (lo : (a == sysModules) = false) (hk : knd.is kk key = true) (h : ∀ s', ST w mg mb c t mu n s' → s'.heap = s.heap → Q ((valueAt kvs kk).getD dflt) s') :
    wpAny (model prog w) A (call (.builtin "dict.get") [.ref a, key, dflt]) Q E s :=
  call_meetsIn PySem.F.slot_dict_get x.dct.typeIs PySem.F.entry_dict_get (PySem.F.args_dict_get_3 _ _ _) (meets_dict_get_default knd a hk lo dflt) ⟨_, x.dct.mapOf, h _ S.toks rfl⟩
end
theorem meth_l {name : Str} {id : String} {pl : Sem Bool} {Q : Value × List Value → Shared → Prop} (x : At s.heap a (LstO vs)) (slot : Slot "list" name id) (ty : typeOf (.builtin id) = pure (.type "method_descriptor")) (h : Q (.builtin id, [.ref a]) s) :
    wpAny (model prog w) A (getMethod (.ref a) name pl) Q E s := by
  obtain ⟨_, e, m, rfl⟩ := x
  exact getMethod_builtin ⟨_, e, rfl⟩ PySem.F.plainAttrs_list slot ty (fun b q => by cases q; exact ⟨_, e, rfl⟩) h
/-- a, b = <a tuple> -/
theorem assign_tup {elts : List PySem.Expr} {x1 : Nat} {pos : Pos} {Q : Unit → Shared → Prop} (S : ST w mg mb c t mu n s) (Ra : Ar A env c k) (x : At s.heap a (TupO vs)) (hn : (assignEach elts env).length = vs.length) (hstar : (assignEach elts env).findIdx? (·.1) = none)
    (h : ∀ s', ST w mg mb c t mu n s' → wpAny (model prog w) A (assignInOrder ((assignEach elts env).map (·.2)) vs) Q E s') :
    wpAny (model prog w) A (assign (.Tuple elts x1 pos) env (.ref a)) Q E s := by
  obtain ⟨o, e, m, rfl⟩ := x
  refine wpAny_assign_Tuple Ra.hd ⟨_, e, rfl, m, rfl⟩ (by rw [hn]; simp) hstar fun h' hs => ?_
  refine h _ (S.grow fun b o e => hs b o (fun z => by rw [z] at e; exact absurd (Heap.lt_size e) (Nat.lt_irrefl _)) e)
/-- a shelf that holds these nodes (the i-th under 10 + i, of generation i % 2) -/
inductive IsShelf (prog : Program) (w : World) (t : Heap) (sh : Value) (nodes : List Dt) : Prop
  | mk (x dx a b : Addr) (m : Str → Option Value) (kvs : List (Int × Value)) : sh = .ref x → At t x (InsO 370 dx) → At t dx (NsO 2 m) → m "table" = some (.ref a) → m "trailer" = some (.ref b) → (∀ y : Str, y ≠ "table" → y ≠ "trailer" → m y = none) →
    At t a (DctO (intKind prog w) kvs) → (a == sysModules) = false → At t b (DctO (strKind prog w) []) → (b == sysModules) = false → kvs.length = nodes.length →
    (∀ i d, nodes[i]? = some d → ∃ g v tk, kvs[i]? = some (((10 + i : Nat) : Int), .ref g) ∧ At t g (TupO [.int ((i % 2 : Nat) : Int) tk, v]) ∧ Rep prog w t v d) → IsShelf prog w t sh nodes
theorem IsShelf.sub {sh : Value} {nodes : List Dt} (x : Sub t t') (r : IsShelf prog w t sh nodes) : IsShelf prog w t' sh nodes := by
  obtain ⟨y, dx, a, b, m, kvs, e1, e2, e3, e4, e5, e6, e7, e8, e9, e10, e11, e12⟩ := r
  exact ⟨y, dx, a, b, m, kvs, e1, e2.sub x, e3.sub x, e4, e5, e6, e7.sub x, e8, e9.sub x, e10, e11, fun i d h => let ⟨g, v, tk, f1, f2, f3⟩ := e12 i d h; ⟨g, v, tk, f1, f2.sub x, f3.sub x⟩⟩
theorem valueAt_nth : ∀ (kvs : List (Int × Value)) (j : Nat) (_ : ∀ i x, kvs[i]? = some x → x.1 = ((10 + j + i : Nat) : Int)) (i : Nat) (v : Value), kvs[i]? = some (((10 + j + i : Nat) : Int), v) → valueAt kvs ((10 + j + i : Nat) : Int) = some v
  | [], _, _, i, v, h => by simp at h
  | (y, u) :: r, j, hk, i, v, h => by
    have hy : y = ((10 + j : Nat) : Int) := hk 0 (y, u) rfl
    cases i with
    | zero => cases h; unfold valueAt; rw [List.find?_cons_of_pos (by simp)]; rfl
    | succ i =>
      unfold valueAt
      rw [List.find?_cons_of_neg (by simp only [decide_eq_true_eq]; rw [hy]; omega)]
      have e : ((10 + j + (i + 1) : Nat) : Int) = ((10 + (j + 1) + i : Nat) : Int) := by omega
      rw [e] at h ⊢
      exact valueAt_nth r (j + 1) (fun i x q => by rw [hk (i + 1) x q]; omega) i v h
/-- the callee's end: the caller stands as it was, ghost and all -/
theorem Back.fin {c₁ : Cx} {J : List (Addr × (Obj → Prop))} {n' : Nm} {s' : Shared} (S : ST w mg mb c t mu n s) (bk : Back (PF w mg mb) c t [] mu n c₁) (S' : ST w mg mb c₁ t' J n' s') (x : Sub t t') : ST w mg mb c t mu n s' := (bk.same S').shrink S.1.base x S.1.pf
theorem Sub.rfl' {h : Heap} : Sub h h := fun _ _ e => e
theorem Sub.tr {h₁ h₂ h₃ : Heap} (x : Sub h₁ h₂) (y : Sub h₂ h₃) : Sub h₁ h₃ := fun a o e => y a o (x a o e)
end
end
section
open PySem PySem.W PyProof.Rows PySem.Calls
section
variable {prog : Program} {w : World} {mg mb : Str → Option Value} {A : Around} {s : Shared} {c : Cx} {t : Heap} {mu : List (Addr × (Obj → Prop))} {n : Nm} {Q E : Value → Shared → Prop} {env : Env} {k : Nat} {b : Bool} {tk ti : Tok}
noncomputable def notRef : Dt → Bool
  | .ref _ _ => false
  | .byt _ => false
  | _ => true
theorem kit_ref {d : Dt} {P : Params} (h : notRef d = true) : kitOne (K1 P) (dTy d) (.ref 261) = some false := by
  cases d with
  | ref _ _ => cases h
  | byt _ => cases h
  | _ => kernel_rfl
/-- fetch(value): what is no Reference stands for itself; a Reference for the node it names -/
theorem fetch_spec {sh v v' : Value} {nodes : List Dt} {d : Dt} (S : ST w mg mb c t mu n s) (Ra : Ar A env c (k + 1)) (Z : IsShelf prog w t sh nodes)
    (hv : (v = v' ∧ Rep prog w t v d ∧ notRef d = true) ∨ ∃ i, Rep prog w t v (.ref ((10 + i : Nat) : Int) ((i % 2 : Nat) : Int)) ∧ nodes[i]? = some d ∧ notRef d = true)
    (ret : ∀ v' s', Rep prog w t v' d → ST w mg mb c t mu n s' → Q v' s') : wpAny (model prog w) A (call (.ref 306) [sh, v]) Q E s := by
  refine call_def (D := []) (R := mu) (k := k) (binds := [("self", sh), ("value", v)]) S Ra S.1.pf.nl (at_306 S.1.pf) rfl (cr_306 S.1.pf) (BindsTo.of_eq rfl) (locs rfl) (by decide +kernel) rfl rfl rfl ?_
  intro c₁ s₁ env₁ A₁ n₀ _ hN _ S₁ R₁ bk Q₁ E₁
  refine w_cons ?_
  intro K₀
  repeat w_left
  rename_i s₂ S₂
  refine iter_range1 (m := 30) S₂ (by decide) fun it s₃ hit S₃ => ?_
  refine for_go (it_range (len := 30)) (own_plain fun _ => rfl) (fun i t' mu' n' => Sub t t' ∧ mu' = [] ∧ n'.m "self" = some sh ∧ ∃ here, n'.m "here" = some here ∧
    ((i = 0 ∧ here = v) ∨ (i = 1 ∧ Rep prog w t here d ∧ notRef d = true))) R₁ S₃ ⟨Sub.rfl', rfl, rfl, v, rfl, .inl ⟨rfl, rfl⟩⟩ (fun _ _ _ _ _ _ _ _ => trivial) ?_ ?_
  · rintro i _ t₉ t' mu' n' s₄ hi ⟨tk, rfl⟩ ⟨x0, rfl, hs, here, hh, hJ⟩ x9 S₄ Eb Qb
    replace x0 := x0.tr x9
    obtain ⟨x, dx, ta, tr, m, kvs, rfl, z2, z3, z4, z5, z6, z7, z8, z9, z10, z11, z12⟩ := id Z
    repeat w_left
    rename_i S₅
    rcases hJ with ⟨rfl, rfl⟩ | ⟨rfl, r, nr⟩
    · rcases hv with ⟨rfl, r, nr⟩ | ⟨j, r, hj, nr⟩
      · refine isi S₅ ((r.sub x0).ty S₅ (by cases d <;> first | rfl | cases nr)) (kit_ref nr) fun s₆ S₆ _ => ?_
        repeat w_left
        exact ret _ _ r (bk.fin S S₆ x0)
      · refine isi S₅ ((r.sub x0).ty S₅ rfl) (b := true) (by kernel_rfl) fun s₆ S₆ _ => ?_
        repeat w_left
        refine get_inst S₆ (S₆.atT (z2.sub x0)) (S₆.atT (z3.sub x0)) z4 (by kernel_rfl) (by kernel_rfl) (by kernel_rfl) rfl fun s₇ S₇ _ => ?_
        refine meth_d (S₇.atT (z7.sub x0)) PySem.F.slot_dict_get PySem.F.type_dict_get ?_
        repeat w_left
        refine ref_number S₇ (r.sub x0) fun s₈ tk₁ S₈ _ => ?_
        repeat w_left
        refine new_tup S₈ (by show 2 ≤ _; decide) fun s₉ t₁ p x1 _ S₉ => ?_
        repeat w_left
        obtain ⟨g, nv, tk₂, f1, f2, f3⟩ := z12 j d hj
        have hval : valueAt kvs ((10 + j : Nat) : Int) = some (.ref g) := valueAt_nth kvs 0 (fun i y hy => by
          have hi : i < nodes.length := by rw [← z11]; exact (List.getElem?_eq_some_iff.mp hy).1
          obtain ⟨_, _, _, q, _⟩ := z12 i _ (List.getElem?_eq_getElem hi)
          rw [q] at hy; cases hy; rfl) j _ f1
        refine get2_d S₉ (S₉.atT (z7.sub (x0.tr x1))) z8 (intKind_is _ _ _ _) fun s₁₀ S₁₀ _ => ?_
        rw [hval]
        refine assign_tup S₁₀ R₁ (S₁₀.atT (f2.sub (x0.tr x1))) rfl rfl fun s₁₁ S₁₁ => ?_
        repeat w_left
        rename_i s₁₂ S₁₂
        refine ref_generation S₁₂ (r.sub (x0.tr x1)) fun s₁₃ tk₃ S₁₃ _ => ?_
        repeat w_left
        try refine PySem.W.ite_neg (by simp) ?_
        repeat w_left
        rename_i s₁₄ S₁₄
        refine ⟨_, _, _, ?_, S₁₄⟩
        exact ⟨x0.tr x1, rfl, hs, nv, rfl, .inr ⟨rfl, f3, nr⟩⟩
    · refine isi S₅ ((r.sub x0).ty S₅ (by cases d <;> first | rfl | cases nr)) (kit_ref nr) fun s₆ S₆ _ => ?_
      repeat w_left
      exact ret _ _ r (bk.fin S S₆ x0)
  · rintro t' mu' n' s' ⟨_, _, _, here, _, ⟨h, _⟩ | ⟨h, _⟩⟩
    · exact absurd h (by decide)
    · exact absurd h (by decide)
end
end
section
open PySem PySem.W PyProof.Rows PySem.Calls
section
variable {prog : Program} {w : World} {mg mb : Str → Option Value} {A : Around} {s : Shared} {c : Cx} {t : Heap} {mu : List (Addr × (Obj → Prop))} {n : Nm} {Q E : Value → Shared → Prop} {env : Env} {k : Nat} {b : Bool} {tk ti : Tok}
theorem oDt_nr {i : Nat} : notRef (oDt b i) = true := by cases b <;> rfl
theorem sh_meth {sh : Value} {nodes : List Dt} {name : Str} {f : Addr} {pl : Sem Bool} {Q : Value × List Value → Shared → Prop} (S : ST w mg mb c t mu n s) (Z : IsShelf prog w t sh nodes) (h1 : name ≠ "table") (h2 : name ≠ "trailer")
    (hf : findIn (K1 w.params) (.ref 370) name = some (some (.ref f))) (ht : typeIn (K1 w.params) (.ref f) = some (.type "function")) (h : Q (.ref f, [sh]) s) : wpAny (model prog w) A (getMethod sh name pl) Q E s := by
  obtain ⟨x, dx, ta, tr, m, kvs, rfl, z2, z3, z4, z5, z6, _⟩ := Z
  exact meth_inst S (S.atT z2) (S.atT z3) (z6 name h1 h2) (by kernel_rfl) (by kernel_rfl) hf ht h
theorem get_spec {sh v : Value} {nodes : List Dt} {ds : List (Str × Dt)} {d : Dt} {key : Str} (S : ST w mg mb c t mu n s) (Ra : Ar A env c (k + 2)) (Z : IsShelf prog w t sh nodes)
    (hv : Rep prog w t v (.dct ds)) (hd : dAt ds key = some d) (nr : notRef d = true)
    (ret : ∀ v' s', Rep prog w t v' d → ST w mg mb c t mu n s' → Q v' s') : wpAny (model prog w) A (call (.ref 313) [sh, v, .str key tk]) Q E s := by
  refine call_def (D := []) (R := mu) (k := k + 1) (binds := [("self", sh), ("head", v), ("key", .str key tk)]) S Ra S.1.pf.nl (at_313 S.1.pf) rfl (cr_313 S.1.pf) (BindsTo.of_eq rfl) (locs rfl) (by decide +kernel) rfl rfl rfl ?_
  intro c₁ s₁ env₁ A₁ n₀ e0 hN _ S₁ R₁ bk Q₁ E₁
  obtain ⟨a, kvs, rfl, y1, y2, y3, y4⟩ := hv.dct_inv
  have q := dAt_rep y3 y4 key
  rw [hd] at q
  obtain ⟨v', q1, q2⟩ := q
  refine w_cons ?_
  intro K₀
  repeat w_left
  refine sh_meth S₁ Z (by decide) (by decide) (f := 306) (by kernel_rfl) (by kernel_rfl) ?_
  repeat w_left
  refine meth_d (S₁.atT y1) PySem.F.slot_dict_get PySem.F.type_dict_get ?_
  repeat w_left
  refine get1_d S₁ (S₁.atT y1) y2 (strKind_is _ _ _ _) fun s₂ S₂ _ => ?_
  rw [q1]
  repeat w_left
  refine fetch_spec S₂ R₁ Z (.inl ⟨rfl, q2, nr⟩) fun v'' s₃ r S₃ => ?_
  exact ret _ _ r (bk.same S₃)
/-- node_of(shelf, value), where a node stands -/
theorem node_of_spec {sh v : Value} {nodes : List Dt} {ds : List (Str × Dt)} (S : ST w mg mb c t mu n s) (Ra : Ar A env c (k + 2)) (Z : IsShelf prog w t sh nodes)
    (hv : Rep prog w t v (.dct ds) ∨ ∃ i, Rep prog w t v (.ref ((10 + i : Nat) : Int) ((i % 2 : Nat) : Int)) ∧ nodes[i]? = some (.dct ds))
    (ret : ∀ v' s', Rep prog w t v' (.dct ds) → ST w mg mb c t mu n s' → Q v' s') : wpAny (model prog w) A (call (.ref 393) [sh, v]) Q E s := by
  refine call_def (D := []) (R := mu) (k := k + 1) (binds := [("shelf", sh), ("value", v)]) S Ra S.1.pf.nl (at_393 S.1.pf) rfl (cr_393 S.1.pf) (BindsTo.of_eq rfl) (locs rfl) (by decide +kernel) rfl rfl rfl ?_
  intro c₁ s₁ env₁ A₁ n₀ e0 hN _ S₁ R₁ bk Q₁ E₁
  refine w_cons ?_
  intro K₀
  repeat w_left
  refine sh_meth S₁ Z (by decide) (by decide) (f := 306) (by kernel_rfl) (by kernel_rfl) ?_
  repeat w_left
  refine fetch_spec S₁ R₁ Z (d := .dct ds) (hv.elim (fun r => .inl ⟨rfl, r, rfl⟩) fun ⟨i, r, e⟩ => .inr ⟨i, r, e, rfl⟩) fun v' s₂ r S₂ => ?_
  repeat w_left
  rename_i s₃ S₃
  refine isi S₃ (r.ty S₃ rfl) (b := true) (by kernel_rfl) fun s₄ S₄ _ => ?_
  repeat w_left
  exact ret _ _ r (bk.same S₄)
/-- row_of(shelf, node, key), where a row stands -/
theorem row_of_spec {sh v : Value} {nodes : List Dt} {ds : List (Str × Dt)} {l : List Dt} {key : Str} (S : ST w mg mb c t mu n s) (Ra : Ar A env c (k + 3)) (Z : IsShelf prog w t sh nodes)
    (hv : Rep prog w t v (.dct ds)) (hd : dAt ds key = some (.lst l))
    (ret : ∀ v' s', Rep prog w t v' (.lst l) → ST w mg mb c t mu n s' → Q v' s') : wpAny (model prog w) A (call (.ref 400) [sh, v, .str key tk]) Q E s := by
  refine call_def (D := []) (R := mu) (k := k + 2) (binds := [("shelf", sh), ("node", v), ("key", .str key tk)]) S Ra S.1.pf.nl (at_400 S.1.pf) rfl (cr_400 S.1.pf) (BindsTo.of_eq rfl) (locs rfl) (by decide +kernel) rfl rfl rfl ?_
  intro c₁ s₁ env₁ A₁ n₀ e0 hN _ S₁ R₁ bk Q₁ E₁
  refine w_cons ?_
  intro K₀
  repeat w_left
  refine sh_meth S₁ Z (by decide) (by decide) (f := 313) (by kernel_rfl) (by kernel_rfl) ?_
  repeat w_left
  refine get_spec S₁ R₁ Z hv hd rfl fun v' s₂ r S₂ => ?_
  repeat w_left
  rename_i s₃ S₃
  refine isi S₃ (r.ty S₃ rfl) (b := true) (by kernel_rfl) fun s₄ S₄ _ => ?_
  repeat w_left
  exact ret _ _ r (bk.same S₄)
/-- node_limits(shelf, node, word) of two keys of this word -/
theorem node_limits_spec {sh v : Value} {nodes : List Dt} {ds : List (Str × Dt)} {i j : Nat} (S : ST w mg mb c t mu n s) (Ra : Ar A env c (k + 4)) (Z : IsShelf prog w t sh nodes)
    (hv : Rep prog w t v (.dct ds)) (hd : dAt ds "Limits" = some (.lst [oDt b i, oDt b j]))
    (ret : ∀ v' t' s', Sub t t' → Rep prog w t' v' (.tup [kDt b i, kDt b j]) → ST w mg mb c t' mu n s' → Q v' s') : wpAny (model prog w) A (call (.ref 412) [sh, v, .str (wd b) tk]) Q E s := by
  refine call_def (D := []) (R := mu) (k := k + 3) (binds := [("shelf", sh), ("node", v), ("word", .str (wd b) tk)]) S Ra S.1.pf.nl (at_412 S.1.pf) rfl (cr_412 S.1.pf) (BindsTo.of_eq rfl) (locs rfl) (by decide +kernel) rfl rfl rfl ?_
  intro c₁ s₁ env₁ A₁ n₀ e0 hN _ S₁ R₁ bk Q₁ E₁
  refine w_cons ?_
  intro K₀
  repeat w_left
  refine row_of_spec S₁ R₁ Z hv hd fun v' s₂ r S₂ => ?_
  repeat w_left
  rename_i s₃ S₃
  obtain ⟨a, vs, rfl, a1, a2⟩ := r.lst_inv
  have hl : vs.length = 2 := a2.1
  refine len_l S₃ (S₃.atT a1) (by rw [hl]; decide) fun s₄ tk₁ S₄ _ => ?_
  repeat w_left
  try refine PySem.W.ite_neg (by rw [hl]; decide) ?_
  obtain ⟨v0, g0, r0⟩ := a2.get (i := 0) rfl
  obtain ⟨v1, g1, r1⟩ := a2.get (i := 1) rfl
  repeat w_left
  refine sh_meth S₄ Z (by decide) (by decide) (f := 306) (by kernel_rfl) (by kernel_rfl) ?_
  repeat w_left
  refine item_l (S₄.atT a1) (by decide) (by decide) g0 ?_
  repeat w_left
  refine fetch_spec S₄ R₁ Z (.inl ⟨rfl, r0, oDt_nr⟩) fun v0' s₅ r0' S₅ => ?_
  repeat w_left
  refine key_of_spec S₅ R₁ r0' fun k0 s₆ q0 S₆ => ?_
  repeat w_left
  refine sh_meth S₆ Z (by decide) (by decide) (f := 306) (by kernel_rfl) (by kernel_rfl) ?_
  repeat w_left
  refine item_l (S₆.atT a1) (by decide) (by decide) g1 ?_
  repeat w_left
  refine fetch_spec S₆ R₁ Z (.inl ⟨rfl, r1, oDt_nr⟩) fun v1' s₇ r1' S₇ => ?_
  repeat w_left
  refine key_of_spec S₇ R₁ r1' fun k1 s₈ q1 S₈ => ?_
  repeat w_left
  refine new_tup S₈ (by show 2 ≤ _; decide) fun s₉ t₁ p x1 at1 S₉ => ?_
  have rr : Reps prog w t [k0, k1] [kDt b i, kDt b j] := Reps.cons q0 (Reps.cons q1 Reps.nil)
  exact ret _ _ _ x1 (.tup at1 rfl fun m v d e1 e2 => (rr.2 m v d e1 e2).sub x1) (bk.same S₉)
end
end
section
open PySem PySem.W PyProof.Rows PySem.Calls
noncomputable def AllLk (cs : List (Str × Addr)) : List (Str × Addr) → Prop
  | [] => True
  | p :: r => cs.lookup p.1 = some p.2 ∧ AllLk cs r
theorem AllLk.at {cs : List (Str × Addr)} : ∀ {cl : List (Str × Addr)}, AllLk cs cl → ∀ p ∈ cl, cs.lookup p.1 = some p.2 := by
  intro cl h p hp
  induction cl with
  | nil => cases hp
  | cons a r ih =>
    rcases List.mem_cons.mp hp with rfl | hp
    · exact h.1
    · exact ih h.2 hp
section
variable {P : Heap → Prop} {c c₁ : Cx} {t t' h h' : Heap} {mu D D' R X J : List (Addr × (Obj → Prop))} {n n' : Nm}
theorem SH.extBut {b : Addr} (S : SH P c t mu n h) (h1 : b ∉ c.G) (h2 : t.get? b = none) (h3 : ∀ p ∈ mu, p.1 ≠ b) (h4 : ∀ x a, c.cells.lookup x = some a → a ≠ b) (h5 : c.wh.get? b = none)
    (key : ∀ a o, a ≠ b → h.get? a = some o → h'.get? a = some o) : SH P c t mu n h' :=
  { S with
    ns := by obtain ⟨o, es, ep, e, r⟩ := S.ns; exact ⟨o, es, ep, key _ _ (fun z => h1 (z ▸ .head _)) e, r⟩
    whole := S.whole.step fun a x y q1 q2 => key _ _ (fun z => by rw [z, h5] at q1; cases q1) q2
    keep := fun a o e => key _ _ (fun z => by rw [z, h2] at e; cases e) (S.keep a o e)
    mus := fun p hp => let ⟨⟨o, e, q⟩, r⟩ := S.mus p hp; ⟨⟨o, key _ _ (h3 p hp) e, q⟩, r⟩
    cel := fun x a e => let ⟨⟨o, f1, f1'⟩, r⟩ := S.cel x a e; ⟨⟨o, key _ _ (h4 x a e) f1, f1'⟩, r⟩
    me := by obtain ⟨o, e, r⟩ := S.me; exact ⟨o, key _ _ (fun z => h1 (z ▸ Cx.FG (.head _))) e, r⟩ }
end
theorem Upd.at {a : Addr} {o o' : Obj → Prop} {l l' : Mus} : ∀ (p : Mus), Upd a o o' l l' → Upd a o o' (p ++ l) (p ++ l')
  | [], u => u
  | _ :: r, u => .tail (Upd.at r u)
/-- an iterator is its own iterator -/
structure ItSelf (prog : Program) (w : World) (mg mb : Str → Option Value) (it : Addr) (im : Nat → Mus) : Prop where
  self : ∀ {A : Around} {c : Cx} {t : Heap} {mu : List (Addr × (Obj → Prop))} {n : Nm} {s : Shared} {i : Nat} {Q E : Value → Shared → Prop}, ST w mg mb c t (im i ++ mu) n s → Q (.ref it) s → wpAny (model prog w) A (pyIter (.ref it)) Q E s
section
variable {prog : Program} {w : World} {mg mb : Str → Option Value}
theorem self_list {l it : Addr} : ItSelf prog w mg mb it (fun i => [(it, LitO l i)]) := ⟨fun S h => by
  obtain ⟨o, e, hc, hd⟩ := S.inMu (.head _)
  exact wpAny_pyIter_listiter ⟨o, e, hc, hd⟩ h⟩
theorem self_rev {l it : Addr} {f : Nat → Int} : ItSelf prog w mg mb it (fun i => [(it, RevO l (f i))]) := ⟨fun S h => iter_rev S (.head _) h⟩
theorem self_range {a cc len : Int} {it : Addr} : ItSelf prog w mg mb it (fun i => [(it, RitO a cc len i)]) := ⟨fun {A c t mu n s i Q E} S h => by
  obtain ⟨o, e, rfl⟩ := S.inMu (.head _)
  have hT : s.TypeIs (.ref it) "range_iterator" := ⟨_, e, rfl⟩
  refine wpAny_pyIter_slot hT PySem.F.slot_range_iterator_iter (wpAny_call_entry PySem.F.slot_range_iterator_iter hT PySem.F.entry_range_iterator_iter ?_ (PySem.F.args_range_iterator_iter_1 _))
  show wpAny _ _ (ret (.ref it)) _ _ s
  exact wpAny_pure ⟨_, rfl, "range_iterator", _, hT, PySem.F.slot_range_iterator_next.lookup, h⟩⟩
variable {A : Around} {s : Shared} {c : Cx} {t : Heap} {mu : List (Addr × (Obj → Prop))} {n : Nm} {E Q : Value → Shared → Prop} {env : Env} {k : Nat}
/-- a list comprehension over an iterator that stands: J says of the turns that are done what data, objects and results there are -/
theorem comp_go {ok : Heap → Prop} {im : Nat → Mus} {val : Nat → Heap → Value → Prop} {len : Nat} {elt target iter : PySem.Expr} {ifs : List PySem.Expr} {scope : Scope} {pos : Pos} {cl : List (Str × Addr)} {it : Addr}
    (Z : ItOK prog w mg mb it ok im (plainO im) val len) (Zs : ItSelf prog w mg mb it im) (J : Nat → Heap → List (Addr × (Obj → Prop)) → List Value → Prop) (Ra : Ar A env c k)
    (hcl : AllLk c.cells cl) (hcell : ∀ y ∈ scope.names, y.2 ≠ .cell) (hkind : scope.kind = .function) (S : ST w mg mb c t (im 0 ++ mu) n s) (h0 : J 0 t mu [])
    (hJ : ∀ i t' mu' ys, J i t' mu' ys → mu'.map (·.1) = mu.map (·.1) ∧ ys.length ≤ i)
    (hok : ∀ i t' mu' ys c' n' s' p q, J i t' mu' ys → ST w mg mb c' t' (p ++ q :: mu') n' s' → ok s'.heap) (hlen : len ≤ sizeLine)
    (turn : ∀ i v t₀ t' mu' ys c' s' m₀ acc E', let env₂ : Env := compEnvC scope cl c'.loc env; i < len → val i t' v → J i t₀ mu' ys → Sub t₀ t' → Ar A env₂ c' k → c.N ≤ c'.N → ST w mg mb c' t' (im (i + 1) ++ (acc, LstO ys) :: mu') ⟨m₀, n.k, false⟩ s' →
      let Qy : Value → Shared → Prop := fun y s₄ => ∃ t'' mu'' m'', J (i + 1) t'' mu'' (ys ++ [y]) ∧ ST w mg mb c' t'' (im (i + 1) ++ (acc, LstO ys) :: mu'') ⟨m'', n.k, false⟩ s₄
      let Qn : Shared → Prop := fun s₃ => ∃ t'' mu'' m'', J (i + 1) t'' mu'' ys ∧ ST w mg mb c' t'' (im (i + 1) ++ (acc, LstO ys) :: mu'') ⟨m'', n.k, false⟩ s₃
      wpAny (model prog w) A (assign target env₂ v) (fun _ s₂ =>
        wpAny (model prog w) A (forIn ifs true fun c r => if r = true then do let ok ← isTrue c env₂ (eval c env₂); pure (ForInStep.yield ok) else pure (ForInStep.yield r)) (fun okk s₃ =>
          if okk = true then wpAny (model prog w) A (eval elt env₂) Qy E' s₃
          else Qn s₃) E' s₂) E' s')
    (done : ∀ t' mu' ys acc s', c.N ≤ acc → J len t' mu' ys → ST w mg mb c t' ((acc, LstO ys) :: mu') n s' → Q (.ref acc) s') (ht : ∀ v, letOwnedTupleGo target (.ref it) v = pure () := by intro _; rfl) :
    wpAny (model prog w) A (newList []) (fun acc s₃ => wpAny (model prog w) A (newFunctionEnv scope env.globals cl [] env.qual none .none (some env)) (fun cenv s₄ =>
      codeAny (model prog w) A (.compStart (.ListComp elt [⟨target, iter, ifs, 0⟩] scope pos) 0 (.ref it) acc { cenv with scope := relabel scope env }) (compPost (model prog w) A E none Q acc cenv.locals) s₄) E s₃) E s := by
  refine wpAny_newObj_type ?_ (by size_fits)
  have Sa := S.newMu (o := { cls := .type "list", data := .seq ([] : List Value).toArray }) (p := LstO []) ⟨0, rfl⟩
  have hacc : c.N ≤ s.heap.objs.size := S.NL
  generalize s.heap.objs.size = acc at Sa hacc ⊢
  generalize hsa : ({ s with heap := s.heap.push { cls := .type "list", data := .seq ([] : List Value).toArray } } : Shared) = sa at Sa ⊢
  refine wpAny_newFunctionEnv hcell (by intro y hy; simp at hy) (fun h₁ hns₁ hsb₁ => ?_) hkind
  generalize hD : ((acc, LstO []) :: (im 0 ++ mu)) = D at Sa
  have Sd : SH (PF w mg mb) c t (D ++ []) n sa.heap := by rw [List.append_nil]; exact Sa.1
  have old : Sub sa.heap h₁ := fun b o e => hsb₁.extBut b o (Nat.ne_of_lt (Heap.lt_size e)) (Heap.get?_push_of_some _ e)
  have U : Under c t sa.heap D (c.comp t sa.heap D cl) := Under.comp
  have S₁ : SH (PF w mg mb) (c.comp t sa.heap D cl) t D ⟨fun x => ([] : List (Str × Value)).reverse.lookup x, n.k, false⟩ h₁ := Sd.enter U old (Nat.le_refl _) hns₁ (fun x a e => by
      have e' := hcl.at _ (mem_of_lookup e)
      obtain ⟨q1, q2, q3, _⟩ := Sa.1.cel x a e'
      refine ⟨q1.keeps old, fun z => ?_, q3, fun z => nomatch z⟩
      rcases List.mem_cons.mp z with rfl | z
      · exact Nat.lt_irrefl _ q1.lt
      · exact q2 (Cx.FG z)) (fun z => nomatch z) (Sa.1.me.sub old) fun e he => Sd.outerD e he
  have Ra' : Ar A (compEnvC scope cl sa.heap.objs.size env) (c.comp t sa.heap D cl) k := ⟨Ra.hd, Ra.fr, Ra.hf, hkind, rfl, rfl, Ra.hG, Ra.hB, Ra.dp, Ra.un⟩
  have hNN : c.N ≤ (c.comp t sa.heap D cl).N := Sa.NL
  have hloc : (c.comp t sa.heap D cl).loc = sa.heap.objs.size := rfl
  have end_ : ∀ t' mu' ys m' s', J len t' mu' ys → ST w mg mb (c.comp t sa.heap D cl) t' ((acc, LstO ys) :: mu') ⟨m', n.k, false⟩ s' →
      compPost (model prog w) A E none Q (.ref acc) sa.heap.objs.size (.ok .next) s' := fun t' mu' ys m' s' hj S' => by
    refine ⟨m', S'.1.ns, fun h' hs => ?_⟩
    have hsub : ∀ a ∈ (((acc, LstO ys) :: mu').map (·.1)), a ∈ D.map (·.1) := fun a ha => by
      rw [← hD]
      rw [List.map_cons, (hJ _ _ _ _ hj).1] at ha
      rcases List.mem_cons.mp ha with rfl | ha
      · exact .head _
      · rw [List.map_cons, List.map_append]; exact .tail _ (List.mem_append_right _ ha)
    have So := Sd.leave (X := []) (D' := (acc, LstO ys) :: mu') (J := []) U (by rw [List.nil_append, List.append_nil]; exact S'.1) hsub (fun _ h => nomatch h)
    rw [List.nil_append, List.append_nil] at So
    refine done t' mu' ys acc _ hacc hj ⟨So.extBut (b := sa.heap.objs.size) ?_ (S'.1.outT _ (.head _)) (fun p hp z => (S'.1.mus p hp).2.1 (z ▸ .head _)) (fun x a e z => ?_) ?_ (fun a o hb e => (hs.2 a hb).trans e), S'.2⟩
    · exact fun z => Nat.lt_irrefl _ (Sa.1.G_lt z)
    · have := (Sa.1.cel x a e).1.lt
      rw [z] at this; exact Nat.lt_irrefl _ this
    · cases q : c.wh.get? sa.heap.objs.size with
      | none => rfl
      | some o => exact absurd (Nat.lt_of_lt_of_le (Sa.1.whN _ _ q) Sa.NL) (Nat.lt_irrefl _)
  have loop : ∀ s₃ : Shared, ST w mg mb (c.comp t sa.heap D cl) t (im 0 ++ (acc, LstO []) :: mu) ⟨fun x => ([] : List (Str × Value)).reverse.lookup x, n.k, false⟩ s₃ →
      codeAny (model prog w) A (.compLoop (.ListComp elt [⟨target, iter, ifs, 0⟩] scope pos) 0 (.ref it) (.ref acc) (compEnvC scope cl sa.heap.objs.size env)) (compPost (model prog w) A E none Q (.ref acc) sa.heap.objs.size) s₃ := fun s₃ S₃ => by
    refine codeAny_compLoop_tests (I := fun m s' => ∃ i t' mu' ys m₀, i ≤ len ∧ m = len - i ∧ J i t' mu' ys ∧ ST w mg mb (c.comp t sa.heap D cl) t' (im i ++ (acc, LstO ys) :: mu') ⟨m₀, n.k, false⟩ s') (fun m s' hI => ?_) len
      ⟨0, t, mu, [], _, Nat.zero_le _, rfl, h0, S₃⟩ ht
    obtain ⟨i, t', mu', ys, m₀, hi, rfl, hj, S'⟩ := hI
    rcases Nat.lt_or_ge i len with hlt | hge
    · refine Z.item Ra' S' (hok i _ _ _ _ _ _ _ _ hj S') hlt fun v t₁ s₁ x1 hv S1 => ?_
      refine wpAny_mono (turn i v _ _ _ _ _ _ _ _ _ hlt hv hj x1 Ra' hNN S1) (fun _ s₂ h₂ => wpAny_mono h₂ (fun okk s₄ h₄ => ?_) fun _ _ z => z) fun _ _ z => z
      cases okk with
      | true =>
        rw [if_pos rfl] at h₄ ⊢
        refine wpAny_mono h₄ (fun y s₅ h₅ => ?_) fun _ _ z => z
        obtain ⟨t'', mu'', m'', j, S''⟩ := h₅
        have hy := (hJ _ _ _ _ hj).2
        refine append_l S'' (Upd.at _ .head) (by omega) fun s₆ S₆ => ?_
        exact ⟨len - (i + 1), by omega, i + 1, _, _, _, _, hlt, rfl, j, S₆⟩
      | false =>
        rw [if_neg (by decide)] at h₄ ⊢
        obtain ⟨t'', mu'', m'', j, S''⟩ := h₄
        exact ⟨len - (i + 1), by omega, i + 1, _, _, _, _, hlt, rfl, j, S''⟩
    · obtain rfl : i = len := Nat.le_antisymm hi hge
      exact Z.last Ra' S' (hok _ _ _ _ _ _ _ _ _ hj S') fun s₁ S1 => end_ _ _ _ _ _ hj S1
  have Sp : ST w mg mb (c.comp t sa.heap D cl) t (im 0 ++ (acc, LstO []) :: mu) ⟨fun x => ([] : List (Str × Value)).reverse.lookup x, n.k, false⟩ { sa with heap := h₁, toks := sa.toks + ([] : List (Str × Value)).length } := by
    refine ⟨SH.perm (mu := D) S₁ ?_, Sa.2⟩
    rw [← hD]; exact List.perm_middle.symm
  exact codeAny_compStart_list (loop _ Sp) (Zs.self Sp (loop _ Sp))
end
end
section
open PySem PySem.W PyProof.Rows PySem.Calls
noncomputable def BK (names : List (Str × NameKind)) (sz : Nat) : List (Str × Value) → Prop
  | [] => True
  | x :: r => (names.lookup x.1 = some .local ∨ (names.lookup x.1 = some .cell ∧ ((cellsFrom (sz + 1) names []).lookup x.1).isSome = true)) ∧ BK names sz r
theorem BK.at {names : List (Str × NameKind)} {sz : Nat} : ∀ {binds : List (Str × Value)}, BK names sz binds → ∀ x ∈ binds, names.lookup x.1 = some .local ∨ (names.lookup x.1 = some .cell ∧ ((cellsFrom (sz + 1) names []).lookup x.1).isSome = true) := by
  intro binds h x hx
  induction binds with
  | nil => cases hx
  | cons a r ih =>
    rcases List.mem_cons.mp hx with rfl | hx
    · exact h.1
    · exact ih h.2 hx
section
variable {prog : Program} {w : World} {mg mb : Str → Option Value} {A : Around} {s : Shared} {c : Cx} {t t' : Heap} {mu mu' : List (Addr × (Obj → Prop))} {n : Nm} {Q : Value → Shared → Prop} {E : Value → Shared → Prop} {env : Env} {k : Nat} {a b : Addr} {vs us : List Value}
theorem comp_list {elt target iter : PySem.Expr} {ifs : List PySem.Expr} {scope : Scope} {pos : Pos} (cl : List (Str × Addr)) (hclos : closureFor scope env = pure cl) (hkind : scope.kind = .function) (hnames : ∀ x ∈ scope.names, x.2 = .local → scope.names.lookup x.1 = some .local)
    (h : wpAny (model prog w) A (eval iter env) (fun x s₁ => wpAny (model prog w) A (pyIter x) (fun it s₂ => wpAny (model prog w) A (newList []) (fun acc s₃ =>
      wpAny (model prog w) A (newFunctionEnv scope env.globals cl [] env.qual none .none (some env)) (fun cenv s₄ =>
        codeAny (model prog w) A (.compStart (.ListComp elt [⟨target, iter, ifs, 0⟩] scope pos) 0 it acc { cenv with scope := relabel scope env }) (compPost (model prog w) A E none Q acc cenv.locals) s₄) E s₃) E s₂) E s₁) E s)
    (hs : ∀ x, foldedSetIterable iter env x = pure x := by intro _; rfl) :
    wpAny (model prog w) A (eval (.ListComp elt [⟨target, iter, ifs, 0⟩] scope pos) env) Q E s := by
  rw [eval_ListComp]
  exact wpAny_comprehension_free (use := none) rfl hs hclos hkind hnames h
theorem iter_range3 {m : Nat} {t1 t2 t3 : Tok} (S : ST w mg mb c t mu n s) (hm : m < 1000) (h : ∀ it s', c.N ≤ it → ST w mg mb c t ((it, RitO 0 2 m 0) :: mu) n s' → Q (.ref it) s') :
    wpAny (model prog w) A (call (.type "range") [.int 0 t1, .int ((2 * m : Nat) : Int) t2, .int 2 t3]) (fun x s₁ => wpAny (model prog w) A (pyIter x) Q E s₁) E s := by
  refine call_range_3 (by decide) ?_ (Or.inl (PyProof.noPylong_small (by omega)))
  have S1 := S.newMu (p := fun o => o = { cls := .type "range", data := .fields #[.int 0 t1, .int ((2 * m : Nat) : Int) t2, .int 2 t3] }) rfl
  obtain ⟨o, e, rfl⟩ := S1.inMu (.head _)
  have e1 : Builtin.Range.rangeSize 0 ((2 * m : Nat) : Int) 2 = m := by
    unfold Builtin.Range.rangeSize
    rw [if_pos (by decide)]
    split <;> omega
  refine wpAny_pyIter_range e ?_ ?_
  · have fit : ∀ x : Int, 0 ≤ x → x < 10000 → Builtin.Range.rangeFitsLong x = true := fun x h1 h2 => by
      unfold Builtin.Range.rangeFitsLong
      simp only [Bool.and_eq_true, decide_eq_true_eq]
      omega
    unfold Builtin.Range.small
    rw [e1, fit 0 (by decide) (by decide), fit _ (by omega) (by omega), fit 2 (by decide) (by decide), fit m (by omega) (by omega), if_pos (by decide), fit (((2 * m : Nat) : Int) + (2 - 1)) (by omega) (by omega), Bool.or_true]
    rfl
  · have S2 := (S1.sub (List.sublist_cons_self ..)).newMu (o := { cls := .type "range_iterator", data := .fields #[rawInt 0, rawInt (Builtin.Range.rangeSize 0 ((2 * m : Nat) : Int) 2), rawInt 2] }) (p := RitO 0 2 m 0) (by
      rw [e1]
      show _ = _
      simp)
    exact h _ _ (by rw [Heap.size_push]; exact Nat.le_succ_of_le S.NL) S2
theorem no_tests {f : PySem.Expr → Bool → Sem (ForInStep Bool)} {Q : Bool → Shared → Prop} (h : Q true s) : wpAny (model prog w) A (forIn [] true f) Q E s := by
  rw [List.forIn_nil]; exact wpAny_pure h
end
end
open PySem PySem.W PyProof.Rows PySem.Calls
local macro_rules | `(tactic| w_left) => `(tactic| first
  | (with_reducible refine no_tests ?_))
section
open PySem PySem.W PyProof.Rows PySem.Calls
section
variable {prog : Program} {w : World} {mg mb : Str → Option Value} {A : Around} {s : Shared} {c : Cx} {t : Heap} {mu : List (Addr × (Obj → Prop))} {n : Nm} {Q E : Value → Shared → Prop} {env : Env} {k : Nat} {b : Bool} {tk ti : Tok}
/-- the row of a leaf: keys and values -/
theorem np1 {v p : Nat} (h : v = 2 * p) (hz : p < 1000) : v ≤ sizeLine := by rw [sizeLine_eq]; omega
theorem np2 {p : Nat} (hz : p < 1000) : p ≤ sizeLine := by rw [sizeLine_eq]; omega
noncomputable def flatR (b : Bool) : List (Nat × Int) → List Dt
  | [] => []
  | p :: r => oDt b p.1 :: .int p.2 :: flatR b r
noncomputable def pairD (b : Bool) (p : Nat × Int) : Dt := .tup [kDt b p.1, .int p.2]
theorem flatR_len : ∀ ps : List (Nat × Int), (flatR b ps).length = 2 * ps.length
  | [] => rfl
  | p :: r => by unfold flatR; rw [List.length_cons, List.length_cons, flatR_len r, List.length_cons]; omega
theorem flatR_get : ∀ (ps : List (Nat × Int)) (i : Nat) (p : Nat × Int), ps[i]? = some p → (flatR b ps)[2 * i]? = some (oDt b p.1) ∧ (flatR b ps)[2 * i + 1]? = some (.int p.2)
  | [], i, p, h => by simp at h
  | q :: r, 0, p, h => by cases h; exact ⟨rfl, rfl⟩
  | q :: r, i + 1, p, h => by
    have := flatR_get r i p h
    show (oDt b q.1 :: .int q.2 :: flatR b r)[2 * (i + 1)]? = _ ∧ (oDt b q.1 :: .int q.2 :: flatR b r)[2 * (i + 1) + 1]? = _
    rw [show 2 * (i + 1) = 2 * i + 1 + 1 by omega, List.getElem?_cons_succ, List.getElem?_cons_succ, List.getElem?_cons_succ, List.getElem?_cons_succ]
    exact this
theorem fmod2 (m : Nat) : ((2 * m : Nat) : Int).fmod 2 = 0 := by rw [Int.fmod_eq_emod_of_nonneg _ (by decide)]; omega
theorem node_pairs_spec {sh v : Value} {nodes : List Dt} {ds : List (Str × Dt)} {ps : List (Nat × Int)} (S : ST w mg mb c t mu n s) (Ra : Ar A env c (k + 5)) (Z : IsShelf prog w t sh nodes)
    (hv : Rep prog w t v (.dct ds)) (hd : dAt ds (wd b) = some (.lst (flatR b ps))) (hz : ps.length < 1000)
    (ret : ∀ a t' s', Sub t t' → c.N ≤ a → ∀ vs, Reps prog w t' vs (ps.map (pairD b)) → ST w mg mb c t' ((a, LstO vs) :: mu) n s' → Q (.ref a) s') : wpAny (model prog w) A (call (.ref 405) [sh, v, .str (wd b) tk]) Q E s := by
  refine call_defC (D := []) (R := mu) (k := k + 4) (binds := [("shelf", sh), ("node", v), ("word", .str (wd b) tk)]) S Ra S.1.pf.nl (at_405 S.1.pf) rfl (cr_405 S.1.pf) rfl (BK.at ⟨.inr ⟨rfl, rfl⟩, .inl rfl, .inr ⟨rfl, rfl⟩, trivial⟩) rfl rfl rfl ?_
  intro c₁ s₁ env₁ A₁ n₀ e0 hN _ hcs S₁ R₁ bk Q₁ E₁
  refine w_cons ?_
  intro K₀
  obtain ⟨a, kvs, rfl, y1, y2, y3, y4⟩ := hv.dct_inv
  have q := dAt_rep y3 y4 (wd b)
  rw [hd] at q
  obtain ⟨v', q1, q2⟩ := q
  repeat w_left
  refine notin_d S₁ (S₁.atT y1) y2 (strKind_is _ _ _ _) fun s₂ S₂ _ => ?_
  rw [q1]
  repeat w_left
  repeat w_left
  refine row_of_spec S₂ R₁ Z (.dct y1 y2 y3 y4) hd fun v'' s₃ r S₃ => ?_
  obtain ⟨rw, vs, rfl, a1, a2⟩ := r.lst_inv
  have hl : vs.length = 2 * ps.length := by rw [a2.1, flatR_len]
  repeat w_left
  rename_i s₄ S₄
  refine len_l S₄ (S₄.atT a1) (np1 hl hz) fun s₅ tk₁ S₅ _ => ?_
  repeat w_left
  try refine PySem.W.ite_neg (by rw [hl, fmod2]; decide) ?_
  repeat w_left
  refine comp_list _ rfl rfl (by decide +kernel) ?_
  repeat w_left
  refine len_l S₅ (S₅.atT a1) (np1 hl hz) fun s₆ tk₂ S₆ _ => ?_
  repeat w_left
  rw [hl]
  refine iter_range3 S₆ hz fun it s₇ hit S₇ => ?_
  refine comp_go it_range self_range (fun i t' mu' ys => Sub t t' ∧ mu' = [] ∧ Reps prog w t' ys ((ps.take i).map (pairD b))) R₁ (by rw [hcs]; exact ⟨rfl, rfl, rfl, trivial⟩) (by decide +kernel) rfl S₇ ⟨Sub.rfl', rfl, Reps.nil⟩
    (fun i t' mu' ys h => ⟨by rw [h.2.1], by rw [h.2.2.1, List.length_map, List.length_take]; exact Nat.min_le_left ..⟩) (fun _ _ _ _ _ _ _ _ _ _ _ => trivial) (np2 hz) ?_ ?_
  · rintro i _ t₉ t' _ ys c' s' m₀ acc E' env₂ hi ⟨tk₃, rfl⟩ ⟨x1, rfl, rr⟩ x9 R₂ hN₂ S' Qy Qn
    replace x1 := x1.tr x9
    replace rr := rr.sub x9
    obtain ⟨⟨p1, p2⟩, hp⟩ : ∃ p, ps[i]? = some p := ⟨_, List.getElem?_eq_getElem hi⟩
    obtain ⟨g1, g2⟩ := flatR_get (b := b) ps i _ hp
    obtain ⟨v1, u1, r1⟩ := a2.get g1
    obtain ⟨v2, u2, r2⟩ := a2.get g2
    repeat w_left
    refine sh_meth (by assumption) (Z.sub x1) (by decide) (by decide) (f := 306) (by kernel_rfl) (by kernel_rfl) ?_
    repeat w_left
    rename_i s₈ S₈
    refine item_l (S₈.atT (a1.sub x1)) (by omega) (by omega) (by rw [← u1]; congr 1; omega) ?_
    repeat w_left
    refine fetch_spec S₈ R₂ (Z.sub x1) (.inl ⟨rfl, r1.sub x1, oDt_nr⟩) fun v1' s₉ r1' S₉ => ?_
    repeat w_left
    refine key_of_spec S₉ R₂ r1' fun k1 s₁₀ q1 S₁₀ => ?_
    repeat w_left
    refine item_l (S₁₀.atT (a1.sub x1)) (by omega) (by omega) (by rw [← u2]; congr 1; omega) ?_
    repeat w_left
    refine new_tup S₁₀ (by show 2 ≤ _; decide) fun s₁₁ t₁ p x2 at1 S₁₁ => ?_
    refine ⟨_, _, _, ⟨x1.tr x2, rfl, ?_⟩, S₁₁⟩
    have e : ps.take (i + 1) = ps.take i ++ [(p1, p2)] := by rw [List.take_add_one, hp]; rfl
    rw [e, List.map_append]
    have rp : Reps prog w t₁ [k1, v2] [kDt b p1, .int p2] := Reps.cons (q1.sub x2) (Reps.cons (r2.sub (x1.tr x2)) Reps.nil)
    exact (rr.sub x2).snoc (.tup at1 rp.1 rp.2)
  · rintro t' _ ys acc s' ha ⟨x1, rfl, rr⟩ S'
    rw [List.take_length] at rr
    refine ret acc t' s' x1 (Nat.le_trans hN ha) ys rr (bk _ [_] [] [] _ _ S' rfl)
end
end
section
open PySem PySem.W PyProof.Rows PySem.Calls
noncomputable def pkey (i : Nat) : List Int := [((10 + i : Nat) : Int), ((i % 2 : Nat) : Int)]
theorem pkey_inj {i j : Nat} (h : pkey i = pkey j) : i = j := by
  unfold pkey at h
  have := (List.cons.inj h).1
  omega
section
variable {prog : Program} {w : World} {mg mb : Str → Option Value} {A : Around} {s : Shared} {c : Cx} {t t' : Heap} {mu mu' : List (Addr × (Obj → Prop))} {n : Nm} {Q : Value → Shared → Prop} {E : Value → Shared → Prop} {env : Env} {k : Nat} {a b : Addr} {vs us : List Value}
noncomputable def PK (h : Heap) (i : Nat) (a : Addr) : Prop := ∃ t1 t2, At h a (TupO [.int ((10 + i : Nat) : Int) t1, .int ((i % 2 : Nat) : Int) t2])
theorem PK.sub {i : Nat} (x : Sub t t') (p : PK t i a) : PK t' i a := let ⟨t1, t2, y⟩ := p; ⟨t1, t2, y.sub x⟩
theorem PK.key {h : Heap} {i : Nat} (p : PK h i a) : IsTupleKey (intKind prog w) h (pkey i) a := by
  obtain ⟨t1, t2, o, e, m, rfl⟩ := p
  exact ⟨_, _, m, e, rfl, rfl, .cons (intKind_is ..) (.cons (intKind_is ..) .nil)⟩
/-- a way: the places from the root on -/
noncomputable def Way (t : Heap) (v : Value) (path : List Nat) : Prop :=
  ∃ (a : Addr) (as : List Addr), v = .ref a ∧ At t a (TupO (as.map Value.ref)) ∧ as.length = path.length ∧ ∀ (j : Nat) x i, as[j]? = some x → path[j]? = some i → PK t i x
theorem Way.sub {v : Value} {path : List Nat} (x : Sub t t') (p : Way t v path) : Way t' v path := by
  obtain ⟨a, as, e, y, l, z⟩ := p
  exact ⟨a, as, e, y.sub x, l, fun j y i h1 h2 => (z j y i h1 h2).sub x⟩
theorem way_in {v : Value} {path : List Nat} {i : Nat} {p : Addr} (S : ST w mg mb c t mu n s) (Ra : Ar A env c k) (W : Way t v path) (hp : PK t i p) (hi : i ∉ path) (h : Q (.bool false) s) :
    wpAny (model prog w) A (compareOp .In (.ref p) v) Q E s := by
  obtain ⟨a, as, rfl, y, l, z⟩ := W
  have kp := S.1.keep
  have hT := (y.sub kp).isTup
  have hpk : IsTupleKey (intKind prog w) s.heap (pkey i) p := (hp.sub kp).key
  show wpAny _ _ (do return .bool (← contains (.ref a) (.ref p))) Q E s
  refine wpAny_bind ?_
  unfold contains
  refine wpAny_holding ?_
  refine wpAny_bind (wpAny_specialOf hT.typeIs slot_tuple_contains.lookup ?_)
  rw [if_neg (by decide)]
  refine wpAny_bind (wpAny_callSpecialUnlessNone?_slot (name := Str.ofString "__contains__") hT.typeIs slot_tuple_contains
    (wpAny_call_entry slot_tuple_contains hT.typeIs entry_tuple_contains ?_ (args_tuple_contains _ _)))
  show wpAny _ _ (Builtin.Tuple.tupleItemsOf (.ref a) >>= _) _ _ s
  refine wpAny_bind (tupleItemsOf_ hT ?_)
  refine wpAny_bind (forIn_array_ _ (fun rest b s' => b.1 = none ∧ s' = s ∧ ∃ as' path', rest = as'.map Value.ref ∧ as'.length = path'.length ∧ (∀ (j : Nat) x i, as'[j]? = some x → path'[j]? = some i → PK t i x) ∧ i ∉ path') _ ?_ ?_ _ _ ⟨rfl, rfl, as, path, by simp, l, z, hi⟩)
  · rintro y rest b s' ⟨hb, rfl, as', path', e, l', z', hi'⟩
    cases as' with
    | nil => cases e
    | cons x as' =>
      obtain ⟨rfl, rfl⟩ := List.cons.inj e
      cases path' with
      | nil => simp at l'
      | cons i' path' =>
        have hx := (z' 0 x i' rfl rfl).sub kp
        refine wpAny_bind (wpAny_eqBool_tuple (by have := Ra.units64; show A.units + 1 < cLine; omega) hx.key hpk ?_)
        have ne : decide (pkey i' = pkey i) = false := decide_eq_false fun q => hi' (by rw [pkey_inj q]; exact .head _)
        rw [ne]
        exact wpAny_pure ⟨rfl, rfl, as', path', rfl, by simpa using l', fun j x i h1 h2 => z' (j + 1) x i h1 h2, fun q => hi' (.tail _ q)⟩
  · rintro ⟨b1, b2⟩ s' ⟨hb, rfl, _⟩
    simp only at hb
    subst hb
    exact wpAny_pure ⟨_, rfl, wpAny_truthy_bool (wpAny_pure h)⟩
theorem add_t (S : ST w mg mb c t mu n s) (x : At t a (TupO vs)) (y : At t b (TupO us)) (hu : us ≠ []) (hz : vs.length + us.length ≤ 1000) (h : ∀ r s' t', Sub t t' → At t' r (TupO (vs ++ us)) → ST w mg mb c t' mu n s' → Q (.ref r) s') :
    wpAny (model prog w) A (binaryOp .Add (.ref a) (.ref b)) Q E s := by
  obtain ⟨n1, ht⟩ := (S.atT x).isT
  obtain ⟨n2, hb⟩ := (S.atT y).isT
  have z2 : ¬ us.toArray.isEmpty = true := by cases us with | nil => exact absurd rfl hu | cons => simp
  cases vs with
  | nil =>
    exact concat_meets ⟨_, ht, rfl⟩ ⟨_, hb, rfl⟩ noFill_tuple_add seq_tuple_add PySem.F.slot_tuple_add PySem.F.entry_tuple_add (PySem.F.args_tuple_add_2 _ _) (tuple_addW0 a b _ us.toArray n1 n2 none none #[] #[] rfl) ⟨ht, hb, h b s t (fun _ _ e => e) y S⟩
  | cons v vs =>
    refine P.add_tuple ht hb (by simp) z2 ?_ (by rw [List.size_toArray, List.size_toArray, sizeLine_eq]; omega)
    obtain ⟨t', x1, e, S'⟩ := S.newIm (o := { cls := .type "tuple", data := .seq ((v :: vs).toArray ++ us.toArray) })
    exact h _ _ t' x1 ⟨_, e, 0, by simp⟩ S'
end
end
section
open PySem PySem.W PyProof.Rows PySem.Calls
theorem nodup_keys : ∀ (L : Nat) (l : List (List Int)), l.Nodup → (∀ x ∈ l, ∃ i, i < L ∧ x = pkey i) → l.length ≤ L
  | 0, [], _, _ => Nat.le_refl _
  | 0, x :: l, _, h => by obtain ⟨i, hi, _⟩ := h x (.head _); omega
  | L + 1, l, nd, h => by
    by_cases m : pkey L ∈ l
    · have e := List.length_erase_of_mem m
      have := nodup_keys L (l.erase (pkey L)) (nd.erase _) fun x hx => by
        obtain ⟨i, hi, rfl⟩ := h x (List.mem_of_mem_erase hx)
        refine ⟨i, ?_, rfl⟩
        have : i ≠ L := fun z => by subst z; exact (List.Nodup.not_mem_erase nd) hx
        omega
      omega
    · have := nodup_keys L l nd fun x hx => by
        obtain ⟨i, hi, rfl⟩ := h x hx
        refine ⟨i, ?_, rfl⟩
        have : i ≠ L := fun z => by subst z; exact m hx
        omega
      omega
section
variable {prog : Program} {w : World} {mg mb : Str → Option Value} {A : Around} {s : Shared} {c : Cx} {t t' : Heap} {mu mu' : List (Addr × (Obj → Prop))} {n : Nm} {Q : Value → Shared → Prop} {E : Value → Shared → Prop} {env : Env} {k : Nat} {d p : Addr} {xs : List (List Int × Addr × Value)} {cn : Nat → Nat} {L i : Nat}
noncomputable def TabO (prog : Program) (w : World) (xs : List (List Int × Addr × Value)) : Obj → Prop := fun o => ∃ es ep, o.ExactDict ∧ o.data = .dict es ep ∧ es.toList = xs.map (entryOfKey (tupleKind (intKind prog w))) ∧ (xs.map (·.1)).Nodup
/-- a table of counts: the place of node i is met cn i times -/
structure Times (t : Heap) (xs : List (List Int × Addr × Value)) (cn : Nat → Nat) (L : Nat) : Prop where
  keys : ∀ x ∈ xs, ∃ i, i < L ∧ x.1 = pkey i ∧ PK t i x.2.1
  cnt : ∀ i, (atKey xs (pkey i) = none ∧ cn i = 0) ∨ ∃ a tk, atKey xs (pkey i) = some (a, .int (cn i) tk)
theorem Times.sub (x : Sub t t') (T : Times t xs cn L) : Times t' xs cn L := ⟨fun y hy => let ⟨i, h, e, p⟩ := T.keys y hy; ⟨i, h, e, p.sub x⟩, T.cnt⟩
theorem Times.nil : Times t [] (fun _ => 0) L := ⟨fun _ h => (nomatch h), fun _ => .inl ⟨rfl, rfl⟩⟩
theorem tab_at {h : Heap} (x : At h d (TabO prog w xs)) (T : Times t xs cn L) (k : Sub t h) : h.DictOfH (tupleKind (intKind prog w)) d xs := by
  obtain ⟨o, e, es, ep, h1, h2, h3, h4⟩ := x
  exact ⟨o, es, ep, e, h1, h2, h3, fun y hy => let ⟨i, _, q, p⟩ := T.keys y hy; by rw [q]; exact (p.sub k).key, h4⟩
theorem Times.len (T : Times t xs cn L) {h : Heap} (x : At h d (TabO prog w xs)) : xs.length ≤ L := by
  obtain ⟨o, e, es, ep, h1, h2, h3, h4⟩ := x
  have := nodup_keys L _ h4 fun y hy => by
    obtain ⟨z, hz, rfl⟩ := List.mem_map.mp hy
    obtain ⟨i, hi, q, _⟩ := T.keys z hz
    exact ⟨i, hi, q⟩
  simpa using this
theorem room_tab (Ra : Ar A env c k) : (tupleKind (intKind prog w)).room A := by have := Ra.units64; show A.units < cLine; omega
theorem room_tab1 (Ra : Ar A env c k) : (tupleKind (intKind prog w)).room A.in1 := by have := Ra.units64; show A.units + 1 < cLine; omega
theorem new_tab {pos : Pos} (S : ST w mg mb c t mu n s) (h : ∀ s' a, c.N ≤ a → (a == sysModules) = false → ST w mg mb c t ((a, TabO prog w []) :: mu) n s' → Q (.ref a) s') :
    wpAny (model prog w) A (eval (.Dict [] [] pos) env) Q E s := by
  refine wpAny_Dict_empty (h _ _ S.NL S.neSys (S.newMu ⟨#[], 0, ⟨rfl, rfl, rfl⟩, rfl, rfl, List.nodup_nil⟩))
theorem meth_tab {name : Str} {id : String} {pl : Sem Bool} {Q : Value × List Value → Shared → Prop} (x : At s.heap d (TabO prog w xs)) (slot : Slot "dict" name id) (ty : typeOf (.builtin id) = pure (.type "method_descriptor")) (h : Q (.builtin id, [.ref d]) s) :
    wpAny (model prog w) A (getMethod (.ref d) name pl) Q E s := by
  obtain ⟨o, e, es, ep, h1, h2, h3, h4⟩ := x
  exact getMethod_builtin ⟨o, e, h1.1⟩ PySem.F.plainAttrs_dict slot ty (fun b q => by cases q; exact ⟨_, e, h1.2.1⟩) h
theorem get_tab {tk : Tok} (S : ST w mg mb c t mu n s) (Ra : Ar A env c k) (x : At s.heap d (TabO prog w xs)) (lo : (d == sysModules) = false) (T : Times t xs cn L) (hp : PK t i p) (h : ∀ s' u, ST w mg mb c t mu n s' → s'.heap = s.heap → Q (.int (cn i) u) s') :
    wpAny (model prog w) A (call (.builtin "dict.get") [.ref d, .ref p, .int 0 tk]) Q E s := by
  have D := tab_at x T S.1.keep
  refine call_meetsIn PySem.F.slot_dict_get D.typeIs PySem.F.entry_dict_get (PySem.F.args_dict_get_3 _ _ _) (meetsH_dict_get_default (tupleKind (intKind prog w)) d p lo (.int 0 tk)) ⟨room_tab1 Ra, pkey i, xs, (hp.sub S.1.keep).key, D, ?_⟩
  rcases T.cnt i with ⟨e, e0⟩ | ⟨a, u, e⟩
  · rw [e]
    have := h { s with toks := s.toks + (tupleKind (intKind prog w)).draws (pkey i) } tk S.toks rfl
    rw [e0] at this; exact this
  · rw [e]
    exact h _ u S.toks rfl
theorem item_tab {value slice : PySem.Expr} (S : ST w mg mb c t mu n s) (Ra : Ar A env c k) (x : At s.heap d (TabO prog w xs)) (T : Times t xs cn L) (hp : PK t i p) (hc : cn i ≠ 0) (h : ∀ s' u, ST w mg mb c t mu n s' → s'.heap = s.heap → Q (.int (cn i) u) s')
    (hs : subscripted slice false (.ref d) (.ref p) = operate [.ref d, .ref p] (getItem (.ref d) (.ref p)) := by with_unfolding_all rfl) :
    wpAny (model prog w) A (subscriptTail value slice (.ref d) (.ref p)) Q E s := by
  have D := tab_at x T S.1.keep
  rcases T.cnt i with ⟨e, e0⟩ | ⟨a, u, e⟩
  · exact absurd e0 hc
  · exact tail_any D.typeIs slot_dict_getitem.lookup (wpAny_getItem_heap (room_tab1 Ra) (hp.sub S.1.keep).key D e (h _ u S.toks rfl)) hs
theorem atKey_map {v : Value} (x y : List Int) : ∀ (xs : List (List Int × Addr × Value)), atKey (xs.map (putAt x v)) y = if y = x then (atKey xs x).map (fun p => (p.1, v)) else atKey xs y
  | [] => by unfold atKey; simp
  | z :: xs => by
    have ih := atKey_map (v := v) x y xs
    unfold atKey at ih ⊢
    rw [List.map_cons]
    have hk : (putAt x v z).1 = z.1 := by unfold putAt; split <;> rfl
    by_cases q : z.1 = y
    · rw [List.find?_cons_of_pos (by simpa [hk] using q)]
      by_cases r : y = x
      · rw [if_pos r, List.find?_cons_of_pos (by simpa using q.trans r)]
        unfold putAt; rw [if_pos (q.trans r)]; rfl
      · rw [if_neg r, List.find?_cons_of_pos (by simpa using q)]
        unfold putAt; rw [if_neg (fun e => r (q.symm.trans e))]
    · rw [List.find?_cons_of_neg (by simpa [hk] using q), ih]
      by_cases r : y = x
      · rw [if_pos r, if_pos r, List.find?_cons_of_neg (by simpa using fun e => q (e.trans r.symm))]
      · rw [if_neg r, if_neg r, List.find?_cons_of_neg (by simpa using q)]
theorem atKey_put {xs : List (List Int × Addr × Value)} {a : Addr} {v : Value} (x y : List Int) : atKey (storedH xs x a v) y = if y = x then some (((atKey xs x).map (·.1)).getD a, v) else atKey xs y := by
  unfold storedH
  cases e : atKey xs x with
  | some p =>
    rw [if_pos (show (some p).isSome = true from rfl), atKey_map, e]; rfl
  | none =>
    rw [if_neg (by simp)]
    unfold atKey at e ⊢
    rw [List.find?_append]
    by_cases q : y = x
    · rw [if_pos q, q]
      rw [Option.map_eq_none_iff] at e
      rw [e]; simp
    · rw [if_neg q]
      cases z : xs.find? fun x => decide (x.1 = y) with
      | some u => rfl
      | none =>
        have : ¬ x = y := fun e => q e.symm
        simp [this]
theorem set_tab {tk : Tok} {Q : Unit → Shared → Prop} {m : Nat} (S : ST w mg mb c t mu n s) (Ra : Ar A env c k) (hd : (d, TabO prog w xs) ∈ mu) (T : Times t xs cn L) (hp : PK t i p) (hi : i < L) (hL : L ≤ 1000)
    (h : ∀ s' xs', Times t xs' (fun j => if j = i then m else cn j) L → (∀ mu', Upd d (TabO prog w xs) (TabO prog w xs') mu mu' → ST w mg mb c t mu' n s') → Q () s') :
    wpAny (model prog w) A (setItem (.ref d) (.ref p) (.int m tk)) Q E s := by
  have D := tab_at (S.atM hd) T S.1.keep
  have hz := T.len (S.atM hd)
  refine wpAny_setItem_heap (room_tab1 Ra) (hp.sub S.1.keep).key D (fun h' D' hs => ?_) (by rw [sizeLine_eq]; omega)
  refine h _ (storedH xs (pkey i) p (.int m tk)) ⟨fun y hy => ?_, fun j => ?_⟩ fun mu' U => ?_
  · unfold storedH at hy
    split at hy
    · obtain ⟨z, hz, rfl⟩ := List.mem_map.mp hy
      obtain ⟨j, hj, e, q⟩ := T.keys z hz
      unfold putAt
      split <;> exact ⟨j, hj, e, q⟩
    · rcases List.mem_append.mp hy with hy | hy
      · exact T.keys y hy
      · rw [List.mem_singleton] at hy; subst hy; exact ⟨i, hi, rfl, hp⟩
  · rw [atKey_put]
    by_cases q : j = i
    · subst q
      rw [if_pos rfl, if_pos rfl]; exact .inr ⟨_, tk, rfl⟩
    · rw [if_neg (fun z => q (pkey_inj z)), if_neg q]; exact T.cnt j
  · obtain ⟨o, es, ep, e, h1, h2, h3, _, h5⟩ := D'
    exact S.write U (fun b x hb e => (hs.2 b hb).trans e) e ⟨es, ep, h1, h2, h3, h5⟩
end
end
section
open PySem PySem.W PyProof.Rows PySem.Calls
section
variable {prog : Program} {w : World} {mg mb : Str → Option Value} {A : Around} {s : Shared} {c : Cx} {t : Heap} {mu : List (Addr × (Obj → Prop))} {n : Nm} {Q E : Value → Shared → Prop} {env : Env} {k : Nat} {b : Bool} {tk ti : Tok}
noncomputable def bump (cn : Nat → Nat) (i : Nat) : Nat → Nat := fun j => if j = i then cn i + 1 else cn j
theorem longer_way_spec {v wv : Value} {path : List Nat} {i L : Nat} {d : Addr} {xs : List (List Int × Addr × Value)} {cn : Nat → Nat} (S : ST w mg mb c t ((d, TabO prog w xs) :: mu) n s) (Ra : Ar A env c (k + 3))
    (hv : Rep prog w t v (.ref ((10 + i : Nat) : Int) ((i % 2 : Nat) : Int))) (W : Way t wv path) (hi : i ∉ path) (hl : path.length ≤ 40) (T : Times t xs cn L) (hiL : i < L) (hL : L ≤ 1000) (hd : (d == sysModules) = false)
    (ret : cn i < 16 → ∀ wv' t' xs' s', Sub t t' → Way t' wv' (path ++ [i]) → Times t' xs' (bump cn i) L → ST w mg mb c t' ((d, TabO prog w xs') :: mu) n s' → Q wv' s')
    (err : 16 ≤ cn i → ∀ e T t' o s', Sub t t' → ST w mg mb c t' ((e, ExcO (.ref T)) :: (T, TbO .none) :: (d, o) :: mu) n s' → E (.ref e) s') :
    wpAny (model prog w) A (call (.ref 419) [wv, v, .ref d]) Q E s := by
  refine call_def (D := [(d, TabO prog w xs)]) (R := mu) (k := k + 2) (binds := [("way", wv), ("value", v), ("times", .ref d)]) S Ra S.1.pf.nl (at_419 S.1.pf) rfl (cr_419 S.1.pf) (BindsTo.of_eq rfl) (locs rfl) (by decide +kernel) rfl rfl rfl ?_
  intro c₁ s₁ env₁ A₁ n₀ e0 hN hF S₁ R₁ bk Q₁ E₁
  refine w_cons ?_
  intro K₀
  repeat w_left
  refine new_tup S₁ (by show 2 ≤ _; decide) fun s₂ t₂ p x2 _ S₂ => ?_
  repeat w_left
  rename_i s₃ S₃
  refine isi S₃ ((hv.sub x2).ty S₃ rfl) (b := true) (by kernel_rfl) fun s₄ S₄ _ => ?_
  repeat w_left
  refine ref_number S₄ (hv.sub x2) fun s₅ tk₁ S₅ _ => ?_
  repeat w_left
  refine ref_generation S₅ (hv.sub x2) fun s₆ tk₂ S₆ _ => ?_
  repeat w_left
  refine new_tup S₆ (by show 2 ≤ _; decide) fun s₇ t₃ p₁ x3 a3 S₇ => ?_
  have x13 := x2.tr x3
  have hp : PK t₃ i p₁ := ⟨_, _, a3⟩
  repeat w_left
  rename_i s₈ S₈
  refine way_in S₈ R₁ (W.sub x13) hp hi ?_
  repeat w_left
  refine meth_tab (S₈.atM (.head _)) PySem.F.slot_dict_get PySem.F.type_dict_get ?_
  repeat w_left
  refine get_tab S₈ R₁ (S₈.atM (.head _)) hd (T.sub x13) hp fun s₉ u S₉ _ => ?_
  repeat w_left
  refine set_tab (m := cn i + 1) S₉ R₁ (.head _) (T.sub x13) hp hiL hL fun s₁₀ xs' T' S₁₀ => ?_
  replace S₁₀ := S₁₀ _ .head
  repeat w_left
  refine item_tab S₁₀ R₁ (S₁₀.atM (.head _)) T' hp (by simp) fun s₁₁ u₁ S₁₁ _ => ?_
  repeat w_left
  by_cases hc : cn i < 16
  · refine PySem.W.ite_neg (by simp; omega) ?_
    obtain ⟨wa, as, rfl, w1, w2, w3⟩ := W.sub x13
    repeat w_left
    refine len_t S₁₁ (S₁₁.atT w1) (by rw [List.length_map, w2, sizeLine_eq]; omega) fun s₁₂ u₂ S₁₂ _ => ?_
    repeat w_left
    try refine PySem.W.ite_neg (by rw [List.length_map, w2]; simp; omega) ?_
    repeat w_left
    refine new_tup S₁₂ (by show 1 ≤ _; decide) fun s₁₃ t₄ q x4 a4 S₁₃ => ?_
    repeat w_left
    refine add_t S₁₃ (w1.sub x4) a4 (by simp) (by rw [List.length_map, w2]; simp; omega) fun r s₁₄ t₅ x5 a5 S₁₄ => ?_
    refine ret hc _ t₅ xs' _ (x13.tr (x4.tr x5)) ⟨r, as ++ [p₁], rfl, by rw [List.map_append]; exact a5, by simp [w2], fun j x i' h1 h2 => ?_⟩ (T'.sub (x4.tr x5)) (bk _ [] [(d, TabO prog w xs')] [] _ _ S₁₄ rfl)
    rcases Nat.lt_or_ge j as.length with q | q
    · rw [List.getElem?_append_left q] at h1
      rw [List.getElem?_append_left (by omega)] at h2
      exact (w3 j x i' h1 h2).sub (x4.tr x5)
    · rw [List.getElem?_append_right q] at h1
      rw [List.getElem?_append_right (by omega), ← w2] at h2
      cases hj : j - as.length with
      | zero => rw [hj] at h1 h2; cases h1; cases h2; exact hp.sub (x4.tr x5)
      | succ j' => rw [hj] at h1; simp at h1
  · refine PySem.W.ite_pos (by simp; omega) ?_
    repeat w_left
    refine make_fault S₁₁ R₁ fun e s₁₂ S₁₂ => ⟨e, _, _, _, rfl, S₁₂, ?_⟩
    refine leave_new S₁₂ R₁ hF fun s₁₃ T S₁₃ => err (by omega) e T t₃ _ _ x13 (bk _ [_, _] [(d, TabO prog w xs')] [] _ _ S₁₃ rfl)
end
end
section
open PySem PySem.W PyProof.Rows PySem.Calls
/-! the plan of a tree: its nodes, the ways through it -/
inductive Nd where
  | kids (l : List Nat)
  | leaf (r : Nat)
noncomputable def kidsOf (plan : List Nd) (i : Nat) : List Nat := match plan[i]? with
  | some (.kids l) => l
  | _ => []
noncomputable def tr (plan : List Nd) : Nat → Nat → List Nat
  | 0, _ => []
  | f + 1, i => i :: (kidsOf plan i).flatMap (tr plan f)
/-- the nodes told from i on, in order -/
noncomputable def trace (plan : List Nd) (i : Nat) : List Nat := tr plan (plan.length - i) i
structure WF (plan : List Nd) : Prop where
  lt : ∀ i j, j ∈ kidsOf plan i → i < j ∧ j < plan.length
  wid : ∀ i, (kidsOf plan i).length ≤ 3
  leaf : ∀ (i r : Nat), plan[i]? = some (Nd.leaf r) → r ≤ 2
  len : plan.length ≤ 14
  pos : 0 < plan.length
section
variable {plan : List Nd}
theorem sb1 {l i : Nat} (h : i < l) : l - i = (l - i - 1) + 1 := by omega
theorem sb2 {l i j : Nat} (h : i < j) (h2 : j < l) : l - j ≤ l - i - 1 := by omega
theorem sb3 {l i j f : Nat} (h : i < j) (h2 : l - i ≤ f + 1) : l - j ≤ f := by omega
theorem sb4 {l i j g : Nat} (h : i < j) (h2 : l - i = g + 1) : l - j ≤ g := by omega
theorem flat_congr (a b : Nat → List Nat) (l : List Nat) (q : ∀ j ∈ l, a j = b j) : l.flatMap a = l.flatMap b := by
  induction l with
  | nil => rfl
  | cons x l ih => rw [List.flatMap_cons, List.flatMap_cons, q x (.head _), ih fun j hj => q j (.tail _ hj)]
theorem tr_eq (W : WF plan) : ∀ (f i : Nat), i < plan.length → plan.length - i ≤ f → tr plan f i = trace plan i
  | 0, i, h, h' => by omega
  | f + 1, i, h, h' => by
    unfold trace
    cases e : plan.length - i with
    | zero => omega
    | succ g =>
      unfold tr
      congr 1
      refine flat_congr _ _ _ fun j hj => ?_
      obtain ⟨h1, h2⟩ := W.lt i j hj
      rw [tr_eq W f j h2 (sb3 h1 h'), tr_eq W g j h2 (sb4 h1 e)]
theorem trace_eq (W : WF plan) {i : Nat} (h : i < plan.length) : trace plan i = i :: (kidsOf plan i).flatMap (trace plan) := by
  have e := sb1 h
  show tr plan (plan.length - i) i = _
  rw [e]
  unfold tr
  congr 1
  refine flat_congr _ _ _ fun j hj => ?_
  obtain ⟨h1, h2⟩ := W.lt i j hj
  exact tr_eq W _ j h2 (sb2 h1 h2)
/-- induction on the nodes, from the last one back -/
theorem nd_induct (W : WF plan) {P : Nat → Prop} (h : ∀ i, i < plan.length → (∀ j ∈ kidsOf plan i, P j) → P i) : ∀ i, i < plan.length → P i := by
  have : ∀ m i, i < plan.length → plan.length - i ≤ m → P i := fun m => by
    induction m with
    | zero => intro i h1 h2; omega
    | succ m ih =>
      intro i h1 h2
      exact h i h1 fun j hj => ih j (W.lt i j hj).2 (by have := W.lt i j hj; omega)
  exact fun i hi => this _ i hi (Nat.le_refl _)
theorem trace_lt (W : WF plan) : ∀ i, i < plan.length → ∀ j ∈ trace plan i, j < plan.length := nd_induct W fun i hi ih j hj => by
  rw [trace_eq W hi] at hj
  rcases List.mem_cons.mp hj with rfl | hj
  · exact hi
  · obtain ⟨x, hx, hj⟩ := List.mem_flatMap.mp hj
    exact ih x hx j hj
theorem len_of_count : ∀ (L m : Nat) (l : List Nat), (∀ x ∈ l, x < L) → (∀ i, l.count i ≤ m) → l.length ≤ m * L
  | 0, m, l, h, _ => by
    cases l with
    | nil => simp
    | cons x l => exact absurd (h x (.head _)) (Nat.not_lt_zero _)
  | L + 1, m, l, h, hc => by
    have ih := len_of_count L m (l.filter (· != L)) (fun x hx => by
      obtain ⟨h1, h2⟩ := List.mem_filter.mp hx
      have := h x h1
      simp at h2; omega) fun i => by
        refine Nat.le_trans ?_ (hc i)
        exact List.Sublist.count_le i List.filter_sublist
    have e : l.length = (l.filter (· != L)).length + l.count L := by
      clear ih h hc
      induction l with
      | nil => rfl
      | cons x l ihl =>
        by_cases q : x = L
        · subst q; simp [ihl]; omega
        · simp [q, ihl]; omega
    have := hc L
    rw [e, Nat.mul_add]; omega
end
/-! what the nodes hold -/
noncomputable def leafP (i r : Nat) : List (Nat × Int) := (List.range r).map fun u => (u, ((100 * i + u : Nat) : Int))
noncomputable def refD (j : Nat) : Dt := .ref ((10 + j : Nat) : Int) ((j % 2 : Nat) : Int)
noncomputable def limD (b : Bool) : Dt := .lst [oDt b 0, oDt b 9]
noncomputable def ndD (b : Bool) (i : Nat) : Nd → List (Str × Dt)
  | .kids l => [("Limits", limD b), ("Kids", .lst (l.map refD))]
  | .leaf r => [("Limits", limD b), (wd b, .lst (flatR b (leafP i r)))]
noncomputable def nodesD (b : Bool) (plan : List Nd) : List Dt := plan.mapIdx fun i x => .dct (ndD b i x)
noncomputable def pairsAt (b : Bool) (plan : List Nd) (i : Nat) : List Dt := match plan[i]? with
  | some (.leaf r) => (leafP i r).map (pairD b)
  | _ => []
theorem nodesD_get {b : Bool} {plan : List Nd} {i : Nat} {x : Nd} (h : plan[i]? = some x) : (nodesD b plan)[i]? = some (.dct (ndD b i x)) := by
  unfold nodesD; rw [List.getElem?_mapIdx, h]; rfl
theorem wd_lim (b : Bool) : (("Limits" : Str) = wd b) = False := by cases b <;> simp [wd] <;> decide
theorem wd_kids (b : Bool) : (("Kids" : Str) = wd b) = False := by cases b <;> simp [wd] <;> decide
theorem nd_lim {b : Bool} {i : Nat} {x : Nd} : dAt (ndD b i x) "Limits" = some (limD b) := by cases x <;> rfl
theorem dAt_ne {k k' : Str} {d : Dt} {l : List (Str × Dt)} (h : k' ≠ k) : dAt ((k', d) :: l) k = dAt l k := by
  unfold dAt; rw [List.find?_cons_of_neg (by simpa using h)]
theorem dAt_eq {k : Str} {d : Dt} {l : List (Str × Dt)} : dAt ((k, d) :: l) k = some d := by
  unfold dAt; rw [List.find?_cons_of_pos (by simp)]; rfl
theorem nd_kids {b : Bool} {i : Nat} {l : List Nat} : dAt (ndD b i (.kids l)) "Kids" = some (.lst (l.map refD)) := by
  unfold ndD; rw [dAt_ne (by decide), dAt_eq]
theorem nd_nokids {b : Bool} {i r : Nat} : dAt (ndD b i (.leaf r)) "Kids" = none := by
  unfold ndD; rw [dAt_ne (by decide), dAt_ne (by cases b <;> decide)]; rfl
theorem nd_row {b : Bool} {i r : Nat} : dAt (ndD b i (.leaf r)) (wd b) = some (.lst (flatR b (leafP i r))) := by
  unfold ndD; rw [dAt_ne (by cases b <;> decide), dAt_eq]
/-! two lists, side by side -/
noncomputable def All2 {α : Type} (R : Value → α → Prop) (vs : List Value) (xs : List α) : Prop := vs.length = xs.length ∧ ∀ (i : Nat) v x, vs[i]? = some v → xs[i]? = some x → R v x
section
variable {α : Type} {R R' : Value → α → Prop} {vs us : List Value} {xs ys : List α}
theorem All2.mono (h : All2 R vs xs) (f : ∀ v x, R v x → R' v x) : All2 R' vs xs := ⟨h.1, fun i v x a b => f _ _ (h.2 i v x a b)⟩
theorem All2.nil : All2 R [] [] := ⟨rfl, fun i v x h => by simp at h⟩
theorem All2.append (h : All2 R vs xs) (g : All2 R us ys) : All2 R (vs ++ us) (xs ++ ys) := ⟨by rw [List.length_append, List.length_append, h.1, g.1], fun i v x a b => by
  rcases Nat.lt_or_ge i vs.length with q | q
  · rw [List.getElem?_append_left q] at a
    rw [List.getElem?_append_left (by rw [← h.1]; exact q)] at b
    exact h.2 i v x a b
  · rw [List.getElem?_append_right q] at a
    rw [List.getElem?_append_right (by rw [← h.1]; exact q), ← h.1] at b
    exact g.2 _ v x a b⟩
theorem All2.one {v : Value} {x : α} (h : R v x) : All2 R [v] [x] := ⟨rfl, fun i v' x' a b => by
  cases i with
  | zero => cases a; cases b; exact h
  | succ i => simp at a⟩
theorem All2.snoc {v : Value} {x : α} (h : All2 R vs xs) (g : R v x) : All2 R (vs ++ [v]) (xs ++ [x]) := h.append (All2.one g)
theorem All2.take (h : All2 R vs xs) (k : Nat) : All2 R (vs.take k) (xs.take k) := ⟨by rw [List.length_take, List.length_take, h.1], fun i v x a b => by
  rw [List.getElem?_take] at a b
  split at a
  · rename_i q; rw [if_pos q] at b; exact h.2 i v x a b
  · cases a⟩
theorem All2.reverse (h : All2 R vs xs) : All2 R vs.reverse xs.reverse := ⟨by rw [List.length_reverse, List.length_reverse, h.1], fun i v x a b => by
  have hi : i < vs.length := by have := (List.getElem?_eq_some_iff.mp a).1; rwa [List.length_reverse] at this
  rw [List.getElem?_reverse hi] at a
  rw [List.getElem?_reverse (by rw [← h.1]; exact hi), ← h.1] at b
  exact h.2 _ v x a b⟩
theorem All2.get {i : Nat} {x : α} (h : All2 R vs xs) (e : xs[i]? = some x) : ∃ v, vs[i]? = some v ∧ R v x := by
  have hi : i < vs.length := by rw [h.1]; exact (List.getElem?_eq_some_iff.mp e).1
  exact ⟨vs[i], List.getElem?_eq_getElem hi, h.2 i _ x (List.getElem?_eq_getElem hi) e⟩
end
theorem reps_all2 {prog : Program} {w : World} {t : Heap} {vs : List Value} {ds : List Dt} : Reps prog w t vs ds ↔ All2 (Rep prog w t) vs ds := Iff.rfl
end
section
open PySem PySem.W PyProof.Rows PySem.Calls
theorem xl1 {a b m : Nat} (h : a - b = m + 1) : b < a := by omega
theorem xl2 {a b m : Nat} (h : a - b = m + 1) : a - (b + 1) = m := by omega
theorem nolen_rev : typeLookup (.type "list_reverseiterator") "__len__" = pure none := by rw [typeLookup_type, builtinLookup_eq_fast]; kernel_rfl
theorem hint_rev : typeLookup (.type "list_reverseiterator") "__length_hint__" = pure (some (.builtin "list_reverseiterator.__length_hint__")) := by rw [typeLookup_type, builtinLookup_eq_fast]; kernel_rfl
section
variable {prog : Program} {w : World} {mg mb : Str → Option Value} {A : Around} {s : Shared} {c : Cx} {t t' : Heap} {mu mu' : Mus} {n : Nm} {Q : Value → Shared → Prop} {E : Value → Shared → Prop} {env : Env} {k : Nat} {a b e T : Addr} {vs us : List Value}
theorem Ar.in1 (R : Ar A env c (k + 1)) : Ar A.in1 env c k := by
  have e1 : A.in1.depth = A.depth := rfl
  have e2 : A.in1.units = A.units + 1 := rfl
  exact { R with dp := by have := R.dp; rw [e1]; omega, un := by have := R.un; rw [e2]; omega }
theorem pop_l {v : Value} (S : ST w mg mb c t mu n s) (U : Upd a (LstO (vs ++ [v])) (LstO vs) mu mu') (hz : vs.length < sizeLine) (h : ∀ s', ST w mg mb c t mu' n s' → Q v s') :
    wpAny (model prog w) A (call (.builtin "list.pop") [.ref a]) Q E s := by
  obtain ⟨_, e, k, rfl⟩ := S.inMu U.mem
  refine call_meets PySem.F.slot_list_pop ⟨_, e, rfl⟩ PySem.F.entry_list_pop (PySem.F.args_list_pop_1 _) (MeetsSeq.list_pop_last a (vs ++ [v]).toArray k v (by simp) (by rw [List.size_toArray, List.length_append]; exact hz)) ⟨e, ?_⟩
  show Q v _
  have e1 : (vs ++ [v]).toArray.eraseIdxIfInBounds ((vs ++ [v]).toArray.size - 1) = vs.toArray := by
    apply Array.toList_inj.mp
    simp only [Array.eraseIdxIfInBounds, List.size_toArray, List.length_append, List.length_cons, List.length_nil, Nat.zero_add, Nat.add_sub_cancel]
    simp [List.eraseIdx_append_of_length_le]
  exact h _ (S.write U (fun b x hb e => (Heap.get?_update_other _ _ (Ne.symm hb)).trans e) (Heap.get?_update_self _ e rfl) ⟨_, by unfold Obj.mapSeq; dsimp only; rw [e1]⟩)
theorem extend_l (S : ST w mg mb c t mu n s) (x : At s.heap b (LstO us)) (U : Upd a (LstO vs) (LstO (vs ++ us)) mu mu') (hz : vs.length + us.length ≤ sizeLine) (h : ∀ s', ST w mg mb c t mu' n s' → Q .none s') :
    wpAny (model prog w) A (call (.builtin "list.extend") [.ref a, .ref b]) Q E s := by
  obtain ⟨_, e, k, rfl⟩ := S.inMu U.mem
  obtain ⟨_, e2, k2, rfl⟩ := x
  refine call_meets PySem.F.slot_list_extend ⟨_, e, rfl⟩ PySem.F.entry_list_extend (PySem.F.args_list_extend_2 _ _) (PySem.AutoSeq1.list_extend_list_list_0 a vs.toArray k b us.toArray k2 (extend_door (by simpa using hz)) (by simp; omega) (by simp; omega)) ⟨e, e2, ?_⟩
  exact h _ (S.write U (fun b x hb e => (Heap.get?_update_other _ _ (Ne.symm hb)).trans e) (Heap.get?_update_self _ e rfl) ⟨_, by simp [Obj.mapSeq]; rfl⟩)
theorem extend_loop {it : Addr} {ok : Heap → Prop} {im : Nat → Mus} {us : List Value} (Z : ItOK prog w mg mb it ok im (plainO im) (fun i _ v => us[i]? = some v) us.length) (hok : ∀ p t' n' s', ST w mg mb c t' (p ++ mu) n' s' → Sub t t' → ok s'.heap) (Ra : Ar A env c (k + 1)) {R : Result → Shared → Prop}
    (hz : vs.length + us.length ≤ sizeLine) (h : ∀ s' t', Sub t t' → ST w mg mb c t' ((a, LstO (vs ++ us)) :: mu) n s' → R (.ok (.ret .none)) s') :
    ∀ (m i : Nat) (s : Shared) (t' : Heap), Sub t t' → us.length - i = m → i ≤ us.length → ST w mg mb c t' (im i ++ (a, LstO (vs ++ us.take i)) :: mu) n s → codeAny (model prog w) A (.builtin "list.extend.loop" ⟨[.ref a, .ref it, .none], []⟩) R s := by
  intro m
  have hok' : ∀ i t' s', Sub t t' → ST w mg mb c t' (im i ++ (a, LstO (vs ++ us.take i)) :: mu) n s' → ok s'.heap := fun i t' s' x S => hok (im i ++ [(a, LstO (vs ++ us.take i))]) t' _ s' (by rw [List.append_assoc]; exact S) x
  induction m with
  | zero =>
    intro i s t' x1 hm hi S
    obtain rfl : i = us.length := Nat.le_antisymm hi (Nat.le_of_sub_eq_zero hm)
    refine codeAny_builtin PySem.F.entry_extend_loop ?_
    rw [Around.under_plainId PySem.F.plain_extend_loop _]
    show wpAny _ A.in1 (pyNext (.ref it) >>= _) _ _ s
    refine wpAny_bind (Z.last Ra.in1 S (hok' _ _ _ x1 S) fun s' S' => ?_)
    rw [List.take_length] at S'
    exact wpAny_pure (h s' t' x1 S')
  | succ m ih =>
    intro i s t' x1 hm hi S
    refine codeAny_builtin PySem.F.entry_extend_loop ?_
    rw [Around.under_plainId PySem.F.plain_extend_loop _]
    show wpAny _ A.in1 (pyNext (.ref it) >>= _) _ _ s
    refine wpAny_bind (Z.item Ra.in1 S (hok' _ _ _ x1 S) (xl1 hm) fun v t'' s' x2 hv S' => ?_)
    show wpAny _ A.in1 (updateSeq a (·.push v) >>= _) _ _ _
    refine wpAny_bind ?_
    obtain ⟨_, e, k', rfl⟩ := S'.inMu (List.mem_append_right _ (.head _))
    have ht : (us.take i).length ≤ i := by rw [List.length_take]; exact Nat.min_le_left _ _
    refine wpAny_updateSeq e rfl (wpAny_pure ⟨plainId_quiet PySem.F.plain_extend_loop _, ih (i + 1) _ t'' (x1.tr x2) (xl2 hm) (xl1 hm) ?_⟩) (by simp; omega) (by simp; omega)
    have e1 : us.take (i + 1) = us.take i ++ [v] := by rw [List.take_add_one, hv]; rfl
    exact S'.write (Upd.at _ .head) (fun b x hb e => (Heap.get?_update_other _ _ (Ne.symm hb)).trans e) (Heap.get?_update_self _ e rfl) ⟨_, by rw [e1]; simp [Obj.mapSeq]; rfl⟩
theorem extend_rev {it l : Addr} (S : ST w mg mb c t ((it, RevO l ((us.length : Int) - 1 - (0 : Nat))) :: (a, LstO vs) :: mu) n s) (Ra : Ar A env c (k + 2)) (x : ∀ p t' n' s', ST w mg mb c t' (p ++ mu) n' s' → Sub t t' → At s'.heap l (LstO us))
    (hz : vs.length + us.length ≤ sizeLine) (h : ∀ s' t', Sub t t' → ST w mg mb c t' ((a, LstO (vs ++ us.reverse)) :: mu) n s' → Q .none s') : wpAny (model prog w) A (call (.builtin "list.extend") [.ref a, .ref it]) Q E s := by
  obtain ⟨_, e, ka, rfl⟩ := S.inMu (.tail _ (.head _))
  obtain ⟨oi, ei, hc, hd⟩ := S.inMu (.head _)
  have ne : a ≠ it := fun z => by
    have := S.1.nod
    rw [List.map_cons, List.map_cons, List.nodup_cons] at this
    exact this.1 (z ▸ .head _)
  have hT : s.TypeIs (.ref it) "list_reverseiterator" := ⟨oi, ei, hc⟩
  have hTa : s.TypeIs (.ref a) "list" := ⟨_, e, rfl⟩
  refine wpAny_call (codeAny_call_builtin PySem.F.slot_list_extend.plain PySem.F.entry_list_extend (PySem.F.slot_list_extend.check _ _ _ _ _ _ _ _ hTa (PySem.F.args_list_extend_2 _ _) ?_))
  show wpAny _ A.in1 (Builtin.List.listExtendWith (.ref a) (.ref it) .none) _ _ _
  unfold Builtin.List.listExtendWith
  refine wpAny_bind (wpAny_typeOf hT ?_)
  have h1 : Builtin.List.listSameRef (.ref a) (.ref it) = false := by simp [Builtin.List.listSameRef, ne]
  rw [if_neg (by rw [h1]; decide)]
  refine wpAny_bind (wpAny_pyIter_revIter ⟨oi, ei, hc, hd⟩ ?_)
  refine wpAny_bind (wpAny_holding ?_)
  unfold Builtin.List.listLengthHint
  refine wpAny_bind (wpAny_specialOf hT nolen_rev ?_)
  show wpAny _ A.in1 (specialOf (Value.ref it) (Str.ofString "__length_hint__") >>= _) _ _ _
  refine wpAny_bind (wpAny_specialOf hT hint_rev ?_)
  (generalize hid : ("list_reverseiterator.__length_hint__" : String) = id0; (fail_if_success (clear hid id0)); wp_delta; rw [show splitId id0 = some ("list_reverseiterator", "__length_hint__") from by subst hid; decide +kernel]; subst hid)
  refine wpAny_bind (wpAny_isInstance (b := true) hT (by rw [isSubtype_type]; kernel_rfl) ?_)
  refine wpAny_pure ?_
  rw [if_neg (by decide)]
  refine wpAny_pure ⟨plainId_quiet PySem.F.plain_extend_loop _, ?_⟩
  have Z : ItOK prog w mg mb it (fun h => At h l (LstO us)) (fun i => [(it, RevO l ((us.length : Int) - 1 - i))]) (plainO fun i => [(it, RevO l ((us.length : Int) - 1 - i))]) (fun i _ v => us.reverse[i]? = some v) us.reverse.length := by
    have := it_rev (prog := prog) (w := w) (mg := mg) (mb := mb) (l := l) (it := it) (vs := us)
    rw [List.length_reverse]; exact this
  exact extend_loop (us := us.reverse) (c := c) (t := t) (vs := vs) (n := n) (mu := mu) Z x Ra (by simpa using hz) h _ 0 s t (fun _ _ e => e) rfl (Nat.zero_le _) (by simpa using S)
theorem add_l (S : ST w mg mb c t mu n s) (x : At s.heap a (LstO vs)) (y : At s.heap b (LstO us)) (hz : vs.length + us.length ≤ sizeLine) (h : ∀ r s', c.N ≤ r → ST w mg mb c t ((r, LstO (vs ++ us)) :: mu) n s' → Q (.ref r) s') :
    wpAny (model prog w) A (binaryOp .Add (.ref a) (.ref b)) Q E s := by
  obtain ⟨n1, ht⟩ := x.isL
  obtain ⟨n2, hb⟩ := y.isL
  refine P.add_list ht hb ?_ (by simpa using hz)
  exact h _ _ S.NL (S.newMu (o := { cls := .type "list", data := .seq (vs.toArray ++ us.toArray) }) ⟨0, by simp⟩)
/-- an exception that a statement of a loop's body lets out -/
theorem loop_err (S : ST w mg mb c t ((e, ExcO (.ref T)) :: (T, TbO .none) :: mu) n s) (Ra : Ar A env c k) (hF : A.frames = some (env :: c.outer))
    (h : ∀ s' T', ST w mg mb c t ((e, ExcO (.ref T')) :: (T', TbO (rawInt c.L)) :: mu) n s' → E (.ref e) s') : notedBy (model prog w) A env (fun e s' => cameBackBy (model prog w) A env E e s') (.ref e) s :=
  note_on S Ra hF fun _ T' S' => came_back S' Ra fun s'' S'' => h s'' T' S''
theorem loop_errN (S : ST w mg mb c t ((e, ExcO .none) :: mu) n s) (Ra : Ar A env c k) (hF : A.frames = some (env :: c.outer))
    (h : ∀ s' T', ST w mg mb c t ((e, ExcO (.ref T')) :: (T', TbO (rawInt c.L)) :: mu) n s' → E (.ref e) s') : notedBy (model prog w) A env (fun e s' => cameBackBy (model prog w) A env E e s') (.ref e) s :=
  note_new S Ra hF fun _ T' S' => came_back S' Ra fun s'' S'' => h s'' T' S''
end
end
section
open PySem PySem.W PyProof.Rows PySem.Calls
section
variable {prog : Program} {w : World} {mg mb : Str → Option Value} {A : Around} {s : Shared} {c : Cx} {t t' : Heap} {mu : List (Addr × (Obj → Prop))} {n : Nm} {Q E : Value → Shared → Prop} {env : Env} {k : Nat} {b : Bool} {tk ti : Tok}
noncomputable def StkOK (prog : Program) (w : World) (t : Heap) (v : Value) (p : Nat × List Nat) : Prop := ∃ a x y, v = .ref a ∧ At t a (TupO [x, y]) ∧ Rep prog w t x (refD p.1) ∧ Way t y p.2
theorem StkOK.sub {v : Value} {p : Nat × List Nat} (x : Sub t t') (h : StkOK prog w t v p) : StkOK prog w t' v p := by
  obtain ⟨a, u, y, e, h1, h2, h3⟩ := h
  exact ⟨a, u, y, e, h1.sub x, h2.sub x, h3.sub x⟩
theorem All2.concat {α : Type} {R : Value → α → Prop} {vs : List Value} {xs : List α} {x : α} (h : All2 R vs (xs ++ [x])) : ∃ us u, vs = us ++ [u] ∧ All2 R us xs ∧ R u x := by
  rcases List.eq_nil_or_concat vs with rfl | ⟨us, u, rfl⟩
  · have := h.1; simp at this
  · have hl : us.length = xs.length := by have := h.1; simpa using this
    refine ⟨us, u, by simp, ⟨hl, fun i v y e1 e2 => ?_⟩, ?_⟩
    · refine h.2 i v y ?_ ?_
      · rw [List.concat_eq_append, List.getElem?_append_left (List.getElem?_eq_some_iff.mp e1).1]; exact e1
      · rw [List.getElem?_append_left (List.getElem?_eq_some_iff.mp e2).1]; exact e2
    · exact h.2 us.length u x (by simp) (by rw [hl]; simp)
theorem in_rep {v : Value} {ds : List (Str × Dt)} {key : Str} (S : ST w mg mb c t mu n s) (r : Rep prog w t v (.dct ds)) (h : ∀ s', ST w mg mb c t mu n s' → s'.heap = s.heap → Q (.bool (dAt ds key).isSome) s') :
    wpAny (model prog w) A (compareOp .In (.str key tk) v) Q E s := by
  obtain ⟨a, kvs, rfl, y1, y2, y3, y4⟩ := r.dct_inv
  have q := dAt_rep y3 y4 key
  refine in_d S (S.atT y1) y2 (strKind_is _ _ _ _) fun s' S' e => ?_
  cases hd : dAt ds key with
  | none => rw [hd] at q; rw [q]; have := h s' S' e; rw [hd] at this; exact this
  | some d => rw [hd] at q; obtain ⟨v', q1, _⟩ := q; rw [q1]; have := h s' S' e; rw [hd] at this; exact this
structure TP (prog : Program) (w : World) (b : Bool) (plan : List Nd) (t : Heap) (done : List Nat) (stk : List (Nat × List Nat)) (lv fv : List Value) (xs : List (List Int × Addr × Value)) : Prop where
  tr : trace plan 0 = done ++ stk.reverse.flatMap fun p => trace plan p.1
  cn : ∀ i, done.count i ≤ 16
  ok : ∀ p ∈ stk, p.1 < plan.length ∧ (∀ j ∈ p.2, j < p.1) ∧ p.2.length ≤ p.1
  sz : stk.length ≤ 1 + 3 * done.length
  lv : All2 (StkOK prog w t) lv stk
  fv : Reps prog w t fv (done.flatMap (pairsAt b plan))
  ts : Times t xs (fun i => done.count i) plan.length
theorem tp3 {a s d : Nat} (h : a = s) (h1 : s ≤ 1 + 3 * d) (h2 : d ≤ 224) : a < sizeLine := by rw [sizeLine_eq]; omega
theorem TP.len {plan : List Nd} {done : List Nat} {stk : List (Nat × List Nat)} {lv fv : List Value} {xs : List (List Int × Addr × Value)} (W : WF plan) (h : TP prog w b plan t done stk lv fv xs) : done.length ≤ 224 := by
  have := len_of_count plan.length 16 done (fun x hx => trace_lt W 0 W.pos x (by rw [h.tr]; exact List.mem_append_left _ hx)) h.cn
  have := W.len
  omega
theorem TP.front {plan : List Nd} {done : List Nat} {stk : List (Nat × List Nat)} {p : Nat × List Nat} {lv fv : List Value} {xs : List (List Int × Addr × Value)} (W : WF plan) (H : TP prog w b plan t done (stk ++ [p]) lv fv xs) :
    trace plan 0 = done ++ (p.1 :: (kidsOf plan p.1).flatMap (trace plan) ++ stk.reverse.flatMap fun p => trace plan p.1) := by
  have htr := H.tr
  rw [List.reverse_append, List.reverse_cons, List.reverse_nil, List.nil_append, List.flatMap_append, List.flatMap_cons, List.flatMap_nil, List.append_nil, trace_eq W (H.ok p (by simp)).1] at htr
  exact htr
theorem TP.bad {plan : List Nd} {done : List Nat} {stk : List (Nat × List Nat)} {p : Nat × List Nat} {lv fv : List Value} {xs : List (List Int × Addr × Value)} (W : WF plan) (H : TP prog w b plan t done (stk ++ [p]) lv fv xs) (hc : 16 ≤ done.count p.1) :
    16 < (trace plan 0).count p.1 := by
  rw [H.front W, List.count_append, List.cons_append, List.count_cons_self]; omega
theorem count_snoc {done : List Nat} {x : Nat} (hc : done.count x < 16) (h : ∀ i, done.count i ≤ 16) : ∀ i, (done ++ [x]).count i ≤ 16 := fun i => by
  have := h i
  by_cases q : i = x
  · subst q; rw [List.count_append, List.count_singleton_self]; omega
  · rw [List.count_append, List.count_singleton, if_neg (by simpa using Ne.symm q)]; omega
theorem bump_snoc {done : List Nat} {x : Nat} : (fun i => (done ++ [x]).count i) = bump (fun i => done.count i) x := by
  funext i
  unfold bump
  by_cases q : i = x
  · subst q; rw [if_pos rfl, List.count_append, List.count_singleton_self]
  · rw [if_neg q, List.count_append, List.count_singleton, if_neg (by simpa using Ne.symm q)]; rfl
theorem TP.kids {plan : List Nd} {done : List Nat} {stk : List (Nat × List Nat)} {p : Nat × List Nat} {lv lv' ys fv : List Value} {xs xs' : List (List Int × Addr × Value)} {l : List Nat} (W : WF plan) (H : TP prog w b plan t done (stk ++ [p]) lv fv xs) (hnd : plan[p.1]? = some (.kids l))
    (x : Sub t t') (hlv : All2 (StkOK prog w t') lv' stk) (h3 : All2 (StkOK prog w t') ys (l.reverse.map fun j => (j, p.2 ++ [p.1]))) (T' : Times t' xs' (bump (fun i => done.count i) p.1) plan.length) (hc : done.count p.1 < 16) :
    TP prog w b plan t' (done ++ [p.1]) (stk ++ l.reverse.map fun j => (j, p.2 ++ [p.1])) (lv' ++ ys) fv xs' ∧
    ((stk ++ l.reverse.map fun j => (j, p.2 ++ [p.1])).flatMap fun p => trace plan p.1).length < ((stk ++ [p]).flatMap fun p => trace plan p.1).length := by
  have hkl : kidsOf plan p.1 = l := by unfold kidsOf; rw [hnd]
  have hokp := H.ok p (by simp)
  have hsz : (stk ++ [p]).length ≤ _ := H.sz
  have hl3 : l.length ≤ 3 := by have := W.wid p.1; rw [hkl] at this; exact this
  rw [List.length_append, List.length_singleton] at hsz
  refine ⟨⟨?_, count_snoc hc H.cn, ?_, ?_, hlv.append h3, ?_, by rw [bump_snoc]; exact T'⟩, ?_⟩
  · rw [H.front W, hkl, List.reverse_append, ← List.map_reverse, List.reverse_reverse, List.flatMap_append, List.flatMap_map]
    simp
  · intro q hq
    rcases List.mem_append.mp hq with hq | hq
    · exact H.ok q (List.mem_append_left _ hq)
    · obtain ⟨j, hj, rfl⟩ := List.mem_map.mp hq
      have := W.lt p.1 j (by rw [hkl]; exact List.mem_reverse.mp hj)
      refine ⟨this.2, fun i hi => ?_, by have := hokp.2.2; simp; omega⟩
      rcases List.mem_append.mp hi with hi | hi
      · have := hokp.2.1 i hi; omega
      · rw [List.mem_singleton] at hi; omega
  · rw [List.length_append, List.length_append, List.length_map, List.length_reverse]; simp; omega
  · rw [List.flatMap_append, List.flatMap_cons, List.flatMap_nil, List.append_nil, show pairsAt b plan p.1 = [] by unfold pairsAt; rw [hnd], List.append_nil]
    exact H.fv.sub x
  · rw [List.flatMap_append, List.flatMap_append, List.length_append, List.length_append, List.flatMap_cons, List.flatMap_nil, List.append_nil, trace_eq W hokp.1, hkl, List.length_cons, List.flatMap_map]
    have : (l.reverse.flatMap (trace plan)).length = (l.flatMap (trace plan)).length := by rw [List.length_flatMap, List.length_flatMap, List.map_reverse, List.sum_reverse]
    change _ + (l.reverse.flatMap (trace plan)).length < _
    omega
theorem TP.leaf {plan : List Nd} {done : List Nat} {stk : List (Nat × List Nat)} {p : Nat × List Nat} {lv lv' ys fv : List Value} {xs xs' : List (List Int × Addr × Value)} {r : Nat} (W : WF plan) (H : TP prog w b plan t done (stk ++ [p]) lv fv xs) (hnd : plan[p.1]? = some (.leaf r))
    (x : Sub t t') (hlv : All2 (StkOK prog w t') lv' stk) (rp : Reps prog w t' ys ((leafP p.1 r).map (pairD b))) (T' : Times t' xs' (bump (fun i => done.count i) p.1) plan.length) (hc : done.count p.1 < 16) :
    TP prog w b plan t' (done ++ [p.1]) stk lv' (fv ++ ys) xs' ∧ (stk.flatMap fun p => trace plan p.1).length < ((stk ++ [p]).flatMap fun p => trace plan p.1).length := by
  have hkl : kidsOf plan p.1 = [] := by unfold kidsOf; rw [hnd]
  have hokp := H.ok p (by simp)
  have hsz : (stk ++ [p]).length ≤ _ := H.sz
  rw [List.length_append, List.length_singleton] at hsz
  refine ⟨⟨?_, count_snoc hc H.cn, fun q hq => H.ok q (List.mem_append_left _ hq), ?_, hlv, ?_, by rw [bump_snoc]; exact T'⟩, ?_⟩
  · rw [H.front W, hkl]; simp
  · rw [List.length_append]; simp; omega
  · rw [List.flatMap_append, List.flatMap_cons, List.flatMap_nil, List.append_nil, show pairsAt b plan p.1 = (leafP p.1 r).map (pairD b) by unfold pairsAt; rw [hnd]]
    exact (H.fv.sub x).append rp
  · rw [List.flatMap_append, List.length_append, List.flatMap_cons, List.flatMap_nil, List.append_nil, trace_eq W hokp.1, hkl]; simp
theorem TP.flen {plan : List Nd} {done : List Nat} {stk : List (Nat × List Nat)} {lv fv : List Value} {xs : List (List Int × Addr × Value)} (W : WF plan) (H : TP prog w b plan t done stk lv fv xs) : fv.length ≤ 2 * done.length := by
  rw [H.fv.1]
  have : ∀ l : List Nat, (∀ i ∈ l, (pairsAt b plan i).length ≤ 2) → (l.flatMap (pairsAt b plan)).length ≤ 2 * l.length := fun l => by
    induction l with
    | nil => simp
    | cons x l ih =>
      intro h
      have h1 := ih fun i hi => h i (.tail _ hi)
      have h2 := h x (.head _)
      rw [List.flatMap_cons, List.length_append, List.length_cons]; omega
  refine this done fun i _ => ?_
  unfold pairsAt
  cases hi : plan[i]? with
  | none => simp
  | some x =>
    cases x with
    | kids _ => simp
    | leaf r => have := W.leaf i r hi; simp [leafP]; exact this
inductive PairsI (prog : Program) (w : World) (mg : Str → Option Value) (mb : Str → Option Value) (b : Bool) (tk : Tok) (c₁ : Cx) (t : Heap) (plan : List Nd) (sh : Value) (la : Addr) (d : Addr) (fa : Addr) (m : Nat) (s' : Shared) : Prop
  | mk (t' : Heap) (done : List Nat) (stk : List (Nat × List Nat)) (lv fv : List Value) (xs : List (List Int × Addr × Value)) (n' : Nm) : Sub t t' → m = (stk.flatMap fun p => trace plan p.1).length → TP prog w b plan t' done stk lv fv xs → ST w mg mb c₁ t' [(la, LstO lv), (d, TabO prog w xs), (fa, LstO fv)] n' s' → n'.own = true → n'.m "found" = some (.ref fa) → n'.m "times" = some (.ref d) → n'.m "line" = some (.ref la) → n'.m "shelf" = some sh → n'.m "word" = some (.str (wd b) tk) → PairsI prog w mg mb b tk c₁ t plan sh la d fa m s'
theorem tree_pairs_spec {sh v : Value} {plan : List Nd} (S : ST w mg mb c t mu n s) (Ra : Ar A env c (k + 8)) (Z : IsShelf prog w t sh (nodesD b plan)) (W : WF plan) (hv : Rep prog w t v (refD 0))
    (ret : (∀ i, (trace plan 0).count i ≤ 16) → ∀ v' t' s', Sub t t' → Rep prog w t' v' (.lst ((trace plan 0).flatMap (pairsAt b plan))) → ST w mg mb c t' mu n s' → Q v' s')
    (err : (∃ i, 16 < (trace plan 0).count i) → ∀ e T t' s', Sub t t' → ST w mg mb c t' ((e, ExcO (.ref T)) :: (T, TbO .none) :: mu) n s' → E (.ref e) s') :
    wpAny (model prog w) A (call (.ref 424) [sh, v, .str (wd b) tk]) Q E s := by
  refine call_defC (D := []) (R := mu) (k := k + 7) (binds := [("shelf", sh), ("root", v), ("word", .str (wd b) tk)]) S Ra S.1.pf.nl (at_424 S.1.pf) rfl (cr_424 S.1.pf) rfl (BK.at ⟨.inl rfl, .inl rfl, .inl rfl, trivial⟩) rfl rfl rfl ?_
  intro c₁ s₁ env₁ A₁ n₀ e0 hN hF hcs S₁ R₁ bk Q₁ E₁
  refine w_cons ?_
  intro K₀
  repeat w_left
  refine new_lst S₁ (by show 0 ≤ _; decide) fun s₂ fa hfa S₂ => ?_
  repeat w_left
  refine new_tab (by assumption) fun s₃ d hd sd S₃ => ?_
  repeat w_left
  rename_i s₄ S₄
  refine new_tup S₄ (by show 0 ≤ _; decide) fun s₅ t₅ w0 x5 a5 S₅ => ?_
  repeat w_left
  refine new_tup S₅ (by show 2 ≤ _; decide) fun s₆ t₆ p0 x6 a6 S₆ => ?_
  repeat w_left
  refine new_lst S₆ (by show 1 ≤ _; decide) fun s₇ la hla S₇ => ?_
  repeat w_left
  rename_i s₈ S₈
  refine while_go (PairsI prog w mg mb b tk c₁ t plan sh la d fa) ?_ _ ⟨t₆, [], [(0, [])], [.ref p0], [], [], _, x5.tr x6, rfl, ⟨by simp, fun _ => by simp, fun q hq => by rw [List.mem_singleton] at hq; subst hq; exact ⟨W.pos, fun j hj => (nomatch hj), Nat.le_refl _⟩, by simp, All2.one ⟨p0, v, .ref w0, rfl, a6, hv.sub (x5.tr x6), w0, [], rfl, a5.sub x6, rfl, fun j x i h => by simp at h⟩, Reps.nil, Times.nil⟩, S₈, rfl, rfl, rfl, rfl, rfl, rfl⟩
  · rintro m s₉ ⟨t₉, done, stk, lv, fv, xs, n₉, x9, rfl, H, S₉, ho, hf, ht, hl, hs, hw⟩ Eb Qb
    have hdl := H.len W
    have hsz := H.sz
    have hlv := H.lv.1
    repeat w_left
    refine len_l S₉ (S₉.atM (.head _)) (Nat.le_of_lt (tp3 hlv hsz hdl)) fun s₁₀ u S₁₀ _ => ?_
    repeat w_left
    rcases List.eq_nil_or_concat stk with rfl | ⟨stk', p, rfl⟩
    · rw [if_neg (by simp [hlv])]
      repeat w_left
      have hall : trace plan 0 = done := by have := H.tr; simpa using this
      have S' := S₁₀.sub (mu' := [(fa, LstO fv)]) ((List.sublist_cons_self ..).trans (List.sublist_cons_self ..))
      have hfa' : c.N ≤ fa := Nat.le_trans hN hfa
      have S'' := bk _ [_] [] [] _ _ S' rfl
      obtain ⟨t', x', a', S₁₁⟩ := S''.freezeT hfa'
      have rr := H.fv.sub x'
      rw [← hall] at rr
      exact ret (fun i => by rw [hall]; exact H.cn i) _ t' _ (x9.tr x') (.lst a' rr.1 rr.2) S₁₁
    · rw [if_pos (by simp [hlv])]
      rw [List.concat_eq_append] at H hsz hlv
      obtain ⟨lv', lvv, rfl, hlv', hp⟩ := H.lv.concat
      obtain ⟨a, x, y, rfl, p1, p2, p3⟩ := hp
      repeat w_left
      have hokp := H.ok p (by simp)
      have hsl : stk'.length + 1 ≤ 1 + 3 * done.length := by simpa using hsz
      have hll : lv'.length = stk'.length := hlv'.1
      refine meth_l (S₁₀.atM (.head _)) PySem.F.slot_list_pop PySem.F.type_list_pop ?_
      repeat w_left
      refine pop_l S₁₀ .head (tp3 hll (Nat.le_trans (Nat.le_succ _) hsl) hdl) fun s₁₁ S₁₁ => ?_
      refine assign_tup S₁₁ R₁ (S₁₁.atT p1) rfl rfl fun s₁₂ S₁₂ => ?_
      repeat w_left
      rename_i s₁₃ S₁₃
      replace S₁₃ := S₁₃.perm (List.Perm.swap ..)
      refine longer_way_spec S₁₃ R₁ p2 p3 (fun z => Nat.lt_irrefl _ (hokp.2.1 _ z)) (Nat.le_trans hokp.2.2 (Nat.le_trans (Nat.le_of_lt hokp.1) (Nat.le_trans W.len (by decide)))) H.ts hokp.1 (Nat.le_trans W.len (by decide)) sd ?_ ?_
      · intro hc y' t₁₄ xs' s₁₄ x14 W' T' S₁₄
        repeat w_left
        rename_i s₁₅ S₁₅
        obtain ⟨nd, hnd⟩ : ∃ nd, plan[p.1]? = some nd := ⟨_, List.getElem?_eq_getElem hokp.1⟩
        refine node_of_spec S₁₅ R₁ (Z.sub (x9.tr x14)) (.inr ⟨p.1, p2.sub x14, nodesD_get hnd⟩) fun nv s₁₆ rn S₁₆ => ?_
        repeat w_left
        rename_i s₁₇ S₁₇
        refine in_rep S₁₇ rn fun s₁₈ S₁₈ _ => ?_
        cases nd with
        | kids l =>
          rw [nd_kids]
          repeat w_left
          try refine PySem.W.ite_pos rfl ?_
          repeat w_left
          refine meth_l (S₁₈.atM (.tail _ (.head _))) PySem.F.slot_list_extend PySem.F.type_list_extend ?_
          repeat w_left
          refine comp_list _ rfl rfl (by decide +kernel) ?_
          repeat w_left
          refine row_of_spec S₁₈ R₁ (Z.sub (x9.tr x14)) rn nd_kids fun rv s₁₉ rr S₁₉ => ?_
          obtain ⟨ra, rvs, rfl, ra1, ra2⟩ := rr.lst_inv
          repeat w_left
          refine call_rev S₁₉ (S₁₉.atT ra1) fun it s₂₀ hit S₂₀ => ?_
          refine iter_rev S₂₀ (.head _) ?_
          have hkl : kidsOf plan p.1 = l := by unfold kidsOf; rw [hnd]
          have hrl : rvs.length = l.length := by have := ra2.1; simpa using this
          refine comp_go it_rev self_rev (fun i t' mu' ys => Sub t₁₄ t' ∧ mu' = [(d, TabO prog w xs'), (la, LstO lv'), (fa, LstO fv)] ∧ i ≤ ys.length ∧ All2 (StkOK prog w t') ys ((l.reverse.take i).map fun j => (j, p.2 ++ [p.1]))) R₁
            (by rw [hcs]; exact ⟨rfl, trivial⟩) (by decide +kernel) rfl S₂₀ ⟨Sub.rfl', rfl, Nat.zero_le _, All2.nil⟩ ?_ ?_ ?_ ?_ ?_
          · rintro i t' mu' ys ⟨h1, rfl, h2, h3⟩
            refine ⟨rfl, ?_⟩
            have := h3.1
            rw [List.length_map, List.length_take] at this
            omega
          · rintro i t' mu' ys c' n' s' p q ⟨h1, rfl, h2, h3⟩ S'
            exact S'.atT (ra1.sub h1)
          · have := W.wid p.1
            rw [hkl] at this
            rw [hrl, sizeLine_eq]; omega
          · rintro i v t₀ t' mu' ys c' s' m₀ acc E' env₂ hi hv ⟨h1, rfl, h2, h3⟩ x0 R₂ hN₂ S' Qy Qn
            have hi' : i < l.reverse.length := by rw [List.length_reverse, ← hrl]; exact hi
            obtain ⟨j, hj⟩ : ∃ j, l.reverse[i]? = some j := ⟨_, List.getElem?_eq_getElem hi'⟩
            have rj : Rep prog w t' v (refD j) := by
              have a2 : All2 (Rep prog w t₁₄) rvs.reverse (l.map refD).reverse := All2.reverse (reps_all2.mp ra2)
              refine (a2.2 i v _ hv ?_).sub (h1.tr x0)
              rw [← List.map_reverse, List.getElem?_map, hj]; rfl
            repeat w_left
            refine new_tup (by assumption) (by show 2 ≤ _; decide) fun s₂₁ t₂₁ q x21 a21 S₂₁ => ?_
            refine ⟨t₂₁, _, _, ⟨h1.tr (x0.tr x21), rfl, by rw [List.length_append]; exact Nat.succ_le_succ h2, ?_⟩, S₂₁⟩
            have e1 : l.reverse.take (i + 1) = l.reverse.take i ++ [j] := by rw [List.take_add_one, hj]; rfl
            rw [e1, List.map_append]
            exact (h3.mono fun _ _ z => z.sub (x0.tr x21)).snoc ⟨q, v, y', rfl, a21, rj.sub x21, W'.sub (h1.tr (x0.tr x21))⟩
          · rintro t' mu' ys acc s' hacc ⟨h1, rfl, h2, h3⟩ S'
            rw [hrl, ← List.length_reverse, List.take_length] at h3
            have hyl : ys.length = l.length := by have := h3.1; simpa using this
            have hl3 : l.length ≤ 3 := by have := W.wid p.1; rw [hkl] at this; exact this
            repeat w_left
            refine extend_l S' (S'.atM (.head _)) (.tail (.tail .head)) (by rw [sizeLine_eq]; omega) fun s₂₁ S₂₁ => ?_
            repeat w_left
            obtain ⟨H', hm⟩ := H.kids W hnd (x14.tr h1) (hlv'.mono fun _ _ z => z.sub (x14.tr h1)) h3 (T'.sub h1) hc
            exact ⟨_, by rw [List.concat_eq_append]; exact hm, t', _, _, _, fv, xs', _, (x9.tr x14).tr h1, rfl, H', (S₂₁.sub (List.sublist_cons_self ..)).perm (List.Perm.swap ..), ho, hf, ht, hl, hs, hw⟩
        | leaf r =>
          rw [nd_nokids]
          have hkl : kidsOf plan p.1 = [] := by unfold kidsOf; rw [hnd]
          have hr := W.leaf p.1 r hnd
          have hpl : (leafP p.1 r).length = r := by unfold leafP; rw [List.length_map, List.length_range]
          repeat w_left
          refine meth_l (S₁₈.atM (.tail _ (.tail _ (.head _)))) PySem.F.slot_list_extend PySem.F.type_list_extend ?_
          repeat w_left
          refine node_pairs_spec S₁₈ R₁ (Z.sub (x9.tr x14)) rn nd_row (by omega) fun pa t₁₉ s₁₉ x19 hpa pvs rp S₁₉ => ?_
          have hpv : pvs.length = r := by rw [rp.1, List.length_map, hpl]
          have hfv := H.flen W
          repeat w_left
          refine extend_l S₁₉ (S₁₉.atM (.head _)) (.tail (.tail (.tail .head))) (by rw [sizeLine_eq]; omega) fun s₂₀ S₂₀ => ?_
          repeat w_left
          obtain ⟨H', hm⟩ := H.leaf W hnd (x14.tr x19) (hlv'.mono fun _ _ z => z.sub (x14.tr x19)) rp (T'.sub x19) hc
          exact ⟨_, by rw [List.concat_eq_append]; exact hm, t₁₉, _, _, _, _, xs', _, (x9.tr x14).tr x19, rfl, H', (S₂₀.sub (List.sublist_cons_self ..)).perm (List.Perm.swap ..), ho, hf, ht, hl, hs, hw⟩
      · intro hc e T t₁₄ o s₁₄ x14 S₁₄
        refine loop_err S₁₄ R₁ hF fun s₁₅ T' S₁₅ => ?_
        exact leave_held S₁₅ R₁ fun s₁₆ S₁₆ => err ⟨p.1, H.bad W hc⟩ e T' t₁₄ s₁₆ (x9.tr x14) (bk _ [_, _] [] _ _ _ S₁₆ rfl)
end
end
section
open PySem PySem.W PyProof.Rows PySem.Calls
theorem slot_bytes_lt : Slot "bytes" (cmpInfo .Lt).2.1 "bytes.__lt__" :=
  .of (owner := "bytes") (n := "__lt__") (by rw [typeLookup_type, builtinLookup_eq_fast]; kernel_rfl) (by decide +kernel) (by decide +kernel) (by decide +kernel)
    (by first | exact .inl (by decide +kernel) | exact .inr (by decide +kernel)) (by rw [isSubtype_type]; kernel_rfl)
theorem entry_bytes_lt : entryFor table "bytes.__lt__" = some Builtin.«bytes.__lt__» := entryFor_of_tree (by kernel_rfl)
theorem args_bytes_lt_2 (a b : Value) : argsOk "bytes.__lt__" ⟨[a, b], []⟩ := by
  unfold argsOk; rw [signature?_of (id := "bytes.__lt__") (n := ['_', '_', 't', 'l', '_', '_']) (o := ['s', 'e', 't', 'y', 'b']) (by kernel_rfl) PySem.W.FB.owner_bytes]; kernel_rfl
theorem slot_bytes_le : Slot "bytes" (cmpInfo .LtE).2.1 "bytes.__le__" :=
  .of (owner := "bytes") (n := "__le__") (by rw [typeLookup_type, builtinLookup_eq_fast]; kernel_rfl) (by decide +kernel) (by decide +kernel) (by decide +kernel)
    (by first | exact .inl (by decide +kernel) | exact .inr (by decide +kernel)) (by rw [isSubtype_type]; kernel_rfl)
theorem entry_bytes_le : entryFor table "bytes.__le__" = some Builtin.«bytes.__le__» := entryFor_of_tree (by kernel_rfl)
theorem args_bytes_le_2 (a b : Value) : argsOk "bytes.__le__" ⟨[a, b], []⟩ := by
  unfold argsOk; rw [signature?_of (id := "bytes.__le__") (n := ['_', '_', 'e', 'l', '_', '_']) (o := ['s', 'e', 't', 'y', 'b']) (by kernel_rfl) PySem.W.FB.owner_bytes]; kernel_rfl
theorem gives_bytes_lt (b c : Array UInt8) (t u : Tok) : Gives (Builtin.«bytes.__lt__» ⟨[.bytes b t, .bytes c u], []⟩) (.val (.bool (Builtin.Bytes.order b.toList c.toList == .lt))) := by
  refine .of_wp fun M A E s Q hq => ?_
  show wpAny M A (isInstance (.bytes c u) (.type "bytes") >>= fun r => _) _ E s
  refine wpAny_bind (wpAny_isInstance (typeIs_bytes s c u) PySem.F.sub_bytes_bytes ?_)
  exact wpAny_pure ⟨_, rfl, hq⟩
theorem gives_bytes_le (b c : Array UInt8) (t u : Tok) : Gives (Builtin.«bytes.__le__» ⟨[.bytes b t, .bytes c u], []⟩) (.val (.bool (Builtin.Bytes.order b.toList c.toList != .gt))) := by
  refine .of_wp fun M A E s Q hq => ?_
  show wpAny M A (isInstance (.bytes c u) (.type "bytes") >>= fun r => _) _ E s
  refine wpAny_bind (wpAny_isInstance (typeIs_bytes s c u) PySem.F.sub_bytes_bytes ?_)
  exact wpAny_pure ⟨_, rfl, hq⟩
theorem b1_lt {i j : Nat} (hi : i < 100) (hj : j < 100) : ((65 + i).toUInt8 < (65 + j).toUInt8) ↔ i < j := by
  rw [UInt8.lt_iff_toNat_lt]
  show (65 + i) % 256 < (65 + j) % 256 ↔ _
  omega
theorem order_b1 {i j : Nat} (hi : i < 100) (hj : j < 100) : Builtin.Bytes.order (b1 i) (b1 j) = if i < j then .lt else if j < i then .gt else .eq := by
  unfold b1 Builtin.Bytes.order
  have e1 := b1_lt hi hj
  have e2 := b1_lt hj hi
  by_cases h : i < j
  · rw [if_pos h, if_pos (e1.mpr h)]
  · rw [if_neg h, if_neg (fun z => h (e1.mp z))]
    by_cases h' : j < i
    · rw [if_pos h', if_pos (e2.mpr h')]
    · rw [if_neg h', if_neg (fun z => h' (e2.mp z))]; rfl
section
variable {prog : Program} {w : World} {mg mb : Str → Option Value} {A : Around} {s : Shared} {c : Cx} {t t' : Heap} {mu mu' : Mus} {n : Nm} {Q : Value → Shared → Prop} {E : Value → Shared → Prop} {env : Env} {k i j : Nat} {b : Bool} {u v : Value}
theorem key_lt (hu : Rep prog w t u (kDt b i)) (hv : Rep prog w t v (kDt b j)) (hi : i < 100) (hj : j < 100) (h : Q (.bool (decide (i < j))) s) : wpAny (model prog w) A (compareOp .Lt u v) Q E s := by
  cases b
  · obtain ⟨t1, rfl⟩ := hu.int_inv
    obtain ⟨t2, rfl⟩ := hv.int_inv
    refine PyProof.Rows.lt_int ?_
    have : decide ((i : Int) < (j : Int)) = decide (i < j) := by simp
    rw [this]; exact h
  · obtain ⟨t1, rfl⟩ := hu.byt_inv
    obtain ⟨t2, rfl⟩ := hv.byt_inv
    refine compareOp_gives (op := .Lt) (typeIs_bytes s _ _) (typeIs_bytes s _ _) slot_bytes_lt entry_bytes_lt (args_bytes_lt_2 _ _) (gives_bytes_lt _ _ _ _) (fun e => nomatch e) ?_
    have : (Builtin.Bytes.order (b1 i) (b1 j) == Ordering.lt) = decide (i < j) := by
      rw [order_b1 hi hj]; split
      · simp [*]
      · split <;> simp [*]
    show Q (.bool (Builtin.Bytes.order (b1 i) (b1 j) == Ordering.lt)) s
    rw [this]; exact h
theorem key_le (hu : Rep prog w t u (kDt b i)) (hv : Rep prog w t v (kDt b j)) (hi : i < 100) (hj : j < 100) (h : Q (.bool (decide (i ≤ j))) s) : wpAny (model prog w) A (compareOp .LtE u v) Q E s := by
  cases b
  · obtain ⟨t1, rfl⟩ := hu.int_inv
    obtain ⟨t2, rfl⟩ := hv.int_inv
    refine PyProof.Rows.le_int ?_
    have : decide ((i : Int) ≤ (j : Int)) = decide (i ≤ j) := by simp
    rw [this]; exact h
  · obtain ⟨t1, rfl⟩ := hu.byt_inv
    obtain ⟨t2, rfl⟩ := hv.byt_inv
    refine compareOp_gives (op := .LtE) (typeIs_bytes s _ _) (typeIs_bytes s _ _) slot_bytes_le entry_bytes_le (args_bytes_le_2 _ _) (gives_bytes_le _ _ _ _) (fun e => nomatch e) ?_
    have : (Builtin.Bytes.order (b1 i) (b1 j) != Ordering.gt) = decide (i ≤ j) := by
      rw [order_b1 hi hj]; split
      · rw [decide_eq_true (by omega)]; rfl
      · split
        · rw [decide_eq_false (by omega)]; rfl
        · rw [decide_eq_true (by omega)]; rfl
    show Q (.bool (Builtin.Bytes.order (b1 i) (b1 j) != Ordering.gt)) s
    rw [this]; exact h
theorem key_eq (hu : Rep prog w t u (kDt b i)) (hv : Rep prog w t v (kDt b j)) (hi : i < 100) (hj : j < 100) (h : Q (.bool (decide (i = j))) s) : wpAny (model prog w) A (compareOp .Eq u v) Q E s := by
  cases b
  · obtain ⟨t1, rfl⟩ := hu.int_inv
    obtain ⟨t2, rfl⟩ := hv.int_inv
    refine PyProof.Rows.eq_int ?_
    have : ((i : Int) == (j : Int)) = decide (i = j) := by rw [Bool.eq_iff_iff]; simp; omega
    rw [this]; exact h
  · obtain ⟨t1, rfl⟩ := hu.byt_inv
    obtain ⟨t2, rfl⟩ := hv.byt_inv
    refine eq_bytes ?_
    have : ((b1 i) == (b1 j)) = decide (i = j) := by
      rw [← order_eq, order_b1 hi hj]; split
      · rw [decide_eq_false (by omega)]; rfl
      · split
        · rw [decide_eq_false (by omega)]; rfl
        · rw [decide_eq_true (by omega)]; rfl
    show Q (.bool ((b1 i) == (b1 j))) s
    rw [this]; exact h
end
end
section
open PySem PySem.W PyProof.Rows PySem.Calls
section
variable {prog : Program} {w : World} {mg mb : Str → Option Value} {A : Around} {s : Shared} {c : Cx} {t t' : Heap} {mu : List (Addr × (Obj → Prop))} {n : Nm} {Q E : Value → Shared → Prop} {env : Env} {k : Nat} {b : Bool} {tk ti : Tok}
theorem half_int {a b : Nat} {t1 t2 : Tok} (ha : a < 10000) (hb : b < 10000) (hb0 : b ≠ 0) (h : ∀ u, Q (.int ((a / b : Nat) : Int) u) { s with toks := s.toks + 1 }) : wpAny (model prog w) A (binaryOp .FloorDiv (.int a t1) (.int b t2)) Q E s := by
  refine floordiv_int (by omega) ?_ (Or.inl (PyProof.noPylong_small (by omega)))
  have : (a : Int).fdiv (b : Int) = ((a / b : Nat) : Int) := by rw [Int.fdiv_eq_ediv_of_nonneg _ (by omega)]; rfl
  rw [this]; exact h _
inductive KidI (prog : Program) (w : World) (mg : Str → Option Value) (mb : Str → Option Value) (b : Bool) (tk : Tok) (c₁ : Cx) (t : Heap) (l : List Nat) (sh : Value) (key : Value) (ka : Addr) (m : Nat) (s' : Shared) : Prop
  | mk (t' : Heap) (n' : Nm) (u1 u2 : Tok) : Sub t t' → m ≤ l.length → ST w mg mb c₁ t' [] n' s' → n'.m "low" = some (.int 0 u1) → n'.m "high" = some (.int m u2) → n'.m "shelf" = some sh → n'.m "kids" = some (.ref ka) → n'.m "word" = some (.str (wd b) tk) → n'.m "key" = some key → KidI prog w mg mb b tk c₁ t l sh key ka m s'
theorem kid_for_spec {sh kv key : Value} {plan : List Nd} {l : List Nat} (S : ST w mg mb c t mu n s) (Ra : Ar A env c (k + 7)) (Z : IsShelf prog w t sh (nodesD b plan)) (hl : ∀ j ∈ l, j < plan.length) (hl3 : l.length ≤ 3) (hv : Rep prog w t kv (.lst (l.map refD))) (hk : Rep prog w t key (kDt b 0))
    (ret : ∀ s' u, ST w mg mb c t mu n s' → Q (.int 0 u) s') :
    wpAny (model prog w) A (call (.ref 438) [sh, kv, .str (wd b) tk, key]) Q E s := by
  refine call_def (D := []) (R := mu) (k := k + 6) (binds := [("shelf", sh), ("kids", kv), ("word", .str (wd b) tk), ("key", key)]) S Ra S.1.pf.nl (at_438 S.1.pf) rfl (cr_438 S.1.pf) (BindsTo.of_eq rfl) (locs rfl) (by decide +kernel) rfl rfl rfl ?_
  intro c₁ s₁ env₁ A₁ n₀ e0 hN hF S₁ R₁ bk Q₁ E₁
  refine w_cons ?_
  intro K₀
  obtain ⟨ka, kvs, rfl, a1, a2⟩ := hv.lst_inv
  have hkl : kvs.length = l.length := by have := a2.1; simpa using this
  repeat w_left
  rename_i s₂ S₂
  refine len_l S₂ (S₂.atT a1) (sz1 (Nat.le_trans (Nat.le_of_eq hkl) hl3) (by decide)) fun s₃ tk₁ S₃ _ => ?_
  repeat w_left
  rename_i s₄ S₄
  refine while_go (KidI prog w mg mb b tk c₁ t l sh key ka) ?_ _
    ⟨t, _, _, _, Sub.rfl', Nat.le_refl _, S₄, rfl, by rw [← hkl]; rfl, rfl, rfl, rfl, rfl⟩
  rintro m s₅ ⟨t₅, n₅, u1, u2, x5, hm, S₅, h1, h2, h3, h4, h5, h6⟩ Eb Qb
  repeat w_left
  cases m with
  | zero =>
    rw [if_neg (by simp)]
    repeat w_left
    exact ret _ _ (bk.fin S S₅ x5)
  | succ m =>
    rw [if_pos (by simp)]
    repeat w_left
    have e1 : (0 : Int) + ((m + 1 : Nat) : Int) = ((m + 1 : Nat) : Int) := by omega
    rw [e1]
    refine half_int (b := 2) (by omega) (by decide) (by decide) fun u => ?_
    repeat w_left
    rename_i s₆ S₆
    have hlt : (m + 1) / 2 < l.length := by omega
    obtain ⟨j, hj⟩ : ∃ j, l[(m + 1) / 2]? = some j := ⟨_, List.getElem?_eq_getElem hlt⟩
    obtain ⟨jv, g1, r1⟩ := a2.get (i := (m + 1) / 2) (d := refD j) (by rw [List.getElem?_map, hj]; rfl)
    have hjp := hl j (List.mem_of_getElem? hj)
    obtain ⟨nd, hnd⟩ : ∃ nd, plan[j]? = some nd := ⟨_, List.getElem?_eq_getElem hjp⟩
    refine item_l (S₆.atT (a1.sub x5)) (Int.natCast_nonneg _) (by omega) (by rw [Int.toNat_natCast]; exact g1) ?_
    repeat w_left
    refine node_of_spec S₆ R₁ (Z.sub x5) (.inr ⟨j, r1.sub x5, nodesD_get hnd⟩) fun nv s₇ rn S₇ => ?_
    repeat w_left
    refine node_limits_spec S₇ R₁ (Z.sub x5) rn nd_lim fun lv t₈ s₈ x8 rl S₈ => ?_
    obtain ⟨la, lvs, rfl, l1, l2⟩ := rl.tup_inv
    obtain ⟨v9, g9, r9⟩ := l2.get (i := 1) rfl
    repeat w_left
    refine item_t (j := 1) (S₈.atT l1) (by decide) (by decide) (by rw [l2.1]; rfl) g9 ?_
    repeat w_left
    refine key_lt r9 (hk.sub (x5.tr x8)) (by decide) (by decide) ?_
    repeat w_left
    rename_i s₉ S₉
    exact ⟨(m + 1) / 2, by omega, t₈, _, _, _, x5.tr x8, by omega, S₉, h1, rfl, h3, h4, h5, h6⟩
inductive SpanI (prog : Program) (w : World) (mg : Str → Option Value) (mb : Str → Option Value) (b : Bool) (tk : Tok) (c₁ : Cx) (t : Heap) (plan : List Nd) (sh : Value) (lo : Value) (hi : Value) (la : Addr) (d : Addr) (fa : Addr) (m : Nat) (s' : Shared) : Prop
  | mk (t' : Heap) (done : List Nat) (stk : List (Nat × List Nat)) (lv fv : List Value) (xs : List (List Int × Addr × Value)) (n' : Nm) : Sub t t' → m = (stk.flatMap fun p => trace plan p.1).length → TP prog w b plan t' done stk lv fv xs → ST w mg mb c₁ t' [(la, LstO lv), (d, TabO prog w xs), (fa, LstO fv)] n' s' → n'.own = true → n'.m "found" = some (.ref fa) → n'.m "times" = some (.ref d) → n'.m "line" = some (.ref la) → n'.m "shelf" = some sh → n'.m "word" = some (.str (wd b) tk) → n'.k "low" = some lo → n'.k "high" = some hi → SpanI prog w mg mb b tk c₁ t plan sh lo hi la d fa m s'
inductive WantI (prog : Program) (w : World) (mg : Str → Option Value) (mb : Str → Option Value) (b : Bool) (tk : Tok) (c₁ : Cx) (t₁₄ : Heap) (l : List Nat) (p : Nat × List Nat) (sh : Value) (lo : Value) (hi : Value) (y' : Value) (la : Addr) (d : Addr) (fa : Addr) (ra : Addr) (wa : Addr) (xs' : List (List Int × Addr × Value)) (lv' : List Value) (fv : List Value) (m : Nat) (s' : Shared) : Prop
  | mk (t' : Heap) (ws : List Value) (n' : Nm) (u : Tok) : Sub t₁₄ t' → m ≤ l.length → ST w mg mb c₁ t' [(wa, LstO ws), (d, TabO prog w xs'), (la, LstO lv'), (fa, LstO fv)] n' s' → All2 (StkOK prog w t') ws ((l.take (l.length - m)).map fun j => (j, p.2 ++ [p.1])) → n'.own = true → n'.m "at" = some (.int ((l.length - m : Nat) : Int) u) → n'.m "kids" = some (.ref ra) → n'.m "wanted" = some (.ref wa) → n'.m "way" = some y' → n'.m "found" = some (.ref fa) → n'.m "times" = some (.ref d) → n'.m "line" = some (.ref la) → n'.m "shelf" = some sh → n'.m "word" = some (.str (wd b) tk) → n'.k "low" = some lo → n'.k "high" = some hi → WantI prog w mg mb b tk c₁ t₁₄ l p sh lo hi y' la d fa ra wa xs' lv' fv m s'
theorem tree_span_spec {sh v lo hi : Value} {plan : List Nd} (S : ST w mg mb c t mu n s) (Ra : Ar A env c (k + 9)) (Z : IsShelf prog w t sh (nodesD b plan)) (W : WF plan) (hv : Rep prog w t v (refD 0)) (hlo : Rep prog w t lo (kDt b 0)) (hhi : Rep prog w t hi (kDt b 9))
    (ret : (∀ i, (trace plan 0).count i ≤ 16) → ∀ v' t' s', Sub t t' → Rep prog w t' v' (.lst ((trace plan 0).flatMap (pairsAt b plan))) → ST w mg mb c t' mu n s' → Q v' s')
    (err : (∃ i, 16 < (trace plan 0).count i) → ∀ e T t' s', Sub t t' → ST w mg mb c t' ((e, ExcO (.ref T)) :: (T, TbO .none) :: mu) n s' → E (.ref e) s') :
    wpAny (model prog w) A (call (.ref 443) [sh, v, .str (wd b) tk, lo, hi]) Q E s := by
  refine call_defC (D := []) (R := mu) (k := k + 8) (binds := [("shelf", sh), ("root", v), ("word", .str (wd b) tk), ("low", lo), ("high", hi)]) S Ra S.1.pf.nl (at_443 S.1.pf) rfl (cr_443 S.1.pf) rfl (BK.at ⟨.inl rfl, .inl rfl, .inl rfl, .inr ⟨rfl, rfl⟩, .inr ⟨rfl, rfl⟩, trivial⟩) rfl rfl rfl ?_
  intro c₁ s₁ env₁ A₁ n₀ e0 hN hF hcs S₁ R₁ bk Q₁ E₁
  refine w_cons ?_
  intro K₀
  repeat w_left
  refine new_lst S₁ (by show 0 ≤ _; decide) fun s₂ fa hfa S₂ => ?_
  repeat w_left
  refine new_tab (by assumption) fun s₃ d hd sd S₃ => ?_
  repeat w_left
  rename_i s₄ S₄
  refine new_tup S₄ (by show 0 ≤ _; decide) fun s₅ t₅ w0 x5 a5 S₅ => ?_
  repeat w_left
  refine new_tup S₅ (by show 2 ≤ _; decide) fun s₆ t₆ p0 x6 a6 S₆ => ?_
  repeat w_left
  refine new_lst S₆ (by show 1 ≤ _; decide) fun s₇ la hla S₇ => ?_
  repeat w_left
  rename_i s₈ S₈
  refine while_go (SpanI prog w mg mb b tk c₁ t plan sh lo hi la d fa) ?_ _
    ⟨t₆, [], [(0, [])], [.ref p0], [], [], _, x5.tr x6, rfl, ⟨by simp, fun _ => by simp, fun q hq => by rw [List.mem_singleton] at hq; subst hq; exact ⟨W.pos, fun j hj => (nomatch hj), Nat.le_refl _⟩, by simp, All2.one ⟨p0, v, .ref w0, rfl, a6, hv.sub (x5.tr x6), w0, [], rfl, a5.sub x6, rfl, fun j x i h => by simp at h⟩, Reps.nil, Times.nil⟩, S₈, rfl, rfl, rfl, rfl, rfl, rfl, rfl, rfl⟩
  rintro m s₉ ⟨t₉, done, stk, lv, fv, xs, n₉, x9, rfl, H, S₉, ho, hf, ht, hl, hs, hw, hlw, hhg⟩ Eb Qb
  have hdl := H.len W
  have hsz := H.sz
  have hlv := H.lv.1
  repeat w_left
  refine len_l S₉ (S₉.atM (.head _)) (Nat.le_of_lt (tp3 hlv hsz hdl)) fun s₁₀ u S₁₀ _ => ?_
  repeat w_left
  rcases List.eq_nil_or_concat stk with rfl | ⟨stk', p, rfl⟩
  · rw [if_neg (by simp [hlv])]
    repeat w_left
    have hall : trace plan 0 = done := by have := H.tr; simpa using this
    have S' := S₁₀.sub (mu' := [(fa, LstO fv)]) ((List.sublist_cons_self ..).trans (List.sublist_cons_self ..))
    have hfa' : c.N ≤ fa := Nat.le_trans hN hfa
    have S'' := bk _ [_] [] [] _ _ S' rfl
    obtain ⟨t', x', a', S₁₁⟩ := S''.freezeT hfa'
    have rr := H.fv.sub x'
    rw [← hall] at rr
    exact ret (fun i => by rw [hall]; exact H.cn i) _ t' _ (x9.tr x') (.lst a' rr.1 rr.2) S₁₁
  rw [if_pos (by simp [hlv])]
  rw [List.concat_eq_append] at H hsz hlv
  obtain ⟨lv', lvv, rfl, hlv', hp⟩ := H.lv.concat
  obtain ⟨a, x, y, rfl, p1, p2, p3⟩ := hp
  repeat w_left
  have hokp := H.ok p (by simp)
  have hsl : stk'.length + 1 ≤ 1 + 3 * done.length := by simpa using hsz
  have hll : lv'.length = stk'.length := hlv'.1
  refine meth_l (S₁₀.atM (.head _)) PySem.F.slot_list_pop PySem.F.type_list_pop ?_
  repeat w_left
  refine pop_l S₁₀ .head (tp3 hll (Nat.le_trans (Nat.le_succ _) hsl) hdl) fun s₁₁ S₁₁ => ?_
  refine assign_tup S₁₁ R₁ (S₁₁.atT p1) rfl rfl fun s₁₂ S₁₂ => ?_
  repeat w_left
  rename_i s₁₃ S₁₃
  replace S₁₃ := S₁₃.perm (List.Perm.swap ..)
  refine longer_way_spec S₁₃ R₁ p2 p3 (fun z => Nat.lt_irrefl _ (hokp.2.1 _ z)) (Nat.le_trans hokp.2.2 (Nat.le_trans (Nat.le_of_lt hokp.1) (Nat.le_trans W.len (by decide)))) H.ts hokp.1 (Nat.le_trans W.len (by decide)) sd ?_ ?_
  · intro hc y' t₁₄ xs' s₁₄ x14 W' T' S₁₄
    repeat w_left
    rename_i s₁₅ S₁₅
    obtain ⟨nd, hnd⟩ : ∃ nd, plan[p.1]? = some nd := ⟨_, List.getElem?_eq_getElem hokp.1⟩
    refine node_of_spec S₁₅ R₁ (Z.sub (x9.tr x14)) (.inr ⟨p.1, p2.sub x14, nodesD_get hnd⟩) fun nv s₁₆ rn S₁₆ => ?_
    repeat w_left
    rename_i s₁₇ S₁₇
    refine in_rep S₁₇ rn fun s₁₈ S₁₈ _ => ?_
    cases nd with
    | kids l =>
      rw [nd_kids]
      repeat w_left
      try refine PySem.W.ite_pos rfl ?_
      repeat w_left
      refine row_of_spec S₁₈ R₁ (Z.sub (x9.tr x14)) rn nd_kids fun rv s₁₉ rr S₁₉ => ?_
      obtain ⟨ra, rvs, rfl, ra1, ra2⟩ := rr.lst_inv
      have hkl : kidsOf plan p.1 = l := by unfold kidsOf; rw [hnd]
      have hrl : rvs.length = l.length := by have := ra2.1; simpa using this
      have hl3 : l.length ≤ 3 := by have := W.wid p.1; rw [hkl] at this; exact this
      have hin : ∀ j ∈ l, j < plan.length := fun j hj => (W.lt p.1 j (by rw [hkl]; exact hj)).2
      repeat w_left
      rename_i s₂₀ S₂₀
      refine kid_for_spec S₂₀ R₁ (Z.sub (x9.tr x14)) hin hl3 rr (hlo.sub (x9.tr x14)) fun s₂₁ u₁ S₂₁ => ?_
      repeat w_left
      refine new_lst (by assumption) (by show 0 ≤ _; decide) fun s₂₂ wa hwa S₂₂ => ?_
      repeat w_left
      rename_i s₂₃ S₂₃
      refine while_go (WantI prog w mg mb b tk c₁ t₁₄ l p sh lo hi y' la d fa ra wa xs' lv' fv) ?_ l.length
        ⟨t₁₄, [], _, u₁, Sub.rfl', Nat.le_refl _, S₂₃, by rw [Nat.sub_self]; exact All2.nil, ho, by rw [Nat.sub_self]; rfl, rfl, rfl, rfl, hf, ht, hl, hs, hw, hlw, hhg⟩
      rintro m s₂₄ ⟨t₂₄, ws, n₂₄, u₂, x24, hm, S₂₄, hws, q1, q2, q3, q4, q5, q6, q7, q8, q9, q10, q11, q12⟩ Eb Qb
      repeat w_left
      refine len_l S₂₄ (S₂₄.atT (ra1.sub x24)) (sz1 (Nat.le_trans (Nat.le_of_eq hrl) hl3) (by decide)) fun s₂₅ u₃ S₂₅ _ => ?_
      repeat w_left
      cases m with
      | zero =>
        rw [if_neg (by simp [hrl])]
        repeat w_left
        have hws' : ws.length = l.length := by have := hws.1; simpa using this
        refine meth_l (S₂₅.atM (.tail _ (.tail _ (.head _)))) PySem.F.slot_list_extend PySem.F.type_list_extend ?_
        repeat w_left
        refine call_rev S₂₅ (S₂₅.atM (.head _)) fun it s₂₆ hit S₂₆ => ?_
        repeat w_left
        replace S₂₆ := S₂₆.perm (.cons _ (List.perm_middle (l₁ := [_, _])))
        refine extend_rev S₂₆ R₁ (fun p t' n' s' S' x => S'.atM (List.mem_append_right _ (.head _))) (by rw [sizeLine_eq]; omega) fun s₂₇ t₂₇ x27 S₂₇ => ?_
        repeat w_left
        have x3 := x14.tr (x24.tr x27)
        rw [Nat.sub_zero, List.take_length] at hws
        obtain ⟨H', hm⟩ := H.kids W hnd x3 (hlv'.mono fun _ _ z => z.sub x3) (by rw [List.map_reverse]; exact (hws.mono fun _ _ z => z.sub x27).reverse) (T'.sub (x24.tr x27)) hc
        exact ⟨_, by rw [List.concat_eq_append]; exact hm, t₂₇, _, _, _, fv, xs', _, x9.tr x3, rfl, H', (S₂₇.sub (.cons₂ _ (.cons _ (.refl _)))).perm (.refl _), q1, q6, q7, q8, q9, q10, q11, q12⟩
      | succ m =>
        have hlt : l.length - (m + 1) < l.length := by omega
        rw [if_pos (by simp [hrl]; omega)]
        obtain ⟨j, hj⟩ : ∃ j, l[l.length - (m + 1)]? = some j := ⟨_, List.getElem?_eq_getElem hlt⟩
        obtain ⟨jv, g1, r1⟩ := ra2.get (i := l.length - (m + 1)) (d := refD j) (by rw [List.getElem?_map, hj]; rfl)
        have hjp := hin j (List.mem_of_getElem? hj)
        obtain ⟨nd, hnd'⟩ : ∃ nd, plan[j]? = some nd := ⟨_, List.getElem?_eq_getElem hjp⟩
        repeat w_left
        refine item_l (S₂₅.atT (ra1.sub x24)) (Int.natCast_nonneg _) (by omega) (by rw [Int.toNat_natCast]; exact g1) ?_
        repeat w_left
        refine node_of_spec S₂₅ R₁ (Z.sub (x9.tr (x14.tr x24))) (.inr ⟨j, r1.sub x24, nodesD_get hnd'⟩) fun nv' s₂₆ rn' S₂₆ => ?_
        repeat w_left
        refine node_limits_spec S₂₆ R₁ (Z.sub (x9.tr (x14.tr x24))) rn' nd_lim fun lv t₂₇ s₂₇ x27 rl S₂₇ => ?_
        obtain ⟨lma, lvs, rfl, l1, l2⟩ := rl.tup_inv
        obtain ⟨v0, g0, r0⟩ := l2.get (i := 0) rfl
        repeat w_left
        refine item_t (j := 0) (S₂₇.atT l1) (by decide) (by decide) (by rw [l2.1]; rfl) g0 ?_
        repeat w_left
        refine key_le r0 (hhi.sub (x9.tr (x14.tr (x24.tr x27)))) (by decide) (by decide) ?_
        repeat w_left
        rename_i s₂₈ S₂₈
        refine meth_l (S₂₇.atM (.head _)) PySem.F.slot_list_append PySem.F.type_list_append ?_
        repeat w_left
        refine item_l (S₂₇.atT (ra1.sub (x24.tr x27))) (Int.natCast_nonneg _) (by omega) (by rw [Int.toNat_natCast]; exact g1) ?_
        repeat w_left
        refine new_tup S₂₇ (by show 2 ≤ _; decide) fun s₂₉ t₂₉ q x29 a29 S₂₉ => ?_
        repeat w_left
        have hwl : ws.length ≤ 3 := by have := hws.1; simp at this; omega
        refine append_l S₂₉ .head (sz1 hwl (by decide)) fun s₃₀ S₃₀ => ?_
        repeat w_left
        rename_i s₃₁ S₃₁
        have e1 : l.length - m = l.length - (m + 1) + 1 := by omega
        refine ⟨m, Nat.lt_succ_self _, t₂₉, _, _, s₃₀.toks + 1, x24.tr (x27.tr x29), by omega, S₃₁, ?_, q1, ?_, q3, q4, q5, q6, q7, q8, q9, q10, q11, q12⟩
        · rw [e1, List.take_add_one, hj, List.map_append]
          exact (hws.mono fun _ _ z => z.sub (x27.tr x29)).snoc ⟨q, jv, y', rfl, a29, r1.sub (x24.tr (x27.tr x29)), W'.sub (x24.tr (x27.tr x29))⟩
        · show some (Value.int _ _) = _
          rw [e1]; rfl
    | leaf r =>
      rw [nd_nokids]
      have hr := W.leaf p.1 r hnd
      have hpl : (leafP p.1 r).length = r := by unfold leafP; rw [List.length_map, List.length_range]
      repeat w_left
      refine meth_l (S₁₈.atM (.tail _ (.tail _ (.head _)))) PySem.F.slot_list_extend PySem.F.type_list_extend ?_
      repeat w_left
      refine comp_list _ rfl rfl (by decide +kernel) ?_
      repeat w_left
      refine node_pairs_spec S₁₈ R₁ (Z.sub (x9.tr x14)) rn nd_row (by omega) fun pa t₁₉ s₁₉ x19 hpa pvs rp S₁₉ => ?_
      have hpv : pvs.length = r := by rw [rp.1, List.length_map, hpl]
      obtain ⟨t₂₀, x20, a20, S₂₀⟩ := S₁₉.freezeT hpa
      refine iter_list S₂₀ (S₂₀.atT a20) fun it s₂₁ hit S₂₁ => ?_
      refine comp_go (it_list (vs := pvs)) self_list (fun i t' mu' ys => Sub t₂₀ t' ∧ mu' = [(d, TabO prog w xs'), (la, LstO lv'), (fa, LstO fv)] ∧ ys = pvs.take i) R₁
        (by rw [hcs]; exact ⟨rfl, rfl, trivial⟩) (by decide +kernel) rfl S₂₁ ⟨Sub.rfl', rfl, rfl⟩ ?_ ?_ ?_ ?_ ?_
      · rintro i t' mu' ys ⟨h1, rfl, rfl⟩
        exact ⟨rfl, by rw [List.length_take]; omega⟩
      · rintro i t' mu' ys c' n' s' p q ⟨h1, rfl, rfl⟩ S'
        exact S'.atT (a20.sub h1)
      · rw [hpv, sizeLine_eq]; omega
      · rintro i v t₀ t' mu' ys c' s' m₀ acc E' env₂ hi hv ⟨h1, rfl, rfl⟩ x0 R₂ hN₂ S' Qy Qn
        obtain ⟨⟨p1, p2⟩, hp⟩ : ∃ q, (leafP p.1 r)[i]? = some q := ⟨_, List.getElem?_eq_getElem (by rw [hpl, ← hpv]; exact hi)⟩
        have rpi := (rp.sub x20).2 i v _ hv (by rw [List.getElem?_map, hp]; rfl)
        obtain ⟨va, vvs, rfl, v1, v2⟩ := rpi.tup_inv
        obtain ⟨k0, g0, r0⟩ := v2.get (i := 0) rfl
        have hp9 : p1 ≤ 9 := by
          unfold leafP at hp
          rw [List.getElem?_map] at hp
          cases hx : (List.range r)[i]? with
          | none => rw [hx] at hp; cases hp
          | some u =>
            rw [hx] at hp; cases hp
            have := List.mem_range.mp (List.mem_of_getElem? hx); omega
        have hp1 : p1 < 100 := by omega
        repeat w_left
        rename_i s₂₂ S₂₂
        repeat w_left
        refine item_t (j := 0) (S₂₂.atT (v1.sub (h1.tr x0))) (by decide) (by decide) (by rw [v2.1]; rfl) g0 ?_
        repeat w_left
        refine key_le (hlo.sub (x9.tr (x14.tr (x19.tr (x20.tr (h1.tr x0)))))) (r0.sub (h1.tr x0)) (by decide) hp1 ?_
        rw [decide_eq_true (Nat.zero_le _)]
        repeat w_left
        refine key_le (r0.sub (h1.tr x0)) (hhi.sub (x9.tr (x14.tr (x19.tr (x20.tr (h1.tr x0)))))) hp1 (by decide) ?_
        rw [decide_eq_true hp9]
        repeat w_left
        refine ⟨t', _, _, ⟨h1.tr x0, rfl, ?_⟩, S₂₂⟩
        rw [List.take_add_one, hv]; rfl
      · rintro t' mu' ys acc s' hacc ⟨h1, rfl, rfl⟩ S'
        rw [List.take_length] at S'
        repeat w_left
        have hfv := H.flen W
        refine extend_l S' (S'.atM (.head _)) (.tail (.tail (.tail .head))) (by rw [sizeLine_eq]; omega) fun s₂₂ S₂₂ => ?_
        repeat w_left
        have x3 := x14.tr (x19.tr (x20.tr h1))
        obtain ⟨H', hm⟩ := H.leaf W hnd x3 (hlv'.mono fun _ _ z => z.sub x3) (rp.sub (x20.tr h1)) (T'.sub (x19.tr (x20.tr h1))) hc
        exact ⟨_, by rw [List.concat_eq_append]; exact hm, t', _, _, _, _, xs', _, x9.tr x3, rfl, H', (S₂₂.sub (List.sublist_cons_self ..)).perm (List.Perm.swap ..), ho, hf, ht, hl, hs, hw, hlw, hhg⟩
  · intro hc e T t₁₄ o s₁₄ x14 S₁₄
    refine loop_err S₁₄ R₁ hF fun s₁₅ T' S₁₅ => ?_
    exact leave_held S₁₅ R₁ fun s₁₆ S₁₆ => err ⟨p.1, H.bad W hc⟩ e T' t₁₄ s₁₆ (x9.tr x14) (bk _ [_, _] [] _ _ _ S₁₆ rfl)
end
end
section
open PySem PySem.W PyProof.Rows PySem.Calls
noncomputable def DRep (prog : Program) (w : World) (t : Heap) (kvs : List (Str × Value)) (ds : List (Str × Dt)) : Prop :=
  kvs.map (·.1) = ds.map (·.1) ∧ ∀ (i : Nat) k v k' d, kvs[i]? = some (k, v) → ds[i]? = some (k', d) → Rep prog w t v d
noncomputable def dset (ds : List (Str × Dt)) (k : Str) (d : Dt) : List (Str × Dt) := if ds.any (fun x => x.1 = k) then ds.map (fun x => if x.1 = k then (x.1, d) else x) else ds ++ [(k, d)]
section
variable {prog : Program} {w : World} {t t' : Heap} {kvs : List (Str × Value)} {ds : List (Str × Dt)} {v : Value} {d : Dt} {k : Str}
theorem DRep.nil : DRep prog w t [] [] := ⟨rfl, fun i k v k' d h => by simp at h⟩
theorem DRep.cons (r : Rep prog w t v d) (h : DRep prog w t kvs ds) : DRep prog w t ((k, v) :: kvs) ((k, d) :: ds) := ⟨by rw [List.map_cons, List.map_cons, h.1], fun i k v k' d e1 e2 => by
  cases i with
  | zero => cases e1; cases e2; exact r
  | succ i => exact h.2 i k v k' d e1 e2⟩
theorem DRep.sub (x : Sub t t') (h : DRep prog w t kvs ds) : DRep prog w t' kvs ds := ⟨h.1, fun i k v k' d e1 e2 => (h.2 i k v k' d e1 e2).sub x⟩
theorem DRep.len (h : DRep prog w t kvs ds) : kvs.length = ds.length := by have := congrArg List.length h.1; simpa using this
theorem DRep.rep {a : Addr} (h : DRep prog w t kvs ds) (x : At t a (DctO (strKind prog w) kvs)) (lo : (a == sysModules) = false) : Rep prog w t (.ref a) (.dct ds) := .dct x lo h.1 h.2
theorem DRep.at (h : DRep prog w t kvs ds) (e : dAt ds k = some d) : ∃ v, valueAt kvs k = some v ∧ Rep prog w t v d := by
  have := dAt_rep h.1 h.2 k
  rw [e] at this; exact this
theorem DRep.none (h : DRep prog w t kvs ds) (e : dAt ds k = none) : valueAt kvs k = none := by
  have := dAt_rep h.1 h.2 k
  rw [e] at this; exact this
theorem DRep.has (h : DRep prog w t kvs ds) : (valueAt kvs k).isSome = (dAt ds k).isSome := by
  have := dAt_rep h.1 h.2 k
  cases e : dAt ds k with
  | none => rw [e] at this; rw [this]; rfl
  | some d => rw [e] at this; obtain ⟨v, q, _⟩ := this; rw [q]; rfl
theorem DRep.append {k' : Str} (r : Rep prog w t v d) : ∀ {kvs : List (Str × Value)} {ds : List (Str × Dt)}, DRep prog w t kvs ds → DRep prog w t (kvs ++ [(k', v)]) (ds ++ [(k', d)])
  | [], [], _ => DRep.cons r .nil
  | (k, u) :: kvs, (k', e) :: ds, h => by
    obtain ⟨e1, e2⟩ := List.cons.inj h.1
    have e1 : k = k' := e1
    subst e1
    exact DRep.cons (h.2 0 k u k e rfl rfl) (DRep.append r ⟨e2, fun i a b c d x y => h.2 (i + 1) a b c d x y⟩)
  | [], _ :: _, h => by have := h.1; cases this
  | _ :: _, [], h => by have := h.1; cases this
theorem DRep.mapset {kk : Str} (r : Rep prog w t v d) : ∀ {kvs : List (Str × Value)} {ds : List (Str × Dt)}, DRep prog w t kvs ds → DRep prog w t (kvs.map fun kv => if kv.1 = kk then (kv.1, v) else kv) (ds.map fun x => if x.1 = kk then (x.1, d) else x)
  | [], [], _ => .nil
  | (k, u) :: kvs, (k', e) :: ds, h => by
    obtain ⟨e1, e2⟩ := List.cons.inj h.1
    have e1 : k = k' := e1
    subst e1
    have ih := DRep.mapset (kk := kk) r (kvs := kvs) (ds := ds) ⟨e2, fun i a b c d x y => h.2 (i + 1) a b c d x y⟩
    rw [List.map_cons, List.map_cons]
    dsimp only
    split
    · exact DRep.cons r ih
    · exact DRep.cons (h.2 0 k u k e rfl rfl) ih
  | [], _ :: _, h => by have := h.1; cases this
  | _ :: _, [], h => by have := h.1; cases this
theorem DRep.stored (h : DRep prog w t kvs ds) (r : Rep prog w t v d) : DRep prog w t (stored kvs k v) (dset ds k d) := by
  have e : kvs.any (fun kv => decide (kv.1 = k)) = ds.any (fun x => decide (x.1 = k)) := by
    have e1 : kvs.any (fun kv => decide (kv.1 = k)) = (kvs.map (·.1)).any (fun x => decide (x = k)) := by rw [List.any_map]; rfl
    have e2 : ds.any (fun kv => decide (kv.1 = k)) = (ds.map (·.1)).any (fun x => decide (x = k)) := by rw [List.any_map]; rfl
    rw [e1, e2, h.1]
  unfold PySem.stored dset
  rw [e]
  split
  · exact DRep.mapset r h
  · exact DRep.append r h
theorem Rep.dct_rep {a : Addr} (r : Rep prog w t (.ref a) (.dct ds)) : ∃ kvs, At t a (DctO (strKind prog w) kvs) ∧ (a == sysModules) = false ∧ DRep prog w t kvs ds := by
  obtain ⟨a', kvs, e, y1, y2, y3, y4⟩ := r.dct_inv
  cases e
  exact ⟨kvs, y1, y2, y3, y4⟩
end
section
variable {prog : Program} {w : World} {mg mb : Str → Option Value} {A : Around} {s : Shared} {c : Cx} {t t' : Heap} {mu mu' : Mus} {n : Nm} {Q : Value → Shared → Prop} {E : Value → Shared → Prop} {env : Env} {k : Nat} {a b : Addr} {vs us : List Value}
section
variable {K : Type} [DecidableEq K] {knd : KeyKind prog w K} {kvs : List (K × Value)} {kk : K} {key : Value}
theorem copy_d (S : ST w mg mb c t mu n s) (x : At s.heap a (DctO knd kvs)) (lo : (a == sysModules) = false) (hz : kvs.length ≤ sizeLine) (h : ∀ s' b, c.N ≤ b → (b == sysModules) = false → ST w mg mb c t ((b, DctO knd kvs) :: mu) n s' → Q (.ref b) s') :
    wpAny (model prog w) A (call (.type "dict") [.ref a]) Q E s := by
  refine kt_call_dict lo x.dct hz fun h' hd hs => ?_
  obtain ⟨o, e, q⟩ := at_dct hd
  have S1 := S.newMu (o := { cls := .type "dict", data := .dict #[] }) (p := fun o => o = { cls := .type "dict", data := .dict #[] }) rfl
  exact h _ _ S.NL S.neSys (S1.write (k := s.toks) .head (fun b x hb e => (hs.2 b hb).trans e) e q)
end
end
end
section
open PySem PySem.W PyProof.Rows PySem.Calls
section
variable {prog : Program} {w : World} {mg mb : Str → Option Value} {t t' : Heap} {b : Bool} {tk ti : Tok}
/-- all that is told below a node -/
noncomputable def wh (b : Bool) (plan : List Nd) : Nat → Nat → Dt
  | 0, _ => .dct []
  | f + 1, i => match plan[i]? with
    | some (.kids l) => .dct [("Limits", limD b), ("Kids", .lst (l.map (wh b plan f)))]
    | some (.leaf r) => .dct (ndD b i (.leaf r))
    | none => .dct []
noncomputable def wholeD (b : Bool) (plan : List Nd) (i : Nat) : Dt := wh b plan (plan.length - i) i
theorem wh_eq {plan : List Nd} (W : WF plan) : ∀ (f i : Nat), i < plan.length → plan.length - i ≤ f → wh b plan f i = wholeD b plan i
  | 0, i, h, h' => by omega
  | f + 1, i, h, h' => by
    unfold wholeD
    cases e : plan.length - i with
    | zero => omega
    | succ g =>
      unfold wh
      cases hx : plan[i]? with
      | none => rfl
      | some x =>
        cases x with
        | leaf r => rfl
        | kids l =>
          try dsimp only
          congr 4
          refine congrArg Dt.lst (List.map_congr_left fun j hj => ?_)
          obtain ⟨h1, h2⟩ := W.lt i j (by unfold kidsOf; rw [hx]; exact hj)
          rw [wh_eq W f j h2 (sb3 h1 h'), wh_eq W g j h2 (sb4 h1 e)]
theorem whole_kids {plan : List Nd} (W : WF plan) {i : Nat} {l : List Nat} (h : plan[i]? = some (.kids l)) : wholeD b plan i = .dct [("Limits", limD b), ("Kids", .lst (l.map (wholeD b plan)))] := by
  have hi := (List.getElem?_eq_some_iff.mp h).1
  show wh b plan (plan.length - i) i = _
  have e := sb1 hi
  rw [e]
  unfold wh
  rw [h]
  try dsimp only
  have e2 : l.map (wh b plan (plan.length - i - 1)) = l.map (wholeD b plan) := List.map_congr_left fun j hj => by
    obtain ⟨h1, h2⟩ := W.lt i j (by unfold kidsOf; rw [h]; exact hj)
    exact wh_eq W _ j h2 (sb2 h1 h2)
  rw [e2]
theorem whole_leaf {plan : List Nd} {i r : Nat} (h : plan[i]? = some (.leaf r)) : wholeD b plan i = .dct (ndD b i (.leaf r)) := by
  have hi := (List.getElem?_eq_some_iff.mp h).1
  unfold wholeD
  have e := sb1 hi
  rw [e]
  unfold wh
  rw [h]
theorem dset_kids {l m : List Dt} : dset [("Limits", limD b), ("Kids", .lst l)] "Kids" (.lst m) = (([("Limits", limD b), ("Kids", .lst m)] : List (Str × Dt))) := by
  unfold dset
  rw [if_pos (by rfl)]
  rw [List.map_cons, List.map_cons, List.map_nil, if_neg (show ¬ ("Limits" : Str) = "Kids" by decide), if_pos rfl]
section
variable {A : Around} {s : Shared} {c : Cx} {mu : Mus} {n : Nm} {Q E : Value → Shared → Prop} {env : Env} {k : Nat}
/-- get, row_of upon a node that may still turn -/
theorem get_specM {sh v : Value} {a : Addr} {kvs : List (Str × Value)} {nodes : List Dt} {d : Dt} {key : Str} (S : ST w mg mb c t ((a, DctO (PySem.strKind prog w) kvs) :: mu) n s) (Ra : Ar A env c (k + 2)) (Z : IsShelf prog w t sh nodes)
    (lo : (a == sysModules) = false) (hk : valueAt kvs key = some v) (hr : Rep prog w t v d) (nr : notRef d = true)
    (ret : ∀ v' s', Rep prog w t v' d → ST w mg mb c t ((a, DctO (PySem.strKind prog w) kvs) :: mu) n s' → Q v' s') : wpAny (model prog w) A (call (.ref 313) [sh, .ref a, .str key tk]) Q E s := by
  refine call_def (D := [(a, DctO (PySem.strKind prog w) kvs)]) (R := mu) (k := k + 1) (binds := [("self", sh), ("head", .ref a), ("key", .str key tk)]) S Ra S.1.pf.nl (at_313 S.1.pf) rfl (cr_313 S.1.pf) (BindsTo.of_eq rfl) (locs rfl) (by decide +kernel) rfl rfl rfl ?_
  intro c₁ s₁ env₁ A₁ n₀ e0 hN _ S₁ R₁ bk Q₁ E₁
  refine w_cons ?_
  intro K₀
  repeat w_left
  refine sh_meth S₁ Z (by decide) (by decide) (f := 306) (by kernel_rfl) (by kernel_rfl) ?_
  repeat w_left
  refine meth_d (S₁.atM (.head _)) PySem.F.slot_dict_get PySem.F.type_dict_get ?_
  repeat w_left
  refine get1_d S₁ (S₁.atM (.head _)) lo (strKind_is _ _ _ _) fun s₂ S₂ _ => ?_
  rw [hk]
  repeat w_left
  refine fetch_spec S₂ R₁ Z (.inl ⟨rfl, hr, nr⟩) fun v'' s₃ r S₃ => ?_
  exact ret _ _ r (bk _ [] [(a, DctO (PySem.strKind prog w) kvs)] [] _ _ S₃ rfl)
theorem row_of_specM {sh v : Value} {a : Addr} {kvs : List (Str × Value)} {nodes : List Dt} {l : List Dt} {key : Str} (S : ST w mg mb c t ((a, DctO (PySem.strKind prog w) kvs) :: mu) n s) (Ra : Ar A env c (k + 3)) (Z : IsShelf prog w t sh nodes)
    (lo : (a == sysModules) = false) (hk : valueAt kvs key = some v) (hr : Rep prog w t v (.lst l))
    (ret : ∀ v' s', Rep prog w t v' (.lst l) → ST w mg mb c t ((a, DctO (PySem.strKind prog w) kvs) :: mu) n s' → Q v' s') : wpAny (model prog w) A (call (.ref 400) [sh, .ref a, .str key tk]) Q E s := by
  refine call_def (D := [(a, DctO (PySem.strKind prog w) kvs)]) (R := mu) (k := k + 2) (binds := [("shelf", sh), ("node", .ref a), ("key", .str key tk)]) S Ra S.1.pf.nl (at_400 S.1.pf) rfl (cr_400 S.1.pf) (BindsTo.of_eq rfl) (locs rfl) (by decide +kernel) rfl rfl rfl ?_
  intro c₁ s₁ env₁ A₁ n₀ e0 hN _ S₁ R₁ bk Q₁ E₁
  refine w_cons ?_
  intro K₀
  repeat w_left
  refine sh_meth S₁ Z (by decide) (by decide) (f := 313) (by kernel_rfl) (by kernel_rfl) ?_
  repeat w_left
  refine get_specM S₁ R₁ Z lo hk hr rfl fun v' s₂ r S₂ => ?_
  repeat w_left
  rename_i s₃ S₃
  refine isi S₃ (r.ty S₃ rfl) (b := true) (by kernel_rfl) fun s₄ S₄ _ => ?_
  repeat w_left
  exact ret _ _ r (bk _ [] [(a, DctO (PySem.strKind prog w) kvs)] [] _ _ S₄ rfl)
end
/-- the contract of tree_gathered at a node -/
noncomputable def Gath (prog : Program) (w : World) (mg mb : Str → Option Value) (b : Bool) (plan : List Nd) (i : Nat) : Prop :=
  ∀ {A : Around} {s : Shared} {c : Cx} {t : Heap} {mu : Mus} {n : Nm} {Q E : Value → Shared → Prop} {env : Env} {k : Nat} {sh v wv : Value} {path : List Nat} {d : Addr} {xs : List (List Int × Addr × Value)} {cn : Nat → Nat},
    ST w mg mb c t ((d, TabO prog w xs) :: mu) n s → Ar A env c (k + (plan.length - i) + 8) → IsShelf prog w t sh (nodesD b plan) → Rep prog w t v (refD i) → Way t wv path → (∀ j ∈ path, j < i) → path.length ≤ i → Times t xs cn plan.length → (d == sysModules) = false → (∀ j, cn j ≤ 16) →
    ((∀ j, cn j + (trace plan i).count j ≤ 16) → ∀ v' t' xs' s', Sub t t' → Rep prog w t' v' (wholeD b plan i) → Times t' xs' (fun j => cn j + (trace plan i).count j) plan.length → ST w mg mb c t' ((d, TabO prog w xs') :: mu) n s' → Q v' s') →
    ((∃ j, 16 < cn j + (trace plan i).count j) → ∀ e T t' o s', Sub t t' → ST w mg mb c t' ((e, ExcO (.ref T)) :: (T, TbO .none) :: (d, o) :: mu) n s' → E (.ref e) s') →
    wpAny (model prog w) A (call (.ref 512) [sh, v, wv, .ref d]) Q E s
theorem gath_body {plan : List Nd} (W : WF plan) {i : Nat} (hi : i < plan.length) (ih : ∀ j ∈ kidsOf plan i, Gath prog w mg mb b plan j) {A : Around} {t : Heap} {c₁ : Cx} {Q₁ : Flow → Shared → Prop} {E : Value → Shared → Prop} {k : Nat} {sh v wv : Value} {path : List Nat} {d : Addr} {xs : List (List Int × Addr × Value)} {cn : Nat → Nat} {n₁ : Nm} {s₂ : Shared}
    (S₂ : ST w mg mb c₁ t [(d, TabO prog w xs)] n₁ s₂) (R₁ : Ar (A.deeper (envOf "tree_gathered" (fScope (sA 44)) c₁.L 512 (.ref 511))) (envOf "tree_gathered" (fScope (sA 44)) c₁.L 512 (.ref 511)) c₁ (k + (plan.length - i) + 7)) (hF : (A.deeper (envOf "tree_gathered" (fScope (sA 44)) c₁.L 512 (.ref 511))).frames = some ((envOf "tree_gathered" (fScope (sA 44)) c₁.L 512 (.ref 511)) :: c₁.outer))
    (g0 : n₁.own = true) (g1 : n₁.m "shelf" = some sh) (g2 : n₁.m "root" = some v) (g3 : n₁.m "way" = some wv) (g4 : n₁.m "times" = some (.ref d))
    (Z : IsShelf prog w t sh (nodesD b plan)) (hv : Rep prog w t v (refD i)) (Wy : Way t wv path) (hp : ∀ j ∈ path, j < i) (hpl : path.length ≤ i) (T : Times t xs cn plan.length) (sd : (d == sysModules) = false) (hcn : ∀ j, cn j ≤ 16)
    (ret : (∀ j, cn j + (trace plan i).count j ≤ 16) → ∀ v' t' xs' n' s', Sub t t' → Rep prog w t' v' (wholeD b plan i) → Times t' xs' (fun j => cn j + (trace plan i).count j) plan.length → ST w mg mb c₁ t' [(d, TabO prog w xs')] n' s' → Q₁ (.ret v') s')
    (err : (∃ j, 16 < cn j + (trace plan i).count j) → ∀ e T t' o n' s', Sub t t' → ST w mg mb c₁ t' [(e, ExcO (.ref T)), (T, TbO .none), (d, o)] n' s' → E (.ref e) s') :
    wpAny (model prog w) (A.deeper (envOf "tree_gathered" (fScope (sA 44)) c₁.L 512 (.ref 511))) (execs (fBody (sA 44)).tail (envOf "tree_gathered" (fScope (sA 44)) c₁.L 512 (.ref 511))) Q₁ (fun e s' => wpAny (model prog w) (A.deeper (envOf "tree_gathered" (fScope (sA 44)) c₁.L 512 (.ref 511))) (leaving (envOf "tree_gathered" (fScope (sA 44)) c₁.L 512 (.ref 511)) e) (fun _ s'' => E e s'') (fun e' s'' => E e' s'') s') s₂ := by
  have hn14 := W.len
  refine w_cons ?_
  intro K₀
  repeat w_left
  refine longer_way_spec S₂ R₁ hv Wy (fun z => Nat.lt_irrefl _ (hp _ z)) (by omega) T hi (by omega) sd ?_ ?_
  · intro hc y' t₃ xs₃ s₃ x3 W₃ T₃ S₃
    repeat w_left
    rename_i s₄ S₄
    obtain ⟨nd, hnd⟩ : ∃ nd, plan[i]? = some nd := ⟨_, List.getElem?_eq_getElem hi⟩
    refine node_of_spec S₄ R₁ (Z.sub x3) (.inr ⟨i, hv.sub x3, nodesD_get hnd⟩) fun nv s₅ rn S₅ => ?_
    obtain ⟨nva, _, rfl, _⟩ := rn.dct_inv
    obtain ⟨kvs, y1, y2, y3⟩ := rn.dct_rep
    have hkl2 : kvs.length ≤ sizeLine := by rw [y3.len, sizeLine_eq]; cases nd <;> (show 2 ≤ _; omega)
    repeat w_left
    refine copy_d S₅ (S₅.atT y1) y2 hkl2 fun s₆ na hna sna S₆ => ?_
    repeat w_left
    rename_i s₇ S₇
    refine in_d S₇ (S₇.atM (.head _)) sna (strKind_is _ _ _ _) fun s₈ S₈ _ => ?_
    rw [y3.has]
    cases nd with
    | kids l =>
      rw [nd_kids]
      repeat w_left
      try refine PySem.W.ite_pos rfl ?_
      repeat w_left
      refine new_lst S₈ (by show 0 ≤ _; decide) fun s₉ ka hka S₉ => ?_
      repeat w_left
      rename_i s₁₀ S₁₀
      obtain ⟨rv, k1, k2⟩ := y3.at nd_kids
      refine row_of_specM (S₁₀.perm (List.Perm.swap ..)) R₁ (Z.sub x3) sna k1 k2 fun rv' s₁₁ rr S₁₁ => ?_
      obtain ⟨ra, rvs, rfl, ra1, ra2⟩ := rr.lst_inv
      have hkl : kidsOf plan i = l := by unfold kidsOf; rw [hnd]
      have hrl : rvs.length = l.length := by have := ra2.1; simpa using this
      have hl3 : l.length ≤ 3 := by have := W.wid i; rw [hkl] at this; exact this
      refine iter_list S₁₁ (S₁₁.atT ra1) fun it s₁₂ hit S₁₂ => ?_
      have hsplit : ∀ m j, l[m]? = some j → trace plan i = (i :: (l.take m).flatMap (trace plan)) ++ (trace plan j ++ (l.drop (m + 1)).flatMap (trace plan)) := fun m j hj => by
        have e : l = l.take m ++ j :: l.drop (m + 1) := by
          obtain ⟨hm, hj⟩ := List.getElem?_eq_some_iff.mp hj
          rw [← hj, ← List.drop_eq_getElem_cons hm, List.take_append_drop]
        rw [trace_eq W hi, hkl, List.cons_append]
        congr 1
        conv => lhs; rw [e]
        rw [List.flatMap_append, List.flatMap_cons]
      refine for_go (it_list (vs := rvs)) (own_plain fun _ => rfl) (fun m t' mu' n' => ∃ xs' ys, Sub t₃ t' ∧ mu' = [(na, DctO (PySem.strKind prog w) kvs), (ka, LstO ys), (d, TabO prog w xs')] ∧ Reps prog w t' ys ((l.take m).map (wholeD b plan)) ∧
        Times t' xs' (fun j => cn j + (i :: (l.take m).flatMap (trace plan)).count j) plan.length ∧ (∀ j, cn j + (i :: (l.take m).flatMap (trace plan)).count j ≤ 16) ∧ n'.m "node" = some (.ref na) ∧ n'.m "kids" = some (.ref ka) ∧ n'.m "shelf" = some sh ∧ n'.m "longer" = some y' ∧ n'.m "times" = some (.ref d)) R₁ S₁₂
        ⟨xs₃, [], Sub.rfl', rfl, Reps.nil, ?_, ?_, rfl, rfl, g1, rfl, g4⟩ ?_ ?_ ?_
      · have e : (fun j => cn j + (i :: (l.take 0).flatMap (trace plan)).count j) = bump cn i := by
          funext j
          unfold bump
          rw [List.take_zero, List.flatMap_nil]
          by_cases q : j = i
          · subst q; rw [if_pos rfl, List.count_singleton_self]
          · rw [if_neg q, List.count_singleton, if_neg (by simpa using Ne.symm q)]; rfl
        rw [e]; exact T₃
      · intro j
        have := hcn j
        rw [List.take_zero, List.flatMap_nil]
        by_cases q : j = i
        · subst q; rw [List.count_singleton_self]; omega
        · rw [List.count_singleton, if_neg (by simpa using Ne.symm q)]; omega
      · rintro m t' mu' n' s' p ⟨xs', ys, h1, rfl, _⟩ S'
        exact S'.atT (ra1.sub h1)
      · rintro m v' t₀ t' mu' n' s' hm hv' ⟨xs', ys, h1, rfl, h2, h3, h4, q1, q2, q3, q4, q5⟩ x0 S' Eb Qb
        obtain ⟨j, hj⟩ : ∃ j, l[m]? = some j := ⟨_, List.getElem?_eq_getElem (by rw [← hrl]; exact hm)⟩
        have hjm : j ∈ kidsOf plan i := by rw [hkl]; exact List.mem_of_getElem? hj
        have hij := W.lt i j hjm
        have rj : Rep prog w t₃ v' (refD j) := ra2.2 m v' _ hv' (by rw [List.getElem?_map, hj]; rfl)
        have hyl : ys.length ≤ 3 := by have := h2.1; rw [List.length_map, List.length_take] at this; omega
        repeat w_left
        rename_i s₁₃ S₁₃
        refine meth_l (S₁₃.atM (.tail _ (.tail _ (.head _)))) PySem.F.slot_list_append PySem.F.type_list_append ?_
        repeat w_left
        have x30 := h1.tr x0
        have S₁₄ := S₁₃.perm (List.perm_middle (l₁ := [_, _, _]) (l₂ := []))
        refine ih j hjm (k := k) S₁₄ (R₁.less (by omega)) (Z.sub (x3.tr x30)) (rj.sub x30) (W₃.sub x30) (fun j' hj' => ?_) ?_ (h3.sub x0) sd h4 ?_ ?_
        · rcases List.mem_append.mp hj' with hj' | hj'
          · exact Nat.lt_trans (hp j' hj') hij.1
          · rw [List.mem_singleton] at hj'; rw [hj']; exact hij.1
        · rw [List.length_append, List.length_singleton]; omega
        · intro hall v'' t₁₅ xs'' s₁₅ x15 rv'' T'' S₁₅
          repeat w_left
          refine append_l (S₁₅.perm (List.perm_middle (l₁ := [_, _, _]) (l₂ := [])).symm) (.tail (.tail .head)) (sz1 hyl (by decide)) fun s₁₆ S₁₆ => ?_
          repeat w_left
          have e1 : l.take (m + 1) = l.take m ++ [j] := by rw [List.take_add_one, hj]; rfl
          have e2 : ∀ j', (i :: (l.take (m + 1)).flatMap (trace plan)).count j' = (i :: (l.take m).flatMap (trace plan)).count j' + (trace plan j).count j' := fun j' => by
            rw [e1, List.flatMap_append, List.flatMap_cons, List.flatMap_nil, List.append_nil, ← List.cons_append, List.count_append]
          refine ⟨t₁₅, _, n'.set "kid" v', ⟨xs'', ys ++ [v''], x30.tr x15, rfl, ?_, ?_, ?_, q1, q2, q3, q4, q5⟩, S₁₆⟩
          · rw [e1, List.map_append]
            exact (h2.sub (x0.tr x15)).snoc rv''
          · have : (fun j' => cn j' + (i :: (l.take (m + 1)).flatMap (trace plan)).count j') = fun j' => cn j' + (i :: (l.take m).flatMap (trace plan)).count j' + (trace plan j).count j' := by
              funext j'; rw [e2, Nat.add_assoc]
            rw [this]; exact T''
          · intro j'
            rw [e2]; have := hall j'; omega
        · rintro ⟨j', hj'⟩ e T t₁₅ o s₁₅ x15 S₁₅
          refine loop_err S₁₅ R₁ hF fun s₁₆ T' S₁₆ => ?_
          refine leave_held S₁₆ R₁ fun s₁₇ S₁₇ => err ⟨j', ?_⟩ e T' t₁₅ o _ s₁₇ (x3.tr (x30.tr x15)) (S₁₇.sub (.cons₂ _ (.cons₂ _ (.cons₂ _ (List.nil_sublist _)))))
          rw [hsplit m j hj, List.count_append, List.count_append]; omega
      · rintro t' mu' n' s' ⟨xs', ys, h1, rfl, h2, h3, h4, q1, q2, q3, q4, q5⟩ S'
        rw [hrl, List.take_length] at h2 h3 h4
        have hte : trace plan i = i :: l.flatMap (trace plan) := by rw [trace_eq W hi, hkl]
        repeat w_left
        refine set_d S' .head (strKind_is _ _ _ _) hkl2 fun s₁₃ S₁₃ => ?_
        repeat w_left
        obtain ⟨t₁₄, x14, a14, S₁₄⟩ := S₁₃.freezeT hna
        obtain ⟨t₁₅, x15, a15, S₁₅⟩ := S₁₄.freezeT hka
        have x45 := x14.tr x15
        have rk : Rep prog w t₁₅ (.ref ka) (.lst (l.map (wholeD b plan))) := .lst a15 h2.1 (h2.sub x45).2
        have dr := (y3.sub (h1.tr x45)).stored (k := "Kids") rk
        rw [show ndD b i (.kids l) = ([("Limits", limD b), ("Kids", .lst (l.map refD))] : List (Str × Dt)) from rfl, dset_kids] at dr
        refine ret (fun j => by rw [hte]; exact h4 j) _ t₁₅ xs' _ _ (x3.tr (h1.tr x45)) ?_ (by rw [hte]; exact h3.sub x45) S₁₅
        rw [whole_kids W hnd]
        exact dr.rep (a14.sub x15) sna
    | leaf r =>
      rw [nd_nokids]
      have hte : trace plan i = [i] := by rw [trace_eq W hi, show kidsOf plan i = [] by unfold kidsOf; rw [hnd]]; rfl
      repeat w_left
      obtain ⟨t₉, x9, a9, S₉⟩ := S₈.freezeT hna
      have hT : Times t₉ xs₃ (fun j => cn j + (trace plan i).count j) plan.length := by
        have e : (fun j => cn j + (trace plan i).count j) = bump cn i := by
          funext j
          unfold bump
          rw [hte]
          by_cases q : j = i
          · subst q; rw [if_pos rfl, List.count_singleton_self]
          · rw [if_neg q, List.count_singleton, if_neg (by simpa using Ne.symm q)]; rfl
        rw [e]; exact T₃.sub x9
      refine ret (fun j => ?_) _ t₉ xs₃ _ _ (x3.tr x9) ?_ hT S₉
      · have := hcn j
        rw [hte]
        by_cases q : j = i
        · subst q; rw [List.count_singleton_self]; omega
        · rw [List.count_singleton, if_neg (by simpa using Ne.symm q)]; omega
      · rw [whole_leaf hnd]
        exact (y3.sub x9).rep a9 sna
  · intro hc e T t₃ o s₃ x3 S₃
    refine leave_on S₃ R₁ hF fun s₄ T' S₄ => err ⟨i, ?_⟩ e T' t₃ o _ s₄ x3 S₄
    rw [trace_eq W hi, List.count_cons_self]; omega
theorem gath {plan : List Nd} (W : WF plan) : ∀ i, i < plan.length → Gath prog w mg mb b plan i := nd_induct W fun i hi ih => by
  intro A s c t mu n Q E env k sh v wv path d xs cn S Ra Z hv Wy hp hpl T sd hcn ret err
  refine call_def (D := [(d, TabO prog w xs)]) (R := mu) (k := k + (plan.length - i) + 7) (binds := [("shelf", sh), ("root", v), ("way", wv), ("met_places", .ref d)]) S Ra S.1.pf.nl (at_512 S.1.pf) rfl (cr_512 S.1.pf) (BindsTo.of_defaults rfl (S.get (at_505 S.1.pf)) rfl rfl rfl) (locs rfl) (by decide +kernel) rfl rfl rfl ?_
  intro c₁ s₁ env₁ A₁ n₀ e0 hN hF S₁ R₁ bk Q₁ E₁
  refine w_cons ?_
  intro K₀
  iterate 10 w_left
  rename_i s₂ S₂
  show wpAny _ _ (execs _ _) _ _ _
  exact gath_body W hi ih S₂ R₁ hF rfl rfl rfl rfl rfl Z hv Wy hp hpl T sd hcn (fun hall v' t' xs' n' s' x r T' S' => ret hall v' t' xs' s' x r T' (bk _ [] [(d, TabO prog w xs')] [] _ _ S' rfl))
    fun hx e T t' o n' s' x S' => err hx e T t' o s' x (bk _ [_, _] [(d, o)] [] _ _ S' rfl)
end
end
section
open PySem PySem.W PyProof.Rows PySem.Calls
theorem strs_of : ∀ {vs : List Value} {ss : List Str}, vs.length = ss.length → (∀ (j : Nat) v, vs[j]? = some v → ∃ k, ss[j]? = some k ∧ ∃ tk, v = .str k tk) → StrsAre vs ss
  | [], [], _, _ => .nil
  | v :: vs, k :: ss, e, h => by
    obtain ⟨k', e1, tk, rfl⟩ := h 0 v rfl
    cases e1
    exact .cons _ _ (strs_of (by simpa using e) fun j v h' => h (j + 1) v h')
  | [], _ :: _, e, _ => by simp at e
  | _ :: _, [], e, _ => by simp at e
theorem ints_of : ∀ {vs : List Value} {ss : List Int}, vs.length = ss.length → (∀ (j : Nat) v, vs[j]? = some v → ∃ k, ss[j]? = some k ∧ ∃ tk, v = .int k tk) → IntsAre vs ss
  | [], [], _, _ => .nil
  | v :: vs, k :: ss, e, h => by
    obtain ⟨k', e1, tk, rfl⟩ := h 0 v rfl
    cases e1
    exact .cons _ _ (ints_of (by simpa using e) fun j v h' => h (j + 1) v h')
  | [], _ :: _, e, _ => by simp at e
  | _ :: _, [], e, _ => by simp at e
theorem StrsAre.reps {prog : Program} {w : World} {t : Heap} : ∀ {vs : List Value} {ss : List Str}, StrsAre vs ss → Reps prog w t vs (ss.map Dt.str) := by
  intro vs ss h
  induction h with
  | nil => exact Reps.nil
  | cons y t _ ih => exact Reps.cons (.str y t) ih
theorem IntsAre.reps {prog : Program} {w : World} {t : Heap} : ∀ {vs : List Value} {ns : List Int}, IntsAre vs ns → Reps prog w t vs (ns.map Dt.int) := by
  intro vs ns h
  induction h with
  | nil => exact Reps.nil
  | cons y t _ ih => exact Reps.cons (.int y t) ih
section
variable {prog : Program} {w : World} {mg mb : Str → Option Value} {A : Around} {s : Shared} {c : Cx} {t t' : Heap} {mu mu' : Mus} {n : Nm} {Q : Value → Shared → Prop} {E : Value → Shared → Prop} {env : Env} {k : Nat} {a b d D : Addr} {vs us : List Value}
theorem sort_by {κ : PyProof.Rows.KeyKind} (hO : κ.OneLt) (S : ST w mg mb c t ((D, fun o => o = seqObj "list" vs.toArray 0) :: mu) n s) (h0 : PyProof.Rows.KeysOf κ (pairsOf vs)) (hkk : ∀ v₁ v₂ rest, vs = v₁ :: v₂ :: rest → keyKind' (v₁ :: v₂ :: rest).toArray = pure oneType') (h64 : vs.length < 64)
    (h : ∀ (st' : SortSt) s', (arrOf st').Perm (pairsOf vs) → SortedToK κ (arrOf st') (pairsOf vs).size → ST w mg mb c t ((D, LstO ((arrOf st').map (·.2)).toList) :: mu) n s' → Q .none s') :
    wpAny (model prog w) A (call (.builtin "list.sort") [.ref D]) Q E s := by
  obtain ⟨o, e, rfl⟩ := S.inMu (.head _)
  refine wpAny_call_entry slot_list_sort ⟨_, e, rfl⟩ entry_list_sort (list_sort_treeK hO e h0 hkk h64 fun st' a1 a2 => ⟨_, rfl, ?_⟩) (args_list_sort _)
  obtain ⟨e', he'⟩ := sortedHeap_at (vs := vs) (out := (arrOf st').map (·.2)) e
  exact h st' _ a1 a2 (S.write (k := s.toks) .head (fun b x hb q => (sortedHeap_old hb (Heap.lt_size q)).trans q) he' ⟨e', by unfold seqObj; rw [Array.toArray_toList]⟩)
theorem sorted_start {K : Type} [DecidableEq K] {knd : PySem.KeyKind prog w K} {kvs : List (K × Value)} (S : ST w mg mb c t mu n s) (Ra : Ar A env c k) (x : At s.heap d (DctO knd kvs)) (lo : (d == sysModules) = false) (hz : kvs.length ≤ sizeLine)
    (h : ∀ (D : Addr) (vs : List Value) s', c.N ≤ D → vs.length = kvs.length → (∀ (j : Nat) v, vs[j]? = some v → ∃ k x, kvs[j]? = some (k, x) ∧ knd.is k v = true) → ST w mg mb c t ((D, fun o => o = seqObj "list" vs.toArray 0) :: mu) n s' →
      wpAny (model prog w) A.in1 (call (.builtin "list.sort") [.ref D]) (fun _ s' => Q (.ref D) s') E s') :
    wpAny (model prog w) A (call (.builtin "sorted") [.ref d]) Q E s := by
  obtain ⟨o, es, ep, h1, h2, h3, h4, h5, h6⟩ := x.dct
  have hok : s.heap.DictAt knd d kvs ep := ⟨o, es, h1, h2, h3, h4, h5, h6⟩
  refine call_function_entry kind_sorted plain_sorted entry_sorted (args_sorted1 _) ?_
  unfold Builtin.«sorted»
  refine wpAny_bind (m := checkCount "sorted" 1 1 _) (wpAny_pure ?_)
  refine wpAny_bind (kdu_collect (A := A.in1) (kdl_dict (ep := ep) lo) Ra.hd hok hz fun h' tk acc hk hacc => ?_)
  have hl : acc.toList.length = kvs.length := by rw [Array.length_toList]; exact hacc.1
  refine wpAny_bind (wpAny_newList ?_ (by rw [hl]; exact hz))
  have S1 := (S.grow (k := tk) hk).newMu (o := { cls := .type "list", data := .seq acc.toList.toArray }) (p := fun o => o = seqObj "list" acc.toList.toArray 0) rfl
  have hg := h _ acc.toList _ (S.grow (k := tk) hk).NL hl (fun j v e => hacc.2 j v (by rw [← Array.getElem?_toList]; exact e)) S1
  refine wpAny_bind (wpAny_holding (wpAny_mono hg (fun _ s' x => ?_) fun _ _ e => e))
  exact wpAny_pure ⟨_, rfl, x⟩
theorem sorted_str {kvs : List (Str × Value)} (S : ST w mg mb c t mu n s) (Ra : Ar A env c k) (x : At s.heap d (DctO (PySem.strKind prog w) kvs)) (lo : (d == sysModules) = false) (hz : kvs.length < 64)
    (h : ∀ D vs ss s', c.N ≤ D → StrsAre vs ss → ss.Perm (kvs.map (·.1)) → sortedS ss = true → ST w mg mb c t ((D, LstO vs) :: mu) n s' → Q (.ref D) s') :
    wpAny (model prog w) A (call (.builtin "sorted") [.ref d]) Q E s := by
  refine sorted_start S Ra x lo (by rw [sizeLine_eq]; omega) fun D vs s₁ hD hl hv S₁ => ?_
  have hS : StrsAre vs (kvs.map (·.1)) := strs_of (by rw [hl, List.length_map]) fun j v e => by
    obtain ⟨kk, y, e1, e2⟩ := hv j v e
    refine ⟨kk, by rw [List.getElem?_map, e1]; rfl, ?_⟩
    cases v with
    | str y tk =>
      refine ⟨tk, ?_⟩
      have : y = kk := by first | exact eq_of_beq e2 | exact (eq_of_beq e2).symm
      rw [this]
    | _ => cases e2
  refine sort_by strKind_oneLt S₁ hS.keysOf (fun v₁ v₂ rest e => keyKind_strs (by rw [← e]; exact hS)) (by omega) fun st' s₂ hp hs S₂ => ?_
  obtain ⟨ss', h1, h2, h3⟩ := sorted_out_str hS hp hs
  exact h D _ ss' s₂ hD h1 h2 h3 S₂
theorem tuple_l (S : ST w mg mb c t mu n s) (x : At s.heap a (LstO vs)) (hz : vs.length ≤ sizeLine) (h : ∀ r s' t', Sub t t' → At t' r (TupO vs) → ST w mg mb c t' mu n s' → Q (.ref r) s') :
    wpAny (model prog w) A (call (.type "tuple") [.ref a]) Q E s := by
  refine call_tuple_list x.isList (fun h' hk => ?_) (by simpa using hz)
  obtain ⟨t', x1, e, S'⟩ := (S.grow (k := s.toks) hk).newIm (o := { cls := .type "tuple", data := .seq vs.toArray })
  exact h _ _ t' x1 ⟨_, e, 0, rfl⟩ S'
theorem add_t' (S : ST w mg mb c t mu n s) (x : At t a (TupO vs)) (y : At t b (TupO us)) (hv : vs ≠ []) (hz : vs.length + us.length ≤ 10000) (h : ∀ r s' t', Sub t t' → At t' r (TupO (vs ++ us)) → ST w mg mb c t' mu n s' → Q (.ref r) s') :
    wpAny (model prog w) A (binaryOp .Add (.ref a) (.ref b)) Q E s := by
  obtain ⟨n1, ht⟩ := (S.atT x).isT
  obtain ⟨n2, hb⟩ := (S.atT y).isT
  have z1 : ¬ vs.toArray.isEmpty = true := by cases vs with | nil => exact absurd rfl hv | cons => simp
  cases us with
  | nil =>
    refine concat_meets ⟨_, ht, rfl⟩ ⟨_, hb, rfl⟩ noFill_tuple_add seq_tuple_add PySem.F.slot_tuple_add PySem.F.entry_tuple_add (PySem.F.args_tuple_add_2 _ _) (tuple_addW1 a b vs.toArray _ n1 n2 none none #[] #[] z1 rfl) ⟨ht, hb, h a s t (fun _ _ e => e) (by rw [List.append_nil]; exact x) S⟩
  | cons u us =>
    refine P.add_tuple ht hb z1 (by simp) ?_ (by rw [List.size_toArray, List.size_toArray, sizeLine_eq]; omega)
    obtain ⟨t', x1, e, S'⟩ := S.newIm (o := { cls := .type "tuple", data := .seq (vs.toArray ++ (u :: us).toArray) })
    exact h _ _ t' x1 ⟨_, e, 0, by simp⟩ S'
end
end
section
open PySem PySem.W PyProof.Rows PySem.Calls
/-- data that is compared: at most m deep, of ints, strs, bytes, lists, tuples -/
noncomputable def Flat : Nat → Dt → Prop
  | _, .int _ => True
  | _, .str _ => True
  | _, .byt _ => True
  | m + 1, .lst ds => ∀ d ∈ ds, Flat m d
  | m + 1, .tup ds => ∀ d ∈ ds, Flat m d
  | _, _ => False
theorem all_true {n : Nat} : ((List.range n).all fun _ => true) = true := by simp
section
variable {prog : Program} {w : World} {mg mb : Str → Option Value} {A : Around} {s : Shared} {c : Cx} {t t' : Heap} {mu mu' : Mus} {n : Nm} {Q : Value → Shared → Prop} {E : Value → Shared → Prop} {env : Env} {k m : Nat} {a b : Addr} {vs us : List Value} {ds : List Dt} {d : Dt} {u v : Value}
theorem reps_eq (H : ∀ {d : Dt} {u v : Value}, d ∈ ds → Rep prog w t u d → Rep prog w t v d → PySem.SeqAt.EqAt A.in1 s u v true) (ru : Reps prog w t us ds) (rv : Reps prog w t vs ds) :
    ∀ j (h1 : j < us.toArray.size) (h2 : j < vs.toArray.size), PySem.SeqAt.EqAt A.in1 s us.toArray[j] vs.toArray[j] ((fun _ => true) j) := fun j h1 h2 => by
  have g1 : j < us.length := by simpa using h1
  have g2 : j < vs.length := by simpa using h2
  have g3 : j < ds.length := by rw [← ru.1]; exact g1
  have := H (List.getElem_mem g3) (ru.2 j _ _ (List.getElem?_eq_getElem g1) (List.getElem?_eq_getElem g3)) (rv.2 j _ _ (List.getElem?_eq_getElem g2) (List.getElem?_eq_getElem g3))
  simpa using this
theorem rc_lst (hs : Sub t s.heap) (H : ∀ {d : Dt} {u v : Value}, d ∈ ds → Rep prog w t u d → Rep prog w t v d → PySem.SeqAt.EqAt A.in1 s u v true) (hu : A.units < cLine) (ru : Rep prog w t (.ref a) (.lst ds)) (rv : Rep prog w t (.ref b) (.lst ds)) :
    PySem.SeqAt.RcAt A s (.ref a) (.ref b) true ∧ PySem.SeqAt.RcNeAt A s (.ref a) (.ref b) false := by
  obtain ⟨a', us, e, a1, a2⟩ := ru.lst_inv
  cases e
  obtain ⟨b', vs, e, b1, b2⟩ := rv.lst_inv
  cases e
  have he := reps_eq H a2 b2
  have hz : us.toArray.size = vs.toArray.size := by simp [a2.1, b2.1]
  have h1 := PySem.SeqAt.RcAt.lists (a1.sub hs).isList (b1.sub hs).isList hz hu he
  have h2 := PySem.SeqAt.RcNeAt.lists (a1.sub hs).isList (b1.sub hs).isList hz hu he
  rw [all_true] at h1 h2
  exact ⟨h1, h2⟩
theorem rc_tup (hs : Sub t s.heap) (H : ∀ {d : Dt} {u v : Value}, d ∈ ds → Rep prog w t u d → Rep prog w t v d → PySem.SeqAt.EqAt A.in1 s u v true) (hu : A.units < cLine) (ru : Rep prog w t (.ref a) (.tup ds)) (rv : Rep prog w t (.ref b) (.tup ds)) :
    PySem.SeqAt.RcAt A s (.ref a) (.ref b) true ∧ PySem.SeqAt.RcNeAt A s (.ref a) (.ref b) false := by
  obtain ⟨a', us, e, a1, a2⟩ := ru.tup_inv
  cases e
  obtain ⟨b', vs, e, b1, b2⟩ := rv.tup_inv
  cases e
  have he := reps_eq H a2 b2
  have hz : us.toArray.size = vs.toArray.size := by simp [a2.1, b2.1]
  have h1 := PySem.SeqAt.RcAt.tuples (a1.sub hs).isTup (b1.sub hs).isTup hu he
  have h2 := PySem.SeqAt.RcNeAt.tuples (a1.sub hs).isTup (b1.sub hs).isTup hu he
  rw [all_true, hz, beq_self_eq_true] at h1 h2
  exact ⟨h1, h2⟩
theorem rep_eq (hs : Sub t s.heap) : ∀ (m : Nat) (d : Dt), Flat m d → ∀ {A : Around} {u v : Value}, Rep prog w t u d → Rep prog w t v d → A.units + m < cLine → PySem.SeqAt.EqAt A s u v true := fun m => by
  induction m with
  | zero =>
    intro d F A u v ru rv hu
    cases d with
    | int i =>
      obtain ⟨t1, rfl⟩ := ru.int_inv
      obtain ⟨t2, rfl⟩ := rv.int_inv
      have := PySem.SeqAt.EqAt.int_int (A := A) (s := s) i t1 i t2
      rwa [beq_self_eq_true] at this
    | str i =>
      obtain ⟨t1, rfl⟩ := ru.str_inv
      obtain ⟨t2, rfl⟩ := rv.str_inv
      have := PySem.SeqAt.EqAt.str_str (A := A) (s := s) i t1 i t2
      rwa [beq_self_eq_true] at this
    | byt i =>
      obtain ⟨t1, rfl⟩ := ru.byt_inv
      obtain ⟨t2, rfl⟩ := rv.byt_inv
      exact fun prog w E Q h => eqBool_bytes (by simpa using h)
    | _ => exact F.elim
  | succ m ih =>
    intro d F A u v ru rv hu
    cases d with
    | int i =>
      obtain ⟨t1, rfl⟩ := ru.int_inv
      obtain ⟨t2, rfl⟩ := rv.int_inv
      have := PySem.SeqAt.EqAt.int_int (A := A) (s := s) i t1 i t2
      rwa [beq_self_eq_true] at this
    | str i =>
      obtain ⟨t1, rfl⟩ := ru.str_inv
      obtain ⟨t2, rfl⟩ := rv.str_inv
      have := PySem.SeqAt.EqAt.str_str (A := A) (s := s) i t1 i t2
      rwa [beq_self_eq_true] at this
    | byt i =>
      obtain ⟨t1, rfl⟩ := ru.byt_inv
      obtain ⟨t2, rfl⟩ := rv.byt_inv
      exact fun prog w E Q h => eqBool_bytes (by simpa using h)
    | lst ds =>
      have hu' : A.in1.units + m < cLine := by show A.units + 1 + m < cLine; omega
      have h0 : A.units < cLine := by omega
      obtain ⟨a, us, rfl, a1, a2⟩ := ru.lst_inv
      obtain ⟨b, vs, rfl, b1, b2⟩ := rv.lst_inv
      by_cases hab : a = b
      · subst hab; exact PySem.SeqAt.EqAt.same _
      · exact PySem.SeqAt.EqAt.of_refs hab (rc_lst hs (fun {d u v} hd r r' => ih d (F d hd) r r' hu') h0 ru rv).1
    | tup ds =>
      have hu' : A.in1.units + m < cLine := by show A.units + 1 + m < cLine; omega
      have h0 : A.units < cLine := by omega
      obtain ⟨a, us, rfl, a1, a2⟩ := ru.tup_inv
      obtain ⟨b, vs, rfl, b1, b2⟩ := rv.tup_inv
      by_cases hab : a = b
      · subst hab; exact PySem.SeqAt.EqAt.same _
      · exact PySem.SeqAt.EqAt.of_refs hab (rc_tup hs (fun {d u v} hd r r' => ih d (F d hd) r r' hu') h0 ru rv).1
    | _ => exact F.elim
theorem eq_lst (S : ST w mg mb c t mu n s) (Ra : Ar A env c k) (F : Flat 64 (.lst ds)) (ru : Rep prog w t u (.lst ds)) (rv : Rep prog w t v (.lst ds)) (h : Q (.bool true) s) : wpAny (model prog w) A (compareOp .Eq u v) Q E s := by
  have hu := Ra.units64
  obtain ⟨a, us, rfl, _⟩ := ru.lst_inv
  obtain ⟨b, vs, rfl, _⟩ := rv.lst_inv
  exact (rc_lst S.1.keep (fun {d u v} hd r r' => rep_eq (A := A.in1) S.1.keep 63 d (F d hd) r r' (by show A.units + 1 + 63 < cLine; omega)) (by omega) ru rv).1 prog w E Q h
theorem ne_lst (S : ST w mg mb c t mu n s) (Ra : Ar A env c k) (F : Flat 64 (.lst ds)) (ru : Rep prog w t u (.lst ds)) (rv : Rep prog w t v (.lst ds)) (h : Q (.bool false) s) : wpAny (model prog w) A (compareOp .NotEq u v) Q E s := by
  have hu := Ra.units64
  obtain ⟨a, us, rfl, _⟩ := ru.lst_inv
  obtain ⟨b, vs, rfl, _⟩ := rv.lst_inv
  exact (rc_lst S.1.keep (fun {d u v} hd r r' => rep_eq (A := A.in1) S.1.keep 63 d (F d hd) r r' (by show A.units + 1 + 63 < cLine; omega)) (by omega) ru rv).2 prog w E Q h
theorem eq_tup (S : ST w mg mb c t mu n s) (Ra : Ar A env c k) (F : Flat 64 (.tup ds)) (ru : Rep prog w t u (.tup ds)) (rv : Rep prog w t v (.tup ds)) (h : Q (.bool true) s) : wpAny (model prog w) A (compareOp .Eq u v) Q E s := by
  have hu := Ra.units64
  obtain ⟨a, us, rfl, _⟩ := ru.tup_inv
  obtain ⟨b, vs, rfl, _⟩ := rv.tup_inv
  exact (rc_tup S.1.keep (fun {d u v} hd r r' => rep_eq (A := A.in1) S.1.keep 63 d (F d hd) r r' (by show A.units + 1 + 63 < cLine; omega)) (by omega) ru rv).1 prog w E Q h
theorem ne_tup (S : ST w mg mb c t mu n s) (Ra : Ar A env c k) (F : Flat 64 (.tup ds)) (ru : Rep prog w t u (.tup ds)) (rv : Rep prog w t v (.tup ds)) (h : Q (.bool false) s) : wpAny (model prog w) A (compareOp .NotEq u v) Q E s := by
  have hu := Ra.units64
  obtain ⟨a, us, rfl, _⟩ := ru.tup_inv
  obtain ⟨b, vs, rfl, _⟩ := rv.tup_inv
  exact (rc_tup S.1.keep (fun {d u v} hd r r' => rep_eq (A := A.in1) S.1.keep 63 d (F d hd) r r' (by show A.units + 1 + 63 < cLine; omega)) (by omega) ru rv).2 prog w E Q h
end
end
section
open PySem PySem.W PyProof.Rows PySem.Calls
theorem look_bb : typeLookup (.type "bytes") "__bytes__" = pure (some (.builtin "bytes.__bytes__")) := by rw [typeLookup_type, builtinLookup_eq_fast]; kernel_rfl
section
variable {prog : Program} {w : World} {A : Around} {E : Value → Shared → Prop} {s : Shared} {b : Array UInt8} {t : Tok}
theorem bytes_new_b {Q : Value → Shared → Prop} (hQ : Q (.bytes b t) s) : codeAny (model prog w) A (.call (.builtin "bytes.__new__") ⟨[.type "bytes", .bytes b t], []⟩) (wants Q E) s := by
  refine codeAny_of_tree ?_
  show wpAny _ A.in1 (do checkBuiltinCall "bytes.__new__" ⟨[.type "bytes", .bytes b t], []⟩; again (.builtin "bytes.__new__" ⟨[.type "bytes", .bytes b t], []⟩)) _ _ s
  refine wpAny_bind (wpAny_of_eq (PySem.F.bm_newCall _) (wpAny_pure ⟨plainId_quiet PySem.F.bm_plain _, codeAny_builtin PySem.F.bm_entry ?_⟩))
  rw [Around.under_plainId PySem.F.bm_plain _]
  have hT : s.TypeIs (.bytes b t) "bytes" := typeIs_bytes s b t
  unfold Builtin.«bytes.__new__»
  refine wpAny_bind (wpAny_of_eq (a := true) rfl ?_)
  refine bm_if_false rfl ?_
  refine wpAny_bind (wpAny_of_eq PySem.F.bm_sub ?_)
  refine bm_if_false rfl ?_
  refine wpAny_bind (wpAny_of_eq (PySem.F.bm_bind _) ?_)
  refine wpAny_bind (wpAny_of_eq (a := ()) rfl ?_)
  refine wpAny_bind (wpAny_of_eq (a := ()) rfl ?_)
  refine bm_if_false rfl ?_
  refine wpAny_bind (wpAny_specialOf hT look_bb ?_)
  refine wpAny_bind (wpAny_rule ?_)
  refine wpAny_bind (wpAny_typeOf hT ?_)
  refine bm_if_true rfl ?_
  exact wpAny_pure hQ
theorem bytes_b {Q : Value → Shared → Prop} (hQ : Q (.bytes b t) s) : wpAny (model prog w) A (call (.type "bytes") [.bytes b t]) Q E s := by
  refine callType_codes (Q₁ := fun obj s₁ => s₁.TypeIs obj "bytes" ∧ Q obj s₁) PySem.F.bm_called (PySem.F.bm_typeCall _) PySem.F.entry_object_init (bytes_new_b ⟨typeIs_bytes _ _ _, hQ⟩) fun obj s₁ h₁ => ?_
  exact ⟨h₁.1, PySem.F.args_object_init_2 obj _, object_init_meets PySem.F.bm_called.init.lookup PySem.F.bm_called.made (by decide) prog w A.in1 _ s₁ ⟨h₁.1, rfl, h₁.2⟩⟩
end
end
section
open PySem PySem.W PyProof.Rows PySem.Calls
/-- what told_objects gives -/
inductive Told : Nat → Dt → Dt → Prop where
  | int (m : Nat) (i : Int) : Told m (.int i) (.tup [.str "int", .int i])
  | oct (m : Nat) (b : List UInt8) : Told m (.oct b) (.tup [.str "string", .byt b])
  | ref (m : Nat) (i g : Int) : Told m (.ref i g) (.tup [.str "ref", .int i, .int g])
  | lst {m : Nat} {ds es : List Dt} : ds.length = es.length → ds.length ≤ 1000 → (∀ (i : Nat) d e, ds[i]? = some d → es[i]? = some e → Told m d e) → Told (m + 1) (.lst ds) (.tup (.str "array" :: es))
  | dct {m : Nat} {ds : List (Str × Dt)} {ks : List Str} {es : List Dt} (dg : Str → Dt) : (∀ ss : List Str, ss.Perm (ds.map (·.1)) → sortedS ss = true → ss = ks) → (∀ k ∈ ks, dAt ds k = some (dg k)) → ks.length = es.length → ds.length < 60 → ks.length < 60 →
      (∀ (i : Nat) k e, ks[i]? = some k → es[i]? = some e → Told m (dg k) e) → Told (m + 1) (.dct ds) (.tup (.str "dict" :: List.zipWith (fun k e => .tup [.str k, e]) ks es))
noncomputable def kindS : Dt → Option Str
  | .int _ => some "int"
  | .oct _ => some "string"
  | .lst _ => some "array"
  | .dct _ => some "dict"
  | .ref _ _ => some "ref"
  | _ => none
section
variable {prog : Program} {w : World} {mg mb : Str → Option Value} {A : Around} {s : Shared} {c : Cx} {t t' : Heap} {mu : Mus} {n : Nm} {Q E : Value → Shared → Prop} {env : Env} {k : Nat} {b : Bool} {tk ti : Tok} {v : Value} {d : Dt}
theorem kind_nb {nm : Str} (h : kindS d = some nm) : notByt d = true := by cases d <;> first | rfl | cases h
noncomputable def kindN : Dt → Nat
  | .int _ => 1
  | .oct _ => 4
  | .lst _ => 5
  | .dct _ => 6
  | .ref _ _ => 8
  | _ => 0
theorem kit_kind {P : Params} {nm : Str} (h : kindS d = some nm) : kitOne (K1 P) (dTy d) (.type "bool") = some (kindN d == 0) ∧ kitOne (K1 P) (dTy d) (.type "int") = some (kindN d == 1) ∧ kitOne (K1 P) (dTy d) (.ref 155) = some (kindN d == 2) ∧ kitOne (K1 P) (dTy d) (.ref 190) = some (kindN d == 3) ∧
    kitOne (K1 P) (dTy d) (.ref 212) = some (kindN d == 4) ∧ kitOne (K1 P) (dTy d) (.type "list") = some (kindN d == 5) ∧ kitOne (K1 P) (dTy d) (.type "dict") = some (kindN d == 6) ∧ kitOne (K1 P) (dTy d) (.ref 233) = some (kindN d == 7) ∧ kitOne (K1 P) (dTy d) (.ref 261) = some (kindN d == 8) := by
  cases d with
  | str _ => cases h
  | byt _ => cases h
  | tup _ => cases h
  | _ => refine ⟨?_, ?_, ?_, ?_, ?_, ?_, ?_, ?_, ?_⟩ <;> kernel_rfl
theorem is_none_rep (hv : Rep prog w t v d) (h : Q (.bool false) s) : wpAny (model prog w) A (compareOp .Is v .none) Q E s := by
  cases hv <;> first | exact PyProof.Rows.is_int_none h | exact PyProof.Rows.is_ref_none h | exact wpAny_pure h
theorem isnot_none_rep (hv : Rep prog w t v d) (h : Q (.bool true) s) : wpAny (model prog w) A (compareOp .IsNot v .none) Q E s := by
  cases hv <;> first | exact PyProof.Rows.isnot_ref_none h | exact wpAny_pure h | exact wpAny_bind (wpAny_pure (wpAny_pure h))
theorem tup_rep {a : Addr} {vs : List Value} {ds : List Dt} (x : At t a (TupO vs)) (r : Reps prog w t vs ds) : Rep prog w t (.ref a) (.tup ds) := .tup x r.1 r.2
theorem lst_rep {a : Addr} {vs : List Value} {ds : List Dt} (x : At t a (LstO vs)) (r : Reps prog w t vs ds) : Rep prog w t (.ref a) (.lst ds) := .lst x r.1 r.2
theorem kind_nm {nm : Str} (h : kindS d = some nm) : (kindN d = 1 → nm = "int") ∧ (kindN d = 4 → nm = "string") ∧ (kindN d = 5 → nm = "array") ∧ (kindN d = 6 → nm = "dict") ∧ (kindN d = 8 → nm = "ref") ∧ kindN d ≠ 0 ∧ kindN d ≠ 2 ∧ kindN d ≠ 3 ∧ kindN d ≠ 7 ∧ kindN d ≤ 8 := by
  cases d with
  | str _ => cases h
  | byt _ => cases h
  | tup _ => cases h
  | _ => cases h; refine ⟨?_, ?_, ?_, ?_, ?_, ?_, ?_, ?_, ?_, ?_⟩ <;> first | exact fun _ => rfl | exact Nat.le_of_ble_eq_true rfl | exact fun h => absurd h (Nat.ne_of_beq_eq_false rfl) | exact Nat.ne_of_beq_eq_false rfl
theorem nine : ∀ n : Nat, n < 9 → n = 0 ∨ n = 1 ∨ n = 2 ∨ n = 3 ∨ n = 4 ∨ n = 5 ∨ n = 6 ∨ n = 7 ∨ n = 8 := by decide
theorem kind_of_spec {nm : Str} (S : ST w mg mb c t mu n s) (Ra : Ar A env c (k + 1)) (hv : Rep prog w t v d) (hd : kindS d = some nm)
    (ret : ∀ s' u, ST w mg mb c t mu n s' → Q (.str nm u) s') : wpAny (model prog w) A (call (.ref 272) [v]) Q E s := by
  refine call_def (D := []) (R := mu) (k := k) (binds := [("value", v)]) S Ra S.1.pf.nl (at_272 S.1.pf) rfl (cr_272 S.1.pf) (BindsTo.of_eq rfl) (locs rfl) (by decide +kernel) rfl rfl rfl ?_
  intro c₁ s₁ env₁ A₁ n₀ e0 hN _ S₁ R₁ bk Q₁ E₁
  obtain ⟨k0, k1, k2, k3, k4, k5, k6, k7, k8⟩ := kit_kind (P := w.params) hd
  obtain ⟨m1, m4, m5, m6, m8, q0, q2, q3, q7, q8⟩ := kind_nm hd
  have hb := kind_nb hd
  refine w_cons ?_
  intro K₀
  repeat w_left
  refine is_none_rep hv ?_
  repeat w_left
  refine isi S₁ (hv.ty S₁ hb) k0 fun s₂ S₂ _ => ?_
  repeat w_left
  try refine PySem.W.ite_neg (by simpa using q0) ?_
  repeat w_left
  refine isi S₂ (hv.ty S₂ hb) k1 fun s₃ S₃ _ => ?_
  repeat w_left
  by_cases h1 : kindN d = 1
  · refine PySem.W.ite_pos (by simpa using h1) ?_
    repeat w_left
    rw [m1 h1] at ret
    exact ret _ _ (bk.same S₃)
  try refine PySem.W.ite_neg (by simpa using h1) ?_
  repeat w_left
  refine isi S₃ (hv.ty S₃ hb) k2 fun s₄ S₄ _ => ?_
  repeat w_left
  try refine PySem.W.ite_neg (by simpa using q2) ?_
  repeat w_left
  refine isi S₄ (hv.ty S₄ hb) k3 fun s₅ S₅ _ => ?_
  repeat w_left
  try refine PySem.W.ite_neg (by simpa using q3) ?_
  repeat w_left
  refine isi S₅ (hv.ty S₅ hb) k4 fun s₆ S₆ _ => ?_
  repeat w_left
  by_cases h4 : kindN d = 4
  · refine PySem.W.ite_pos (by simpa using h4) ?_
    repeat w_left
    rw [m4 h4] at ret
    exact ret _ _ (bk.same S₆)
  try refine PySem.W.ite_neg (by simpa using h4) ?_
  repeat w_left
  refine isi S₆ (hv.ty S₆ hb) k5 fun s₇ S₇ _ => ?_
  repeat w_left
  by_cases h5 : kindN d = 5
  · refine PySem.W.ite_pos (by simpa using h5) ?_
    repeat w_left
    rw [m5 h5] at ret
    exact ret _ _ (bk.same S₇)
  try refine PySem.W.ite_neg (by simpa using h5) ?_
  repeat w_left
  refine isi S₇ (hv.ty S₇ hb) k6 fun s₈ S₈ _ => ?_
  repeat w_left
  by_cases h6 : kindN d = 6
  · refine PySem.W.ite_pos (by simpa using h6) ?_
    repeat w_left
    rw [m6 h6] at ret
    exact ret _ _ (bk.same S₈)
  try refine PySem.W.ite_neg (by simpa using h6) ?_
  repeat w_left
  refine isi S₈ (hv.ty S₈ hb) k7 fun s₉ S₉ _ => ?_
  repeat w_left
  try refine PySem.W.ite_neg (by simpa using q7) ?_
  repeat w_left
  refine isi S₉ (hv.ty S₉ hb) k8 fun s₁₀ S₁₀ _ => ?_
  repeat w_left
  by_cases h8 : kindN d = 8
  · refine PySem.W.ite_pos (by simpa using h8) ?_
    repeat w_left
    rw [m8 h8] at ret
    exact ret _ _ (bk.same S₁₀)
  · exact ((nine _ (Nat.lt_succ_of_le q8)).elim q0 fun z => z.elim h1 fun z => z.elim q2 fun z => z.elim q3 fun z => z.elim h4 fun z => z.elim h5 fun z => z.elim h6 fun z => z.elim q7 h8 : False).elim
noncomputable def plainD : Dt → Option Dt
  | .int i => some (.tup [.str "int", .int i])
  | .oct b => some (.tup [.str "string", .byt b])
  | .ref i g => some (.tup [.str "ref", .int i, .int g])
  | _ => none
theorem told_plain_spec {nm : Str} {e : Dt} (S : ST w mg mb c t mu n s) (Ra : Ar A env c (k + 1)) (hv : Rep prog w t v d) (hd : kindS d = some nm) (he : plainD d = some e)
    (ret : ∀ v' t' s', Sub t t' → Rep prog w t' v' e → ST w mg mb c t' mu n s' → Q v' s') : wpAny (model prog w) A (call (.ref 279) [.str nm tk, v]) Q E s := by
  refine call_def (D := []) (R := mu) (k := k) (binds := [("kind", .str nm tk), ("value", v)]) S Ra S.1.pf.nl (at_279 S.1.pf) rfl (cr_279 S.1.pf) (BindsTo.of_eq rfl) (locs rfl) (by decide +kernel) rfl rfl rfl ?_
  intro c₁ s₁ env₁ A₁ n₀ e0 hN _ S₁ R₁ bk Q₁ E₁
  refine w_cons ?_
  intro K₀
  cases d with
  | int i =>
    cases hd; cases he
    repeat w_left
    refine new_tup S₁ (by show 2 ≤ _; decide) fun s₂ t₂ p x2 a2 S₂ => ?_
    exact ret _ t₂ _ x2 (tup_rep a2 (Reps.cons (.str _ _) (Reps.cons (hv.sub x2) Reps.nil))) (bk.same S₂)
  | oct i =>
    cases hd; cases he
    repeat w_left
    refine oct_octets S₁ hv fun s₂ u S₂ _ => ?_
    repeat w_left
    refine bytes_b ?_
    repeat w_left
    refine new_tup S₂ (by show 2 ≤ _; decide) fun s₃ t₃ p x3 a3 S₃ => ?_
    exact ret _ t₃ _ x3 (tup_rep a3 (Reps.cons (.str _ _) (Reps.cons (.byt _ _) Reps.nil))) (bk.same S₃)
  | ref i g =>
    cases hd; cases he
    repeat w_left
    refine ref_number S₁ hv fun s₂ u S₂ _ => ?_
    repeat w_left
    refine ref_generation S₂ hv fun s₃ u' S₃ _ => ?_
    repeat w_left
    refine new_tup S₃ (by show 3 ≤ _; decide) fun s₄ t₄ p x4 a4 S₄ => ?_
    exact ret _ t₄ _ x4 (tup_rep a4 (Reps.cons (.str _ _) (Reps.cons (.int _ _) (Reps.cons (.int _ _) Reps.nil)))) (bk.same S₄)
  | _ => cases he
end
section
variable {prog : Program} {w : World} {mg mb : Str → Option Value}
noncomputable def ToldC (prog : Program) (w : World) (mg mb : Str → Option Value) (m : Nat) (d e : Dt) : Prop :=
  ∀ {A : Around} {s : Shared} {c : Cx} {t : Heap} {mu : Mus} {n : Nm} {Q E : Value → Shared → Prop} {env : Env} {k : Nat} {v : Value}, ST w mg mb c t mu n s → Ar A env c (k + m + 4) → Rep prog w t v d →
    (∀ v' t' s', Sub t t' → Rep prog w t' v' e → ST w mg mb c t' mu n s' → Q v' s') → wpAny (model prog w) A (call (.ref 284) [v]) Q E s
theorem told_simple {m : Nat} {d e : Dt} {nm : Str} (hd : kindS d = some nm) (he : plainD d = some e) (hn : nm ≠ "array" ∧ nm ≠ "dict" ∧ nm ≠ "stream") : ToldC prog w mg mb m d e := by
  intro A s c t mu n Q E env k v S Ra hv ret
  refine call_defC (D := []) (R := mu) (k := k + m + 3) (binds := [("value", v)]) S Ra S.1.pf.nl (at_284 S.1.pf) rfl (cr_284 S.1.pf) rfl (BK.at ⟨.inr ⟨rfl, rfl⟩, trivial⟩) rfl rfl rfl ?_
  intro c₁ s₁ env₁ A₁ n₀ e0 hN hF hcs S₁ R₁ bk Q₁ E₁
  refine w_cons ?_
  intro K₀
  repeat w_left
  refine kind_of_spec S₁ R₁ hv hd fun s₂ u S₂ => ?_
  repeat w_left
  rename_i s₃ S₃
  try refine PySem.W.ite_neg (by simpa using hn.1) ?_
  repeat w_left
  try refine PySem.W.ite_neg (by simpa using hn.2.1) ?_
  repeat w_left
  try refine PySem.W.ite_neg (by simpa using hn.2.2) ?_
  repeat w_left
  refine told_plain_spec S₃ R₁ hv hd he fun v' t' s₄ x r S₄ => ?_
  exact ret _ t' _ x r (bk.same S₄)
theorem told_spec {m : Nat} {d e : Dt} (h : Told m d e) : ToldC prog w mg mb m d e := by
  induction h with
  | int m i => exact told_simple rfl rfl (by decide)
  | oct m b => exact told_simple rfl rfl (by decide)
  | ref m i g => exact told_simple rfl rfl (by decide)
  | @lst m ds es hl hz _ ih =>
    intro A s c t mu n Q E env k v S Ra hv ret
    refine call_defC (D := []) (R := mu) (k := k + m + 4) (binds := [("value", v)]) S Ra S.1.pf.nl (at_284 S.1.pf) rfl (cr_284 S.1.pf) rfl (BK.at ⟨.inr ⟨rfl, rfl⟩, trivial⟩) rfl rfl rfl ?_
    intro c₁ s₁ env₁ A₁ n₀ e0 hN hF hcs S₁ R₁ bk Q₁ E₁
    refine w_cons ?_
    intro K₀
    obtain ⟨a, vs, rfl, a1, a2⟩ := hv.lst_inv
    repeat w_left
    refine kind_of_spec S₁ R₁ hv rfl fun s₂ u S₂ => ?_
    repeat w_left
    rename_i s₃ S₃
    refine new_tup S₃ (by show 1 ≤ _; decide) fun s₄ t₄ p x4 a4 S₄ => ?_
    repeat w_left
    refine comp_list _ rfl rfl (by decide +kernel) ?_
    repeat w_left
    refine iter_list S₄ (S₄.atT (a1.sub x4)) fun it s₅ hit S₅ => ?_
    refine comp_go (it_list (vs := vs)) self_list (fun i t' mu' ys => Sub t₄ t' ∧ mu' = [] ∧ i ≤ ys.length ∧ Reps prog w t' ys (es.take i)) R₁ ⟨⟩ (by decide +kernel) rfl S₅ ⟨Sub.rfl', rfl, Nat.le_refl _, Reps.nil⟩ ?_ ?_ ?_ ?_ ?_
    · rintro i t' mu' ys ⟨h1, rfl, h2, h3⟩
      exact ⟨rfl, by rw [h3.1, List.length_take]; exact Nat.min_le_left ..⟩
    · rintro i t' mu' ys c' n' s' p q ⟨h1, rfl, h2, h3⟩ S'
      exact S'.atT (a1.sub (x4.tr h1))
    · rw [a2.1, sizeLine_eq]; omega
    · rintro i v t₀ t' mu' ys c' s' m₀ acc E' env₂ hi hv' ⟨h1, rfl, h2, h3⟩ x0 R₂ hN₂ S' Qy Qn
      obtain ⟨d', g1, r1⟩ := a2.getv hv'
      have hi' : i < es.length := by rw [← hl, ← a2.1]; exact hi
      have g2 : es[i]? = some es[i] := List.getElem?_eq_getElem hi'
      repeat w_left
      rename_i s₆ S₆
      refine ih i d' _ g1 g2 (k := k) S₆ R₂ (r1.sub (x4.tr (h1.tr x0))) fun v' t₇ s₇ x7 r7 S₇ => ?_
      refine ⟨t₇, _, _, ⟨h1.tr (x0.tr x7), rfl, by rw [List.length_append]; exact Nat.succ_le_succ h2, ?_⟩, S₇⟩
      rw [List.take_add_one, g2]
      exact (h3.sub (x0.tr x7)).snoc r7
    · rintro t' mu' ys acc s' hacc ⟨h1, rfl, h2, h3⟩ S'
      rw [a2.1, hl, List.take_length] at h3
      repeat w_left
      refine tuple_l S' (S'.atM (.head _)) (by rw [h3.1, ← hl, sizeLine_eq]; omega) fun r s₆ t₆ x6 a6 S₆ => ?_
      repeat w_left
      refine add_t' S₆ (a4.sub (h1.tr x6)) a6 (by simp) (by rw [h3.1, ← hl]; simp; omega) fun r' s₇ t₇ x7 a7 S₇ => ?_
      exact ret _ t₇ _ (x4.tr (h1.tr (x6.tr x7))) (tup_rep a7 (Reps.cons (.str _ _) (h3.sub (x6.tr x7)))) (bk.same S₇)
  | @dct m ds ks es dg hs hg hl hz hz2 _ ih =>
    intro A s c t mu n Q E env k v S Ra hv ret
    refine call_defC (D := []) (R := mu) (k := k + m + 4) (binds := [("value", v)]) S Ra S.1.pf.nl (at_284 S.1.pf) rfl (cr_284 S.1.pf) rfl (BK.at ⟨.inr ⟨rfl, rfl⟩, trivial⟩) rfl rfl rfl ?_
    intro c₁ s₁ env₁ A₁ n₀ e0 hN hF hcs S₁ R₁ bk Q₁ E₁
    refine w_cons ?_
    intro K₀
    obtain ⟨a, _, rfl, _⟩ := hv.dct_inv
    obtain ⟨kvs, y1, y2, y3⟩ := hv.dct_rep
    repeat w_left
    refine kind_of_spec S₁ R₁ hv rfl fun s₂ u S₂ => ?_
    repeat w_left
    rename_i s₃ S₃
    refine new_tup S₃ (by show 1 ≤ _; decide) fun s₄ t₄ p x4 a4 S₄ => ?_
    repeat w_left
    refine comp_list _ rfl rfl (by decide +kernel) ?_
    repeat w_left
    refine sorted_str S₄ R₁ (S₄.atT (y1.sub x4)) y2 (by rw [y3.len]; omega) fun D vs ss s₅ hD hS hp hso S₅ => ?_
    rw [y3.1] at hp
    obtain rfl := hs ss hp hso
    obtain ⟨t₅, x5, a5, S₆⟩ := S₅.freezeT hD
    have rs : Reps prog w t₅ vs (ss.map Dt.str) := StrsAre.reps hS
    have hvl : vs.length = ss.length := by rw [rs.1, List.length_map]
    refine iter_list S₆ (S₆.atT a5) fun it s₇ hit S₇ => ?_
    refine comp_go (it_list (vs := vs)) self_list (fun i t' mu' ys => Sub t₅ t' ∧ mu' = [] ∧ i ≤ ys.length ∧ Reps prog w t' ys ((List.zipWith (fun k e => Dt.tup [.str k, e]) ss es).take i)) R₁ (by rw [hcs]; exact ⟨rfl, trivial⟩) (by decide +kernel) rfl S₇ ⟨Sub.rfl', rfl, Nat.le_refl _, Reps.nil⟩ ?_ ?_ ?_ ?_ ?_
    · rintro i t' mu' ys ⟨h1, rfl, h2, h3⟩
      exact ⟨rfl, by rw [h3.1, List.length_take]; exact Nat.min_le_left ..⟩
    · rintro i t' mu' ys c' n' s' p q ⟨h1, rfl, h2, h3⟩ S'
      exact S'.atT (a5.sub h1)
    · rw [hvl, sizeLine_eq]; omega
    · rintro i v t₀ t' mu' ys c' s' m₀ acc E' env₂ hi hv' ⟨h1, rfl, h2, h3⟩ x0 R₂ hN₂ S' Qy Qn
      have his : i < ss.length := by rw [← hvl]; exact hi
      have g1 : ss[i]? = some ss[i] := List.getElem?_eq_getElem his
      have g2 : es[i]? = some (es[i]'(by rw [← hl]; exact his)) := List.getElem?_eq_getElem _
      have rv := rs.2 i v _ hv' (by rw [List.getElem?_map, g1]; rfl)
      obtain ⟨u', rfl⟩ := rv.str_inv
      have hgi := hg _ (List.getElem_mem his)
      obtain ⟨x, q1, q2⟩ := y3.at hgi
      have xx := x4.tr (x5.tr (h1.tr x0))
      repeat w_left
      rename_i s₈ S₈
      refine item_d S₈ (S₈.atT (y1.sub xx)) (strKind_is _ _ _ _) q1 fun s₉ S₉ _ => ?_
      repeat w_left
      refine isnot_none_rep q2 ?_
      repeat w_left
      refine item_d S₉ (S₉.atT (y1.sub xx)) (strKind_is _ _ _ _) q1 fun s₁₀ S₁₀ _ => ?_
      repeat w_left
      have ihi : ToldC prog w mg mb m (dg ss[i]) (es[i]'(by rw [← hl]; exact his)) := @ih i _ _ g1 g2
      refine ihi (k := k) S₁₀ R₂ (q2.sub xx) fun v' t₁₁ s₁₁ x11 r11 S₁₁ => ?_
      repeat w_left
      refine new_tup S₁₁ (by show 2 ≤ _; decide) fun s₁₂ t₁₂ p' x12 a12 S₁₂ => ?_
      refine ⟨t₁₂, _, _, ⟨h1.tr (x0.tr (x11.tr x12)), rfl, by rw [List.length_append]; exact Nat.succ_le_succ h2, ?_⟩, S₁₂⟩
      have g3 : (List.zipWith (fun k e => Dt.tup [.str k, e]) ss es)[i]? = some (.tup [.str ss[i], es[i]'(by rw [← hl]; exact his)]) := by
        rw [List.getElem?_zipWith, g1, g2]
      rw [List.take_add_one, g3]
      exact (h3.sub (x0.tr (x11.tr x12))).snoc (tup_rep a12 (Reps.cons (.str _ _) (Reps.cons (r11.sub x12) Reps.nil)))
    · rintro t' mu' ys acc s' hacc ⟨h1, rfl, h2, h3⟩ S'
      have hzl : (List.zipWith (fun k e => Dt.tup [.str k, e]) ss es).length = ss.length := by rw [List.length_zipWith, hl, Nat.min_self]
      rw [hvl, ← hzl, List.take_length] at h3
      repeat w_left
      refine tuple_l S' (S'.atM (.head _)) (by rw [h3.1, hzl, sizeLine_eq]; omega) fun r s₈ t₈ x8 a8 S₈ => ?_
      repeat w_left
      refine add_t' S₈ (a4.sub (x5.tr (h1.tr x8))) a8 (by simp) (by rw [h3.1, hzl]; simp; omega) fun r' s₉ t₉ x9 a9 S₉ => ?_
      exact ret _ t₉ _ (x4.tr (x5.tr (h1.tr (x8.tr x9)))) (tup_rep a9 (Reps.cons (.str _ _) (h3.sub (x8.tr x9)))) (bk.same S₉)
end
end
section
open PySem PySem.W PyProof.Rows PySem.Calls
theorem wl1 {k l i j : Nat} (h : i < j) (h2 : j < l) : k + (l - j) + 5 ≤ k + (l - i) + 4 := by omega
noncomputable def ndP : Nd → Dt
  | .kids l => .lst (l.map fun (j : Nat) => Dt.int (j : Int))
  | .leaf r => Dt.int ((r : Nat) : Int)
noncomputable def planD (plan : List Nd) : Dt := .lst (plan.map ndP)
section
variable {prog : Program} {w : World} {mg mb : Str → Option Value} {t t' : Heap} {b : Bool} {tk ti : Tok}
theorem pairs_len {plan : List Nd} (W : WF plan) : ∀ l : List Nat, (l.flatMap (pairsAt b plan)).length ≤ 2 * l.length
  | [] => by simp
  | x :: l => by
    have h1 := pairs_len W l
    have h2 : (pairsAt b plan x).length ≤ 2 := by
      unfold pairsAt
      cases hi : plan[x]? with
      | none => simp
      | some y =>
        cases y with
        | kids _ => simp
        | leaf r => have := W.leaf x r hi; simp [leafP]; exact this
    rw [List.flatMap_cons, List.length_append, List.length_cons]; omega
theorem mul_small {A : Around} {s : Shared} {a b : Nat} {t1 t2 : Tok} {Q E : Value → Shared → Prop} (ha : a < 10000) (h : ∀ u, Q (.int ((a * b : Nat) : Int) u) { s with toks := s.toks + 1 }) : wpAny (model prog w) A (binaryOp .Mult (.int a t1) (.int b t2)) Q E s := by
  refine PyProof.Rows.mul_int ?_ ?_
  · have : (a : Int) * (b : Int) = ((a * b : Nat) : Int) := by simp
    rw [this]; exact h _
  · exact IntMulOk.of_left (intBits_le_64 (by omega) (by omega))
theorem plan_at {plan : List Nd} {v : Value} {A : Around} {s : Shared} {c : Cx} {mu : Mus} {n : Nm} {Q E : Value → Shared → Prop} {i : Nat} {x : Nd} {value slice : PySem.Expr} {u : Tok} (S : ST w mg mb c t mu n s) (hp : Rep prog w t v (planD plan)) (hx : plan[i]? = some x) (hi : i < 10000)
    (h : ∀ v', Rep prog w t v' (ndP x) → Q v' s) (hs : ∀ a, subscripted slice false (.ref a) (.int i u) = operate [.ref a, .int i u] (getItem (.ref a) (.int i u)) := by intro a; with_unfolding_all rfl) : wpAny (model prog w) A (subscriptTail value slice v (.int i u)) Q E s := by
  obtain ⟨a, vs, rfl, a1, a2⟩ := hp.lst_inv
  obtain ⟨v', g, r⟩ := a2.get (i := i) (d := ndP x) (by rw [List.getElem?_map, hx]; rfl)
  exact item_l (S.atT a1) (Int.natCast_nonneg _) (by omega) (by rw [Int.toNat_natCast]; exact g) (h v' r) (hs a)
theorem ndP_nb {x : Nd} : notByt (ndP x) = true := by cases x <;> rfl
noncomputable def Walk (prog : Program) (w : World) (mg mb : Str → Option Value) (b : Bool) (plan : List Nd) (i : Nat) : Prop :=
  ∀ {A : Around} {s : Shared} {c : Cx} {t : Heap} {mu : Mus} {n : Nm} {Q E : Value → Shared → Prop} {env : Env} {k : Nat} {v : Value} {tk ti : Tok},
    ST w mg mb c t mu n s → Ar A env c (k + (plan.length - i) + 5) → Rep prog w t v (planD plan) → (trace plan i).length ≤ 1000 →
    (∀ v' t' s', Sub t t' → Rep prog w t' v' (.lst ((trace plan i).flatMap (pairsAt b plan))) → ST w mg mb c t' mu n s' → Q v' s') → wpAny (model prog w) A (call (.ref 560) [.str (wd b) tk, v, .int i ti]) Q E s
inductive WalkJ (prog : Program) (w : World) (mg mb : Str → Option Value) (b : Bool) (plan : List Nd) (l : List Nat) (t₁ : Heap) (N : Nat) (tk : Tok) (v : Value) (m : Nat) (t' : Heap) (mu' : Mus) (n' : Nm) : Prop
  | mk (fa : Addr) (ys : List Value) : Sub t₁ t' → mu' = [(fa, LstO ys)] → Reps prog w t' ys (((l.take m).flatMap (trace plan)).flatMap (pairsAt b plan)) → n'.own = true → n'.m "found" = some (.ref fa) → n'.k "word" = some (.str (wd b) tk) → n'.m "plan" = some v → N ≤ fa → WalkJ prog w mg mb b plan l t₁ N tk v m t' mu' n'
theorem walk_spec {plan : List Nd} (W : WF plan) : ∀ i, i < plan.length → Walk prog w mg mb b plan i := nd_induct W fun i hi ih => by
  intro A s c t mu n Q E env k v tk ti S Ra hp hz ret
  have hn14 := W.len
  refine call_defC (D := []) (R := mu) (k := k + (plan.length - i) + 4) (binds := [("word", .str (wd b) tk), ("plan", v), ("at", .int i ti)]) S Ra S.1.pf.nl (at_560 S.1.pf) rfl (cr_560 S.1.pf) rfl (BK.at ⟨.inr ⟨rfl, rfl⟩, .inl rfl, .inr ⟨rfl, rfl⟩, trivial⟩) rfl rfl rfl ?_
  intro c₁ s₁ env₁ A₁ n₀ e0 hN hF hcs S₁ R₁ bk Q₁ E₁
  refine w_cons ?_
  intro K₀
  obtain ⟨nd, hnd⟩ : ∃ nd, plan[i]? = some nd := ⟨_, List.getElem?_eq_getElem hi⟩
  repeat w_left
  refine plan_at S₁ hp hnd (Nat.lt_trans hi (Nat.lt_of_le_of_lt W.len (by decide))) fun v₁ r₁ => ?_
  repeat w_left
  cases nd with
  | leaf r =>
    refine isi S₁ (r₁.ty S₁ ndP_nb) (b := false) (by kernel_rfl) fun s₂ S₂ _ => ?_
    have hr := W.leaf i r hnd
    have hte : trace plan i = [i] := by rw [trace_eq W hi, show kidsOf plan i = [] by unfold kidsOf; rw [hnd]]; rfl
    repeat w_left
    refine comp_list _ rfl rfl (by decide +kernel) ?_
    repeat w_left
    refine plan_at S₂ hp hnd (Nat.lt_trans hi (Nat.lt_of_le_of_lt W.len (by decide))) fun v₂ r₂ => ?_
    obtain ⟨tr, rfl⟩ := r₂.int_inv
    repeat w_left
    refine iter_range1 (m := r) S₂ (by omega) fun it s₃ hit S₃ => ?_
    have hpl : (leafP i r).length = r := by unfold leafP; rw [List.length_map, List.length_range]
    refine comp_go it_range self_range (fun m t' mu' ys => Sub t t' ∧ mu' = [] ∧ ys.length ≤ m ∧ Reps prog w t' ys (((leafP i r).take m).map (pairD b))) R₁ (by rw [hcs]; exact ⟨rfl, rfl, trivial⟩) (by decide +kernel) rfl S₃ ⟨Sub.rfl', rfl, Nat.le_refl _, Reps.nil⟩ ?_ (fun _ _ _ _ _ _ _ _ _ _ _ => trivial) ?_ ?_ ?_
    · rintro m t' mu' ys ⟨h1, rfl, h2, h3⟩
      exact ⟨rfl, h2⟩
    · rw [sizeLine_eq]; omega
    · rintro m v t₀ t' mu' ys c' s' m₀ acc E' env₂ hm ⟨tv, hv⟩ ⟨h1, rfl, h2, h3⟩ x0 R₂ hN₂ S' Qy Qn
      rw [zi] at hv
      subst hv
      repeat w_left
      rename_i s₄ S₄
      refine law_key_spec S₄ R₂ (by omega) fun kv s₅ rk S₅ => ?_
      repeat w_left
      refine mul_small (a := 100) (b := i) (by decide) fun u => ?_
      repeat w_left
      refine new_tup (by assumption) (by show 2 ≤ _; decide) fun s₆ t₆ p x6 a6 S₆ => ?_
      refine ⟨t₆, _, _, ⟨h1.tr (x0.tr x6), rfl, by rw [List.length_append]; exact Nat.succ_le_succ h2, ?_⟩, S₆⟩
      have g : (leafP i r)[m]? = some (m, ((100 * i + m : Nat) : Int)) := by unfold leafP; rw [List.getElem?_map, List.getElem?_range hm]; rfl
      rw [List.take_add_one, g, List.map_append]
      refine (h3.sub (x0.tr x6)).snoc (tup_rep a6 (Reps.cons (rk.sub x6) (Reps.cons ?_ Reps.nil)))
      rw [Int.natCast_add]
      exact .int _ _
    · rintro t' mu' ys acc s' hacc ⟨h1, rfl, h2, h3⟩ S'
      rw [List.take_of_length_le (Nat.le_of_eq hpl)] at h3
      obtain ⟨t₄, x4, a4, S₄⟩ := S'.freezeT hacc
      refine ret _ t₄ _ (h1.tr x4) ?_ (bk.same S₄)
      rw [hte, List.flatMap_cons, List.flatMap_nil, List.append_nil, show pairsAt b plan i = (leafP i r).map (pairD b) by unfold pairsAt; rw [hnd]]
      exact lst_rep a4 (h3.sub x4)
  | kids l =>
    refine isi S₁ (r₁.ty S₁ ndP_nb) (b := true) (by kernel_rfl) fun s₂ S₂ _ => ?_
    have hkl : kidsOf plan i = l := by unfold kidsOf; rw [hnd]
    have hte : trace plan i = i :: l.flatMap (trace plan) := by rw [trace_eq W hi, hkl]
    repeat w_left
    refine new_lst S₂ (by show 0 ≤ _; decide) fun s₃ fa hfa S₃ => ?_
    repeat w_left
    rename_i s₄ S₄
    refine plan_at S₄ hp hnd (Nat.lt_trans hi (Nat.lt_of_le_of_lt W.len (by decide))) fun v₂ r₂ => ?_
    obtain ⟨la, lvs, rfl, l1, l2⟩ := r₂.lst_inv
    have hll : lvs.length = l.length := by have := l2.1; simpa using this
    refine iter_list S₄ (S₄.atT l1) fun it s₅ hit S₅ => ?_
    refine for_go (it_list (vs := lvs)) (own_plain fun _ => rfl) (WalkJ prog w mg mb b plan l t c₁.N tk v) R₁ S₅ ⟨fa, [], Sub.rfl', rfl, Reps.nil, rfl, rfl, rfl, rfl, hfa⟩ ?_ ?_ ?_
    · rintro m t' mu' n' s' p ⟨fa, ys, h1, rfl, h2, q⟩ S'
      exact S'.atT (l1.sub h1)
    · rintro m v' t₀ t' mu' n' s' hm hv' ⟨fa, ys, h1, rfl, h2, q1, q2, q3, q4, q5⟩ x0 S' Eb Qb
      obtain ⟨j, hj⟩ : ∃ j, l[m]? = some j := ⟨_, List.getElem?_eq_getElem (by rw [← hll]; exact hm)⟩
      have hjm : j ∈ kidsOf plan i := by rw [hkl]; exact List.mem_of_getElem? hj
      have hij := W.lt i j hjm
      obtain ⟨tj, rfl⟩ := (l2.2 m v' (.int j) hv' (by rw [List.getElem?_map, hj]; rfl)).int_inv
      have hsp : (trace plan i).length = 1 + ((l.take m).flatMap (trace plan)).length + (trace plan j).length + ((l.drop (m + 1)).flatMap (trace plan)).length := by
        have e : l = l.take m ++ j :: l.drop (m + 1) := by
          obtain ⟨hm, hj⟩ := List.getElem?_eq_some_iff.mp hj
          rw [← hj, ← List.drop_eq_getElem_cons hm, List.take_append_drop]
        rw [hte]
        conv => lhs; rw [e]
        rw [List.flatMap_append, List.flatMap_cons, List.length_cons, List.length_append, List.length_append]; omega
      have hyl : ys.length ≤ 2 * ((l.take m).flatMap (trace plan)).length := by rw [h2.1]; exact pairs_len W _
      have hjl := pairs_len (b := b) W (trace plan j)
      repeat w_left
      rename_i s₆ S₆
      refine ih j hjm (k := k) S₆ (R₁.less (wl1 hij.1 hij.2)) (hp.sub (h1.tr x0)) (by omega) fun v'' t₇ s₇ x7 r7 S₇ => ?_
      obtain ⟨wa, wvs, rfl, w1, w2⟩ := r7.lst_inv
      repeat w_left
      refine add_l S₇ (S₇.atM (.tail _ (.head _))) (S₇.atT w1) (by rw [w2.1, sizeLine_eq]; omega) fun r s₈ hr S₈ => ?_
      repeat w_left
      rename_i s₉ S₉
      have S₁₀ := S₉.sub (mu' := [(r, LstO (ys ++ wvs)), (it, LitO la (m + 1))]) (.cons₂ _ (.cons₂ _ (.cons _ (.refl _))))
      refine ⟨t₇, _, (n'.set "one" (.int j tj)).set "found" (.ref r), ⟨r, ys ++ wvs, h1.tr (x0.tr x7), rfl, ?_, q1, rfl, q3, q4, hr⟩, S₁₀.perm (List.Perm.swap ..)⟩
      rw [List.take_add_one, hj, List.flatMap_append, List.flatMap_append]
      have e : ((some j).toList.flatMap (trace plan)).flatMap (pairsAt b plan) = (trace plan j).flatMap (pairsAt b plan) := by simp
      rw [e]
      exact (h2.sub (x0.tr x7)).append w2
    · rintro t' mu' n' s' ⟨fa, ys, h1, rfl, h2, q1, q2, q3, q4, q5⟩ S'
      rw [hll, List.take_length] at h2
      repeat w_left
      obtain ⟨t₆, x6, a6, S₆⟩ := S'.freezeT q5
      refine ret _ t₆ _ (h1.tr x6) ?_ (bk.same S₆)
      rw [hte, List.flatMap_cons, show pairsAt b plan i = [] by unfold pairsAt; rw [hnd], List.nil_append]
      exact lst_rep a6 (h2.sub x6)
end
end
section
open PySem PySem.W PyProof.Rows PySem.Calls
section
variable {prog : Program} {w : World} {mg mb : Str → Option Value} {t t' : Heap} {b : Bool}
noncomputable def Whole (prog : Program) (w : World) (mg mb : Str → Option Value) (b : Bool) (plan : List Nd) (i : Nat) : Prop :=
  ∀ {A : Around} {s : Shared} {c : Cx} {t : Heap} {mu : Mus} {n : Nm} {Q E : Value → Shared → Prop} {env : Env} {k : Nat} {v sh : Value} {tk ti : Tok},
    ST w mg mb c t mu n s → Ar A env c (k + (plan.length - i) + 5) → Rep prog w t v (planD plan) → IsShelf prog w t sh (nodesD b plan) →
    (∀ v' t' s', Sub t t' → Rep prog w t' v' (wholeD b plan i) → ST w mg mb c t' mu n s' → Q v' s') → wpAny (model prog w) A (call (.ref 565) [.str (wd b) tk, sh, v, .int i ti]) Q E s
theorem whole_spec {plan : List Nd} (W : WF plan) : ∀ i, i < plan.length → Whole prog w mg mb b plan i := nd_induct W fun i hi ih => by
  intro A s c t mu n Q E env k v sh tk ti S Ra hp Z ret
  have hn14 := W.len
  refine call_defC (D := []) (R := mu) (k := k + (plan.length - i) + 4) (binds := [("word", .str (wd b) tk), ("shelf", sh), ("plan", v), ("at", .int i ti)]) S Ra S.1.pf.nl (at_565 S.1.pf) rfl (cr_565 S.1.pf) rfl (BK.at ⟨.inr ⟨rfl, rfl⟩, .inr ⟨rfl, rfl⟩, .inr ⟨rfl, rfl⟩, .inl rfl, trivial⟩) rfl rfl rfl ?_
  intro c₁ s₁ env₁ A₁ n₀ e0 hN hF hcs S₁ R₁ bk Q₁ E₁
  refine w_cons ?_
  intro K₀
  obtain ⟨nd, hnd⟩ : ∃ nd, plan[i]? = some nd := ⟨_, List.getElem?_eq_getElem hi⟩
  have Z' := Z
  obtain ⟨x, dx, ta, tr, m, kvs, rfl, z2, z3, z4, z5, z6, z7, z8, z9, z10, z11, z12⟩ := Z'
  obtain ⟨g, nv, tk₂, f1, f2, f3⟩ := z12 i _ (nodesD_get hnd)
  have hval : valueAt kvs ((10 + i : Nat) : Int) = some (.ref g) := valueAt_nth kvs 0 (fun i y hy => by
    have hi : i < (nodesD b plan).length := by rw [← z11]; exact (List.getElem?_eq_some_iff.mp hy).1
    obtain ⟨_, _, _, q, _⟩ := z12 i _ (List.getElem?_eq_getElem hi)
    rw [q] at hy; cases hy; rfl) i _ f1
  obtain ⟨nva, _, rfl, _⟩ := f3.dct_inv
  obtain ⟨nkvs, y1, y2, y3⟩ := f3.dct_rep
  have hkl2 : nkvs.length ≤ sizeLine := by rw [y3.len, sizeLine_eq]; cases nd <;> (show 2 ≤ _; omega)
  repeat w_left
  refine get_inst S₁ (S₁.atT z2) (S₁.atT z3) z4 (by kernel_rfl) (by kernel_rfl) (by kernel_rfl) rfl fun s₂ S₂ _ => ?_
  repeat w_left
  refine item_d S₂ (S₂.atT z7) (intKind_is _ _ _ _) (by rw [show (10 : Int) + (i : Int) = ((10 + i : Nat) : Int) by omega]; exact hval) fun s₃ S₃ _ => ?_
  repeat w_left
  refine item_t (j := 1) (S₃.atT f2) (by decide) (by decide) rfl rfl ?_
  repeat w_left
  refine copy_d S₃ (S₃.atT y1) y2 hkl2 fun s₄ na hna sna S₄ => ?_
  repeat w_left
  rename_i s₅ S₅
  refine plan_at S₅ hp hnd (Nat.lt_trans hi (Nat.lt_of_le_of_lt W.len (by decide))) fun v₁ r₁ => ?_
  repeat w_left
  cases nd with
  | leaf r =>
    refine isi S₅ (r₁.ty S₅ ndP_nb) (b := false) (by kernel_rfl) fun s₆ S₆ _ => ?_
    repeat w_left
    obtain ⟨t₇, x7, a7, S₇⟩ := S₆.freezeT hna
    refine ret _ t₇ _ x7 ?_ (bk.same S₇)
    rw [whole_leaf hnd]
    exact (y3.sub x7).rep a7 sna
  | kids l =>
    refine isi S₅ (r₁.ty S₅ ndP_nb) (b := true) (by kernel_rfl) fun s₆ S₆ _ => ?_
    have hkl : kidsOf plan i = l := by unfold kidsOf; rw [hnd]
    have hl3 : l.length ≤ 3 := by have := W.wid i; rw [hkl] at this; exact this
    repeat w_left
    refine comp_list _ rfl rfl (by decide +kernel) ?_
    repeat w_left
    refine plan_at S₆ hp hnd (Nat.lt_trans hi (Nat.lt_of_le_of_lt W.len (by decide))) fun v₂ r₂ => ?_
    obtain ⟨la, lvs, rfl, l1, l2⟩ := r₂.lst_inv
    have hll : lvs.length = l.length := by have := l2.1; simpa using this
    refine iter_list S₆ (S₆.atT l1) fun it s₇ hit S₇ => ?_
    refine comp_go (it_list (vs := lvs)) self_list (fun m t' mu' ys => Sub t t' ∧ mu' = [(na, DctO (PySem.strKind prog w) nkvs)] ∧ ys.length ≤ m ∧ Reps prog w t' ys ((l.take m).map (wholeD b plan))) R₁ (by rw [hcs]; exact ⟨rfl, rfl, rfl, trivial⟩) (by decide +kernel) rfl S₇ ⟨Sub.rfl', rfl, Nat.le_refl _, Reps.nil⟩ ?_ ?_ ?_ ?_ ?_
    · rintro m t' mu' ys ⟨h1, rfl, h2, h3⟩
      exact ⟨rfl, h2⟩
    · rintro m t' mu' ys c' n' s' p q ⟨h1, rfl, h2, h3⟩ S'
      exact S'.atT (l1.sub h1)
    · rw [hll, sizeLine_eq]; omega
    · rintro m v' t₀ t' mu' ys c' s' m₀ acc E' env₂ hm hv' ⟨h1, rfl, h2, h3⟩ x0 R₂ hN₂ S' Qy Qn
      obtain ⟨j, hj⟩ : ∃ j, l[m]? = some j := ⟨_, List.getElem?_eq_getElem (by rw [← hll]; exact hm)⟩
      have hjm : j ∈ kidsOf plan i := by rw [hkl]; exact List.mem_of_getElem? hj
      have hij := W.lt i j hjm
      obtain ⟨tj, rfl⟩ := (l2.2 m v' (.int j) hv' (by rw [List.getElem?_map, hj]; rfl)).int_inv
      repeat w_left
      rename_i s₈ S₈
      refine ih j hjm (k := k) S₈ (R₂.less (wl1 hij.1 hij.2)) (hp.sub (h1.tr x0)) (Z.sub (h1.tr x0)) fun v'' t₉ s₉ x9 r9 S₉ => ?_
      refine ⟨t₉, _, _, ⟨h1.tr (x0.tr x9), rfl, by rw [List.length_append]; exact Nat.succ_le_succ h2, ?_⟩, S₉⟩
      rw [List.take_add_one, hj, List.map_append]
      exact (h3.sub (x0.tr x9)).snoc r9
    · rintro t' mu' ys acc s' hacc ⟨h1, rfl, h2, h3⟩ S'
      rw [hll, List.take_length] at h3
      repeat w_left
      refine set_d S' (.tail .head) (strKind_is _ _ _ _) hkl2 fun s₈ S₈ => ?_
      repeat w_left
      obtain ⟨t₉, x9, a9, S₉⟩ := S₈.freezeT hacc
      obtain ⟨t₁₀, x10, a10, S₁₀⟩ := S₉.freezeT hna
      have dr := (y3.sub (h1.tr (x9.tr x10))).stored (k := "Kids") (lst_rep (a9.sub x10) (h3.sub (x9.tr x10)))
      rw [show ndD b i (.kids l) = ([("Limits", limD b), ("Kids", .lst (l.map refD))] : List (Str × Dt)) from rfl, dset_kids] at dr
      refine ret _ t₁₀ _ (h1.tr (x9.tr x10)) ?_ (bk.same S₁₀)
      rw [whole_kids W hnd]
      exact dr.rep a10 sna
end
end
section
open PySem PySem.W PyProof.Rows PySem.Calls
section
variable {prog : Program} {w : World} {mg mb : Str → Option Value} {A : Around} {s : Shared} {c : Cx} {t t' : Heap} {mu mu' : Mus} {n : Nm} {Q : Value → Shared → Prop} {E : Value → Shared → Prop} {env : Env} {k : Nat} {a b d D : Addr} {vs us : List Value}
theorem foldl_rep : ∀ (m : Nat) (acc : Array Value) (v : Value), List.foldl (fun x1 x2 => x1 ++ x2) acc (List.replicate m #[v]) = acc ++ (List.replicate m v).toArray
  | 0, acc, v => by simp
  | m + 1, acc, v => by
    rw [List.replicate_succ, List.foldl_cons, foldl_rep m, List.replicate_succ]
    apply Array.toList_inj.mp
    simp
theorem mul_door {k : Nat} (h : k ≤ 1000) : ¬ (Builtin.List.listTooLong k) = true := by
  unfold Builtin.List.listTooLong
  simp only [decide_eq_true_eq, Nat.not_lt]
  exact Nat.le_trans h (by decide)
theorem mul_l {v : Value} {m : Nat} {x' : Int} {u : Tok} (hx : x' = m) (S : ST w mg mb c t mu n s) (x : At s.heap a (LstO [v])) (hm : m ≤ 1000) (h : ∀ r s', c.N ≤ r → ST w mg mb c t ((r, LstO (List.replicate m v)) :: mu) n s' → Q (.ref r) s') :
    wpAny (model prog w) A (binaryOp .Mult (.ref a) (.int x' u)) Q E s := by
  obtain ⟨k, hl⟩ := x.isL
  have hc0 : ¬ (!Builtin.List.listFitsIndex x') = true := by
    unfold Builtin.List.listFitsIndex
    simp only [Bool.not_eq_true', Bool.and_eq_false_iff, decide_eq_false_iff_not]
    omega
  have e1 : [v].toArray.size * x'.toNat = m := by rw [hx]; simp
  have hc1 : ¬ [v].toArray.size * x'.toNat > (2 ^ 63 - 1) / 8 := by rw [e1]; omega
  have hc2 : ¬ (Builtin.List.listTooLong ([v].toArray.size * x'.toNat)) = true := by rw [e1]; exact mul_door hm
  refine wpAny_binaryOp_repeat_ref (T := "list") (U := "int") (by decide) ⟨_, hl, rfl⟩ (fun s' => typeIs_int s' x' u) noFill_list_mul PySem.F.fills_int_mul PySem.F.slot_int_rmul repeat_list PySem.F.slot_int_index.lookup
    (call_meets PySem.F.slot_int_rmul (typeIs_int s x' u) PySem.F.entry_int_rmul (PySem.F.args_int_rmul_2 _ _) (int___rmul___int_list x' u a [v].toArray k)
      ⟨hl, rfl, ⟨_, hl, rfl⟩, call_meets PySem.F.slot_list_mul ⟨_, hl, rfl⟩ PySem.F.entry_list_mul (PySem.F.args_list_mul_2 _ _)
        (AutoListH.list___mul___list_int_3 a [v].toArray k x' u hc0 hc1 hc2)
        ⟨hl, ?_⟩⟩)
  refine h _ _ S.NL (S.newMu ⟨0, ?_⟩)
  rw [show (if ([v].toArray).isEmpty = true then 0 else x'.toNat) = m by rw [hx]; simp, foldl_rep]
  simp
theorem set_l {i : Nat} {x' : Int} {v : Value} {u : Tok} {Q : Unit → Shared → Prop} (S : ST w mg mb c t mu n s) (U : Upd a (LstO vs) (LstO (vs.set i v)) mu mu') (hx : x' = i) (hi : i < vs.length) (hz : vs.length < 10000) (h : ∀ s', ST w mg mb c t mu' n s' → Q () s') :
    wpAny (model prog w) A (setItem (.ref a) (.int x' u) v) Q E s := by
  obtain ⟨_, ho, k0, rfl⟩ := S.inMu U.mem
  have hl : s.heap.IsList a vs.toArray := ⟨_, ho, rfl, k0, rfl⟩
  have h0 : (0 : Int) ≤ x' := by omega
  have hfit : x' < 2 ^ 63 := by omega
  unfold setItem
  try with_reducible refine wpAny_holding ?_
  first | refine wpAny_bind (wpAny_pure ?_) | skip
  refine wpAny_bind (wpAny_sequenceKey hl.typeIs (by decide) ?_)
  refine wpAny_bind (wpAny_callSpecial?_slot (name := Str.ofString "__setitem__") hl.typeIs slot_list_setitem
    (wpAny_call_entry slot_list_setitem hl.typeIs entry_list_setitem ?_ (args_list_setitem _ _ _)))
  show wpAny _ _ (Builtin.List.listSubscript? (.int x' u) >>= _) _ _ s
  refine wpAny_bind (wpAny_listSubscript_int (fitsIndex_of h0 hfit) ?_)
  subst hx
  have hj : i < vs.toArray.size := by simpa using hi
  have hx' : vs.toArray[i]? = some vs.toArray[i] := Array.getElem?_eq_getElem hj
  show wpAny _ _ ((seqItemAt a i >>= fun r => pure (r.map (i, ·))) >>= _) _ _ s
  refine wpAny_bind (wpAny_bind (wpAny_seqItemAt ho rfl (wpAny_pure ?_)))
  rw [hx']
  show wpAny _ _ (setSeqItemAt a i v >>= _) _ _ s
  have S' : ST w mg mb c t mu' n { s with heap := s.heap.update a (Obj.mapSeq (·.setIfInBounds i v)) } :=
    S.write (k := s.toks) U (fun b x hb e => (Heap.get?_update_other _ _ (Ne.symm hb)).trans e) (Heap.get?_update_self _ ho rfl) ⟨k0, by simp [Obj.mapSeq]⟩
  refine wpAny_bind (wpAny_setSeqItemAt ho rfl ?_)
  first
    | exact wpAny_bind (wpAny_pure (wpAny_pure ⟨.none, rfl, wpAny_pure (h _ S')⟩))
    | exact wpAny_pure ⟨.none, rfl, wpAny_pure (h _ S')⟩
theorem max_l {ns : List Int} (S : ST w mg mb c t mu n s) (Ra : Ar A env c k) (x : At s.heap a (LstO vs)) (hi : IntsAre vs ns) (hne : 0 < ns.length) (h : ∀ s' M u, M ∈ ns → (∀ x ∈ ns, x ≤ M) → ST w mg mb c t mu n s' → Q (.int M u) s') :
    wpAny (model prog w) A (call (.builtin "max") [.ref a]) Q E s := by
  have hl := x.isList
  obtain ⟨xs, e⟩ := hi.allInts.items
  have hns : ns = xs.toList.map (·.1) := by
    rw [← hi.numsOf, ← nums_intItems, ← e]
  have hsz : 0 < xs.size := by
    have h3 := hne; rw [hns, List.length_map, Array.length_toList] at h3; exact h3
  rw [e] at hl
  refine max_intList Ra.hd hl hsz fun v h' tk hv hk => ?_
  obtain ⟨t, rfl⟩ := intItems_at hv
  obtain ⟨h1, h2⟩ := argBest_gt (numAt xs) (xs.size - 1)
  refine h _ _ t ?_ (fun a ha => ?_) (S.grow (k := tk) hk)
  · rw [hns, numAt_eq]; exact getD_mem (by rw [List.length_map, Array.length_toList]; omega)
  · rw [hns] at ha
    obtain ⟨j, hj, rfl⟩ := mem_getD ha
    rw [List.length_map, Array.length_toList] at hj
    rw [← numAt_eq]; exact h2 j (by omega)
end
end
section
open PySem PySem.W PyProof.Rows PySem.Calls
/-- the counts when the rows of the first m nodes are told -/
noncomputable def cs (plan : List Nd) : Nat → Nat → Nat
  | 0, j => if j = 0 then 1 else 0
  | m + 1, j => cs plan m j + (kidsOf plan m).count j * cs plan m m
noncomputable def CntV (vs : List Value) (f : Nat → Nat) (n : Nat) : Prop := vs.length = n ∧ ∀ j, j < n → ∃ tk, vs[j]? = some (.int ((f j : Nat) : Int) tk)
theorem CntV.congr {vs : List Value} {f g : Nat → Nat} {n : Nat} (h : CntV vs f n) (e : ∀ j, j < n → f j = g j) : CntV vs g n := ⟨h.1, fun j hj => by rw [← e j hj]; exact h.2 j hj⟩
theorem CntV.set {vs : List Value} {f : Nat → Nat} {n i x : Nat} {u : Tok} (h : CntV vs f n) (hi : i < n) : CntV (vs.set i (.int (x : Int) u)) (fun j => if j = i then x else f j) n := ⟨by rw [List.length_set]; exact h.1, fun j hj => by
  by_cases q : j = i
  · subst q
    show ∃ tk, _ = some (Value.int ((if j = j then x else f j : Nat) : Int) tk)
    rw [if_pos rfl, List.getElem?_set_self (by rw [h.1]; exact hj)]; exact ⟨u, rfl⟩
  · show ∃ tk, _ = some (Value.int ((if j = i then x else f j : Nat) : Int) tk)
    rw [if_neg q, List.getElem?_set_ne (Ne.symm q)]; exact h.2 j hj⟩
theorem CntV.ints : ∀ {vs : List Value} {f : Nat → Nat} {n : Nat}, CntV vs f n → IntsAre vs ((List.range n).map fun j => ((f j : Nat) : Int)) := fun {vs f n} h => ints_of (by rw [h.1, List.length_map, List.length_range]) fun j v e => by
  have hj : j < n := by rw [← h.1]; exact (List.getElem?_eq_some_iff.mp e).1
  obtain ⟨tk, e'⟩ := h.2 j hj
  rw [e] at e'
  exact ⟨_, by rw [List.getElem?_map, List.getElem?_range hj]; rfl, tk, Option.some.inj e'⟩
section
variable {prog : Program} {w : World} {mg mb : Str → Option Value} {t t' : Heap} {b : Bool} {A : Around} {s : Shared} {c : Cx} {mu : Mus} {n : Nm} {Q E : Value → Shared → Prop} {env : Env} {k : Nat} {v : Value}
inductive CntJ (prog : Program) (w : World) (plan : List Nd) (ca : Addr) (t : Heap) (m : Nat) (t' : Heap) (mu' : Mus) (n' : Nm) : Prop
  | mk (cv : List Value) : Sub t t' → mu' = [(ca, LstO cv)] → CntV cv (cs plan m) plan.length → n'.m "counts" = some (.ref ca) → CntJ prog w plan ca t m t' mu' n'
inductive CntK (prog : Program) (w : World) (plan : List Nd) (ca : Addr) (e it : Addr) (pa : Addr) (pvs : List Value) (t : Heap) (m : Nat) (l : List Nat) (tm : Tok) (q : Nat) (t' : Heap) (mu' : Mus) (n' : Nm) : Prop
  | mk (cv : List Value) : Sub t t' → mu' = [(e, EnuO it ((m + 1 : Nat) : Int)), (it, LitO pa (m + 1)), (ca, LstO cv)] → CntV cv (fun j => cs plan m j + (l.take q).count j * cs plan m m) plan.length → n'.m "counts" = some (.ref ca) → n'.m "at" = some (.int (m : Int) tm) → CntK prog w plan ca e it pa pvs t m l tm q t' mu' n'
theorem counts_spec {plan : List Nd} (W : WF plan) (S : ST w mg mb c t mu n s) (Ra : Ar A env c (k + 2)) (hp : Rep prog w t v (planD plan))
    (ret : ∀ a t' s' cv, Sub t t' → CntV cv (cs plan plan.length) plan.length → ST w mg mb c t' ((a, LstO cv) :: mu) n s' → Q (.ref a) s') : wpAny (model prog w) A (call (.ref 555) [v]) Q E s := by
  have hn14 := W.len
  have hn0 := W.pos
  refine call_def (D := []) (R := mu) (k := k + 1) (binds := [("plan", v)]) S Ra S.1.pf.nl (at_555 S.1.pf) rfl (cr_555 S.1.pf) (BindsTo.of_eq rfl) (locs rfl) (by decide +kernel) rfl rfl rfl ?_
  intro c₁ s₁ env₁ A₁ n₀ e0 hN hF S₁ R₁ bk Q₁ E₁
  refine w_cons ?_
  intro K₀
  obtain ⟨pa, pvs, rfl, p1, p2⟩ := hp.lst_inv
  have hpl : pvs.length = plan.length := by have := p2.1; simpa using this
  repeat w_left
  refine new_lst S₁ (by show 1 ≤ _; decide) fun s₂ one hone S₂ => ?_
  repeat w_left
  refine new_lst (by assumption) (by show 1 ≤ _; decide) fun s₃ zr hzr S₃ => ?_
  repeat w_left
  refine len_l S₃ (S₃.atT p1) (sz1 (Nat.le_trans (Nat.le_of_eq hpl) hn14) (by decide)) fun s₄ u S₄ _ => ?_
  repeat w_left
  refine mul_l (m := plan.length - 1) (by rw [hpl]; omega) (by assumption) (S₄.atM (.head _)) (Nat.le_trans (Nat.sub_le _ _) (Nat.le_trans hn14 (by decide))) fun r s₅ hr S₅ => ?_
  repeat w_left
  refine add_l S₅ (S₅.atM (.tail _ (.tail _ (.head _)))) (S₅.atM (.head _)) (by rw [List.length_replicate, sizeLine_eq]; simp; omega) fun ca s₆ hca S₆ => ?_
  repeat w_left
  rename_i s₇ S₇
  replace S₇ := S₇.sub (mu' := [(ca, _)]) (.cons₂ _ (List.nil_sublist _))
  refine iter_enum S₇ (S₇.atT p1) fun e it s₈ he hit S₈ => ?_
  refine for_go (it_enum (vs := pvs)) own_enum (CntJ prog w plan ca t) R₁ S₈ ⟨_, Sub.rfl', rfl, ⟨by simp; omega, fun j hj => ?_⟩, rfl⟩ ?_ ?_ ?_
  · cases j with
    | zero => exact ⟨_, rfl⟩
    | succ j =>
      have e : (List.replicate (plan.length - 1) (Value.int 0 s₂.toks))[j]? = some (Value.int 0 s₂.toks) := List.getElem?_replicate_of_lt (by omega)
      exact ⟨s₂.toks, e⟩
  · rintro m t' mu' n' s' p ⟨cv, h1, rfl, _⟩ S'
    exact S'.atT (p1.sub h1)
  · rintro m _ t₀ t' mu' n' s' hm ⟨q, tm, xv, rfl, q1, q2⟩ ⟨cv, h1, rfl, h2, h3⟩ x0 S' Eb Qb
    have hmp : m < plan.length := by rw [← hpl]; exact hm
    obtain ⟨nd, hnd⟩ : ∃ nd, plan[m]? = some nd := ⟨_, List.getElem?_eq_getElem hmp⟩
    have rx : Rep prog w t xv (ndP nd) := p2.2 m xv _ q2 (by rw [List.getElem?_map, hnd]; rfl)
    have x1 := h1.tr x0
    refine assign_tup S' R₁ (S'.atT q1) rfl rfl fun s₉ S₉ => ?_
    repeat w_left
    rename_i s₁₀ S₁₀
    refine isi S₁₀ ((rx.sub x1).ty S₁₀ ndP_nb) (b := match nd with | .kids _ => true | .leaf _ => false) (by cases nd <;> kernel_rfl) fun s₁₁ S₁₁ _ => ?_
    cases nd with
    | leaf r =>
      have hkl : kidsOf plan m = [] := by unfold kidsOf; rw [hnd]
      repeat w_left
      refine new_lst S₁₁ (by show 0 ≤ _; decide) fun s₁₂ el hel S₁₂ => ?_
      obtain ⟨t₁₂, x12, a12, S₁₃⟩ := S₁₂.freezeT hel
      refine iter_list S₁₃ (S₁₃.atT a12) fun i2 s₁₄ hi2 S₁₄ => ?_
      refine for_go (it_list (vs := [])) (own_plain fun _ => rfl) (fun _ t'' mu'' n'' => Sub t₁₂ t'' ∧ mu'' = [(e, EnuO it ((m + 1 : Nat) : Int)), (it, LitO pa (m + 1)), (ca, LstO cv)] ∧ n''.m "counts" = some (.ref ca)) R₁ S₁₄ ⟨Sub.rfl', rfl, h3⟩ ?_ ?_ ?_
      · rintro i t' mu' n' s' p ⟨h1, rfl, _⟩ S'
        exact S'.atT (a12.sub h1)
      · intro i v t₀ t' mu' n' s' hi
        exact absurd hi (Nat.not_lt_zero _)
      · rintro t' mu' n' s' ⟨x14, rfl, h4⟩ S'
        repeat w_left
        refine ⟨_, [(ca, LstO cv)], _, ⟨cv, x1.tr (x12.tr x14), rfl, h2.congr fun j hj => ?_, h4⟩, S'⟩
        show cs plan m j = cs plan m j + (kidsOf plan m).count j * cs plan m m
        rw [hkl, List.count_nil, Nat.zero_mul, Nat.add_zero]
    | kids l =>
      have hkl : kidsOf plan m = l := by unfold kidsOf; rw [hnd]
      obtain ⟨la, lvs, rfl, l1, l2⟩ := rx.lst_inv
      have hll : lvs.length = l.length := by have := l2.1; simpa using this
      repeat w_left
      refine iter_list S₁₁ (S₁₁.atT (l1.sub x1)) fun i2 s₁₂ hi2 S₁₂ => ?_
      refine for_go (it_list (vs := lvs)) (own_plain fun _ => rfl) (CntK prog w plan ca e it pa pvs t' m l tm) R₁ S₁₂ ⟨cv, Sub.rfl', rfl, h2.congr fun j hj => by simp, h3, rfl⟩ ?_ ?_ ?_
      · rintro i t'' mu' n' s' p ⟨cv, h1, rfl, _⟩ S'
        exact S'.atT (l1.sub (x1.tr h1))
      · rintro q' v' t₀' t'' mu'' n'' s'' hq hv' ⟨cv', g1, rfl, g2, g3, g4⟩ x0' S'' Eb Qb
        obtain ⟨j, hj⟩ : ∃ j, l[q']? = some j := ⟨_, List.getElem?_eq_getElem (by rw [← hll]; exact hq)⟩
        have hjm : j ∈ kidsOf plan m := by rw [hkl]; exact List.mem_of_getElem? hj
        have hij := W.lt m j hjm
        obtain ⟨tj, rfl⟩ := (l2.2 q' v' (.int j) hv' (by rw [List.getElem?_map, hj]; rfl)).int_inv
        have hm0 : (l.take q').count m = 0 := List.count_eq_zero.mpr fun z => by
          have := W.lt m m (by rw [hkl]; exact List.mem_of_mem_take z)
          omega
        obtain ⟨u1, c1⟩ := g2.2 j hij.2
        obtain ⟨u2, c2⟩ := g2.2 m hmp
        simp only [hm0, Nat.zero_mul, Nat.add_zero] at c2
        have hcl : cv'.length = plan.length := g2.1
        repeat w_left
        rename_i s₁₃ S₁₃
        refine item_l (S₁₃.atM (.tail _ (.tail _ (.tail _ (.head _))))) (Int.natCast_nonneg _) (i63 hij.2 (Nat.le_trans hn14 (by decide))) (by rw [Int.toNat_natCast]; exact c1) ?_
        repeat w_left
        refine item_l (S₁₃.atM (.tail _ (.tail _ (.tail _ (.head _))))) (Int.natCast_nonneg _) (i63 hmp (Nat.le_trans hn14 (by decide))) (by rw [Int.toNat_natCast]; exact c2) ?_
        repeat w_left
        rw [← Int.natCast_add]
        refine set_l S₁₃ (.tail (.tail (.tail .head))) rfl (by rw [hcl]; exact hij.2) (by rw [hcl]; exact Nat.lt_of_le_of_lt hn14 (by decide)) fun s₁₄ S₁₄ => ?_
        repeat w_left
        refine ⟨t'', [(e, EnuO it ((m + 1 : Nat) : Int)), (it, LitO pa (m + 1)), (ca, LstO _)], n''.set "one" (.int (j : Int) tj), ⟨_, g1.tr x0', rfl, (g2.set hij.2).congr fun j' hj' => ?_, g3, g4⟩, S₁₄⟩
        show (if j' = j then cs plan m j + (l.take q').count j * cs plan m m + cs plan m m else cs plan m j' + (l.take q').count j' * cs plan m m) = cs plan m j' + (l.take (q' + 1)).count j' * cs plan m m
        rw [List.take_add_one, hj, List.count_append]
        by_cases z : j' = j
        · subst z
          rw [if_pos rfl, show (some j').toList.count j' = 1 by simp, Nat.add_mul, Nat.one_mul, Nat.add_assoc]
        · rw [if_neg z, show (some j).toList.count j' = 0 by simp [Ne.symm z], Nat.add_zero]
      · rintro t'' mu'' n'' s'' ⟨cv', g1, rfl, g2, g3, g4⟩ S''
        repeat w_left
        refine ⟨_, [(ca, LstO cv')], _, ⟨cv', x1.tr g1, rfl, g2.congr fun j hj => ?_, g3⟩, S''⟩
        rw [hll, List.take_length]
        show _ = cs plan m j + (kidsOf plan m).count j * cs plan m m
        rw [hkl]
  · rintro t' mu' n' s' ⟨cv, h1, rfl, h2, h3⟩ S'
    rw [hpl] at h2
    repeat w_left
    exact ret ca t' _ cv h1 h2 (bk _ [_] [] [] _ _ S' rfl)
end
end
section
open PySem PySem.W PyProof.Rows PySem.Calls
/-! the counts are the ways -/
noncomputable def sumTo (g : Nat → Nat) : Nat → Nat
  | 0 => 0
  | n + 1 => sumTo g n + g n
theorem sumTo_congr {g h : Nat → Nat} : ∀ n : Nat, (∀ a, a < n → g a = h a) → sumTo g n = sumTo h n
  | 0, _ => rfl
  | n + 1, e => by unfold sumTo; rw [sumTo_congr n fun a ha => e a (Nat.lt_succ_of_lt ha), e n (Nat.lt_succ_self n)]
theorem sumTo_add {g h : Nat → Nat} : ∀ n : Nat, sumTo (fun a => g a + h a) n = sumTo g n + sumTo h n
  | 0 => rfl
  | n + 1 => by unfold sumTo; rw [sumTo_add n]; omega
theorem sumTo_mul {g : Nat → Nat} {x : Nat} : ∀ n : Nat, sumTo (fun a => x * g a) n = x * sumTo g n
  | 0 => rfl
  | n + 1 => by unfold sumTo; rw [sumTo_mul n, Nat.mul_add]
theorem sumTo_zero : ∀ n : Nat, sumTo (fun _ => 0) n = 0
  | 0 => rfl
  | n + 1 => by unfold sumTo; rw [sumTo_zero n]
theorem sumTo_one {k x : Nat} : ∀ n : Nat, sumTo (fun a => if a = k then x else 0) n = if k < n then x else 0
  | 0 => by simp [sumTo]
  | n + 1 => by
    unfold sumTo
    rw [sumTo_one n]
    by_cases h : n = k
    · subst h; simp
    · rw [if_neg h]
      by_cases h' : k < n
      · rw [if_pos h', if_pos (by omega), Nat.add_zero]
      · rw [if_neg h', if_neg (by omega)]
theorem kid_sum {occ : Nat → Nat} {m n : Nat} : ∀ l : List Nat, (∀ k ∈ l, m < k ∧ k < n) → sumTo (fun a => if m + 1 ≤ a then l.count a * occ a else 0) n = (l.map occ).sum
  | [], _ => by
    rw [List.map_nil, List.sum_nil]
    exact (sumTo_congr n fun a _ => by simp).trans (sumTo_zero n)
  | k :: l, h => by
    have hk := h k (.head _)
    rw [List.map_cons, List.sum_cons, ← kid_sum l fun x hx => h x (.tail _ hx)]
    have e : sumTo (fun a => if a = k then occ k else 0) n = occ k := by rw [sumTo_one, if_pos hk.2]
    rw [← e, ← sumTo_add]
    refine sumTo_congr n fun a _ => ?_
    by_cases q : a = k
    · subst q
      have hq : m + 1 ≤ a := by omega
      simp only [hq, if_true, List.count_cons_self]
      rw [Nat.add_mul, Nat.one_mul, Nat.add_comm]
    · rw [if_neg q, Nat.zero_add, List.count_cons_of_ne (Ne.symm q)]
theorem occ_at {plan : List Nd} (W : WF plan) {m j : Nat} (hm : m < plan.length) : (trace plan m).count j = (if m = j then 1 else 0) + ((kidsOf plan m).map fun k => (trace plan k).count j).sum := by
  rw [trace_eq W hm, List.count_cons, List.count_flatMap, Nat.add_comm]
  congr 1
  by_cases h : m = j
  · subst h; simp
  · simp [h]
theorem counts_inv {plan : List Nd} (W : WF plan) (j : Nat) : ∀ m, m ≤ plan.length → (trace plan 0).count j = sumTo (fun a => if m ≤ a then cs plan m a * (trace plan a).count j else 0) plan.length + (if j < m then cs plan m j else 0)
  | 0, _ => by
    rw [if_neg (Nat.not_lt_zero _), Nat.add_zero]
    have e : sumTo (fun a => if a = 0 then (trace plan 0).count j else 0) plan.length = (trace plan 0).count j := by rw [sumTo_one, if_pos W.pos]
    rw [← e]
    refine sumTo_congr _ fun a _ => ?_
    rw [if_pos (Nat.zero_le _)]
    show _ = (if a = 0 then 1 else 0) * _
    by_cases q : a = 0
    · subst q; simp
    · rw [if_neg q, if_neg q, Nat.zero_mul]
  | m + 1, hm => by
    rw [counts_inv W j m (by omega)]
    have hks : ∀ k ∈ kidsOf plan m, m < k ∧ k < plan.length := W.lt m
    have h1 : sumTo (fun a => if m ≤ a then cs plan m a * (trace plan a).count j else 0) plan.length = cs plan m m * (trace plan m).count j + sumTo (fun a => if m + 1 ≤ a then cs plan m a * (trace plan a).count j else 0) plan.length := by
      have e : sumTo (fun a => if a = m then cs plan m m * (trace plan m).count j else 0) plan.length = cs plan m m * (trace plan m).count j := by rw [sumTo_one, if_pos (by omega)]
      rw [← e, ← sumTo_add]
      refine sumTo_congr _ fun a _ => ?_
      by_cases q : a = m
      · subst q
        have h1 : ¬ a + 1 ≤ a := by omega
        simp only [Nat.le_refl, if_true, h1, if_false, Nat.add_zero]
      · by_cases q' : m + 1 ≤ a
        · have h1 : m ≤ a := by omega
          simp only [h1, q, q', if_true, if_false, Nat.zero_add]
        · have h1 : ¬ m ≤ a := by omega
          simp only [h1, q, q', if_false]
    have h2 : sumTo (fun a => if m + 1 ≤ a then cs plan (m + 1) a * (trace plan a).count j else 0) plan.length =
        sumTo (fun a => if m + 1 ≤ a then cs plan m a * (trace plan a).count j else 0) plan.length + cs plan m m * ((kidsOf plan m).map fun k => (trace plan k).count j).sum := by
      rw [← kid_sum (occ := fun k => (trace plan k).count j) _ hks, ← sumTo_mul, ← sumTo_add]
      refine sumTo_congr _ fun a _ => ?_
      by_cases q : m + 1 ≤ a
      · rw [if_pos q, if_pos q, if_pos q]
        show (cs plan m a + (kidsOf plan m).count a * cs plan m m) * _ = _
        rw [Nat.add_mul, Nat.mul_comm ((kidsOf plan m).count a), Nat.mul_assoc]
      · rw [if_neg q, if_neg q, if_neg q, Nat.mul_zero]
    have h3 : ∀ a, a ≤ m → cs plan (m + 1) a = cs plan m a := fun a ha => by
      show cs plan m a + (kidsOf plan m).count a * cs plan m m = _
      rw [List.count_eq_zero.mpr fun z => by have := hks a z; omega, Nat.zero_mul, Nat.add_zero]
    rw [h1, h2, occ_at W (by omega), Nat.mul_add]
    by_cases q : j < m
    · have a1 : ¬ m = j := by omega
      have a2 : j < m + 1 := by omega
      simp only [a1, q, a2, if_true, if_false, Nat.mul_zero, Nat.zero_add]
      rw [h3 j (by omega)]; omega
    · by_cases q' : m = j
      · subst q'
        have a2 : m < m + 1 := by omega
        simp only [q, a2, if_true, if_false, Nat.mul_one]
        rw [h3 m (Nat.le_refl _)]; omega
      · have a2 : ¬ j < m + 1 := by omega
        simp only [q, q', a2, if_false, Nat.mul_zero, Nat.zero_add]; omega
theorem counts_are {plan : List Nd} (W : WF plan) {j : Nat} (hj : j < plan.length) : cs plan plan.length j = (trace plan 0).count j := by
  rw [counts_inv W j plan.length (Nat.le_refl _), if_pos hj]
  have : sumTo (fun a => if plan.length ≤ a then cs plan plan.length a * (trace plan a).count j else 0) plan.length = 0 :=
    (sumTo_congr _ fun a ha => if_neg (by omega)).trans (sumTo_zero plan.length)
  rw [this, Nat.zero_add]
theorem counts_le {plan : List Nd} (W : WF plan) {M : Nat} (h1 : ∀ j, j < plan.length → cs plan plan.length j ≤ M) : ∀ j, (trace plan 0).count j ≤ M := fun j => by
  by_cases hj : j < plan.length
  · rw [← counts_are W hj]; exact h1 j hj
  · rw [List.count_eq_zero.mpr fun z => hj (trace_lt W 0 W.pos j z)]; exact Nat.zero_le _
theorem trace_len {plan : List Nd} (W : WF plan) (h : ∀ j, (trace plan 0).count j ≤ 16) : (trace plan 0).length ≤ 224 := by
  have := len_of_count plan.length 16 _ (trace_lt W 0 W.pos) h
  have := W.len
  omega
end
section
open PySem PySem.W PyProof.Rows PySem.Calls
/-! what can be told, and how deep that is -/
theorem Told.mono {m : Nat} {d e : Dt} (h : Told m d e) : ∀ {m' : Nat}, m ≤ m' → Told m' d e := by
  induction h with
  | int m i => exact fun _ => .int _ i
  | oct m b => exact fun _ => .oct _ b
  | ref m i g => exact fun _ => .ref _ i g
  | lst a b _ ih =>
    intro m' hm
    cases m' with
    | zero => omega
    | succ m' => exact .lst a b fun i d e x y => ih i d e x y (by omega)
  | dct dg a b c d e _ ih =>
    intro m' hm
    cases m' with
    | zero => omega
    | succ m' => exact .dct dg a b c d e fun i k e x y => ih i k e x y (by omega)
theorem Flat.mono : ∀ {m m' : Nat} {d : Dt}, m ≤ m' → Flat m d → Flat m' d
  | m, m', .int _, _, _ => by cases m' <;> trivial
  | m, m', .str _, _, _ => by cases m' <;> trivial
  | m, m', .byt _, _, _ => by cases m' <;> trivial
  | 0, _, .lst _, _, h => h.elim
  | 0, _, .tup _, _, h => h.elim
  | m + 1, 0, .lst _, e, _ => by omega
  | m + 1, 0, .tup _, e, _ => by omega
  | m + 1, m' + 1, .lst ds, e, h => fun d hd => Flat.mono (by omega) (h d hd)
  | m + 1, m' + 1, .tup ds, e, h => fun d hd => Flat.mono (by omega) (h d hd)
  | 0, _, .ref _ _, _, h => h.elim
  | 0, _, .oct _, _, h => h.elim
  | 0, _, .dct _, _, h => h.elim
  | _ + 1, _, .ref _ _, _, h => h.elim
  | _ + 1, _, .oct _, _, h => h.elim
  | _ + 1, _, .dct _, _, h => h.elim
noncomputable def Tell (m : Nat) (d : Dt) : Prop := ∃ e, Told m d e ∧ Flat (2 * m + 1) e
theorem Tell.mono {m m' : Nat} {d : Dt} (h : Tell m d) (hm : m ≤ m') : Tell m' d := let ⟨e, a, b⟩ := h; ⟨e, a.mono hm, b.mono (by omega)⟩
theorem tell_list {m : Nat} {f : Nat → Dt → Dt → Prop} : ∀ ds : List Dt, (∀ d ∈ ds, Tell m d) → ∃ es : List Dt, ds.length = es.length ∧ (∀ (i : Nat) d e, ds[i]? = some d → es[i]? = some e → Told m d e) ∧ ∀ e ∈ es, Flat (2 * m + 1) e
  | [], _ => ⟨[], rfl, fun i d e h => by simp at h, fun e h => (nomatch h)⟩
  | d :: ds, h => by
    obtain ⟨e, h1, h2⟩ := h d (.head _)
    obtain ⟨es, a, b, c⟩ := tell_list (f := f) ds fun x hx => h x (.tail _ hx)
    refine ⟨e :: es, by simp [a], fun i d' e' x y => ?_, fun e' he => ?_⟩
    · cases i with
      | zero => cases x; cases y; exact h1
      | succ i => exact b i d' e' x y
    · rcases List.mem_cons.mp he with rfl | he
      · exact h2
      · exact c e' he
theorem tell_lst {m : Nat} {ds : List Dt} (h : ∀ d ∈ ds, Tell m d) (hz : ds.length ≤ 1000) : Tell (m + 1) (.lst ds) := by
  obtain ⟨es, a, b, c⟩ := tell_list (f := fun _ _ _ => True) ds h
  refine ⟨_, .lst a hz b, ?_⟩
  show Flat (2 * m + 2 + 1) _
  intro e he
  rcases List.mem_cons.mp he with rfl | he
  · trivial
  · exact (c e he).mono (by omega)
theorem tell_dct {m : Nat} {ds : List (Str × Dt)} {ks : List Str} (hs : ∀ ss : List Str, ss.Perm (ds.map (·.1)) → sortedS ss = true → ss = ks) (hz : ds.length < 60) (hz2 : ks.length < 60) (h : ∀ k ∈ ks, ∃ d, dAt ds k = some d ∧ Tell m d) : Tell (m + 1) (.dct ds) := by
  have hg : ∀ k ∈ ks, dAt ds k = some ((dAt ds k).getD (.int 0)) := fun k hk => by obtain ⟨d, e, _⟩ := h k hk; rw [e]; rfl
  obtain ⟨es, a, b, c⟩ := tell_list (m := m) (f := fun _ _ _ => True) (ks.map fun k => (dAt ds k).getD (.int 0)) fun d hd => by
    obtain ⟨k, hk, rfl⟩ := List.mem_map.mp hd
    obtain ⟨d, e, r⟩ := h k hk
    rw [e]; exact r
  rw [List.length_map] at a
  refine ⟨_, .dct (fun k => (dAt ds k).getD (.int 0)) hs hg a hz hz2 fun i k e x y => b i _ e (by rw [List.getElem?_map, x]; rfl) y, ?_⟩
  show Flat (2 * m + 2 + 1) _
  intro e he
  rcases List.mem_cons.mp he with rfl | he
  · trivial
  · obtain ⟨i, hi, rfl⟩ := List.mem_iff_getElem.mp he
    rw [List.getElem_zipWith]
    intro x hx
    rcases List.mem_cons.mp hx with rfl | hx
    · trivial
    · rcases List.mem_cons.mp hx with rfl | hx
      · exact (c _ (List.getElem_mem _)).mono (by omega)
      · cases hx
theorem perm_one {α : Type} {a : α} {ss : List α} (h : ss.Perm [a]) : ss = [a] := List.perm_singleton.mp h
theorem perm_two {α : Type} {a b : α} {ss : List α} (h : ss.Perm [a, b]) : ss = [a, b] ∨ ss = [b, a] := by
  match ss, h.length_eq with
  | [x, y], _ =>
    have hx : x ∈ [a, b] := h.mem_iff.mp (.head _)
    rcases List.mem_cons.mp hx with rfl | hx
    · have := (List.perm_cons x).mp h
      rw [List.perm_singleton.mp this]; exact .inl rfl
    · rw [List.mem_singleton] at hx
      subst hx
      have h' : [x, y].Perm [x, a] := h.trans (List.Perm.swap ..)
      have := (List.perm_cons x).mp h'
      rw [List.perm_singleton.mp this]; exact .inr rfl
theorem flat_int : ∀ {m : Nat} {i : Int}, Flat m (.int i)
  | 0, _ => trivial
  | _ + 1, _ => trivial
theorem flat_str : ∀ {m : Nat} {i : Str}, Flat m (.str i)
  | 0, _ => trivial
  | _ + 1, _ => trivial
theorem flat_byt : ∀ {m : Nat} {i : List UInt8}, Flat m (.byt i)
  | 0, _ => trivial
  | _ + 1, _ => trivial
theorem tell_int {m : Nat} (i : Int) : Tell m (.int i) := ⟨_, .int m i, fun d hd => by
  rcases List.mem_cons.mp hd with rfl | hd
  · exact flat_str
  · rw [List.mem_singleton] at hd; subst hd; exact flat_int⟩
theorem tell_oct {m : Nat} (i : List UInt8) : Tell m (.oct i) := ⟨_, .oct m i, fun d hd => by
  rcases List.mem_cons.mp hd with rfl | hd
  · exact flat_str
  · rw [List.mem_singleton] at hd; subst hd; exact flat_byt⟩
theorem tell_ref {m : Nat} (i g : Int) : Tell m (.ref i g) := ⟨_, .ref m i g, fun d hd => by
  rcases List.mem_cons.mp hd with rfl | hd
  · exact flat_str
  · rcases List.mem_cons.mp hd with rfl | hd
    · exact flat_int
    · rw [List.mem_singleton] at hd; subst hd; exact flat_int⟩
theorem tell_o {m : Nat} {b : Bool} (i : Nat) : Tell m (oDt b i) := by
  cases b
  · exact tell_int _
  · exact tell_oct _
theorem tell_lim {b : Bool} : Tell 1 (limD b) := tell_lst (fun d hd => by
  rcases List.mem_cons.mp hd with rfl | hd
  · exact tell_o _
  · rw [List.mem_singleton] at hd; subst hd; exact tell_o _) (by show 2 ≤ _; decide)
theorem tell_flat {b : Bool} : ∀ ps : List (Nat × Int), ∀ d ∈ flatR b ps, Tell 0 d
  | [], d, h => (nomatch h)
  | p :: r, d, h => by
    rcases List.mem_cons.mp h with rfl | h
    · exact tell_o _
    · rcases List.mem_cons.mp h with rfl | h
      · exact tell_int _
      · exact tell_flat r d h
theorem tell_two {m : Nat} {x : Str} {d1 d2 : Dt} (hx : x = "Kids" ∨ x = "Nums" ∨ x = "Names") (h1 : Tell m d1) (h2 : Tell m d2) : Tell (m + 1) (.dct [("Limits", d1), (x, d2)]) := by
  have a1 : dAt [(("Limits" : Str), d1), (x, d2)] "Limits" = some d1 := dAt_eq
  have a2 : dAt [(("Limits" : Str), d1), (x, d2)] x = some d2 := by rw [dAt_ne (by rcases hx with rfl | rfl | rfl <;> decide), dAt_eq]
  have hk : ∀ k ∈ ([("Limits" : Str), x] : List Str), ∃ d, dAt [(("Limits" : Str), d1), (x, d2)] k = some d ∧ Tell m d := fun k hk => by
    rcases List.mem_cons.mp hk with rfl | hk
    · exact ⟨_, a1, h1⟩
    · rw [List.mem_singleton] at hk; subst hk; exact ⟨_, a2, h2⟩
  rcases hx with rfl | rfl | rfl
  · refine tell_dct (ks := ([("Kids" : Str), "Limits"] : List Str)) (fun ss hp hs => ?_) (by show 2 < _; decide) (by show 2 < _; decide) fun k h => hk k (by rcases List.mem_cons.mp h with rfl | h; exact .tail _ (.head _); rw [List.mem_singleton] at h; subst h; exact .head _)
    have hp' : ss.Perm ([("Limits" : Str), "Kids"] : List Str) := hp
    rcases perm_two hp' with rfl | rfl
    · exact absurd hs (by decide +kernel)
    · rfl
  · refine tell_dct (ks := ([("Limits" : Str), "Nums"] : List Str)) (fun ss hp hs => ?_) (by show 2 < _; decide) (by show 2 < _; decide) fun k h => hk k h
    have hp' : ss.Perm ([("Limits" : Str), "Nums"] : List Str) := hp
    rcases perm_two hp' with rfl | rfl
    · rfl
    · exact absurd hs (by decide +kernel)
  · refine tell_dct (ks := ([("Limits" : Str), "Names"] : List Str)) (fun ss hp hs => ?_) (by show 2 < _; decide) (by show 2 < _; decide) fun k h => hk k h
    have hp' : ss.Perm ([("Limits" : Str), "Names"] : List Str) := hp
    rcases perm_two hp' with rfl | rfl
    · rfl
    · exact absurd hs (by decide +kernel)
theorem tell_one {m : Nat} {x : Str} {d : Dt} (h : Tell m d) : Tell (m + 1) (.dct [(x, d)]) :=
  tell_dct (ks := [x]) (fun ss hp _ => perm_one hp) (by show 1 < _; decide) (by show 1 < _; decide) fun k hk => by
    rw [List.mem_singleton] at hk; subst hk; exact ⟨d, dAt_eq, h⟩
theorem tell_none {m : Nat} : Tell (m + 1) (.dct []) :=
  tell_dct (ks := []) (fun ss hp _ => List.perm_nil.mp hp) (by show 0 < _; decide) (by show 0 < _; decide) fun k hk => (nomatch hk)
theorem wd_or (b : Bool) : wd b = "Kids" ∨ wd b = "Nums" ∨ wd b = "Names" := by
  cases b
  · exact .inr (.inl rfl)
  · exact .inr (.inr rfl)
theorem tell_nd {b : Bool} {plan : List Nd} (W : WF plan) {i : Nat} {x : Nd} (h : plan[i]? = some x) : Tell 2 (.dct (ndD b i x)) := by
  cases x with
  | kids l =>
    refine tell_two (.inl rfl) tell_lim (tell_lst (fun d hd => ?_) ?_)
    · obtain ⟨j, _, rfl⟩ := List.mem_map.mp hd
      exact tell_ref _ _
    · rw [List.length_map]
      have := W.wid i
      unfold kidsOf at this
      rw [h] at this
      exact Nat.le_trans this (by decide)
  | leaf r =>
    refine tell_two (wd_or b) tell_lim (tell_lst (tell_flat _) ?_)
    rw [flatR_len]
    unfold leafP
    have := W.leaf i r h
    rw [List.length_map, List.length_range]; omega
theorem tell_whole {b : Bool} {plan : List Nd} (W : WF plan) : ∀ i, i < plan.length → Tell (2 * (plan.length - i) + 2) (wholeD b plan i) := nd_induct W fun i hi ih => by
  obtain ⟨x, hx⟩ : ∃ x, plan[i]? = some x := ⟨_, List.getElem?_eq_getElem hi⟩
  cases x with
  | leaf r => rw [whole_leaf hx]; exact (tell_nd W hx).mono (by omega)
  | kids l =>
    rw [whole_kids W hx]
    refine tell_two (.inl rfl) (tell_lim.mono (by omega)) (tell_lst (fun d hd => ?_) ?_)
    · obtain ⟨j, hj, rfl⟩ := List.mem_map.mp hd
      have hk : j ∈ kidsOf plan i := by unfold kidsOf; rw [hx]; exact hj
      exact (ih j hk).mono (by have := W.lt i j hk; omega)
    · rw [List.length_map]
      have := W.wid i
      unfold kidsOf at this
      rw [hx] at this
      exact Nat.le_trans this (by decide)
end
section
open PySem PySem.W PyProof.Rows PySem.Calls
section
variable {prog : Program} {w : World} {mg mb : Str → Option Value} {A : Around} {s : Shared} {c : Cx} {t t' : Heap} {mu mu' : Mus} {n : Nm} {Q : Value → Shared → Prop} {E : Value → Shared → Prop} {env : Env} {k : Nat} {a b d D : Addr} {vs us : List Value}
theorem stand_val {e : PySem.Expr} {pos : Pos} (h : wpAny (model prog w) A (eval e env) Q E s) : wpAny (model prog w) A (do let x ← eval e env; standAt pos; pure x) Q E s :=
  wpAny_bind (wpAny_mono h (fun _ _ z => wpAny_bind (wpAny_standAt (wpAny_pure z))) fun _ _ z => z)
/-- what the parts of a dict display leave -/
noncomputable def DispEnd (prog : Program) (w : World) (mg mb : Str → Option Value) (c : Cx) (n : Nm) (d : Addr) (Q : Value → Shared → Prop) (kvs : List (Str × Value)) (s₂ : Shared) : Prop :=
  (kvs.map (·.1)).Nodup ∧ ∃ t' mu', ST w mg mb c t' ((d, DctO (PySem.strKind prog w) []) :: mu') n s₂ ∧ ∀ s₃, ST w mg mb c t' ((d, DctO (PySem.strKind prog w) kvs) :: mu') n s₃ → Q (.ref d) s₃
theorem disp {keys : List (Option PySem.Expr)} {values : List PySem.Expr} {pos : Pos} {pairs : List (Sem Value × Sem Value)} (S : ST w mg mb c t mu n s)
    (hshape : (evalEachOpt keys env).zip ((evalEach values env).map fun v => do let x ← v; standAt pos; pure x) = pairs.map fun p => (some p.1, p.2)) (h0 : pairs ≠ []) (hlen : pairs.length ≤ 15)
    (h : ∀ d s₁, c.N ≤ d → (d == sysModules) = false → ST w mg mb c t ((d, DctO (PySem.strKind prog w) []) :: mu) n s₁ → wpAny (model prog w) A (evalPairs pairs) (fun vs s₂ => ∃ kvs, Carries (PySem.strKind prog w) vs kvs ∧ DispEnd prog w mg mb c n d Q kvs s₂) E s₁) :
    wpAny (model prog w) A (eval (.Dict keys values pos) env) Q E s := by
  refine wpAny_Dict_pairs (knd := PySem.strKind prog w) hshape h0 hlen ?_
  have S1 := S.newMu (o := { cls := .type "dict", data := .dict #[] }) (p := DctO (PySem.strKind prog w) []) dctO_nil
  refine wpAny_mono (h _ _ S.NL S.neSys S1) (fun vs s₂ z => ?_) fun _ _ e => e
  obtain ⟨kvs, hc, hn, t', mu', S₂, hq⟩ := z
  refine ⟨kvs, hc, (S₂.atM (.head _)).dct, fun h' hd hs => ?_⟩
  rw [merged_nil_of_nodup kvs hn] at hd
  obtain ⟨o, e, q⟩ := at_dct hd
  exact hq _ (S₂.write (k := s₂.toks + vs.length) .head (fun b x hb e => (hs.2 b hb).trans e) e q)
theorem disp1 {k1 v1 : PySem.Expr} {pos : Pos} (S : ST w mg mb c t mu n s)
    (h : ∀ d s₁, c.N ≤ d → (d == sysModules) = false → ST w mg mb c t ((d, DctO (PySem.strKind prog w) []) :: mu) n s₁ →
      wpAny (model prog w) A (eval k1 env) (fun kv s₂ => wpAny (model prog w) A (eval v1 env) (fun vv s₃ => ∃ x tk, kv = .str x tk ∧ DispEnd prog w mg mb c n d Q [(x, vv)] s₃) E s₂) E s₁) :
    wpAny (model prog w) A (eval (.Dict [some k1] [v1] pos) env) Q E s := by
  refine disp (pairs := [(eval k1 env, do let x ← eval v1 env; standAt pos; pure x)]) S rfl (by simp) (by show 1 ≤ _; decide) fun d s₁ hd sd S₁ => ?_
  refine evalPairs_cons (wpAny_mono (h d s₁ hd sd S₁) (fun kv s₂ h₂ => stand_val (wpAny_mono h₂ (fun vv s₃ h₃ => evalPairs_nil ?_) fun _ _ e => e)) fun _ _ e => e)
  obtain ⟨x, tk, rfl, z⟩ := h₃
  exact ⟨[(x, vv)], ⟨strKind_is _ _ _ _, rfl, trivial⟩, z⟩
theorem disp2 {k1 v1 k2 v2 : PySem.Expr} {pos : Pos} (S : ST w mg mb c t mu n s)
    (h : ∀ d s₁, c.N ≤ d → (d == sysModules) = false → ST w mg mb c t ((d, DctO (PySem.strKind prog w) []) :: mu) n s₁ →
      wpAny (model prog w) A (eval k1 env) (fun kv s₂ => wpAny (model prog w) A (eval v1 env) (fun vv s₃ => wpAny (model prog w) A (eval k2 env) (fun kv2 s₄ => wpAny (model prog w) A (eval v2 env) (fun vv2 s₅ => ∃ x tk x2 tk2, kv = .str x tk ∧ kv2 = .str x2 tk2 ∧ DispEnd prog w mg mb c n d Q [(x, vv), (x2, vv2)] s₅) E s₄) E s₃) E s₂) E s₁) :
    wpAny (model prog w) A (eval (.Dict [some k1, some k2] [v1, v2] pos) env) Q E s := by
  refine disp (pairs := [(eval k1 env, do let x ← eval v1 env; standAt pos; pure x), (eval k2 env, do let x ← eval v2 env; standAt pos; pure x)]) S rfl (by simp) (by show 2 ≤ _; decide) fun d s₁ hd sd S₁ => ?_
  refine evalPairs_cons (wpAny_mono (h d s₁ hd sd S₁) (fun kv s₂ h₂ => stand_val (wpAny_mono h₂ (fun vv s₃ h₃ => evalPairs_cons (wpAny_mono h₃ (fun kv2 s₄ h₄ => stand_val (wpAny_mono h₄ (fun vv2 s₅ h₅ => evalPairs_nil ?_) fun _ _ e => e)) fun _ _ e => e)) fun _ _ e => e)) fun _ _ e => e)
  obtain ⟨x, tk, x2, tk2, rfl, rfl, z⟩ := h₅
  exact ⟨[(x, vv), (x2, vv2)], ⟨strKind_is _ _ _ _, rfl, strKind_is _ _ _ _, rfl, trivial⟩, z⟩
theorem disp3 {k1 v1 k2 v2 k3 v3 : PySem.Expr} {pos : Pos} (S : ST w mg mb c t mu n s)
    (h : ∀ d s₁, c.N ≤ d → (d == sysModules) = false → ST w mg mb c t ((d, DctO (PySem.strKind prog w) []) :: mu) n s₁ →
      wpAny (model prog w) A (eval k1 env) (fun kv s₂ => wpAny (model prog w) A (eval v1 env) (fun vv s₃ => wpAny (model prog w) A (eval k2 env) (fun kv2 s₄ => wpAny (model prog w) A (eval v2 env) (fun vv2 s₅ =>
        wpAny (model prog w) A (eval k3 env) (fun kv3 s₆ => wpAny (model prog w) A (eval v3 env) (fun vv3 s₇ => ∃ x tk x2 tk2 x3 tk3, kv = .str x tk ∧ kv2 = .str x2 tk2 ∧ kv3 = .str x3 tk3 ∧ DispEnd prog w mg mb c n d Q [(x, vv), (x2, vv2), (x3, vv3)] s₇) E s₆) E s₅) E s₄) E s₃) E s₂) E s₁) :
    wpAny (model prog w) A (eval (.Dict [some k1, some k2, some k3] [v1, v2, v3] pos) env) Q E s := by
  refine disp (pairs := [(eval k1 env, do let x ← eval v1 env; standAt pos; pure x), (eval k2 env, do let x ← eval v2 env; standAt pos; pure x), (eval k3 env, do let x ← eval v3 env; standAt pos; pure x)]) S rfl (by simp) (by show 3 ≤ _; decide) fun d s₁ hd sd S₁ => ?_
  refine evalPairs_cons (wpAny_mono (h d s₁ hd sd S₁) (fun kv s₂ h₂ => stand_val (wpAny_mono h₂ (fun vv s₃ h₃ => evalPairs_cons (wpAny_mono h₃ (fun kv2 s₄ h₄ => stand_val (wpAny_mono h₄ (fun vv2 s₅ h₅ =>
    evalPairs_cons (wpAny_mono h₅ (fun kv3 s₆ h₆ => stand_val (wpAny_mono h₆ (fun vv3 s₇ h₇ => evalPairs_nil ?_) fun _ _ e => e)) fun _ _ e => e)) fun _ _ e => e)) fun _ _ e => e)) fun _ _ e => e)) fun _ _ e => e)
  obtain ⟨x, tk, x2, tk2, x3, tk3, rfl, rfl, rfl, z⟩ := h₇
  exact ⟨[(x, vv), (x2, vv2), (x3, vv3)], ⟨strKind_is _ _ _ _, rfl, strKind_is _ _ _ _, rfl, strKind_is _ _ _ _, rfl, trivial⟩, z⟩
end
end
section
open PySem PySem.W PyProof.Rows PySem.Calls
section
variable {prog : Program} {w : World} {mg mb : Str → Option Value} {t t' : Heap} {b : Bool} {A : Around} {s : Shared} {c : Cx} {mu : Mus} {n : Nm} {Q E : Value → Shared → Prop} {env : Env} {k : Nat} {v : Value} {tk ti : Tok}
/-- the frozen part of a shelf -/
structure ShF (prog : Program) (w : World) (t : Heap) (x dx ta tr : Addr) (m : Str → Option Value) : Prop where
  x : At t x (InsO 370 dx)
  dx : At t dx (NsO 2 m)
  tb : m "table" = some (.ref ta)
  tl : m "trailer" = some (.ref tr)
  m : ∀ y : Str, y ≠ "table" → y ≠ "trailer" → m y = none
  st : (ta == sysModules) = false
  e : At t tr (DctO (PySem.strKind prog w) [])
  se : (tr == sysModules) = false
theorem ShF.sub {x dx ta tr : Addr} {m : Str → Option Value} (h : Sub t t') (z : ShF prog w t x dx ta tr m) : ShF prog w t' x dx ta tr m := ⟨z.x.sub h, z.dx.sub h, z.tb, z.tl, z.m, z.st, z.e.sub h, z.se⟩
/-- the first m places of a shelf's table -/
noncomputable def TabV (prog : Program) (w : World) (b : Bool) (plan : List Nd) (t : Heap) (kvs : List (Int × Value)) (m : Nat) : Prop :=
  kvs.length = m ∧ ∀ i x, i < m → plan[i]? = some x → ∃ g v tk, kvs[i]? = some (((10 + i : Nat) : Int), .ref g) ∧ At t g (TupO [.int ((i % 2 : Nat) : Int) tk, v]) ∧ Rep prog w t v (.dct (ndD b i x))
theorem TabV.sub {plan : List Nd} {kvs : List (Int × Value)} {m : Nat} (h : Sub t t') (z : TabV prog w b plan t kvs m) : TabV prog w b plan t' kvs m := ⟨z.1, fun i x hi hx => let ⟨g, v, tk, a, b, c⟩ := z.2 i x hi hx; ⟨g, v, tk, a, b.sub h, c.sub h⟩⟩
theorem TabV.fresh {plan : List Nd} {kvs : List (Int × Value)} {m : Nat} (z : TabV prog w b plan t kvs m) (hm : m ≤ plan.length) {v : Value} : stored kvs ((10 + m : Nat) : Int) v = kvs ++ [(((10 + m : Nat) : Int), v)] := by
  unfold PySem.stored
  rw [if_neg]
  simp only [List.any_eq_true, decide_eq_true_eq, not_exists, not_and]
  intro y hy
  obtain ⟨i, hi, rfl⟩ := List.mem_iff_getElem.mp hy
  obtain ⟨x, hx⟩ : ∃ x, plan[i]? = some x := ⟨_, List.getElem?_eq_getElem (by rw [z.1] at hi; omega)⟩
  obtain ⟨g, v, tk, a, _⟩ := z.2 i x (by rw [← z.1]; exact hi) hx
  rw [List.getElem?_eq_getElem hi] at a
  rw [Option.some.inj a]
  rw [z.1] at hi
  simp only
  omega
theorem put_spec {x dx ta tr : Addr} {m : Str → Option Value} {kvs : List (Int × Value)} {i g : Int} {t1 t2 : Tok} (Z : ShF prog w t x dx ta tr m) (S : ST w mg mb c t ((ta, DctO (intKind prog w) kvs) :: mu) n s) (Ra : Ar A env c (k + 1)) (hz : kvs.length ≤ 1000)
    (ret : ∀ t' p tk s', Sub t t' → At t' p (TupO [.int g tk, v]) → ST w mg mb c t' ((ta, DctO (intKind prog w) (stored kvs i (.ref p))) :: mu) n s' → Q .none s') : wpAny (model prog w) A (call (.ref 334) [.ref x, .int i t1, .int g t2, v]) Q E s := by
  refine call_def (D := [(ta, DctO (intKind prog w) kvs)]) (R := mu) (k := k) (binds := [("self", .ref x), ("number", .int i t1), ("generation", .int g t2), ("value", v)]) S Ra S.1.pf.nl (at_334 S.1.pf) rfl (cr_334 S.1.pf) (BindsTo.of_eq rfl) (locs rfl) (by decide +kernel) rfl rfl rfl ?_
  intro c₁ s₁ env₁ A₁ n₀ e0 hN _ S₁ R₁ bk Q₁ E₁
  refine w_cons ?_
  intro K₀
  repeat w_left
  refine new_tup S₁ (by show 2 ≤ _; decide) fun s₂ t₂ p x2 a2 S₂ => ?_
  repeat w_left
  refine get_inst S₂ (S₂.atT (Z.x.sub x2)) (S₂.atT (Z.dx.sub x2)) Z.tb (by kernel_rfl) (by kernel_rfl) (by kernel_rfl) rfl fun s₃ S₃ _ => ?_
  repeat w_left
  refine set_d S₃ .head (intKind_is _ _ _ _) (by rw [sizeLine_eq]; omega) fun s₄ S₄ => ?_
  repeat w_left
  exact ret t₂ p _ _ x2 a2 (bk _ [] [(ta, _)] [] _ _ S₄ rfl)
theorem ite_join {α : Type} {cc : Bool} {a b : Sem α} {Q Mid : α → Shared → Prop} (h1 : cc = true → let Md : α → Shared → Prop := Mid; wpAny (model prog w) A a Md E s) (h2 : cc = false → let Md : α → Shared → Prop := Mid; wpAny (model prog w) A b Md E s) (h : ∀ x s', Mid x s' → Q x s') :
    if cc = true then wpAny (model prog w) A a Q E s else wpAny (model prog w) A b Q E s := by
  cases cc with
  | true => rw [if_pos rfl]; exact wpAny_mono (h1 rfl) (fun x s' z => h x s' z) fun _ _ z => z
  | false => rw [if_neg (by decide)]; exact wpAny_mono (h2 rfl) (fun x s' z => h x s' z) fun _ _ z => z
theorem flatR_snoc : ∀ (ps : List (Nat × Int)) (p : Nat × Int), flatR b (ps ++ [p]) = flatR b ps ++ [oDt b p.1, .int p.2]
  | [], p => rfl
  | q :: r, p => by
    show oDt b q.1 :: .int q.2 :: flatR b (r ++ [p]) = _
    rw [flatR_snoc r p]; rfl
theorem fmod_two (j : Nat) : (j : Int).fmod 2 = ((j % 2 : Nat) : Int) := by rw [Int.fmod_eq_emod_of_nonneg _ (by decide)]; rfl
inductive ShJ (prog : Program) (w : World) (b : Bool) (plan : List Nd) (x ta : Addr) (tk : Tok) (t : Heap) (m : Nat) (t' : Heap) (mu' : Mus) (n' : Nm) : Prop
  | mk (kvs : List (Int × Value)) : Sub t t' → mu' = [(ta, DctO (intKind prog w) kvs)] → TabV prog w b plan t' kvs m → n'.m "shelf" = some (.ref x) → n'.m "word" = some (.str (wd b) tk) → ShJ prog w b plan x ta tk t m t' mu' n'
/-- behind the if: the node stands, whole -/
inductive ShMid (prog : Program) (w : World) (mg mb : Str → Option Value) (b : Bool) (x ta na : Addr) (tk tm : Tok) (c : Cx) (t : Heap) (kvs : List (Int × Value)) (im : Mus) (m : Nat) (nd : Nd) (f : Flow) (s' : Shared) : Prop
  | mk (t' : Heap) (nkvs : List (Str × Value)) (n' : Nm) : f = .next → Sub t t' → ST w mg mb c t' ((na, DctO (PySem.strKind prog w) nkvs) :: (im ++ [(ta, DctO (intKind prog w) kvs)])) n' s' → DRep prog w t' nkvs (ndD b m nd) →
      n'.m "shelf" = some (.ref x) → n'.m "word" = some (.str (wd b) tk) → n'.m "node" = some (.ref na) → n'.m "at" = some (.int (m : Int) tm) → ShMid prog w mg mb b x ta na tk tm c t kvs im m nd f s'
inductive ShK (prog : Program) (w : World) (b : Bool) (x ta na : Addr) (tk tm : Tok) (t : Heap) (kvs : List (Int × Value)) (im : Mus) (m r : Nat) (q : Nat) (t' : Heap) (mu' : Mus) (n' : Nm) : Prop
  | mk (nkvs : List (Str × Value)) : Sub t t' → mu' = (na, DctO (PySem.strKind prog w) nkvs) :: (im ++ [(ta, DctO (intKind prog w) kvs)]) → DRep prog w t' nkvs [("Limits", limD b), (wd b, .lst (flatR b ((leafP m r).take q)))] →
      n'.m "shelf" = some (.ref x) → n'.m "word" = some (.str (wd b) tk) → n'.m "node" = some (.ref na) → n'.m "at" = some (.int (m : Int) tm) → ShK prog w b x ta na tk tm t kvs im m r q t' mu' n'
theorem law_shelf_spec {plan : List Nd} (W : WF plan) (S : ST w mg mb c t mu n s) (Ra : Ar A env c (k + 5)) (hp : Rep prog w t v (planD plan))
    (ret : ∀ v' t' s', Sub t t' → IsShelf prog w t' v' (nodesD b plan) → ST w mg mb c t' mu n s' → Q v' s') : wpAny (model prog w) A (call (.ref 548) [.str (wd b) tk, v]) Q E s := by
  have hn14 := W.len
  refine call_def (D := []) (R := mu) (k := k + 4) (binds := [("word", .str (wd b) tk), ("plan", v)]) S Ra S.1.pf.nl (at_548 S.1.pf) rfl (cr_548 S.1.pf) (BindsTo.of_eq rfl) (locs rfl) (by decide +kernel) rfl rfl rfl ?_
  intro c₁ s₁ env₁ A₁ n₀ e0 hN hF S₁ R₁ bk Q₁ E₁
  refine w_cons ?_
  intro K₀
  obtain ⟨pa, pvs, rfl, p1, p2⟩ := hp.lst_inv
  have hpl : pvs.length = plan.length := by have := p2.1; simpa using this
  repeat w_left
  refine mk_Shelf S₁ R₁ fun x dx ta tr m s₂ hx hdx hta htr sta str mt ml mm S₂ => ?_
  obtain ⟨t₃, x3, a3, S₃⟩ := S₂.freezeT htr
  obtain ⟨t₄, x4, a4, S₄⟩ := (S₃.perm (List.Perm.swap ..)).freezeT hx
  obtain ⟨t₅, x5, a5, S₅⟩ := (S₄.perm (List.Perm.swap ..)).freezeT hdx
  have Z : ShF prog w t₅ x dx ta tr m := ⟨a4.sub x5, a5, mt, ml, mm, sta, a3.sub (x4.tr x5), str⟩
  have x05 := x3.tr (x4.tr x5)
  repeat w_left
  rename_i s₆ S₆
  refine iter_enum S₆ (S₆.atT (p1.sub x05)) fun e it s₇ he hit S₇ => ?_
  refine for_go (it_enum (vs := pvs)) own_enum (ShJ prog w b plan x ta tk t₅) R₁ S₇ ⟨[], Sub.rfl', rfl, ⟨rfl, fun i x hi => absurd hi (Nat.not_lt_zero _)⟩, rfl, rfl⟩ ?_ ?_ ?_
  · rintro m t' mu' n' s' p ⟨kvs, h1, rfl, _⟩ S'
    exact S'.atT (p1.sub (x05.tr h1))
  · rintro m _ t₀ t' mu' n' s' hm ⟨q, tm, xv, rfl, q1, q2⟩ ⟨kvs, h1, rfl, h2, h3, h4⟩ x0 S' Eb Qb
    have hmp : m < plan.length := by rw [← hpl]; exact hm
    have hsh := h3
    obtain ⟨nd, hnd⟩ : ∃ nd, plan[m]? = some nd := ⟨_, List.getElem?_eq_getElem hmp⟩
    have rx : Rep prog w t xv (ndP nd) := p2.2 m xv _ q2 (by rw [List.getElem?_map, hnd]; rfl)
    have x1 := h1.tr x0
    refine assign_tup S' R₁ (S'.atT q1) rfl rfl fun s₈ S₈ => ?_
    repeat w_left
    rename_i s₉ S₉
    refine disp1 S₉ fun na s₁₀ hna sna S₁₀ => ?_
    repeat w_left
    refine law_object_spec (i := 0) S₁₀ R₁ (by decide) fun v0 t₁₁ s₁₁ x11 r0 S₁₁ => ?_
    repeat w_left
    refine law_object_spec (i := 9) S₁₁ R₁ (by decide) fun v9 t₁₂ s₁₂ x12 r9 S₁₂ => ?_
    repeat w_left
    refine new_lst S₁₂ (by show 2 ≤ _; decide) fun s₁₃ la hla S₁₃ => ?_
    obtain ⟨t₁₄, x14, a14, S₁₄⟩ := S₁₃.freezeT hla
    have rl : Rep prog w t₁₄ (.ref la) (limD b) := lst_rep a14 (Reps.cons ((r0.sub x12).sub x14) (Reps.cons (r9.sub x14) Reps.nil))
    refine ⟨_, _, rfl, by simp, t₁₄, _, S₁₄, fun s₁₅ S₁₅ => ?_⟩
    have x2 := x1.tr (x11.tr (x12.tr x14))
    repeat w_left
    rename_i s₁₆ S₁₆
    have dr : DRep prog w t₁₄ [("Limits", .ref la)] [("Limits", limD b)] := DRep.cons rl .nil
    refine isi S₁₆ ((rx.sub (x05.tr x2)).ty S₁₆ ndP_nb) (b := match nd with | .kids _ => true | .leaf _ => false) (by cases nd <;> kernel_rfl) fun s₁₇ S₁₇ _ => ?_
    repeat w_left
    refine ite_join (Mid := ShMid prog w mg mb b x ta na tk tm c₁ t₁₄ kvs [(e, EnuO it ((m + 1 : Nat) : Int)), (it, LitO pa (m + 1))] m nd) ?_ ?_ ?_
    · intro hc Md
      cases nd with
      | leaf r => cases hc
      | kids l =>
        obtain ⟨ra, rvs, rfl, l1, l2⟩ := rx.lst_inv
        have hll : rvs.length = l.length := by have := l2.1; simpa using this
        have hkl : kidsOf plan m = l := by unfold kidsOf; rw [hnd]
        have hl3 : l.length ≤ 3 := by have := W.wid m; rw [hkl] at this; exact this
        repeat w_left
        refine comp_list _ rfl rfl (by decide +kernel) ?_
        repeat w_left
        refine iter_list S₁₇ (S₁₇.atT (l1.sub (x05.tr x2))) fun i2 s₁₈ hi2 S₁₈ => ?_
        refine comp_go (it_list (vs := rvs)) self_list (fun q t' mu' ys => Sub t₁₄ t' ∧ mu' = (na, DctO (PySem.strKind prog w) [("Limits", .ref la)]) :: ([(e, EnuO it ((m + 1 : Nat) : Int)), (it, LitO pa (m + 1))] ++ [(ta, DctO (intKind prog w) kvs)]) ∧ ys.length ≤ q ∧ Reps prog w t' ys ((l.take q).map refD)) R₁ ⟨⟩ (by decide +kernel) rfl S₁₈ ⟨Sub.rfl', rfl, Nat.le_refl _, Reps.nil⟩ ?_ ?_ ?_ ?_ ?_
        · rintro q t' mu' ys ⟨h1, rfl, h2, h3⟩
          exact ⟨rfl, h2⟩
        · rintro q t' mu' ys c' n' s' p r ⟨h1, rfl, h2, h3⟩ S'
          exact S'.atT (l1.sub (x05.tr (x2.tr h1)))
        · rw [hll, sizeLine_eq]; omega
        · rintro q v' t₀ t' mu' ys c' s' m₀ acc E' env₂ hq hv' ⟨h1, rfl, h2, h3⟩ x0 R₂ hN₂ S' Qy Qn
          obtain ⟨j, hj⟩ : ∃ j, l[q]? = some j := ⟨_, List.getElem?_eq_getElem (by rw [← hll]; exact hq)⟩
          obtain ⟨tj, rfl⟩ := (l2.2 q v' (.int j) hv' (by rw [List.getElem?_map, hj]; rfl)).int_inv
          repeat w_left
          refine mk_Reference (by assumption) R₂ fun rv t₁₉ s₁₉ x19 rr S₁₉ => ?_
          have er : Dt.ref (10 + (j : Int)) ((j : Int).fmod 2) = refD j := by unfold refD; rw [fmod_two, Int.natCast_add]; rfl
          rw [er] at rr
          refine ⟨t₁₉, _, _, ⟨h1.tr (x0.tr x19), rfl, by rw [List.length_append]; exact Nat.succ_le_succ h2, ?_⟩, S₁₉⟩
          rw [List.take_add_one, hj, List.map_append]
          exact (h3.sub (x0.tr x19)).snoc rr
        · rintro t' mu' ys acc s' hacc ⟨h1, rfl, h2, h3⟩ S'
          rw [hll, List.take_length] at h3
          obtain ⟨t₁₉, x19, a19, S₁₉⟩ := S'.freezeT hacc
          repeat w_left
          refine set_d S₁₉ .head (strKind_is _ _ _ _) (by show 1 ≤ _; decide) fun s₂₀ S₂₀ => ?_
          repeat w_left
          have dr' := (dr.sub (h1.tr x19)).stored (k := "Kids") (lst_rep a19 (h3.sub x19))
          exact ⟨t₁₉, _, _, rfl, h1.tr x19, S₂₀, dr', hsh, h4, rfl, rfl⟩
    · intro hc Md
      cases nd with
      | kids l => cases hc
      | leaf r =>
        obtain ⟨trr, rfl⟩ := rx.int_inv
        have hr := W.leaf m r hnd
        have hpl : (leafP m r).length = r := by unfold leafP; rw [List.length_map, List.length_range]
        repeat w_left
        refine new_lst S₁₇ (by show 0 ≤ _; decide) fun s₁₈ l0 hl0 S₁₈ => ?_
        obtain ⟨t₁₉, x19, a19, S₁₉⟩ := S₁₈.freezeT hl0
        repeat w_left
        refine set_d S₁₉ .head (strKind_is _ _ _ _) (by show 1 ≤ _; decide) fun s₂₀ S₂₀ => ?_
        have dr' := (dr.sub x19).stored (k := wd b) (lst_rep (ds := []) a19 Reps.nil)
        have ed : dset [(("Limits" : Str), limD b)] (wd b) (.lst []) = ([("Limits", limD b), (wd b, .lst [])] : List (Str × Dt)) := by cases b <;> rfl
        rw [ed] at dr'
        repeat w_left
        refine iter_range1 (m := r) S₂₀ (by omega) fun i2 s₂₁ hi2 S₂₁ => ?_
        refine for_go (it_range (len := r)) (own_plain fun _ => rfl) (ShK prog w b x ta na tk tm t₁₄ kvs [(e, EnuO it ((m + 1 : Nat) : Int)), (it, LitO pa (m + 1))] m r) R₁ S₂₁ ⟨_, x19, rfl, dr', h3, h4, rfl, rfl⟩ (fun _ _ _ _ _ _ _ _ => trivial) ?_ ?_
        · rintro q v' t₀ t' mu' n' s' hq ⟨tv, hv⟩ ⟨nkvs, g1, rfl, g2, g3, g4, g5, g6⟩ x0 S' Eb Qb
          rw [zi] at hv
          subst hv
          have g2' := g2.sub x0
          obtain ⟨lv, k1, k2⟩ := g2'.at (k := wd b) (by rw [dAt_ne (by cases b <;> decide), dAt_eq])
          obtain ⟨lva, lvs, rfl, k3, k4⟩ := k2.lst_inv
          have hlv : lvs.length ≤ 4 := by rw [k4.1, flatR_len, List.length_take]; omega
          repeat w_left
          rename_i s₂₂ S₂₂
          refine item_d S₂₂ (S₂₂.atM (.tail _ (.head _))) (strKind_is _ _ _ _) k1 fun s₂₃ S₂₃ _ => ?_
          repeat w_left
          refine law_object_spec S₂₃ R₁ (by omega) fun ov t₂₄ s₂₄ x24 ro S₂₄ => ?_
          repeat w_left
          refine mul_small (a := 100) (b := m) (by decide) fun u => ?_
          repeat w_left
          refine new_lst (by assumption) (by show 2 ≤ _; decide) fun s₂₅ lb hlb S₂₅ => ?_
          repeat w_left
          refine add_l S₂₅ (S₂₅.atT (k3.sub x24)) (S₂₅.atM (.head _)) (by rw [sizeLine_eq]; simp; omega) fun r' s₂₆ hr' S₂₆ => ?_
          repeat w_left
          obtain ⟨t₂₇, x27, a27, S₂₇⟩ := S₂₆.freezeT hr'
          refine set_d S₂₇ (.tail (.tail .head)) (strKind_is _ _ _ _) (by rw [g2'.len]; show 2 ≤ _; decide) fun s₂₈ S₂₈ => ?_
          repeat w_left
          have gp : (leafP m r)[q]? = some (q, ((100 * m + q : Nat) : Int)) := by unfold leafP; rw [List.getElem?_map, List.getElem?_range hq]; rfl
          have e1 : (leafP m r).take (q + 1) = (leafP m r).take q ++ [(q, ((100 * m + q : Nat) : Int))] := by rw [List.take_add_one, gp]; rfl
          have rr : Rep prog w t₂₇ (.ref r') (.lst (flatR b ((leafP m r).take (q + 1)))) := by
            rw [e1, flatR_snoc]
            refine lst_rep a27 ((k4.sub (x24.tr x27)).append (Reps.cons (ro.sub x27) (Reps.cons ?_ Reps.nil)))
            simp only [Int.natCast_add]
            exact .int _ _
          have dr2 := (g2'.sub (x24.tr x27)).stored (k := wd b) rr
          have ed : ∀ (l l' : List Dt), dset [(("Limits" : Str), limD b), (wd b, .lst l)] (wd b) (.lst l') = ([("Limits", limD b), (wd b, .lst l')] : List (Str × Dt)) := fun l l' => by cases b <;> rfl
          rw [ed] at dr2
          refine ⟨t₂₇, _, n'.set "turn" (.int (q : Int) tv), ⟨_, g1.tr (x0.tr (x24.tr x27)), rfl, dr2, g3, g4, g5, g6⟩, ?_⟩
          have S₂₉ := S₂₈.sub (List.sublist_cons_self ..)
          exact S₂₉
        · rintro t' mu' n' s' ⟨nkvs, g1, rfl, g2, g3, g4, g5, g6⟩ S'
          rw [List.take_of_length_le (Nat.le_of_eq hpl)] at g2
          repeat w_left
          exact ⟨t', nkvs, n', rfl, g1, S', g2, g3, g4, g5, g6⟩
    · rintro f s' ⟨t', nkvs, n', rfl, g1, S', g2, g3, g4, g5, g6⟩
      obtain ⟨t₁₈, x18, a18, S₁₈⟩ := S'.freezeT hna
      have x3 := x2.tr (g1.tr x18)
      repeat w_left
      refine meth_inst S₁₈ (S₁₈.atT (Z.x.sub x3)) (S₁₈.atT (Z.dx.sub x3)) (Z.m _ (by decide) (by decide)) (by kernel_rfl) (by kernel_rfl) (f := 334) (by kernel_rfl) (by kernel_rfl) ?_
      repeat w_left
      refine put_spec (Z.sub x3) ((by assumption : ST w mg mb c₁ t₁₈ _ _ _).perm (List.perm_middle (l₁ := [_, _]) (l₂ := []))) R₁ (by rw [h2.1]; omega) fun t₁₉ p tk' s₁₉ x19 a19 S₁₉ => ?_
      have xx := x0.tr (x11.tr (x12.tr (x14.tr (g1.tr (x18.tr x19)))))
      have h5 := h2.sub xx
      rw [show (10 : Int) + (m : Int) = ((10 + m : Nat) : Int) by omega, h5.fresh (by omega)] at S₁₉
      rw [fmod_two] at a19
      repeat w_left
      refine ⟨t₁₉, [(ta, DctO (intKind prog w) (kvs ++ [(((10 + m : Nat) : Int), .ref p)]))], n', ⟨_, h1.tr xx, rfl, ⟨by rw [List.length_append, h5.1]; rfl, fun i y hi hy => ?_⟩, g3, g4⟩, S₁₉.perm (List.perm_middle (l₁ := [_, _]) (l₂ := [])).symm⟩
      by_cases z : i < m
      · obtain ⟨g, v', tk'', q1, q2, q3⟩ := h5.2 i y z hy
        exact ⟨g, v', tk'', by rw [List.getElem?_append_left (by rw [h5.1]; exact z)]; exact q1, q2, q3⟩
      · obtain rfl : i = m := by omega
        rw [hnd] at hy
        cases hy
        exact ⟨p, .ref na, tk', by rw [List.getElem?_append_right (by rw [h5.1]; exact Nat.le_refl _), h5.1, Nat.sub_self]; rfl, a19, (g2.sub (x18.tr x19)).rep (a18.sub x19) sna⟩
  · rintro t' mu' n' s' ⟨kvs, h1, rfl, h2, h3, h4⟩ S'
    rw [hpl] at h2
    obtain ⟨t₈, x8, a8, S₈⟩ := S'.freezeT hta
    repeat w_left
    refine ret _ t₈ _ (x05.tr (h1.tr x8)) ?_ (bk.same S₈)
    have Z' := Z.sub (h1.tr x8)
    refine ⟨x, dx, ta, tr, m, kvs, rfl, Z'.x, Z'.dx, Z'.tb, Z'.tl, Z'.m, a8, Z'.st, Z'.e, Z'.se, by unfold nodesD; rw [h2.1, List.length_mapIdx], fun i d hd => ?_⟩
    have hi : i < plan.length := by have := (List.getElem?_eq_some_iff.mp hd).1; unfold nodesD at this; rwa [List.length_mapIdx] at this
    obtain ⟨y, hy⟩ : ∃ y, plan[i]? = some y := ⟨_, List.getElem?_eq_getElem hi⟩
    rw [nodesD_get hy] at hd
    cases hd
    exact (h2.sub x8).2 i y hi hy
end
end
section
open PySem PySem.W PyProof.Rows PySem.Calls
section
variable {prog : Program} {w : World} {mg mb : Str → Option Value} {A : Around} {s : Shared} {c : Cx} {t t' : Heap} {mu mu' : Mus} {n : Nm} {Q : Value → Shared → Prop} {E : Value → Shared → Prop} {env : Env} {k : Nat} {a b d D : Addr} {vs us : List Value}
theorem sorted_int {kvs : List (Int × Value)} (S : ST w mg mb c t mu n s) (Ra : Ar A env c k) (x : At s.heap d (DctO (intKind prog w) kvs)) (lo : (d == sysModules) = false) (hz : kvs.length < 64) (hp : (kvs.map (·.1)).Pairwise (· ≤ ·))
    (h : ∀ D vs s', c.N ≤ D → IntsAre vs (kvs.map (·.1)) → ST w mg mb c t ((D, LstO vs) :: mu) n s' → Q (.ref D) s') :
    wpAny (model prog w) A (call (.builtin "sorted") [.ref d]) Q E s := by
  refine sorted_start S Ra x lo (by rw [sizeLine_eq]; omega) fun D vs s₁ hD hl hv S₁ => ?_
  have hS : IntsAre vs (kvs.map (·.1)) := ints_of (by rw [hl, List.length_map]) fun j v e => by
    obtain ⟨kk, y, e1, e2⟩ := hv j v e
    refine ⟨kk, by rw [List.getElem?_map, e1]; rfl, ?_⟩
    cases v with
    | int y tk =>
      refine ⟨tk, ?_⟩
      have : y = kk := by first | exact eq_of_beq e2 | exact (eq_of_beq e2).symm
      rw [this]
    | _ => cases e2
  obtain ⟨o, e, rfl⟩ := S₁.inMu (.head _)
  refine wpAny_call_entry slot_list_sort ⟨_, e, rfl⟩ entry_list_sort (list_sort_tree e hS (by omega) fun out ns' a1 a2 a3 => ⟨_, rfl, ?_⟩) (args_list_sort _)
  obtain ⟨e', he'⟩ := sortedHeap_at (vs := vs) (out := out) e
  have ens : ns' = kvs.map (·.1) := lks_uniq a2 a3 hp
  subst ens
  exact h D out.toList _ hD a1 (S₁.write (k := s₁.toks) .head (fun b x hb q => (sortedHeap_old hb (Heap.lt_size q)).trans q) he' ⟨e', by unfold seqObj; rw [Array.toArray_toList]⟩)
end
end
section
open PySem PySem.W PyProof.Rows PySem.Calls
section
variable {prog : Program} {w : World} {mg mb : Str → Option Value} {t t' : Heap} {b : Bool} {A : Around} {s : Shared} {c : Cx} {mu : Mus} {n : Nm} {Q E : Value → Shared → Prop} {env : Env} {k : Nat} {v sh : Value} {tk ti : Tok} {nodes es : List Dt}
theorem numbers_spec (Z : IsShelf prog w t sh nodes) (hz : nodes.length < 60) (S : ST w mg mb c t mu n s) (Ra : Ar A env c (k + 1))
    (ret : ∀ D vs s', c.N ≤ D → IntsAre vs ((List.range nodes.length).map fun i => ((10 + i : Nat) : Int)) → ST w mg mb c t ((D, LstO vs) :: mu) n s' → Q (.ref D) s') : wpAny (model prog w) A (call (.ref 355) [sh]) Q E s := by
  refine call_def (D := []) (R := mu) (k := k) (binds := [("self", sh)]) S Ra S.1.pf.nl (at_355 S.1.pf) rfl (cr_355 S.1.pf) (BindsTo.of_eq rfl) (locs rfl) (by decide +kernel) rfl rfl rfl ?_
  intro c₁ s₁ env₁ A₁ n₀ e0 hN _ S₁ R₁ bk Q₁ E₁
  refine w_cons ?_
  intro K₀
  obtain ⟨x, dx, ta, tr, m, kvs, rfl, z2, z3, z4, z5, z6, z7, z8, z9, z10, z11, z12⟩ := Z
  have hk : kvs.map (·.1) = (List.range nodes.length).map fun i => ((10 + i : Nat) : Int) := by
    apply List.ext_getElem?
    intro i
    rw [List.getElem?_map, List.getElem?_map]
    by_cases hi : i < nodes.length
    · obtain ⟨_, _, _, q, _⟩ := z12 i _ (List.getElem?_eq_getElem hi)
      rw [q, List.getElem?_range hi]; rfl
    · rw [List.getElem?_eq_none (by rw [z11]; omega), List.getElem?_eq_none (by rw [List.length_range]; omega)]; rfl
  have hp : (kvs.map (·.1)).Pairwise (· ≤ ·) := by
    rw [hk, List.pairwise_map]
    exact List.Pairwise.imp (fun h => by omega) List.pairwise_lt_range
  repeat w_left
  refine get_inst S₁ (S₁.atT z2) (S₁.atT z3) z4 (by kernel_rfl) (by kernel_rfl) (by kernel_rfl) rfl fun s₂ S₂ _ => ?_
  repeat w_left
  refine sorted_int S₂ R₁ (S₂.atT z7) z8 (by omega) hp fun D vs s₃ hD hi S₃ => ?_
  rw [hk] at hi
  repeat w_left
  exact ret D vs _ (Nat.le_trans hN hD) hi (bk _ [(D, _)] [] [] _ _ S₃ rfl)
noncomputable def rowD (i : Nat) (e : Dt) : Dt := .tup [.int ((10 + i : Nat) : Int), .int ((i % 2 : Nat) : Int), e]
noncomputable def rowsD (es : List Dt) : List Dt := es.mapIdx rowD
theorem shelf_told_spec (Z : IsShelf prog w t sh nodes) (hz : nodes.length < 60) (hl : nodes.length = es.length) (hE : ∀ (i : Nat) d e, nodes[i]? = some d → es[i]? = some e → Told 20 d e) (S : ST w mg mb c t mu n s) (Ra : Ar A env c (k + 30))
    (ret : ∀ v' t' s', Sub t t' → Rep prog w t' v' (.tup [.tup (rowsD es), .tup [.str "dict"]]) → ST w mg mb c t' mu n s' → Q v' s') : wpAny (model prog w) A (call (.ref 367) [sh]) Q E s := by
  refine call_defC (D := []) (R := mu) (k := k + 29) (binds := [("self", sh)]) S Ra S.1.pf.nl (at_367 S.1.pf) rfl (cr_367 S.1.pf) rfl (BK.at ⟨.inr ⟨rfl, rfl⟩, trivial⟩) rfl rfl rfl ?_
  intro c₁ s₁ env₁ A₁ n₀ e0 hN hF hcs S₁ R₁ bk Q₁ E₁
  refine w_cons ?_
  intro K₀
  have Z' := Z
  obtain ⟨x, dx, ta, tr, m, kvs, rfl, z2, z3, z4, z5, z6, z7, z8, z9, z10, z11, z12⟩ := Z'
  have hval : ∀ i g, kvs[i]? = some (((10 + i : Nat) : Int), .ref g) → valueAt kvs ((10 + i : Nat) : Int) = some (.ref g) := fun i g f1 => valueAt_nth kvs 0 (fun i y hy => by
    have hi : i < nodes.length := by rw [← z11]; exact (List.getElem?_eq_some_iff.mp hy).1
    obtain ⟨_, _, _, q, _⟩ := z12 i _ (List.getElem?_eq_getElem hi)
    rw [q] at hy; cases hy; rfl) i _ f1
  repeat w_left
  refine comp_list _ rfl rfl (by decide +kernel) ?_
  repeat w_left
  refine sh_meth S₁ Z (by decide) (by decide) (f := 355) (by kernel_rfl) (by kernel_rfl) ?_
  repeat w_left
  refine numbers_spec Z hz S₁ R₁ fun D vs s₂ hD hi S₂ => ?_
  obtain ⟨t₃, x3, a3, S₃⟩ := S₂.freezeT hD
  have ri : Reps prog w t₃ vs _ := IntsAre.reps hi
  have hvl : vs.length = nodes.length := by rw [ri.1, List.length_map, List.length_map, List.length_range]
  have hrl : (rowsD es).length = nodes.length := by unfold rowsD; rw [List.length_mapIdx, hl]
  refine iter_list S₃ (S₃.atT a3) fun it s₄ hit S₄ => ?_
  refine comp_go (it_list (vs := vs)) self_list (fun q t' mu' ys => Sub t₃ t' ∧ mu' = [] ∧ ys.length ≤ q ∧ Reps prog w t' ys ((rowsD es).take q)) R₁ (by rw [hcs]; exact ⟨rfl, trivial⟩) (by decide +kernel) rfl S₄ ⟨Sub.rfl', rfl, Nat.le_refl _, Reps.nil⟩ ?_ ?_ ?_ ?_ ?_
  · rintro q t' mu' ys ⟨h1, rfl, h2, h3⟩
    exact ⟨rfl, h2⟩
  · rintro q t' mu' ys c' n' s' p r ⟨h1, rfl, h2, h3⟩ S'
    exact S'.atT (a3.sub h1)
  · rw [hvl, sizeLine_eq]; omega
  · rintro q v' t₀ t' mu' ys c' s' m₀ acc E' env₂ hq hv' ⟨h1, rfl, h2, h3⟩ x0 R₂ hN₂ S' Qy Qn
    have hqn : q < nodes.length := by rw [← hvl]; exact hq
    have hqe : q < es.length := by rw [← hl]; exact hqn
    obtain ⟨tq, rfl⟩ := (ri.2 q v' (.int ((10 + q : Nat) : Int)) hv' (by rw [List.getElem?_map, List.getElem?_map, List.getElem?_range hqn]; rfl)).int_inv
    obtain ⟨g, nv, tk₂, f1, f2, f3⟩ := z12 q _ (List.getElem?_eq_getElem hqn)
    have x1 := x3.tr (h1.tr x0)
    repeat w_left
    rename_i s₅ S₅
    refine get_inst S₅ (S₅.atT (z2.sub x1)) (S₅.atT (z3.sub x1)) z4 (by kernel_rfl) (by kernel_rfl) (by kernel_rfl) rfl fun s₆ S₆ _ => ?_
    repeat w_left
    refine item_d S₆ (S₆.atT (z7.sub x1)) (intKind_is _ _ _ _) (hval q g f1) fun s₇ S₇ _ => ?_
    repeat w_left
    refine item_t (j := 0) (S₇.atT (f2.sub x1)) (by decide) (by decide) rfl rfl ?_
    repeat w_left
    refine get_inst S₇ (S₇.atT (z2.sub x1)) (S₇.atT (z3.sub x1)) z4 (by kernel_rfl) (by kernel_rfl) (by kernel_rfl) rfl fun s₈ S₈ _ => ?_
    repeat w_left
    refine item_d S₈ (S₈.atT (z7.sub x1)) (intKind_is _ _ _ _) (hval q g f1) fun s₉ S₉ _ => ?_
    repeat w_left
    refine item_t (j := 1) (S₉.atT (f2.sub x1)) (by decide) (by decide) rfl rfl ?_
    repeat w_left
    refine told_spec (hE q _ _ (List.getElem?_eq_getElem hqn) (List.getElem?_eq_getElem hqe)) (k := k) S₉ (R₂.less (show k + 24 ≤ _ from Nat.add_le_add_left (by decide) k)) (f3.sub x1) fun ev t₁₀ s₁₀ x10 re S₁₀ => ?_
    repeat w_left
    refine new_tup S₁₀ (by show 3 ≤ _; decide) fun s₁₁ t₁₁ p x11 a11 S₁₁ => ?_
    refine ⟨t₁₁, _, _, ⟨h1.tr (x0.tr (x10.tr x11)), rfl, by rw [List.length_append]; exact Nat.succ_le_succ h2, ?_⟩, S₁₁⟩
    have gr : (rowsD es)[q]? = some (rowD q es[q]) := by unfold rowsD; rw [List.getElem?_mapIdx, List.getElem?_eq_getElem hqe]; rfl
    rw [List.take_add_one, gr]
    exact (h3.sub (x0.tr (x10.tr x11))).snoc (tup_rep a11 (Reps.cons (.int _ _) (Reps.cons (.int _ _) (Reps.cons (re.sub x11) Reps.nil))))
  · rintro t' mu' ys acc s' hacc ⟨h1, rfl, h2, h3⟩ S'
    rw [hvl, ← hrl, List.take_length] at h3
    have x1 := x3.tr h1
    repeat w_left
    refine tuple_l S' (S'.atM (.head _)) (by rw [h3.1, hrl, sizeLine_eq]; omega) fun r s₅ t₅ x5 a5 S₅ => ?_
    repeat w_left
    rename_i s₆ S₆
    refine get_inst S₆ (S₆.atT (z2.sub (x1.tr x5))) (S₆.atT (z3.sub (x1.tr x5))) z5 (by kernel_rfl) (by kernel_rfl) (by kernel_rfl) rfl fun s₇ S₇ _ => ?_
    repeat w_left
    have rt : Rep prog w t₅ (.ref tr) (.dct []) := DRep.rep DRep.nil (z9.sub (x1.tr x5)) z10
    have ht : Told 1 (.dct []) (.tup (.str "dict" :: List.zipWith (fun k e => .tup [.str k, e]) [] [])) := .dct (m := 0) (ks := []) (es := []) (fun _ => .int 0) (fun ss hp _ => List.perm_nil.mp hp) (fun k hk => (nomatch hk)) rfl (by decide) (by decide) fun i k e h => by simp at h
    refine told_spec ht (k := k) S₇ (R₁.less (show k + 5 ≤ k + 29 from Nat.add_le_add_left (by decide) k)) rt fun ev t₈ s₈ x8 re S₈ => ?_
    repeat w_left
    refine new_tup S₈ (by show 2 ≤ _; decide) fun s₉ t₉ p x9 a9 S₉ => ?_
    repeat w_left
    refine ret _ t₉ _ (x1.tr (x5.tr (x8.tr x9))) (tup_rep a9 (Reps.cons (tup_rep (a5.sub (x8.tr x9)) (h3.sub (x5.tr (x8.tr x9)))) (Reps.cons (re.sub x9) Reps.nil))) (bk.same S₉)
end
end
section
open PySem PySem.W PyProof.Rows PySem.Calls
section
variable {prog : Program} {w : World} {mg mb : Str → Option Value} {A : Around} {s : Shared} {c : Cx} {t t' : Heap} {mu mu' : Mus} {n : Nm} {Q : Value → Shared → Prop} {E : Value → Shared → Prop} {env : Env} {k : Nat} {a b d D : Addr} {vs us : List Value}
theorem evp_none (h : Q .none s) : wpAny (model prog w) A (evalPart none env) Q E s := wpAny_pure h
theorem evp_some {e : PySem.Expr} (h : wpAny (model prog w) A (eval e env) Q E s) : wpAny (model prog w) A (evalPart (some e) env) Q E s := h
theorem slice_l {value slice : PySem.Expr} {vl vu : Value} {lo hi : Option Int} (S : ST w mg mb c t mu n s) (x : s.heap.IsList a vs.toArray) (pl : IsPart vl lo) (pu : IsPart vu hi) (hz : vs.length ≤ sizeLine)
    (h : ∀ r s', c.N ≤ r → ST w mg mb c t ((r, LstO (slicePick vs.toArray lo hi none).toList) :: mu) n s' → Q (.ref r) s')
    (hs : subscripted slice false (.ref a) (.ref s.heap.objs.size) = operate [.ref s.heap.objs.size, .ref a] (getItem (.ref a) (.ref s.heap.objs.size)) := by with_unfolding_all rfl)
    (ht : ∀ r, letTemporaryGo value (.ref a) r = pure () := by intro _; with_unfolding_all rfl) :
    wpAny (model prog w) A (subscriptTail value slice (.ref a) (.ref s.heap.objs.size)) Q E { s with heap := s.heap.push { cls := .type "slice", data := .fields #[vl, vu, .none] } } := by
  refine slice_listK x pl pu ?_ hs ht (by simpa using hz)
  have S1 := (S.grow (k := s.toks) (Sub.push s.heap { cls := .type "slice", data := .fields #[vl, vu, .none] })).newMu (o := { cls := .type "list", data := .seq (slicePick vs.toArray lo hi none) }) (p := LstO (slicePick vs.toArray lo hi none).toList) ⟨0, by rw [Array.toArray_toList]⟩
  have e1 : (s.heap.push { cls := .type "slice", data := .fields #[vl, vu, .none] }).objs.size = s.heap.objs.size + 1 := Heap.size_push ..
  dsimp only at S1
  rw [e1] at S1
  exact h _ _ (Nat.le_succ_of_le S.NL) S1
theorem pick_upto {m : Nat} (h : m ≤ vs.length) : (slicePick vs.toArray none (some (m : Int)) none).toList = vs.take m := by
  rw [slicePick_upto vs.toArray m (by simpa using h)]
theorem pick_from {m : Nat} (h : m ≤ vs.length) : (slicePick vs.toArray (some (m : Int)) none none).toList = vs.drop m := by
  rw [slicePick_from vs.toArray m (by simpa using h)]
theorem pick_run {i j : Nat} (h : j ≤ vs.length) (hij : i ≤ j) : (slicePick vs.toArray (some (i : Int)) (some (j : Int)) none).toList = (vs.drop i).take (j - i) := by
  rw [slicePick_run vs.toArray i j (by simpa using h) hij]
theorem ne_nil (Ra : Ar A env c k) (x : At s.heap a (LstO vs)) (y : At s.heap b (LstO [])) (h : Q (.bool (!vs.isEmpty)) s) : wpAny (model prog w) A (compareOp .NotEq (.ref a) (.ref b)) Q E s := by
  have hu : A.units < cLine := Ra.units
  cases vs with
  | nil =>
    have := PySem.SeqAt.RcNeAt.lists (A := A) (e := fun _ => true) x.isList y.isList rfl hu (fun j h1 => absurd h1 (Nat.not_lt_zero _))
    rw [all_true] at this
    exact this prog w E Q h
  | cons v vs => exact (PySem.SeqAt.RcNeAt.lists_lengths (A := A) x.isList y.isList (by simp) hu) prog w E Q h
theorem eq_nil (Ra : Ar A env c k) (x : At s.heap a (LstO vs)) (y : At s.heap b (LstO [])) (h : Q (.bool vs.isEmpty) s) : wpAny (model prog w) A (compareOp .Eq (.ref a) (.ref b)) Q E s := by
  have hu : A.units < cLine := Ra.units
  cases vs with
  | nil =>
    have := PySem.SeqAt.RcAt.lists (A := A) (e := fun _ => true) x.isList y.isList rfl hu (fun j h1 => absurd h1 (Nat.not_lt_zero _))
    rw [all_true] at this
    exact this prog w E Q h
  | cons v vs => exact (PySem.SeqAt.RcAt.lists_lengths (A := A) x.isList y.isList (by simp) hu) prog w E Q h
theorem unpack_t {Q : List Value → Shared → Prop} {m : Nat} (S : ST w mg mb c t mu n s) (Ra : Ar A env c k) (x : At s.heap a (TupO vs)) (hm : m = vs.length)
    (h : ∀ s', ST w mg mb c t mu n s' → Q vs s') : wpAny (model prog w) A (unpackItems (.ref a) m none) Q E s := by
  subst hm
  have y : s.heap.IsTuple a vs.toArray := by obtain ⟨_, e, n, rfl⟩ := x; exact ⟨_, e, rfl, n, rfl⟩
  refine wpAny_unpackItems_tuple (items := vs.toArray) Ra.hd y fun h' hs => ?_
  exact h _ (S.grow fun b o e => hs b o (fun z => by rw [z] at e; exact absurd (Heap.lt_size e) (Nat.lt_irrefl _)) e)
end
end
open PySem PySem.W PyProof.Rows PySem.Calls
local macro_rules | `(tactic| w_left) => `(tactic| first
  | ((with_reducible show wpAny _ _ (evalPart _ _) _ _ _); first
    | (with_reducible refine evp_none ?_)
    | (with_reducible refine evp_some ?_)))
section
open PySem PySem.W PyProof.Rows PySem.Calls
theorem nz {m : Nat} (h : 0 < m) : (m : Int) ≠ 0 := by omega
theorem fmod_nat {m : Nat} (hm : 0 < m) (x : Int) : ∃ r : Nat, r < m ∧ x.fmod (m : Int) = (r : Int) := by
  have h1 : 0 ≤ x.fmod (m : Int) := Int.fmod_nonneg_of_pos x (by omega)
  have h2 : x.fmod (m : Int) < (m : Int) := Int.fmod_lt_of_pos x (by omega)
  exact ⟨(x.fmod (m : Int)).toNat, by omega, by omega⟩
theorem fdiv_nat {m : Nat} (hm : 0 < m) (x : Int) (hx : 0 ≤ x) : ∃ r : Nat, x.fdiv (m : Int) = (r : Int) := by
  obtain ⟨y, rfl⟩ := Int.eq_ofNat_of_zero_le hx
  exact ⟨y / m, by rw [Int.fdiv_eq_ediv_of_nonneg _ (by omega)]; rfl⟩
section
variable {prog : Program} {w : World} {mg mb : Str → Option Value} {t t' : Heap} {b : Bool} {A : Around} {s : Shared} {c : Cx} {mu : Mus} {n : Nm} {Q E : Value → Shared → Prop} {env : Env} {k : Nat} {v sh : Value} {tk ti : Tok}
noncomputable abbrev urnL (ca : Addr) (a r : Nat) (ta tr : Tok) : List (Str × Value) := [("cells", .ref ca), ("at", .int (a : Int) ta), ("rest", .int (r : Int) tr)]
/-- an urn: its place is at most cap -/
noncomputable def UrnP (prog : Program) (w : World) (ca : Addr) (cap : Nat) : Obj → Prop := fun o => ∃ a r ta tr, a ≤ cap ∧ DctO (PySem.strKind prog w) (urnL ca a r ta tr) o
noncomputable def Cells (t : Heap) (ca : Addr) : Prop := ∃ cvs cns, At t ca (LstO cvs) ∧ IntsAre cvs cns ∧ cvs.length ≤ 63
theorem Cells.sub {ca : Addr} (x : Sub t t') (h : Cells t ca) : Cells t' ca := let ⟨a, b, c, d, e⟩ := h; ⟨a, b, c.sub x, d, e⟩
theorem St.openU {ua ca : Addr} {cap : Nat} (S : ST w mg mb c t ((ua, UrnP prog w ca cap) :: mu) n s) : ∃ a r ta tr, a ≤ cap ∧ ST w mg mb c t ((ua, DctO (PySem.strKind prog w) (urnL ca a r ta tr)) :: mu) n s := by
  obtain ⟨o, e, a, r, ta, tr, h1, h2⟩ := S.inMu (.head _)
  exact ⟨a, r, ta, tr, h1, S.1.write .head (fun _ _ _ e => e) e h2, S.2⟩
theorem St.closeU {ua ca : Addr} {cap a r : Nat} {ta tr : Tok} (S : ST w mg mb c t ((ua, DctO (PySem.strKind prog w) (urnL ca a r ta tr)) :: mu) n s) (h : a ≤ cap) : ST w mg mb c t ((ua, UrnP prog w ca cap) :: mu) n s :=
  S.weak .head fun o q => ⟨a, r, ta, tr, h, q⟩
theorem urn_rest {ca : Addr} {a r r' : Nat} {ta tr tr' : Tok} : stored (urnL ca a r ta tr) "rest" (.int (r' : Int) tr') = urnL ca a r' ta tr' := by
  rfl
theorem urn_at {ca : Addr} {a r a' : Nat} {ta tr ta' : Tok} : stored (urnL ca a r ta tr) "at" (.int (a' : Int) ta') = urnL ca a' r ta' tr := by
  rfl
theorem ints_at : ∀ {vs : List Value} {xs : List Int}, IntsAre vs xs → ∀ {i : Nat}, i < vs.length → ∃ y tk, vs[i]? = some (Value.int y tk) := by
  intro vs xs h
  induction h with
  | nil => intro i hi; cases hi
  | cons x tk _ ih =>
    intro i hi
    cases i with
    | zero => exact ⟨x, tk, rfl⟩
    | succ i => exact ih (Nat.lt_of_succ_lt_succ hi)
theorem half_big {A : Around} {s : Shared} {Q E : Value → Shared → Prop} {a b : Nat} {t1 t2 : Tok} (hb : b < 10000) (hb0 : b ≠ 0) (h : ∀ u, Q (.int ((a / b : Nat) : Int) u) { s with toks := s.toks + 1 }) : wpAny (model prog w) A (binaryOp .FloorDiv (.int a t1) (.int b t2)) Q E s := by
  refine floordiv_int (by omega) ?_ (Or.inl (PyProof.noPylong_small (by omega)))
  have : (a : Int).fdiv (b : Int) = ((a / b : Nat) : Int) := by rw [Int.fdiv_eq_ediv_of_nonneg _ (by omega)]; rfl
  rw [this]; exact h _
theorem law_lot_spec {ua ca : Addr} {cap m : Nat} (C : Cells t ca) (sua : (ua == sysModules) = false) (S : ST w mg mb c t ((ua, UrnP prog w ca cap) :: mu) n s) (Ra : Ar A env c (k + 2)) (hm : 0 < m) (hm2 : m ≤ 100) (hc : cap ≤ 1000)
    (ret : ∀ (r : Nat) u s', r < m → ST w mg mb c t ((ua, UrnP prog w ca (cap + 1)) :: mu) n s' → Q (.int (r : Int) u) s') : wpAny (model prog w) A (call (.ref 524) [.ref ua, .int (m : Int) tk]) Q E s := by
  refine call_def (D := [(ua, UrnP prog w ca cap)]) (R := mu) (k := k + 1) (binds := [("urn", .ref ua), ("many", .int (m : Int) tk)]) S Ra S.1.pf.nl (at_524 S.1.pf) rfl (cr_524 S.1.pf) (BindsTo.of_eq rfl) (locs rfl) (by decide +kernel) rfl rfl rfl ?_
  intro c₁ s₁ env₁ A₁ n₀ e0 hN _ S₁ R₁ bk Q₁ E₁
  obtain ⟨a, r, ta, tr, ha, S₂⟩ := S₁.openU
  clear S₁
  obtain ⟨cvs, cns, c1, c2, c3⟩ := C
  have fin : ∀ {t' : Heap} {mu' : Mus} {n' : Nm} {s' : Shared} {a' r' : Nat} {ta' tr' : Tok}, Sub t t' → a' ≤ cap + 1 → ST w mg mb c₁ t' ((ua, DctO (PySem.strKind prog w) (urnL ca a' r' ta' tr')) :: mu') n' s' → ST w mg mb c t ((ua, UrnP prog w ca (cap + 1)) :: mu) n s' :=
    fun x h S' => St.shrink (bk _ [] [(ua, UrnP prog w ca (cap + 1))] _ _ _ (S'.closeU h) rfl) S.1.base x S.1.pf
  refine w_cons ?_
  intro K₀
  repeat w_left
  refine item_d S₂ (S₂.atM (.head _)) (strKind_is _ _ _ _) rfl fun s₃ S₃ _ => ?_
  repeat w_left
  by_cases hr : 0 < r
  · refine PySem.W.ite_pos (by simpa using hr) ?_
    repeat w_left
    refine item_d S₃ (S₃.atM (.head _)) (strKind_is _ _ _ _) rfl fun s₄ S₄ _ => ?_
    repeat w_left
    refine PyProof.Rows.mod_int' (nz hm) ?_
    obtain ⟨q, hq, eq⟩ := fmod_nat hm (r : Int)
    rw [eq]
    repeat w_left
    rename_i s₅ S₅
    refine item_d S₅ (S₅.atM (.head _)) (strKind_is _ _ _ _) rfl fun s₆ S₆ _ => ?_
    repeat w_left
    refine PyProof.Rows.floordiv_int (nz hm) ?_ (Or.inl (PyProof.noPylong_small (by omega)))
    obtain ⟨q', eq'⟩ := fdiv_nat hm (r : Int) (Int.natCast_nonneg _)
    rw [eq']
    repeat w_left
    refine set_d (by assumption) .head (strKind_is _ _ _ _) (by show 3 ≤ _; decide) fun s₇ S₇ => ?_
    rw [urn_rest] at S₇
    repeat w_left
    exact ret q _ _ hq (fin Sub.rfl' (by omega) S₇)
  · refine PySem.W.ite_neg (by simpa using hr) ?_
    repeat w_left
    refine item_d S₃ (S₃.atM (.head _)) (strKind_is _ _ _ _) rfl fun s₄ S₄ _ => ?_
    repeat w_left
    refine item_d S₄ (S₄.atM (.head _)) (strKind_is _ _ _ _) rfl fun s₅ S₅ _ => ?_
    repeat w_left
    refine new_tup S₅ (by show 2 ≤ _; decide) fun s₆ t₆ p x₆ hp S₆ => ?_
    repeat w_left
    refine unpack_t S₆ (by assumption) (S₆.atT hp) rfl fun s₇ S₇ => ?_
    repeat w_left
    rename_i s₈ S₈
    refine set_d S₈ .head (strKind_is _ _ _ _) (by show 3 ≤ _; decide) fun s₉ S₉ => ?_
    rw [show (a : Int) + 1 = ((a + 1 : Nat) : Int) from rfl, urn_at] at S₉
    repeat w_left
    refine len_l S₉ (S₉.atT (c1.sub x₆)) (sz1 c3 (by decide)) fun s₁₀ tk₁₀ S₁₀ _ => ?_
    repeat w_left
    by_cases hge : cvs.length ≤ a
    · refine PySem.W.ite_pos (by simpa using hge) ?_
      repeat w_left
      refine mul_small (a := 5) (b := a) (by decide) fun u₁ => ?_
      repeat w_left
      refine mul_small (a := a) (b := a) (by omega) fun u₂ => ?_
      repeat w_left
      refine half_big (b := 7) (by decide) (by decide) fun u₃ => ?_
      repeat w_left
      refine new_lst S₁₀ (by show 0 ≤ _; decide) fun s₁₁ el hel S₁₁ => ?_
      repeat w_left
      refine ne_nil (by assumption) (S₁₁.atT (c1.sub x₆)) (S₁₁.atM (.head _)) ?_
      refine wpAny_truthy_bool ?_
      refine ite_join (Mid := fun v s' => (∃ y tk, v = Value.int y tk) ∧ ∃ tt nn, nn.m "many" = some (Value.int (m : Int) tk) ∧ ST w mg mb c₁ t₆ ((el, LstO []) :: [(ua, DctO (PySem.strKind prog w) (urnL ca (a + 1) r tt tr))]) nn s') (fun hb => ?_) (fun hb => ?_) ?_
      · intro Md
        have hne : 0 < cvs.length := by cases cvs with | nil => simp at hb | cons => exact Nat.succ_pos _
        repeat w_left
        refine len_l S₁₁ (S₁₁.atT (c1.sub x₆)) (sz1 c3 (by decide)) fun s₁₂ tk₁₂ S₁₂ _ => ?_
        repeat w_left
        refine PyProof.Rows.mod_int' (nz hne) ?_
        obtain ⟨q, hq, eq⟩ := fmod_nat hne (a : Int)
        rw [eq]
        obtain ⟨y, tky, hy⟩ := ints_at c2 hq
        refine item_l (S₁₂.atT (c1.sub x₆)) (i := (q : Int)) (Int.natCast_nonneg _) (by omega) (by rw [Int.toNat_natCast]; exact hy) ⟨⟨y, tky, rfl⟩, _, _, rfl, S₁₂⟩
      · intro Md
        repeat w_left
        exact ⟨⟨_, _, rfl⟩, _, _, rfl, S₁₁⟩
      · intro v s₁₂ hv
        obtain ⟨⟨y, tky, rfl⟩, tt, nn, hnn, S₁₂⟩ := hv
        repeat w_left
        refine PyProof.Rows.mod_int' (nz hm) ?_
        obtain ⟨q, hq, eq⟩ := fmod_nat hm (((5 * a : Nat) : Int) + ((a * a / 7 : Nat) : Int) + y)
        rw [eq]
        exact ret q _ _ hq (fin (a' := a + 1) x₆ (by omega) (S₁₂.sub (List.sublist_cons_self ..)))
    · refine PySem.W.ite_neg (by simpa using hge) ?_
      obtain ⟨y, tky, hy⟩ := ints_at c2 (Nat.lt_of_not_le hge)
      repeat w_left
      refine item_l (S₁₀.atT (c1.sub x₆)) (i := (a : Int)) (Int.natCast_nonneg _) (by omega) (by rw [Int.toNat_natCast]; exact hy) ?_
      repeat w_left
      refine call_abs_int fun u₅ tk₅ => ?_
      repeat w_left
      refine pow_int_small (by decide) (by decide) (by decide) ?_
      repeat w_left
      by_cases hz : (if y < 0 then -y else y) < 1000000000000000000
      · refine PySem.W.ite_pos (decide_eq_true hz) ?_
        repeat w_left
        refine item_l ((by assumption : ST _ _ _ _ _ _ _ _).atT (c1.sub x₆)) (i := (a : Int)) (Int.natCast_nonneg _) (by omega) (by rw [Int.toNat_natCast]; exact hy) ?_
        repeat w_left
        refine PyProof.Rows.mod_int' (nz hm) ?_
        obtain ⟨q, hq, eq⟩ := fmod_nat hm y
        rw [eq]
        exact ret q _ _ hq (fin (a' := a + 1) x₆ (by omega) S₁₀)
      · refine PySem.W.ite_neg (by rw [decide_eq_true_eq]; exact hz) ?_
        repeat w_left
        refine item_l ((by assumption : ST _ _ _ _ _ _ _ _).atT (c1.sub x₆)) (i := (a : Int)) (Int.natCast_nonneg _) (by omega) (by rw [Int.toNat_natCast]; exact hy) ?_
        repeat w_left
        refine call_abs_int fun u₆ tk₆ => ?_
        have habs : 0 ≤ (if y < 0 then -y else y) := by split <;> omega
        have hz' : ¬(if y < 0 then -y else y) < 1000000000000000000 := hz
        generalize (if y < 0 then -y else y) = z at habs hz' ⊢
        repeat w_left
        refine pow_int_small (by decide) (by decide) (by decide) ?_
        repeat w_left
        refine PyProof.Rows.floordiv_int (nz hm) ?_ (Or.inl (PyProof.noPylong_small (by omega)))
        obtain ⟨q', eq'⟩ := fdiv_nat hm (z - 1000000000000000000) (by omega)
        rw [show (z - (10 : Int) ^ (18 : Int).toNat) = z - 1000000000000000000 from rfl, eq']
        repeat w_left
        refine set_d (by assumption) .head (strKind_is _ _ _ _) (by show 3 ≤ _; decide) fun s₁₄ S₁₄ => ?_
        rw [urn_rest] at S₁₄
        repeat w_left
        refine item_l (S₁₄.atT (c1.sub x₆)) (i := (a : Int)) (Int.natCast_nonneg _) (by omega) (by rw [Int.toNat_natCast]; exact hy) ?_
        repeat w_left
        refine call_abs_int fun u₇ tk₇ => ?_
        repeat w_left
        refine pow_int_small (by decide) (by decide) (by decide) ?_
        repeat w_left
        refine PyProof.Rows.mod_int' (nz hm) ?_
        obtain ⟨q, hq, eq⟩ := fmod_nat hm ((if y < 0 then -y else y) - 10 ^ (18 : Int).toNat)
        rw [eq]
        exact ret q _ _ hq (fin (a' := a + 1) x₆ (by omega) S₁₄)
end
end
section
open PySem PySem.W PyProof.Rows PySem.Calls
section
variable {prog : Program} {w : World} {mg mb : Str → Option Value} {t t' : Heap} {b : Bool} {A : Around} {s : Shared} {c : Cx} {mu : Mus} {n : Nm} {Q E : Value → Shared → Prop} {env : Env} {k : Nat} {v sh : Value} {tk ti : Tok}
theorem ints_take : ∀ {vs : List Value} {xs : List Int}, IntsAre vs xs → ∀ m : Nat, IntsAre (vs.take m) (xs.take m) := by
  intro vs xs h
  induction h with
  | nil => intro m; rw [List.take_nil, List.take_nil]; exact .nil
  | cons x tk _ ih =>
    intro m
    cases m with
    | zero => exact .nil
    | succ m => exact .cons x tk (ih m)
theorem law_urn_spec {sa : Addr} {vs : List Value} {xs : List Int} (S : ST w mg mb c t mu n s) (Ra : Ar A env c (k + 3)) (x : t.IsList sa vs.toArray) (hi : IntsAre vs xs) (hz : vs.length ≤ sizeLine)
    (ret : ∀ (ua ca : Addr) t' s', c.N ≤ ua → (ua == sysModules) = false → Sub t t' → Cells t' ca → ST w mg mb c t' ((ua, UrnP prog w ca 0) :: mu) n s' → Q (.ref ua) s') : wpAny (model prog w) A (call (.ref 517) [.ref sa]) Q E s := by
  refine call_def (D := []) (R := mu) (k := k + 2) (binds := [("script", .ref sa)]) S Ra S.1.pf.nl (at_517 S.1.pf) rfl (cr_517 S.1.pf) (BindsTo.of_eq rfl) (locs rfl) (by decide +kernel) rfl rfl rfl ?_
  intro c₁ s₁ env₁ A₁ n₀ e0 hN _ S₁ R₁ bk Q₁ E₁
  refine w_cons ?_
  intro K₀
  repeat w_left
  refine disp3 S₁ fun d s₂ hd sd S₂ => ?_
  repeat w_left
  refine comp_list _ rfl rfl (by decide +kernel) ?_
  repeat w_left
  refine slice_l (lo := none) (hi := some 63) (S₂) (let ⟨o, e, r⟩ := x; ⟨o, S₂.get e, r⟩) .none (.int 63 _) hz fun r s₃ hr S₃ => ?_
  rw [show (some (63 : Int)) = some ((63 : Nat) : Int) from rfl, slicePick_upto', List.toList_toArray] at S₃
  repeat w_left
  have hl : (vs.toArray.toList.take 63).length ≤ 63 := by rw [List.length_take]; omega
  have hi2 : IntsAre (vs.toArray.toList.take 63) (xs.take 63) := by simpa using ints_take hi 63
  generalize vs.toArray.toList.take 63 = us at S₃ hl hi2
  refine iter_list S₃ (S₃.atM (.head _)) fun it s₄ hit S₄ => ?_
  refine comp_go (it_list (vs := us)) self_list (fun m t' mu' ys => Sub t t' ∧ mu' = [(r, LstO us), (d, DctO (PySem.strKind prog w) [])] ∧ ys = us.take m) R₁ ⟨⟩ (by decide +kernel) rfl S₄ ⟨Sub.rfl', rfl, rfl⟩ ?_ ?_ ?_ ?_ ?_
  · rintro m t' mu' ys ⟨hx, rfl, rfl⟩
    exact ⟨rfl, by rw [List.length_take]; omega⟩
  · rintro m t' mu' ys c' n' s' p q ⟨hx, rfl, rfl⟩ S'
    exact S'.atM (List.mem_append_right _ (.tail _ (.head _)))
  · rw [sizeLine_eq]; omega
  · rintro m v t₀ t' mu' ys c' s' m₀ acc E' env₂ hm hv ⟨hx, rfl, rfl⟩ x0 R₂ hN₂ S' Qy Qn
    repeat w_left
    rename_i s₆ S₆
    obtain ⟨y, tky, hy⟩ := ints_at hi2 hm
    obtain rfl : v = .int y tky := Option.some.inj (hv.symm.trans hy)
    refine PySem.call_int_int ?_
    refine ⟨_, _, _, ⟨hx.tr x0, rfl, ?_⟩, S₆⟩
    rw [List.take_add_one, hy]
    rfl
  · rintro t' mu' ys acc s' hacc ⟨hx, rfl, rfl⟩ S'
    rw [List.take_length] at S'
    obtain ⟨t₅, x5, a5, S₅⟩ := S'.freezeT hacc
    repeat w_left
    refine ⟨_, _, _, _, _, _, rfl, rfl, rfl, by show (["cells", "at", "rest"] : List Str).Nodup; decide +kernel, t₅, [], S₅.sub (List.sublist_cons_self ..), fun s₈ S₈ => ?_⟩
    repeat w_left
    exact ret d acc t₅ _ (Nat.le_trans hN hd) sd (hx.tr x5) ⟨us, _, a5, hi2, hl⟩ (bk _ [(d, UrnP prog w acc 0)] [] [] _ _ (S₈.weak .head fun o q => ⟨0, 0, _, _, Nat.le_refl _, q⟩) rfl)
theorem and_one {rest : List PySem.Expr} {Q Mid : Bool → Shared → Prop} {cc : Bool} (h1 : cc = true → let Md : Bool → Shared → Prop := Mid; wpAny (model prog w) A (allTrue .And rest env) Md E s) (h2 : cc = false → Mid false s) (h : ∀ b s', Mid b s' → Q b s') :
    (if cc = true then wpAny (model prog w) A (allTrue .And rest env) Q E s else Q false s) := by
  cases cc with
  | true => exact wpAny_mono (h1 rfl) (fun b s' x => h b s' x) fun _ _ e => e
  | false => exact h _ _ (h2 rfl)
theorem pl1 {m r0 : Nat} (h : m = 2 + r0) (h2 : r0 < 6) : m < 2 ^ 60 ∧ m ≤ 7 ∧ 0 < m ∧ m ≤ 14 := by refine ⟨?_, ?_, ?_, ?_⟩ <;> omega
theorem pl2 {cap i m : Nat} (hc : cap ≤ 900) (hi : i < m) (hm : m ≤ 7) : cap + 1 + 5 * i + 5 ≤ 1000 := by omega
theorem pl3 {x q r : Nat} (h : x + 5 ≤ 1000) (hq : q < r) (hr : r < 4) : x + 2 + q ≤ 1000 := by omega
theorem pl4 {m i : Nat} (h : i + 1 < m) : (m : Int) - (i : Int) - 1 = ((m - i - 1 : Nat) : Int) := by omega
theorem pl5 {m i : Nat} (h : i + 1 < m) (h8 : m ≤ 7) : 0 < m - i - 1 ∧ m - i - 1 ≤ 100 := by refine ⟨?_, ?_⟩ <;> omega
theorem pl6 {m i r x : Nat} (h : r < m - i - 1) (hx : x = i + 1 + r) : i < x ∧ x < m := by refine ⟨?_, ?_⟩ <;> omega
theorem pl7 {cap i r : Nat} (h : r < 4) : cap + 1 + 5 * i + 2 + r ≤ cap + 1 + 5 * (i + 1) := by omega
theorem pl8 {cap i : Nat} : cap + 1 + 5 * i + 1 + 1 ≤ cap + 1 + 5 * (i + 1) := by omega
theorem pl9 {cap m : Nat} (h : m ≤ 7) : cap + 1 + 5 * m ≤ cap + 40 := by omega
theorem pl10 {i m : Nat} (h : decide ((i : Int) + 1 < (m : Int)) = true) : i + 1 < m := by have := of_decide_eq_true h; omega
theorem pl11 {r : Nat} (h : r < 4) : r < 2 ^ 60 ∧ r ≤ 3 ∧ r ≤ 10000 := by refine ⟨?_, ?_, ?_⟩ <;> omega
theorem pl12 {n i m : Nat} (h : n = i) (hi : i < m) (hm : m ≤ 7) : n ≤ 7 := by omega
noncomputable def PlanOK (m : Nat) (plan : List Nd) : Prop := ∀ j : Nat, (∀ l, plan[j]? = some (Nd.kids l) → l.length ≤ 3 ∧ ∀ x ∈ l, j < x ∧ x < m) ∧ ∀ r : Nat, plan[j]? = some (Nd.leaf r) → r ≤ 2
inductive PlanJ (prog : Program) (w : World) (t₁ : Heap) (pa ua ca : Addr) (cap m : Nat) (tm : Tok) (i : Nat) (t' : Heap) (mu' : Mus) (n' : Nm) : Prop
  | mk (plan : List Nd) (vs : List Value) : Sub t₁ t' → mu' = [(pa, LstO vs), (ua, UrnP prog w ca (cap + 5 * i))] → Reps prog w t' vs (plan.map ndP) → plan.length = i → PlanOK m plan → n'.own = true → n'.m "plan" = some (.ref pa) →
      n'.k "urn" = some (.ref ua) → n'.k "many" = some (.int (m : Int) tm) → PlanJ prog w t₁ pa ua ca cap m tm i t' mu' n'
theorem planOK_snoc {m : Nat} {plan : List Nd} {x : Nd} (h : PlanOK m plan) (h1 : ∀ l, x = .kids l → l.length ≤ 3 ∧ ∀ y ∈ l, plan.length < y ∧ y < m) (h2 : ∀ r, x = .leaf r → r ≤ 2) : PlanOK m (plan ++ [x]) := fun j => by
  rcases Nat.lt_trichotomy j plan.length with q | q | q
  · rw [List.getElem?_append_left q]; exact h j
  · subst q
    rw [List.getElem?_append_right (Nat.le_refl _), Nat.sub_self]
    exact ⟨fun l e => h1 l (Option.some.inj e), fun r e => h2 r (Option.some.inj e)⟩
  · have : (plan ++ [x])[j]? = none := List.getElem?_eq_none (by rw [List.length_append, List.length_singleton]; omega)
    rw [this]
    exact ⟨fun l e => (nomatch e), fun r e => (nomatch e)⟩
inductive PlanC (prog : Program) (w : World) (t₁ : Heap) (P : Mus) (ua ca : Addr) (cap m i q : Nat) (t' : Heap) (mu' : Mus) (ys : List Value) : Prop
  | mk (l : List Nat) : Sub t₁ t' → mu' = P ++ [(ua, UrnP prog w ca (cap + q))] → Reps prog w t' ys (l.map fun (j : Nat) => Dt.int (j : Int)) → l.length = q → (∀ x ∈ l, i < x ∧ x < m) → PlanC prog w t₁ P ua ca cap m i q t' mu' ys
theorem UrnP.more {ca : Addr} {cap cap' : Nat} (h : cap ≤ cap') : ∀ o, UrnP prog w ca cap o → UrnP prog w ca cap' o := fun _ ⟨a, r, ta, tr, h1, h2⟩ => ⟨a, r, ta, tr, Nat.le_trans h1 h, h2⟩
theorem law_plan_spec {ua ca : Addr} {cap : Nat} (C : Cells t ca) (sua : (ua == sysModules) = false) (S : ST w mg mb c t ((ua, UrnP prog w ca cap) :: mu) n s) (Ra : Ar A env c (k + 5)) (hc : cap ≤ 900)
    (ret : ∀ plan v t' s', WF plan → Sub t t' → Rep prog w t' v (planD plan) → ST w mg mb c t' ((ua, UrnP prog w ca (cap + 40)) :: mu) n s' → Q v s') : wpAny (model prog w) A (call (.ref 543) [.ref ua]) Q E s := by
  refine call_defC (D := [(ua, UrnP prog w ca cap)]) (R := mu) (k := k + 4) (binds := [("urn", .ref ua)]) S Ra S.1.pf.nl (at_543 S.1.pf) rfl (cr_543 S.1.pf) rfl (BK.at ⟨.inr ⟨rfl, rfl⟩, trivial⟩) rfl rfl rfl ?_
  intro c₁ s₁ env₁ A₁ n₀ e0 hN hF hcs S₁ R₁ bk Q₁ E₁
  refine w_cons ?_
  intro K₀
  repeat w_left
  refine law_lot_spec (m := 6) C sua S₁ (R₁.less (Nat.add_le_add_left (by decide) k)) (k := k) (by decide) (by decide) (by omega) fun r0 u0 s₂ hr0 S₂ => ?_
  repeat w_left
  refine new_lst S₂ (by show 0 ≤ _; decide) fun s₃ pa hpa S₃ => ?_
  repeat w_left
  rw [show (2 : Int) + (r0 : Int) = ((2 + r0 : Nat) : Int) from rfl]
  obtain ⟨m, hm⟩ : ∃ m, m = 2 + r0 := ⟨_, rfl⟩
  rw [← hm]
  refine new_tup S₃ (by show 2 ≤ _; decide) fun s₄ t₄ p x₄ a4 S₄ => ?_
  repeat w_left
  refine assign_tup S₄ (by assumption) (S₄.atT a4) rfl rfl fun s₅ S₅ => ?_
  repeat w_left
  rename_i s₆ S₆
  refine iter_range1 (m := m) S₆ (pl1 hm hr0).1 fun it s₇ hit S₇ => ?_
  refine for_go it_range (own_plain fun _ => rfl) (PlanJ prog w t₄ pa ua ca (cap + 1) m _) R₁ S₇ ⟨[], [], Sub.rfl', rfl, Reps.nil, rfl, fun j => ⟨fun l h => by simp at h, fun r h => by simp at h⟩, rfl, rfl, rfl, rfl⟩ ?_ ?_ ?_
  · intros; trivial
  · rintro i v t₀ t' mu' n' s' hi ⟨tv, hv⟩ ⟨plan, vs, h1, rfl, h2, h3, h4, h5, h6, h7, h8⟩ x0 S' Eb Qb
    rw [zi] at hv
    subst hv
    repeat w_left
    rename_i s₈ S₈
    have C' : Cells t' ca := C.sub (x₄.tr (h1.tr x0))
    have hm7 := (pl1 hm hr0).2.1
    have hA := pl2 hc hi hm7
    have urn : ∀ {m' cap' : Nat} {c' : Cx} {tk' : Tok} {P1 P2 : Mus} {n'' : Nm} {s' : Shared} {t' : Heap} {A : Around} {env : Env} {Q' E' : Value → Shared → Prop}, Cells t' ca → ST w mg mb c' t' (P1 ++ (ua, UrnP prog w ca cap') :: P2) n'' s' → Ar A env c' (k + 2) → 0 < m' → m' ≤ 100 → cap' ≤ 1000 →
        (∀ (r : Nat) u s', r < m' → ST w mg mb c' t' (P1 ++ (ua, UrnP prog w ca (cap' + 1)) :: P2) n'' s' → Q' (.int (r : Int) u) s') → wpAny (model prog w) A (call (.ref 524) [.ref ua, .int (m' : Int) tk']) Q' E' s' :=
      fun C' S' R' h1 h2 h3 h4 => law_lot_spec C' sua (S'.perm List.perm_middle) R' h1 h2 h3 fun r u s'' hr S'' => h4 r u s'' hr (S''.perm List.perm_middle.symm)
    refine and_one (Mid := fun bb s' => (bb = true → i + 1 < m) ∧ ST w mg mb c₁ t' ([(it, RitO 0 1 (m : Int) (i + 1)), (pa, LstO vs), (ua, UrnP prog w ca (cap + 1 + 5 * i + 1))]) (n'.cset "at" (.int (i : Int) tv)) s') (fun hb => ?_) (fun hb => ?_) ?_
    · intro Md
      repeat w_left
      refine urn (P1 := [_, _]) (P2 := []) (m' := 4) C' S₈ (R₁.less (Nat.add_le_add_left (by decide) k)) (by decide) (by decide) (Nat.le_trans (Nat.le_add_right _ _) hA) fun r u s₉ hr S₉ => ?_
      repeat w_left
      by_cases hr0 : 0 < r
      · refine PySem.W.ite_pos (by simpa using hr0) ?_
        repeat w_left
        exact And.intro (fun _ => pl10 hb) S₉
      · refine PySem.W.ite_neg (by simpa using hr0) ?_
        exact And.intro (fun h => by simp at h) S₉
    · exact ⟨fun h => by simp at h, S₈.weak (.tail (.tail .head)) (UrnP.more (Nat.le_add_right _ _))⟩
    · rintro bb s₉ ⟨hb, S₉⟩
      have hvl : vs.length ≤ 7 := pl12 (h2.1.trans ((List.length_map ..).trans h3)) hi hm7
      cases bb with
      | true =>
        have hb := hb rfl
        repeat w_left
        refine meth_l (S₉.atM (.tail _ (.head _))) PySem.F.slot_list_append PySem.F.type_list_append ?_
        repeat w_left
        refine comp_list _ rfl rfl (by decide +kernel) ?_
        repeat w_left
        refine urn (P1 := [_, _]) (P2 := []) (m' := 4) C' S₉ (R₁.less (Nat.add_le_add_left (by decide) k)) (by decide) (by decide) (Nat.le_trans (Nat.add_le_add_left (by decide) _) hA) fun r u s₁₀ hr S₁₀ => ?_
        repeat w_left
        refine iter_range1 (m := r) S₁₀ (pl11 hr).1 fun it' s₁₁ hit' S₁₁ => ?_
        refine comp_go it_range self_range (fun q t₆ mu' ys => PlanC prog w t' ([(it, RitO 0 1 (m : Int) (i + 1)), (pa, LstO vs)]) ua ca (cap + 1 + 5 * i + 2) m i q t₆ mu' ys) R₁ (by rw [hcs]; exact ⟨rfl, rfl, rfl, trivial⟩) (by decide +kernel) rfl S₁₁ ⟨[], Sub.rfl', rfl, Reps.nil, rfl, fun x hx => nomatch hx⟩ ?_ ?_ ?_ ?_ ?_
        · rintro q t' mu' ys ⟨l, g1, rfl, g2, g3, g4⟩
          exact ⟨rfl, by rw [g2.1, List.length_map, g3]; exact Nat.le_refl _⟩
        · intros; trivial
        · exact sz1 (pl11 hr).2.1 (by decide)
        · rintro q v t₅ t₆ mu' ys c' s' m₀ acc E' env₂ hq ⟨tv', hv'⟩ ⟨l, g1, rfl, g2, g3, g4⟩ x1 R₂ hN₂ S' Qy Qn
          rw [zi] at hv'
          subst hv'
          repeat w_left
          rename_i s₁₂ S₁₂
          rw [pl4 hb]
          refine urn (P1 := [_, _, _, _]) (P2 := []) (m' := m - i - 1) (C'.sub (g1.tr x1)) S₁₂ (R₂.less (Nat.add_le_add_left (by decide) k)) (pl5 hb hm7).1 (pl5 hb hm7).2 (pl3 hA hq hr) fun r' u' s₁₃ hr' S₁₃ => ?_
          repeat w_left
          refine ⟨t₆, _, _, ⟨l ++ [i + 1 + r'], g1.tr x1, rfl, ?_, by rw [List.length_append, g3]; rfl, ?_⟩, S₁₃⟩
          · rw [List.map_append]
            exact (g2.sub x1).snoc (.int _ _)
          · intro x hx
            rcases List.mem_append.mp hx with hx | hx
            · exact g4 x hx
            · exact pl6 hr' (List.mem_singleton.mp hx)
        · rintro t₆ mu' ys acc s' hacc ⟨l, g1, rfl, g2, g3, g4⟩ S'
          obtain ⟨t₇, x7, a7, S₁₂⟩ := S'.freezeT hacc
          repeat w_left
          refine append_l S₁₂ (.tail .head) (sz1 hvl (by decide)) fun s₁₃ S₁₃ => ?_
          repeat w_left
          refine ⟨t₇, _, n'.cset "at" (.int (i : Int) tv), ⟨plan ++ [Nd.kids l], vs ++ [.ref acc], (h1.tr x0).tr (g1.tr x7), rfl, ?_, by rw [List.length_append, h3]; rfl, planOK_snoc h4 (fun l' e => ?_) (fun r' e => nomatch e), h5, h6, h7, h8⟩, S₁₃.weak (.tail (.tail .head)) (UrnP.more (cap' := cap + 1 + 5 * (i + 1)) (pl7 hr))⟩
          · rw [List.map_append]
            exact (h2.sub (x0.tr (g1.tr x7))).snoc (lst_rep a7 (g2.sub x7))
          · cases e
            exact ⟨by rw [g3]; exact (pl11 hr).2.1, fun x hx => by rw [h3]; exact g4 x hx⟩
      | false =>
        repeat w_left
        refine meth_l (S₉.atM (.tail _ (.head _))) PySem.F.slot_list_append PySem.F.type_list_append ?_
        repeat w_left
        refine urn (P1 := [_, _]) (P2 := []) (m' := 3) C' S₉ (R₁.less (Nat.add_le_add_left (by decide) k)) (by decide) (by decide) (Nat.le_trans (Nat.add_le_add_left (by decide) _) hA) fun r u s₁₀ hr S₁₀ => ?_
        repeat w_left
        refine append_l S₁₀ (.tail .head) (sz1 hvl (by decide)) fun s₁₃ S₁₃ => ?_
        repeat w_left
        refine ⟨t', _, n'.cset "at" (.int (i : Int) tv), ⟨plan ++ [Nd.leaf r], vs ++ [.int (r : Int) u], h1.tr x0, rfl, ?_, by rw [List.length_append, h3]; rfl, planOK_snoc h4 (fun l' e => nomatch e) (fun r' e => ?_), h5, h6, h7, h8⟩, S₁₃.weak (.tail (.tail .head)) (UrnP.more (cap' := cap + 1 + 5 * (i + 1)) pl8)⟩
        · rw [List.map_append]
          exact (h2.sub x0).snoc (.int _ _)
        · cases e; exact Nat.le_of_lt_succ hr
  · rintro t' mu' n' s' ⟨plan, vs, h1, rfl, h2, h3, h4, h5, h6, h7, h8⟩ S'
    obtain ⟨t₇, x7, a7, S₁₂⟩ := S'.freezeT hpa
    refine w_cons ?_
    intro K₀
    repeat w_left
    refine ret plan _ t₇ _ ⟨fun i j hj => ?_, fun i => ?_, fun i r h => (h4 i).2 r h, by rw [h3]; exact (pl1 hm hr0).2.2.2, by rw [h3]; exact (pl1 hm hr0).2.2.1⟩ (x₄.tr (h1.tr x7)) (lst_rep a7 (h2.sub x7)) (bk _ [] [(ua, UrnP prog w ca (cap + 40))] _ _ _ (S₁₂.weak .head (UrnP.more (pl9 (pl1 hm hr0).2.1))) rfl)
    · unfold kidsOf at hj
      cases e : plan[i]? with
      | none => rw [e] at hj; cases hj
      | some x => cases x with
        | leaf r => rw [e] at hj; cases hj
        | kids l => rw [e] at hj; rw [h3]; exact ((h4 i).1 l e).2 j hj
    · unfold kidsOf
      cases e : plan[i]? with
      | none => exact Nat.zero_le _
      | some x => cases x with
        | leaf r => exact Nat.zero_le _
        | kids l => exact ((h4 i).1 l e).1
end
end
section
open PySem PySem.W PyProof.Rows PySem.Calls
section
variable {prog : Program} {w : World} {mg mb : Str → Option Value} {A : Around} {s : Shared} {c : Cx} {t t' : Heap} {mu : List (Addr × (Obj → Prop))} {n : Nm} {Q E : Value → Shared → Prop} {env : Env} {k : Nat} {b : Bool} {tk ti : Tok}
theorem gathered_spec {sh v : Value} {plan : List Nd} (S : ST w mg mb c t mu n s) (Ra : Ar A env c (k + plan.length + 8)) (Z : IsShelf prog w t sh (nodesD b plan)) (W : WF plan) (hv : Rep prog w t v (refD 0))
    (ret : (∀ i, (trace plan 0).count i ≤ 16) → ∀ v' t' s', Sub t t' → Rep prog w t' v' (wholeD b plan 0) → ST w mg mb c t' mu n s' → Q v' s')
    (err : (∃ i, 16 < (trace plan 0).count i) → ∀ e T t' s', Sub t t' → ST w mg mb c t' ((e, ExcO (.ref T)) :: (T, TbO .none) :: mu) n s' → E (.ref e) s') :
    wpAny (model prog w) A (call (.ref 512) [sh, v]) Q E s := by
  refine call_def (D := []) (R := mu) (k := k + (plan.length - 0) + 7) (binds := [("shelf", sh), ("root", v), ("way", .ref 504), ("met_places", .none)]) S (Ra.less (by omega)) S.1.pf.nl (at_512 S.1.pf) rfl (cr_512 S.1.pf) (BindsTo.of_defaults rfl (S.get (at_505 S.1.pf)) rfl rfl rfl) (locs rfl) (by decide +kernel) rfl rfl rfl ?_
  intro c₁ s₁ env₁ A₁ n₀ e0 hN hF S₁ R₁ bk Q₁ E₁
  refine w_cons ?_
  intro K₀
  repeat w_left
  refine new_tab S₁ fun s₂ d hd sd S₂ => ?_
  w_left
  rename_i s₃ S₃
  show wpAny _ _ (execs _ _) _ _ _
  refine gath_body (path := []) (cn := fun _ => 0) W W.pos (fun j hj => gath W j (W.lt _ j hj).2) S₃ R₁ hF rfl rfl rfl rfl rfl Z hv ⟨504, [], rfl, ⟨_, at_504 S.1.pf, _, rfl⟩, rfl, fun j x i h => nomatch h⟩ (fun j h => nomatch h) (Nat.zero_le _) Times.nil sd (fun _ => Nat.zero_le _)
    (fun hall v' t' xs' n' s' x r T' S' => ret (fun i => by have := hall i; omega) v' t' s' x r (bk.same S'))
    fun hx e T t' o n' s' x S' => err (let ⟨j, h⟩ := hx; ⟨j, by omega⟩) e T t' s' x (bk _ [_, _] [] [_] _ _ S' rfl)
end
end
section
open PySem PySem.W PyProof.Rows PySem.Calls
section
variable {P : Heap → Prop} {c : Cx} {t h h' : Heap} {mu mu' : List (Addr × (Obj → Prop))} {n n' : Nm}
/-- an object that stands, of this body or below it, and that nobody writes, goes into the ghost -/
theorem SH.adopt {a : Addr} {o : Obj} (PE : ∀ {g g' : Heap}, Sub g g' → P g → P g') (S : SH P c t mu n h) (e : h.get? a = some o) (hN : c.N ≤ a) (tn : t.get? a = none) (hG : a ∉ c.G) (hm : ∀ p ∈ mu, p.1 ≠ a)
    (hc : n.own = true → ∀ x b, c.cells.lookup x = some b → b ≠ a) : ∃ t', Sub t t' ∧ t'.get? a = some o ∧ (∀ b, b ≠ a → t'.get? b = t.get? b) ∧ SH P c t' mu n h := by
  have hf : o.isFreed = false := (Heap.get?_some_iff.mp e).2
  have ex : Sub t (gput t a o) := gput_sub tn
  refine ⟨gput t a o, ex, gput_self hf, fun b hb => gput_ne hb, ?_⟩
  exact { S with
    keep := fun b x q => by
      by_cases r : b = a
      · subst r
        rw [gput_self hf] at q; cases q; exact e
      · rw [gput_ne r] at q; exact S.keep b x q
    outT := fun b hb => by rw [gput_ne (fun r => by subst r; exact hG hb)]; exact S.outT b hb
    mus := fun p hp => by
      obtain ⟨f1, f2, f3, f4⟩ := S.mus p hp
      exact ⟨f1, f2, by rw [gput_ne (hm p hp)]; exact f3, f4⟩
    cel := fun x b q => by
      obtain ⟨f1, f2, f3, f4⟩ := S.cel x b q
      exact ⟨f1, f2, f3, fun z => ⟨by rw [gput_ne (hc z x b q)]; exact (f4 z).1, (f4 z).2⟩⟩
    base := fun b x q => ex b x (S.base b x q)
    new := fun b hb => by rw [gput_ne (Nat.ne_of_lt (Nat.lt_of_lt_of_le hb hN))]; exact S.new b hb
    pf := PE ex S.pf }
/-- what has been laid into the heap since then -/
theorem SH.adoptNew {a : Addr} {o : Obj} {h₀ : Heap} (PE : ∀ {g g' : Heap}, Sub g g' → P g → P g') (S₀ : SH P c t mu' n' h₀) (S : SH P c t mu n h) (hmu : mu.map (·.1) = mu'.map (·.1)) (e : h.get? a = some o) (hl : h₀.objs.size ≤ a) :
    ∃ t', Sub t t' ∧ t'.get? a = some o ∧ SH P c t' mu n h := by
  obtain ⟨t', a1, a2, _, a3⟩ := S.adopt PE e (Nat.le_trans S₀.NL hl)
    (by
      cases q : t.get? a with
      | none => rfl
      | some x => exact absurd (Heap.lt_size (S₀.keep _ _ q)) (Nat.not_lt.mpr hl))
    (fun q => absurd (S₀.G_lt q) (Nat.not_lt.mpr hl))
    (fun p hp z => by
      have : p.1 ∈ mu'.map (·.1) := hmu ▸ List.mem_map_of_mem hp
      obtain ⟨q, hq, eq⟩ := List.mem_map.mp this
      obtain ⟨⟨x, r, _⟩, _⟩ := S₀.mus q hq
      rw [eq, z] at r
      exact absurd (Heap.lt_size r) (Nat.not_lt.mpr hl))
    (fun _ x b q z => absurd (S₀.cel x b q).1.lt (by rw [z]; exact Nat.not_lt.mpr hl))
  exact ⟨t', a1, a2, a3⟩
/-- the body's cells go into the ghost: they are read only from here on -/
theorem SH.freezeCells (PE : ∀ {g g' : Heap}, Sub g g' → P g → P g') : ∀ (l : List (Str × Addr)) {t : Heap} {n : Nm}, SH P c t mu n h → n.own = false → (∀ p ∈ l, c.cells.lookup p.1 = some p.2 ∧ c.N ≤ p.2 ∧ t.get? p.2 = none) → l.Pairwise (fun x y => x.2 ≠ y.2) →
    ∃ t', Sub t t' ∧ (∀ p ∈ l, t'.IsCell p.2 (n.k p.1)) ∧ SH P c t' mu n h
  | [], t, n, S, _, _, _ => ⟨t, fun _ _ e => e, fun p hp => (nomatch hp), S⟩
  | q :: l, t, n, S, ho, hl, hp => by
    obtain ⟨q1, q2, q3⟩ := hl q (.head _)
    obtain ⟨⟨o, e1, e2⟩, f2, f3, _⟩ := S.cel _ _ q1
    obtain ⟨t₁, a1, a2, a4, a3⟩ := S.adopt PE e1 q2 q3 f2 f3 (fun z => by rw [ho] at z; cases z)
    obtain ⟨t₂, b1, b2, b3⟩ := SH.freezeCells PE l a3 ho (fun p hp' => by
      obtain ⟨r1, r2, r3⟩ := hl p (.tail _ hp')
      exact ⟨r1, r2, by rw [a4 _ (Ne.symm ((List.pairwise_cons.mp hp).1 p hp'))]; exact r3⟩) (List.pairwise_cons.mp hp).2
    refine ⟨t₂, fun b x e => b1 b x (a1 b x e), fun p hp' => ?_, b3⟩
    rcases List.mem_cons.mp hp' with rfl | hp'
    · exact ⟨o, b1 _ _ a2, e2⟩
    · exact b2 p hp'
end
section
variable {prog : Program} {w : World} {mg mb : Str → Option Value} {A : Around} {s : Shared} {c : Cx} {t t' : Heap} {mu mu' : Mus} {n : Nm} {Q : Value → Shared → Prop} {E : Value → Shared → Prop} {env : Env} {k : Nat}
theorem St.freezeCells (S : ST w mg mb c t mu n s) (ho : n.own = true) (l : List (Str × Addr)) (hl : ∀ p ∈ l, c.cells.lookup p.1 = some p.2 ∧ c.N ≤ p.2) (hp : l.Pairwise (fun x y => x.2 ≠ y.2)) :
    ∃ t', Sub t t' ∧ (∀ p ∈ l, t'.IsCell p.2 (n.k p.1)) ∧ ST w mg mb c t' mu ⟨n.m, n.k, false⟩ s := by
  obtain ⟨t', a, b, d⟩ := SH.freezeCells (fun x y => PF.mono x y) l S.1.hold rfl (fun p hp => ⟨(hl p hp).1, (hl p hp).2, ((S.1.cel _ _ (hl p hp).1).2.2.2 ho).1⟩) hp
  exact ⟨t', a, b, d, S.2⟩
noncomputable def TabC (ps : List Value) : Obj → Prop := fun o => o = tabObj ps.toArray
/-- a lambda is made: its code is laid into its maker's table -/
theorem lam_make {cc P0 : Addr} {ps : List Value} {params : Arguments} {body : PySem.Expr} {scope : Scope} {pos : Pos} {clos : List (Str × Addr)} (S : ST w mg mb c t ((P0, TabC ps) :: mu) n s) (hG : env.globals = mainGlobals) (hcode : env.code = .ref cc) (C : CodeHd t cc P0)
    (ht : TriplesOk ps) (hnf : codeAmong pos ps = none) (hcl : closureFor scope env = pure clos) (hdef : defaultsOf params env = ([], []))
    (h : ∀ f c' ctv t' s', Sub t t' → t'.get? f = some (kla_obj "<lambda>" (env.qual ++ "<lambda>") params body scope clos ((mg "__name__").getD .none) c' ctv) → t'.CodeRec (.ref c') (env.qual ++ "<lambda>") →
      ST w mg mb c t' ((P0, TabC (ps ++ [rawInt pos.line, rawInt pos.col, .ref c'])) :: mu) n s' → Q (.ref f) s') : wpAny (model prog w) A (eval (.Lambda params body scope pos) env) Q E s := by
  obtain ⟨o, e, rfl⟩ := S.inMu (.head _)
  have k := S.1.keep
  obtain ⟨bm, ob, b1, b2, b3, b4, b5, b6⟩ := S.1.pf.bm
  have hP0 := (S.1.mus _ (.head _)).2.2.1
  have hgP : mainGlobals ≠ P0 := fun q => by
    obtain ⟨o, es, ep, e', _⟩ := S.1.pf.g
    rw [q, hP0] at e'; cases e'
  have hbP : bm ≠ P0 := fun q => by rw [q, hP0] at b3; cases b3
  have hbG : bm ≠ mainGlobals := fun q => by
    obtain ⟨o, es, ep, e', hd, _⟩ := S.1.pf.g
    rw [q, e'] at b3; cases b3; rw [hd] at b6; cases b6
  refine kla_eval hdef (kla_makeFunction (mg := mg) (ps := ps.toArray) hcl hG (S.1.pf.g.keeps k) hcode (C.keeps k) e ht hnf hgP ⟨bm, ob, b1, b2, hbG, hbP, k _ _ b3, b4, b5, b6⟩ fun c' ctv h' tk hx hge hlt hrec htb => ?_)
  obtain ⟨c₂, oc, vs, tq, e2, hoc, hd, hv⟩ := hrec
  cases e2
  have S1 : SH (PF w mg mb) c t ((P0, TabC (ps ++ [rawInt pos.line, rawInt pos.col, .ref c'])) :: mu) n h' := S.1.write .head hx htb (by unfold TabC; simp)
  obtain ⟨t₁, a1, a2, S2⟩ := SH.adoptNew (fun x y => PF.mono x y) S.1 S1 rfl hoc hge
  obtain ⟨t₂, d1, d2, S3⟩ := S2.newIm (o := kla_obj "<lambda>" (env.qual ++ "<lambda>") params body scope clos ((mg "__name__").getD .none) c' ctv) (fun x y => PF.mono x y)
  exact h _ c' ctv t₂ _ (a1.tr d1) d2 ⟨c', oc, vs, tq, rfl, d1 _ _ a2, hd, hv⟩ ⟨S3, S.2⟩
/-- a lambda is made anew: its code is found -/
theorem lam_hit {cc P0 c' : Addr} {ps : List Value} {params : Arguments} {body : PySem.Expr} {scope : Scope} {pos : Pos} {clos : List (Str × Addr)} (S : ST w mg mb c t mu n s) (hm : (P0, TabC ps) ∈ mu) (hG : env.globals = mainGlobals) (hcode : env.code = .ref cc) (C : CodeHd t cc P0)
    (ht : TriplesOk ps) (hf : codeAmong pos ps = some (.ref c')) (hcl : closureFor scope env = pure clos) (hdef : defaultsOf params env = ([], []))
    (h : ∀ f ctv t' s', Sub t t' → t'.get? f = some (kla_obj "<lambda>" (env.qual ++ "<lambda>") params body scope clos ((mg "__name__").getD .none) c' ctv) →
      ST w mg mb c t' mu n s' → Q (.ref f) s') : wpAny (model prog w) A (eval (.Lambda params body scope pos) env) Q E s := by
  obtain ⟨o, e, rfl⟩ := S.inMu hm
  have k := S.1.keep
  obtain ⟨bm, ob, b1, b2, b3, b4, b5, b6⟩ := S.1.pf.bm
  have hP0 := (S.1.mus _ hm).2.2.1
  have hbP : bm ≠ P0 := fun q => by rw [q, hP0] at b3; cases b3
  have hbG : bm ≠ mainGlobals := fun q => by
    obtain ⟨o, es, ep, e', hd, _⟩ := S.1.pf.g
    rw [q, e'] at b3; cases b3; rw [hd] at b6; cases b6
  refine kla_eval hdef (kla_makeFunctionHit (mg := mg) (ps := ps.toArray) hcl hG (S.1.pf.g.keeps k) hcode (C.keeps k) e ht hf ⟨bm, ob, b1, b2, hbG, hbP, k _ _ b3, b4, b5, b6⟩ fun ctv h' tk hk hsz => ?_)
  obtain ⟨t₂, d1, d2, S3⟩ := (S.1.grow hk).newIm (o := kla_obj "<lambda>" (env.qual ++ "<lambda>") params body scope clos ((mg "__name__").getD .none) c' ctv) (fun x y => PF.mono x y)
  exact h _ ctv t₂ _ d1 d2 ⟨S3, S.2⟩
/-- a lambda is called: its cells stand in the ghost -/
theorem lam_call {D R : Mus} {f : Addr} {c' : Addr} {ctv pm : Value} {qual : Str} {params : Arguments} {body : PySem.Expr} {scope : Scope} {clos : List (Str × Addr)} {kv : Str → Option Value} (S : ST w mg mb c t (D ++ R) n s) (Ra : Ar A env c (k + 1))
    (ho : t.get? f = some (kla_obj "<lambda>" qual params body scope clos pm c' ctv)) (hcd : t.CodeRec (.ref c') qual) (hbind : bindArgs (kla_fn "<lambda>" qual params body scope clos pm (.ref c') ctv) ⟨[], []⟩ = pure [])
    (hkv : ∀ x a, clos.lookup x = some a → t.IsCell a (kv x)) (hcell : ∀ x ∈ scope.names, x.2 ≠ .cell) (hco : scope.isCoroutine = false) (hgen : scope.isGenerator = false) (hk : scope.kind = .function)
    (h : ∀ (c₁ : Cx) s₁, let env₁ : Env := envX qual scope c₁.L f (.ref c') clos; let A₁ : Around := A.deeper env₁; let n₁ : Nm := ⟨fun _ => none, kv, false⟩; c₁.t₀ = t → c.N ≤ c₁.N → A₁.frames = some (env₁ :: c₁.outer) → St (PF w mg mb) c₁ t D n₁ s₁ → Ar A₁ env₁ c₁ k → Back (PF w mg mb) c t D R n c₁ →
      let E₁ : Value → Shared → Prop := fun e s' => wpAny (model prog w) A₁ (leaving env₁ e) (fun _ s'' => E e s'') (fun e' s'' => E e' s'') s'
      wpAny (model prog w) A₁ (eval body env₁) Q E₁ s₁) :
    wpAny (model prog w) A (call (.ref f) []) Q E s := by
  have kp := S.1.keep
  obtain ⟨fe, hfr, hff, hfk⟩ := Ra.fr
  refine wpAny_call ?_
  refine kla_callFunE Ra.room (kp _ _ ho) rfl hco hgen rfl (hcd.keeps kp) ?_
  rw [hbind]
  refine wpAny_pure (wpAny_newFunctionEnv hcell (fun y hy => nomatch hy) (fun h₁ hns hsb => ⟨((S.1.pf.nl).keeps kp).fresh _ hsb, ?_⟩) hk)
  have hk₁ : Sub s.heap h₁ := fun b o e => hsb.extBut b o (Nat.ne_of_lt (Heap.lt_size e)) (Heap.get?_push_of_some _ e)
  have U : Under c t s.heap D (c.call t s.heap fe D clos) := .call hff
  have S₁ : SH (PF w mg mb) (c.call t s.heap fe D clos) t D ⟨fun _ => none, kv, false⟩ h₁ :=
    S.1.enter U hk₁ (Nat.le_refl _) (by simp at hns; exact hns) (fun x a e => by
      have ic := hkv x a e
      obtain ⟨o, i1, i2⟩ := ic
      have lt := Heap.lt_size (kp _ _ i1)
      refine ⟨⟨o, hk₁ _ _ (kp _ _ i1), i2⟩, fun q => ?_, fun p hp z => ?_, fun z => nomatch z⟩
      · rcases List.mem_cons.mp q with rfl | q
        · exact Nat.lt_irrefl _ lt
        · rw [Cx.call_F hff] at q
          rcases List.mem_cons.mp q with rfl | q
          · exact Nat.lt_irrefl _ lt
          · have := S.1.outT _ (Cx.FG q)
            rw [i1] at this; cases this
      · obtain ⟨_, _, this, _⟩ := S.1.mus p (List.mem_append_left _ hp)
        rw [z, i1] at this; cases this) (fun z => nomatch z) (FrObj.of_ns hns) fun e he => by
      rcases List.mem_cons.mp he with rfl | he
      · exact ⟨hfk, c.L, hff, S.1.meD⟩
      · exact S.1.outerD e he
  refine kla_codeExpr (h (c.call t s.heap fe D clos) _ rfl S.1.NL (by show A.frames.map _ = _; rw [hfr]; rfl) ⟨S₁, S.2⟩ ⟨Ra.hd, ⟨_, by show A.frames.map _ = _; rw [hfr]; rfl, rfl, hk⟩, rfl, hk, rfl, rfl, rfl, rfl, ?_, ?_⟩ fun t' X D' J n' s' S' hD => ⟨S.1.leave U S'.1 (fun a h => hD ▸ h) (SH.news U S'.1 hD), S'.2⟩)
  · have := Ra.dp; show A.depth + 1 + k < 900; omega
  · have := Ra.un; show A.units + 3 + 20 * k < 9000; omega
theorem item_last {value slice : PySem.Expr} {a : Addr} {vs : List Value} {u : Tok} {v : Value} (x : At s.heap a (LstO vs)) (h1 : 1 ≤ vs.length) (hv : vs[vs.length - 1]? = some v) (h : Q v s)
    (hs : subscripted slice false (.ref a) (.int (-1) u) = operate [.ref a, .int (-1) u] (getItem (.ref a) (.int (-1) u)) := by with_unfolding_all rfl) :
    wpAny (model prog w) A (subscriptTail value slice (.ref a) (.int (-1) u)) Q E s :=
  tail_any x.isList.typeIs slot_list_getitem.lookup (wpAny_getItem_list_neg x.isList (by decide) (by rw [List.size_toArray]; omega) (by decide) (by
    rw [List.size_toArray, show ((-1 : Int) + (vs.length : Int)).toNat = vs.length - 1 by omega]; simpa using hv) h) hs
theorem own_list {l it : Addr} {vs : List Value} {elts : List PySem.Expr} {x1 : Nat} {pos : Pos} (hr : ∀ (i : Nat) v, vs[i]? = some v → ∃ T, v = .ref T) :
    OwnOK prog w mg mb (.Tuple elts x1 pos) it (fun i => [(it, LitO l i)]) (plainO fun i => [(it, LitO l i)]) (fun i _ v => vs[i]? = some v) := ⟨fun {A c t mu n s i v Q E} S hv h => by
  obtain ⟨T, rfl⟩ := hr _ _ hv
  obtain ⟨o, e, hc, hd⟩ := S.inMu (.head _)
  exact wpAny_letOwnedTupleGo_listiter ⟨o, e, hc, hd⟩ (h _ S)⟩
end
end
section
open PySem PySem.W PyProof.Rows PySem.Calls
/-- what a lambda answers: it answers d, or a TreeFault flies -/
noncomputable def Asks (prog : Program) (w : World) (mg mb : Str → Option Value) (t₀ : Heap) (f : Addr) (j : Nat) (Good : Prop) (d : Dt) : Prop :=
  ∀ {A : Around} {s : Shared} {c : Cx} {t : Heap} {mu : Mus} {n : Nm} {Q E : Value → Shared → Prop} {env : Env}, Sub t₀ t → ST w mg mb c t mu n s → Ar A env c j →
    (Good → ∀ v t' s', Sub t t' → Rep prog w t' v d → ST w mg mb c t' mu n s' → Q v s') →
    (¬ Good → ∀ e T t' s', Sub t t' → ST w mg mb c t' ((e, ExcO (.ref T)) :: (T, TbO .none) :: mu) n s' → E (.ref e) s') → wpAny (model prog w) A (call (.ref f) []) Q E s
section
variable {prog : Program} {w : World} {mg mb : Str → Option Value} {A : Around} {s : Shared} {c : Cx} {t t' : Heap} {mu : List (Addr × (Obj → Prop))} {n : Nm} {Q E : Value → Shared → Prop} {env : Env} {k : Nat} {b : Bool} {tk ti : Tok}
theorem heard_spec {f : Addr} {Good : Prop} {d : Dt} (hf : ∃ o fd, t.get? f = some o ∧ o.data = .func fd) (K : Asks prog w mg mb t f k Good d) (S : ST w mg mb c t mu n s) (Ra : Ar A env c (k + 1))
    (ret : ∀ v t' s', Sub t t' → (Good → Rep prog w t' v d) → (¬ Good → Rep prog w t' v (.str "refused")) → ST w mg mb c t' mu n s' → Q v s') :
    wpAny (model prog w) A (call (.ref 572) [.ref f]) Q E s := by
  refine call_def (D := []) (R := mu) (k := k) (binds := [("ask", .ref f)]) S Ra S.1.pf.nl (at_572 S.1.pf) rfl (cr_572 S.1.pf) (BindsTo.of_eq rfl) (locs rfl) (by decide +kernel) rfl rfl rfl ?_
  intro c₁ s₁ env₁ A₁ n₀ e0 hN hF S₁ R₁ bk Q₁ E₁
  refine w_cons ?_
  intro K₀
  refine wpAny_Try_except ?_
  iterate 4 w_left
  obtain ⟨o, fd, ho, hd⟩ := hf
  refine callWith_meth0 hd (S₁.1.keep _ _ ho) ?_
  refine K Sub.rfl' S₁ R₁ (fun hg v t' s' x r S' => ?_) (fun hg e T t' s' x S' => ?_)
  · exact ret v t' s' x (fun _ => r) (fun h => absurd hg h) (bk.same S')
  · refine note_on S' R₁ hF fun s₂ T' S₂ => ?_
    refine lands S₂ fun s₃ S₃ => ?_
    refine wpAny_handleBy_cons ?_ (by intro q; cases q)
    refine codeAny_handlers_test ?_
    refine Name_function_global R₁.hk rfl (loadGlobal_global (by rw [R₁.hG]; exact S₃.1.pf.g.keeps S₃.1.keep) (n_TreeFault S.1.pf) ?_) (by decide)
    refine matches_fault S₃ ?_
    refine codeAny_handlers_suite ?_
    refine lands S₃ fun s₄ S₄ => ?_
    refine w_cons ?_
    intro K₀
    repeat w_left
    exact ret _ t' _ x (fun h => absurd h hg) (fun _ => .str _ _) (bk.same S₄)
end
end
section
open PySem PySem.W PyProof.Rows PySem.Calls
noncomputable def KitO (d : Addr) (m ep : Nat) (i : Nat) : Obj → Prop := fun o => o.cls = .type "dict_keyiterator" ∧ o.data = .fields #[.ref d, .int (i : Nat) 0, .int (m : Nat) 0, .int (ep : Nat) 0]
section
variable {prog : Program} {w : World} {mg mb : Str → Option Value}
theorem it_keys {K : Type} [DecidableEq K] {knd : KeyKind prog w K} {d it : Addr} {kvs : List (K × Value)} {ep : Nat} : ItOK prog w mg mb it (fun h => h.DictAt knd d kvs ep) (fun i => [(it, KitO d kvs.length ep i)]) (plainO fun i => [(it, KitO d kvs.length ep i)]) (fun i _ v => ∃ k x, kvs[i]? = some (k, x) ∧ knd.is k v = true) kvs.length where
  item := fun {A env c k t mu n s i Q E} Ra S ok hi h => by
    obtain ⟨o, e, hc, hd⟩ := S.inMu (.head _)
    obtain ⟨⟨kk, x⟩, hx⟩ : ∃ p, kvs[i]? = some p := ⟨kvs[i], by simp [hi]⟩
    refine wpAny_pyNext_dict_item ⟨o, e, hc, hd⟩ ok hx fun key h' hkey hit hs => ?_
    obtain ⟨o', e', hc', hd'⟩ := hit
    exact h _ t _ (fun _ _ e => e) ⟨kk, x, hx, hkey⟩ (S.write .head (fun b x hb e => (hs.2 b hb).trans e) e' ⟨hc', hd'⟩)
  last := fun {A env c k t mu n s Q E} Ra S ok h => by
    obtain ⟨o, e, hc, hd⟩ := S.inMu (.head _)
    refine wpAny_pyNext_dict_end Ra.hd ⟨o, e, hc, hd⟩ ok (by simp) fun h' hs => ?_
    exact h _ (S.dropTo hs)
theorem self_keys {d it : Addr} {m ep : Nat} : ItSelf prog w mg mb it (fun i => [(it, KitO d m ep i)]) := ⟨fun S h => by
  obtain ⟨o, e, hc, hd⟩ := S.inMu (.head _)
  exact wpAny_pyIter_keyiter ⟨o, e, hc, hd⟩ h⟩
variable {A : Around} {s : Shared} {c : Cx} {t : Heap} {mu : List (Addr × (Obj → Prop))} {n : Nm} {E Q : Value → Shared → Prop} {env : Env} {k : Nat}
theorem iter_keys {K : Type} [DecidableEq K] {knd : KeyKind prog w K} {d : Addr} {kvs : List (K × Value)} (S : ST w mg mb c t mu n s) (x : At t d (DctO knd kvs)) (lo : (d == sysModules) = false)
    (h : ∀ it ep s', c.N ≤ it → t.DictAt knd d kvs ep → ST w mg mb c t ((it, KitO d kvs.length ep 0) :: mu) n s' → Q (.ref it) s') : wpAny (model prog w) A (pyIter (.ref d)) Q E s := by
  obtain ⟨ep, da⟩ := x.dct.dictAt
  exact wpAny_pyIter_dict lo (da.keep S.1.keep) (h _ ep _ S.NL da (S.newMu (o := { cls := .type "dict_keyiterator", data := .fields #[.ref d, .int (0 : Nat) 0, .int (kvs.length : Nat) 0, .int (ep : Nat) 0] }) ⟨rfl, rfl⟩))
theorem comp_dict {kx vx target iter : PySem.Expr} {ifs : List PySem.Expr} {scope : Scope} {pos : Pos} (cl : List (Str × Addr)) (hclos : closureFor scope env = pure cl) (hkind : scope.kind = .function) (hnames : ∀ x ∈ scope.names, x.2 = .local → scope.names.lookup x.1 = some .local)
    (h : wpAny (model prog w) A (eval iter env) (fun x s₁ => wpAny (model prog w) A (pyIter x) (fun it s₂ => wpAny (model prog w) A newDict (fun acc s₃ =>
      wpAny (model prog w) A (newFunctionEnv scope env.globals cl [] env.qual none .none (some env)) (fun cenv s₄ =>
        codeAny (model prog w) A (.compStart (.DictComp kx vx [⟨target, iter, ifs, 0⟩] scope pos) 0 it acc { cenv with scope := relabel scope env }) (compPost (model prog w) A E none Q acc cenv.locals) s₄) E s₃) E s₂) E s₁) E s)
    (hs : ∀ x, foldedSetIterable iter env x = pure x := by intro _; rfl) :
    wpAny (model prog w) A (eval (.DictComp kx vx [⟨target, iter, ifs, 0⟩] scope pos) env) Q E s := by
  rw [arm_eval_DictComp]
  exact wpAny_comprehension_free (use := none) rfl hs hclos hkind hnames h
/-- a dict comprehension over an iterator that stands: J says of the turns that are done what data, objects and results there are -/
theorem comp_goD {K : Type} [DecidableEq K] {knd : KeyKind prog w K} {ok : Heap → Prop} {im : Nat → Mus} {val : Nat → Heap → Value → Prop} {len : Nat} {kx vx target iter : PySem.Expr} {ifs : List PySem.Expr} {scope : Scope} {pos : Pos} {cl : List (Str × Addr)} {it : Addr}
    (Z : ItOK prog w mg mb it ok im (plainO im) val len) (Zs : ItSelf prog w mg mb it im) (J : Nat → Heap → List (Addr × (Obj → Prop)) → List (K × Value) → Prop) (Ra : Ar A env c k)
    (hcl : AllLk c.cells cl) (hcell : ∀ y ∈ scope.names, y.2 ≠ .cell) (hkind : scope.kind = .function) (S : ST w mg mb c t (im 0 ++ mu) n s) (h0 : J 0 t mu [])
    (hJ : ∀ i t' mu' ys, J i t' mu' ys → mu'.map (·.1) = mu.map (·.1) ∧ ys.length ≤ i)
    (hok : ∀ i t' mu' ys c' n' s' p q, J i t' mu' ys → ST w mg mb c' t' (p ++ q :: mu') n' s' → ok s'.heap) (hlen : len ≤ sizeLine)
    (turn : ∀ i v t₀ t' mu' ys c' s' m₀ acc E', let env₂ : Env := compEnvC scope cl c'.loc env; i < len → val i t' v → J i t₀ mu' ys → Sub t₀ t' → Ar A env₂ c' k → c.N ≤ c'.N → ST w mg mb c' t' (im (i + 1) ++ (acc, DctO knd ys) :: mu') ⟨m₀, n.k, false⟩ s' →
      let Qy : Value → Value → Shared → Prop := fun kv y s₅ => ∃ kk t'' mu'' m'', knd.is kk kv = true ∧ J (i + 1) t'' mu'' (stored ys kk y) ∧ ST w mg mb c' t'' (im (i + 1) ++ (acc, DctO knd ys) :: mu'') ⟨m'', n.k, false⟩ s₅
      let Qn : Shared → Prop := fun s₃ => ∃ t'' mu'' m'', J (i + 1) t'' mu'' ys ∧ ST w mg mb c' t'' (im (i + 1) ++ (acc, DctO knd ys) :: mu'') ⟨m'', n.k, false⟩ s₃
      wpAny (model prog w) A (assign target env₂ v) (fun _ s₂ =>
        wpAny (model prog w) A (forIn ifs true fun c r => if r = true then do let ok ← isTrue c env₂ (eval c env₂); pure (ForInStep.yield ok) else pure (ForInStep.yield r)) (fun okk s₃ =>
          if okk = true then wpAny (model prog w) A (eval kx env₂) (fun kv s₄ => wpAny (model prog w) A (eval vx env₂) (Qy kv) E' s₄) E' s₃
          else Qn s₃) E' s₂) E' s')
    (done : ∀ t' mu' ys acc s', c.N ≤ acc → (acc == sysModules) = false → J len t' mu' ys → ST w mg mb c t' ((acc, DctO knd ys) :: mu') n s' → Q (.ref acc) s') (ht : ∀ v, letOwnedTupleGo target (.ref it) v = pure () := by intro _; rfl) :
    wpAny (model prog w) A newDict (fun acc s₃ => wpAny (model prog w) A (newFunctionEnv scope env.globals cl [] env.qual none .none (some env)) (fun cenv s₄ =>
      codeAny (model prog w) A (.compStart (.DictComp kx vx [⟨target, iter, ifs, 0⟩] scope pos) 0 (.ref it) acc { cenv with scope := relabel scope env }) (compPost (model prog w) A E none Q acc cenv.locals) s₄) E s₃) E s := by
  refine wpAny_newObj_type ?_ (by size_fits)
  have Sa := S.newMu (o := { cls := .type "dict", data := .dict #[] }) (p := DctO knd []) dctO_nil
  have hacc : c.N ≤ s.heap.objs.size := S.NL
  have hsys := S.neSys
  generalize s.heap.objs.size = acc at Sa hacc hsys ⊢
  generalize hsa : ({ s with heap := s.heap.push { cls := .type "dict", data := .dict #[] } } : Shared) = sa at Sa ⊢
  refine wpAny_newFunctionEnv hcell (by intro y hy; simp at hy) (fun h₁ hns₁ hsb₁ => ?_) hkind
  generalize hD : ((acc, DctO knd []) :: (im 0 ++ mu)) = D at Sa
  have Sd : SH (PF w mg mb) c t (D ++ []) n sa.heap := by rw [List.append_nil]; exact Sa.1
  have old : Sub sa.heap h₁ := fun b o e => hsb₁.extBut b o (Nat.ne_of_lt (Heap.lt_size e)) (Heap.get?_push_of_some _ e)
  have U : Under c t sa.heap D (c.comp t sa.heap D cl) := Under.comp
  have S₁ : SH (PF w mg mb) (c.comp t sa.heap D cl) t D ⟨fun x => ([] : List (Str × Value)).reverse.lookup x, n.k, false⟩ h₁ := Sd.enter U old (Nat.le_refl _) hns₁ (fun x a e => by
      have e' := hcl.at _ (mem_of_lookup e)
      obtain ⟨q1, q2, q3, _⟩ := Sa.1.cel x a e'
      refine ⟨q1.keeps old, fun z => ?_, q3, fun z => nomatch z⟩
      rcases List.mem_cons.mp z with rfl | z
      · exact Nat.lt_irrefl _ q1.lt
      · exact q2 (Cx.FG z)) (fun z => nomatch z) (Sa.1.me.sub old) fun e he => Sd.outerD e he
  have Ra' : Ar A (compEnvC scope cl sa.heap.objs.size env) (c.comp t sa.heap D cl) k := ⟨Ra.hd, Ra.fr, Ra.hf, hkind, rfl, rfl, Ra.hG, Ra.hB, Ra.dp, Ra.un⟩
  have hNN : c.N ≤ (c.comp t sa.heap D cl).N := Sa.NL
  have hloc : (c.comp t sa.heap D cl).loc = sa.heap.objs.size := rfl
  have end_ : ∀ t' mu' ys m' s', J len t' mu' ys → ST w mg mb (c.comp t sa.heap D cl) t' ((acc, DctO knd ys) :: mu') ⟨m', n.k, false⟩ s' →
      compPost (model prog w) A E none Q (.ref acc) sa.heap.objs.size (.ok .next) s' := fun t' mu' ys m' s' hj S' => by
    refine ⟨m', S'.1.ns, fun h' hs => ?_⟩
    have hsub : ∀ a ∈ (((acc, DctO knd ys) :: mu').map (·.1)), a ∈ D.map (·.1) := fun a ha => by
      rw [← hD]
      rw [List.map_cons, (hJ _ _ _ _ hj).1] at ha
      rcases List.mem_cons.mp ha with rfl | ha
      · exact .head _
      · rw [List.map_cons, List.map_append]; exact .tail _ (List.mem_append_right _ ha)
    have So := Sd.leave (X := []) (D' := (acc, DctO knd ys) :: mu') (J := []) U (by rw [List.nil_append, List.append_nil]; exact S'.1) hsub (fun _ h => nomatch h)
    rw [List.nil_append, List.append_nil] at So
    refine done t' mu' ys acc _ hacc hsys hj ⟨So.extBut (b := sa.heap.objs.size) ?_ (S'.1.outT _ (.head _)) (fun p hp z => (S'.1.mus p hp).2.1 (z ▸ .head _)) (fun x a e z => ?_) ?_ (fun a o hb e => (hs.2 a hb).trans e), S'.2⟩
    · exact fun z => Nat.lt_irrefl _ (Sa.1.G_lt z)
    · have := (Sa.1.cel x a e).1.lt
      rw [z] at this; exact Nat.lt_irrefl _ this
    · cases q : c.wh.get? sa.heap.objs.size with
      | none => rfl
      | some o => exact absurd (Nat.lt_of_lt_of_le (Sa.1.whN _ _ q) Sa.NL) (Nat.lt_irrefl _)
  have loop : ∀ s₃ : Shared, ST w mg mb (c.comp t sa.heap D cl) t (im 0 ++ (acc, DctO knd []) :: mu) ⟨fun x => ([] : List (Str × Value)).reverse.lookup x, n.k, false⟩ s₃ →
      codeAny (model prog w) A (.compLoop (.DictComp kx vx [⟨target, iter, ifs, 0⟩] scope pos) 0 (.ref it) (.ref acc) (compEnvC scope cl sa.heap.objs.size env)) (compPost (model prog w) A E none Q (.ref acc) sa.heap.objs.size) s₃ := fun s₃ S₃ => by
    refine codeAny_compLoop_testsD (I := fun m s' => ∃ i t' mu' ys m₀, i ≤ len ∧ m = len - i ∧ J i t' mu' ys ∧ ST w mg mb (c.comp t sa.heap D cl) t' (im i ++ (acc, DctO knd ys) :: mu') ⟨m₀, n.k, false⟩ s') (fun m s' hI => ?_) len
      ⟨0, t, mu, [], _, Nat.zero_le _, rfl, h0, S₃⟩ ht
    obtain ⟨i, t', mu', ys, m₀, hi, rfl, hj, S'⟩ := hI
    rcases Nat.lt_or_ge i len with hlt | hge
    · refine Z.item Ra' S' (hok i _ _ _ _ _ _ _ _ hj S') hlt fun v t₁ s₁ x1 hv S1 => ?_
      refine wpAny_mono (turn i v _ _ _ _ _ _ _ _ _ hlt hv hj x1 Ra' hNN S1) (fun _ s₂ h₂ => wpAny_mono h₂ (fun okk s₄ h₄ => ?_) fun _ _ z => z) fun _ _ z => z
      cases okk with
      | true =>
        rw [if_pos rfl] at h₄ ⊢
        refine wpAny_mono h₄ (fun kv s₅ h₅ => wpAny_mono h₅ (fun y s₆ h₆ => ?_) fun _ _ z => z) fun _ _ z => z
        obtain ⟨kk, t'', mu'', m'', hkk, j, S''⟩ := h₆
        have hy := (hJ _ _ _ _ hj).2
        refine wpAny_dictSet_pairs (kvs := ys) (hsz := Nat.le_trans hy (Nat.le_trans hi hlen)) hkk (At.dct (S''.inMu (List.mem_append_right _ (.head _)))) fun h₇ hd₇ hs₇ => ?_
        obtain ⟨o₇, e₇, p₇⟩ := at_dct hd₇
        have S₆ := S''.write (k := s₆.toks + 1) (Upd.at _ .head) (fun b x hb e => (hs₇.2 b hb).trans e) e₇ p₇
        exact ⟨len - (i + 1), by omega, i + 1, _, _, _, _, hlt, rfl, j, S₆⟩
      | false =>
        rw [if_neg (by decide)] at h₄ ⊢
        obtain ⟨t'', mu'', m'', j, S''⟩ := h₄
        exact ⟨len - (i + 1), by omega, i + 1, _, _, _, _, hlt, rfl, j, S''⟩
    · obtain rfl : i = len := Nat.le_antisymm hi hge
      exact Z.last Ra' S' (hok _ _ _ _ _ _ _ _ _ hj S') fun s₁ S1 => end_ _ _ _ _ _ hj S1
  have Sp : ST w mg mb (c.comp t sa.heap D cl) t (im 0 ++ (acc, DctO knd []) :: mu) ⟨fun x => ([] : List (Str × Value)).reverse.lookup x, n.k, false⟩ { sa with heap := h₁, toks := sa.toks + ([] : List (Str × Value)).length } := by
    refine ⟨SH.perm (mu := D) S₁ ?_, Sa.2⟩
    rw [← hD]; exact List.perm_middle.symm
  exact codeAny_compStart_dict (loop _ Sp) (Zs.self Sp (loop _ Sp))
end
end
section
open PySem PySem.W PyProof.Rows PySem.Calls
theorem two_of {α : Type} {l : List α} (h : l.length = 2) : ∃ a b, l = [a, b] := by
  rcases l with _ | ⟨a, _ | ⟨b, _ | ⟨c, r⟩⟩⟩
  · cases h
  · cases h
  · exact ⟨a, b, rfl⟩
  · rw [List.length_cons, List.length_cons, List.length_cons] at h
    omega
section
variable {prog : Program} {w : World} {mg mb : Str → Option Value} {A : Around} {s : Shared} {c : Cx} {t t' : Heap} {mu : List (Addr × (Obj → Prop))} {n : Nm} {Q E : Value → Shared → Prop} {env : Env} {k : Nat} {b : Bool} {tk ti : Tok}
theorem first_nil_spec {v kv : Value} (S : ST w mg mb c t mu n s) (Ra : Ar A env c (k + 1)) (hv : Rep prog w t v (.lst [])) (ret : ∀ s' u, ST w mg mb c t mu n s' → Q (.int 0 u) s') :
    wpAny (model prog w) A (call (.ref 431) [v, kv]) Q E s := by
  refine call_def (D := []) (R := mu) (k := k) (binds := [("keys", v), ("key", kv)]) S Ra S.1.pf.nl (at_431 S.1.pf) rfl (cr_431 S.1.pf) (BindsTo.of_eq rfl) (locs rfl) (by decide +kernel) rfl rfl rfl ?_
  intro c₁ s₁ env₁ A₁ n₀ e0 hN hF S₁ R₁ bk Q₁ E₁
  refine w_cons ?_
  intro K₀
  obtain ⟨ka, kvs, rfl, a1, a2⟩ := hv.lst_inv
  have hkl : kvs.length = 0 := a2.1
  repeat w_left
  rename_i s₂ S₂
  refine len_l S₂ (S₂.atT a1) (sz1 (Nat.le_of_eq hkl) (by decide)) fun s₃ tk₁ S₃ _ => ?_
  repeat w_left
  rename_i s₄ S₄
  refine while_go (fun m s' => ∃ n' u1 u2, ST w mg mb c₁ t [] n' s' ∧ n'.m "low" = some (.int 0 u1) ∧ n'.m "high" = some (.int 0 u2)) ?_ 0 ⟨_, _, _, S₄, rfl, by rw [show (0 : Int) = ((kvs.length : Nat) : Int) by rw [hkl]; rfl]; rfl⟩
  rintro m s₅ ⟨n₅, u1, u2, S₅, h1, h2⟩ Eb Qb
  repeat w_left
  exact ret _ _ (bk.same S₅)
inductive EvJ (prog : Program) (w : World) (t : Heap) (ka : Addr) (kvs : List Value) (u0 : Tok) (ra N : Addr) (m : Nat) (t' : Heap) (mu' : Mus) (n' : Nm) : Prop
  | start (u1 : Tok) : m = 0 → Sub t t' → mu' = [(ra, LstO [])] → n'.m "begun" = some (.int 0 u1) → n'.m "items" = some (.ref ka) → n'.m "count" = some (.int ((1 : Nat) : Int) u0) → n'.m "rows" = some (.ref ra) → EvJ prog w t ka kvs u0 ra N m t' mu' n'
  | last (r : Addr) : m = 1 → Sub t t' → mu' = [(ra, LstO [.ref r])] → At t' r (LstO kvs) → n'.m "rows" = some (.ref ra) → EvJ prog w t ka kvs u0 ra N m t' mu' n'
theorem even_one_spec {v : Value} {d : Dt} {wi : Nat} (S : ST w mg mb c t mu n s) (Ra : Ar A env c (k + 1)) (hv : Rep prog w t v (.lst [d])) (hw : 2 ≤ wi) (hw2 : wi ≤ 4) (ret : ∀ v' t' s', Sub t t' → Rep prog w t' v' (.lst [.lst [d]]) → ST w mg mb c t' mu n s' → Q v' s') :
    wpAny (model prog w) A (call (.ref 450) [v, .int (wi : Int) tk]) Q E s := by
  refine call_def (D := []) (R := mu) (k := k) (binds := [("items", v), ("width", .int (wi : Int) tk)]) S Ra S.1.pf.nl (at_450 S.1.pf) rfl (cr_450 S.1.pf) (BindsTo.of_eq rfl) (locs rfl) (by decide +kernel) rfl rfl rfl ?_
  intro c₁ s₁ env₁ A₁ n₀ e0 hN hF S₁ R₁ bk Q₁ E₁
  refine w_cons ?_
  intro K₀
  obtain ⟨ka, kvs, rfl, a1, a2⟩ := hv.lst_inv
  have hkl : kvs.length = 1 := a2.1
  repeat w_left
  refine len_l S₁ (S₁.atT a1) (sz1 (Nat.le_of_eq hkl) (by decide)) fun s₃ tk₁ S₃ _ => ?_
  repeat w_left
  rw [hkl, show ((1 : Nat) : Int) + (wi : Int) - 1 = (wi : Int) by omega]
  refine half_int (a := wi) (b := wi) (by omega) (by omega) (by omega) fun u => ?_
  rw [Nat.div_self (by omega)]
  repeat w_left
  refine new_lst (by assumption) (by show 0 ≤ _; decide) fun s₄ ra hra S₄ => ?_
  repeat w_left
  rename_i s₅ S₅
  refine iter_range1 (m := 1) S₅ (by decide) fun it s₆ hit S₆ => ?_
  refine for_go it_range (own_plain fun _ => rfl) (EvJ prog w t ka kvs u ra c₁.N) R₁ S₆ (.start _ rfl Sub.rfl' rfl rfl rfl rfl rfl) ?_ ?_ ?_
  · intros; trivial
  · rintro m xv t₀ t' mu' n' s' hm ⟨tm, hv⟩ (⟨u1, rfl, h1, rfl, h2, h3, h4, h5⟩ | ⟨r, rfl, h1, rfl, h2, h3⟩) x0 S' Eb Qb
    · rw [show (0 : Int) + ((0 : Nat) : Int) * 1 = 0 by rfl] at hv
      subst hv
      repeat w_left
      rename_i s₇ S₇
      refine len_l S₇ (S₇.atT (a1.sub (h1.tr x0))) (sz1 (Nat.le_of_eq hkl) (by decide)) fun s₈ tk₈ S₈ _ => ?_
      repeat w_left
      rw [hkl]
      refine half_int (a := 1) (b := 1) (by decide) (by decide) (by decide) fun u₉ => ?_
      repeat w_left
      refine len_l S₈ (S₈.atT (a1.sub (h1.tr x0))) (sz1 (Nat.le_of_eq hkl) (by decide)) fun s₉ tk₉ S₉ _ => ?_
      repeat w_left
      rw [hkl]
      try refine PySem.W.ite_neg (by decide) ?_
      repeat w_left
      rename_i s₁₀ S₁₀
      refine meth_l (S₁₀.atM (.tail _ (.head _))) PySem.F.slot_list_append PySem.F.type_list_append ?_
      repeat w_left
      refine slice_l (lo := some ((0 : Nat) : Int)) (hi := some ((1 : Nat) : Int)) S₁₀ (S₁₀.atT (a1.sub (h1.tr x0))).isList (.int 0 _) (.int 1 _) (by rw [sizeLine_eq]; omega) fun r s₁₁ hr S₁₁ => ?_
      rw [pick_run (by omega) (by decide), List.drop_zero, List.take_of_length_le (by omega)] at S₁₁
      obtain ⟨t₁₂, x12, a12, S₁₂⟩ := S₁₁.freezeT hr
      repeat w_left
      refine append_l S₁₂ (.tail .head) (by show 0 ≤ _; decide) fun s₁₃ S₁₃ => ?_
      repeat w_left
      rename_i s₁₄ S₁₄
      refine ⟨t₁₂, [(ra, LstO [.ref r])], _, ?_, S₁₄⟩
      exact .last r rfl (h1.tr (x0.tr x12)) rfl a12 h5
    · exact absurd hm (by decide)
  · rintro t' mu' n' s' (⟨u1, e, _⟩ | ⟨r, _, h1, rfl, h2, h3⟩) S'
    · cases e
    · repeat w_left
      obtain ⟨t₇, x7, a7, S₇⟩ := S'.freezeT hra
      exact ret _ t₇ _ (h1.tr x7) (lst_rep a7 (Reps.cons (lst_rep (h2.sub x7) (a2.sub (h1.tr x7))) Reps.nil)) (bk.same S₇)
inductive LfJ (prog : Program) (w : World) (b : Bool) (q : Nat) (tk : Tok) (v : Value) (t : Heap) (ra : Addr) (m : Nat) (t' : Heap) (mu' : Mus) (n' : Nm) : Prop
  | start : m = 0 → Sub t t' → mu' = [(ra, LstO [])] → n'.m "row" = some (.ref ra) → n'.m "word" = some (.str (wd b) tk) → n'.m "pairs" = some v → LfJ prog w b q tk v t ra m t' mu' n'
  | last (us : List Value) : m = 1 → Sub t t' → mu' = [(ra, LstO us)] → Reps prog w t' us [oDt b q, .int 7] → n'.m "row" = some (.ref ra) → n'.m "word" = some (.str (wd b) tk) → n'.m "pairs" = some v → LfJ prog w b q tk v t ra m t' mu' n'
theorem leaf_node_spec {v : Value} {q : Nat} (hq : q < 9) (S : ST w mg mb c t mu n s) (Ra : Ar A env c (k + 4)) (hv : Rep prog w t v (.lst [.tup [kDt b q, .int 7]])) (ret : ∀ v' t' s', Sub t t' → Rep prog w t' v' (.dct [("Limits", .lst [oDt b q, oDt b q]), (wd b, .lst [oDt b q, .int 7])]) → ST w mg mb c t' mu n s' → Q v' s') :
    wpAny (model prog w) A (call (.ref 457) [.str (wd b) tk, v]) Q E s := by
  refine call_def (D := []) (R := mu) (k := k + 3) (binds := [("word", .str (wd b) tk), ("pairs", v)]) S Ra S.1.pf.nl (at_457 S.1.pf) rfl (cr_457 S.1.pf) (BindsTo.of_eq rfl) (locs rfl) (by decide +kernel) rfl rfl rfl ?_
  intro c₁ s₁ env₁ A₁ n₀ e0 hN hF S₁ R₁ bk Q₁ E₁
  refine w_cons ?_
  intro K₀
  obtain ⟨ka, kvs, rfl, a1, a2⟩ := hv.lst_inv
  have hkl : kvs.length = 1 := a2.1
  repeat w_left
  refine new_lst S₁ (by show 0 ≤ _; decide) fun s₂ ra hra S₂ => ?_
  repeat w_left
  rename_i s₃ S₃
  refine iter_list S₃ (S₃.atT a1) fun it s₄ hit S₄ => ?_
  obtain ⟨pv, g0, r0⟩ := a2.get (i := 0) rfl
  obtain ⟨pa, pvs, rfl, p1, p2⟩ := r0.tup_inv
  obtain ⟨kv, k1, k2⟩ := p2.get (i := 0) rfl
  obtain ⟨yv, y1, y2⟩ := p2.get (i := 1) rfl
  have hpl : pvs.length = 2 := p2.1
  refine for_go (it_list (vs := kvs)) (own_list fun i v e => ?_) (LfJ prog w b q tk (.ref ka) t ra) R₁ S₄ (.start rfl Sub.rfl' rfl rfl rfl rfl) ?_ ?_ ?_
  · have : i < kvs.length := (List.getElem?_eq_some_iff.mp e).1
    obtain rfl : i = 0 := by omega
    rw [g0] at e; cases e; exact ⟨_, rfl⟩
  · rintro m t' mu' n' s' p (⟨_, h1, rfl, _⟩ | ⟨us, _, h1, rfl, _⟩) S' <;> exact S'.atT (a1.sub h1)
  · rintro m xv t₀ t' mu' n' s' hm hv (⟨rfl, h1, rfl, h2, h3, h4⟩ | ⟨us, rfl, h1, rfl, h2, h3⟩) x0 S' Eb Qb
    · rw [g0] at hv; cases hv
      have x1 := h1.tr x0
      refine assign_tup S' R₁ (S'.atT (p1.sub x1)) (by rw [hpl]; rfl) rfl fun s₈ S₈ => ?_
      obtain ⟨_, _, rfl⟩ := two_of hpl
      cases k1; cases y1
      repeat w_left
      rename_i s₉ S₉
      refine meth_l (S₉.atM (.tail _ (.head _))) PySem.F.slot_list_append PySem.F.type_list_append ?_
      repeat w_left
      refine key_object_spec S₉ R₁ (k2.sub x1) fun ov t₁₀ s₁₀ x10 ro S₁₀ => ?_
      repeat w_left
      refine append_l S₁₀ (.tail .head) (by show 0 ≤ _; decide) fun s₁₁ S₁₁ => ?_
      repeat w_left
      refine meth_l (S₁₁.atM (.tail _ (.head _))) PySem.F.slot_list_append PySem.F.type_list_append ?_
      repeat w_left
      refine append_l S₁₁ (.tail .head) (by show 1 ≤ _; decide) fun s₁₂ S₁₂ => ?_
      repeat w_left
      refine ⟨t₁₀, _, (n'.set "key" kv).set "value" yv, .last [ov, yv] rfl (x1.tr x10) rfl (Reps.cons ro (Reps.cons (y2.sub (x1.tr x10)) Reps.nil)) h2 h3 h4, S₁₂⟩
    · exact absurd hm (by rw [hkl]; decide)
  · rintro t' mu' n' s' (⟨e, _⟩ | ⟨us, _, h1, rfl, h2, h3, h4, h5⟩) S'
    · rw [hkl] at e; cases e
    · repeat w_left
      refine disp2 S' fun da s₈ hda sda S₈ => ?_
      repeat w_left
      refine item_l (S₈.atT (a1.sub h1)) (by decide) (by decide) g0 ?_
      repeat w_left
      refine item_t (j := 0) (S₈.atT (p1.sub h1)) (by decide) (by decide) (by rw [hpl]; rfl) k1 ?_
      repeat w_left
      refine key_object_spec S₈ R₁ (k2.sub h1) fun ov t₉ s₉ x9 ro S₉ => ?_
      repeat w_left
      refine item_last (S₉.atT (a1.sub (h1.tr x9))) (by omega) (by rw [hkl]; exact g0) ?_
      repeat w_left
      refine item_t (j := 0) (S₉.atT (p1.sub (h1.tr x9))) (by decide) (by decide) (by rw [hpl]; rfl) k1 ?_
      repeat w_left
      refine key_object_spec S₉ R₁ (k2.sub (h1.tr x9)) fun ov2 t₁₀ s₁₀ x10 ro2 S₁₀ => ?_
      repeat w_left
      refine new_lst S₁₀ (by show 2 ≤ _; decide) fun s₁₁ la hla S₁₁ => ?_
      repeat w_left
      obtain ⟨t₁₂, x12, a12, S₁₂⟩ := S₁₁.freezeT hla
      obtain ⟨t₁₃, x13, a13, S₁₃⟩ := (S₁₂.perm (List.Perm.swap ..)).freezeT hra
      have dr : DRep prog w t₁₃ [("Limits", .ref la), (wd b, .ref ra)] [("Limits", .lst [oDt b q, oDt b q]), (wd b, .lst [oDt b q, .int 7])] :=
        .cons (lst_rep (a12.sub x13) (Reps.cons (ro.sub (x10.tr (x12.tr x13))) (Reps.cons (ro2.sub (x12.tr x13)) Reps.nil))) (.cons (lst_rep a13 (h2.sub (x9.tr (x10.tr (x12.tr x13))))) .nil)
      refine ⟨_, _, _, _, rfl, rfl, (by show (["Limits", wd b] : List Str).Nodup; cases b <;> decide +kernel), t₁₃, [], S₁₃, fun s₁₄ S₁₄ => ?_⟩
      repeat w_left
      obtain ⟨t₁₅, x15, a15, S₁₅⟩ := S₁₄.freezeT hda
      exact ret _ t₁₅ _ ((h1.tr x9).tr (x10.tr (x12.tr (x13.tr x15)))) ((dr.sub x15).rep a15 sda) (bk.same S₁₅)
theorem str_kind {x : Str} {v : Value} (h : (PySem.strKind prog w).is x v = true) : ∃ tk, v = .str x tk := by
  cases v with
  | str y tk =>
    have : y = x := by first | exact (eq_of_beq h).symm | exact eq_of_beq h
    exact ⟨tk, by rw [this]⟩
  | _ => cases h
theorem wd_at {w0 w1 : Value} : valueAt [(("Limits" : Str), w0), (wd b, w1)] (wd b) = some w1 := by cases b <;> rfl
theorem wd_nl : (wd b != ("Limits" : Str)) = true := by cases b <;> decide +kernel
theorem as_root_spec {v : Value} {l1 l2 : Dt} (S : ST w mg mb c t mu n s) (Ra : Ar A env c (k + 3)) (hv : Rep prog w t v (.dct [("Limits", l1), (wd b, l2)])) (ret : ∀ v' t' s', Sub t t' → Rep prog w t' v' (.dct [(wd b, l2)]) → ST w mg mb c t' mu n s' → Q v' s') :
    wpAny (model prog w) A (call (.ref 469) [v]) Q E s := by
  refine call_defC (D := []) (R := mu) (k := k + 2) (binds := [("node", v)]) S Ra S.1.pf.nl (at_469 S.1.pf) rfl (cr_469 S.1.pf) rfl (BK.at ⟨.inr ⟨rfl, rfl⟩, trivial⟩) rfl rfl rfl ?_
  intro c₁ s₁ env₁ A₁ n₀ e0 hN hF hcs S₁ R₁ bk Q₁ E₁
  refine w_cons ?_
  intro K₀
  obtain ⟨nva, _, rfl, _⟩ := hv.dct_inv
  obtain ⟨kvs, y1, y2, y3⟩ := hv.dct_rep
  repeat w_left
  obtain ⟨⟨k0, w0⟩, ⟨k1, w1⟩, rfl⟩ := two_of y3.len
  have ek := y3.1
  simp only [List.map_cons, List.map_nil, List.cons.injEq, and_true] at ek
  obtain ⟨rfl, rfl⟩ := ek
  have r1 : Rep prog w t w1 l2 := y3.2 1 _ _ _ _ rfl rfl
  refine comp_dict _ rfl rfl (by decide +kernel) ?_
  repeat w_left
  refine iter_keys S₁ y1 y2 fun it ep s₂ hit da S₂ => ?_
  refine comp_goD (knd := PySem.strKind prog w) (it_keys (knd := PySem.strKind prog w) (kvs := [(("Limits" : Str), w0), (wd b, w1)]) (ep := ep)) self_keys (fun m t' mu' ys => Sub t t' ∧ mu' = [] ∧ ((m ≤ 1 ∧ ys = []) ∨ (m = 2 ∧ ys = [(wd b, w1)]))) R₁ (by rw [hcs]; exact ⟨rfl, trivial⟩) (by decide +kernel) rfl S₂ ⟨Sub.rfl', rfl, .inl ⟨Nat.zero_le _, rfl⟩⟩ ?_ ?_ ?_ ?_ ?_
  · rintro m t' mu' ys ⟨h1, rfl, (⟨h2, rfl⟩ | ⟨rfl, rfl⟩)⟩
    · exact ⟨rfl, Nat.zero_le _⟩
    · exact ⟨rfl, Nat.le_succ 1⟩
  · rintro m t' mu' ys c' n' s' p q ⟨h1, rfl, _⟩ S'
    exact (da.keep h1).keep S'.1.keep
  · rw [sizeLine_eq]; show 2 ≤ _; decide
  · rintro m v t₀ t' mu' ys c' s' m₀ acc E' env₂ hm ⟨kk, xx, e1, e2⟩ ⟨h1, rfl, h2⟩ x0 R₂ hN₂ S'
    obtain ⟨tk, rfl⟩ := str_kind e2
    match m, hm, e1, h2 with
    | 0, _, e1, h2 =>
      intro Qy Qn
      cases e1
      repeat w_left
      rename_i s₅ S₅
      exact ⟨t', _, _, ⟨h1.tr x0, rfl, .inl ⟨Nat.le_refl _, h2.elim (·.2) fun z => absurd z.1 (by decide)⟩⟩, S₅⟩
    | 1, _, e1, h2 =>
      cases e1
      obtain rfl : ys = [] := h2.elim (·.2) fun z => absurd z.1 (by decide)
      intro Qy Qn
      repeat w_left
      rename_i s₅ S₅
      try refine PySem.W.ite_pos wd_nl ?_
      repeat w_left
      refine item_d S₅ (S₅.atT (y1.sub (h1.tr x0))) (strKind_is _ _ _ _) wd_at fun s₆ S₆ _ => ?_
      exact ⟨wd b, t', _, _, strKind_is _ _ _ _, ⟨h1.tr x0, rfl, .inr ⟨rfl, rfl⟩⟩, S₆⟩
    | m + 2, hm, _, _ => exact absurd hm (by simp)
  · rintro t' mu' ys acc s' hacc sacc ⟨h1, rfl, (⟨h2, _⟩ | ⟨_, rfl⟩)⟩ S'
    · exact absurd h2 (by show ¬ 2 ≤ 1; decide)
    · repeat w_left
      obtain ⟨t₃, x3, a3, S₃⟩ := S'.freezeT hacc
      refine ret _ t₃ _ (h1.tr x3) ?_ (bk.same S₃)
      have dr : DRep prog w t₃ [(wd b, w1)] [(wd b, l2)] := .cons (r1.sub (h1.tr x3)) .nil
      exact dr.rep a3 sacc
end
end
section
open PySem PySem.W PyProof.Rows PySem.Calls
theorem codeAmong_app {pos pos' : Pos} {v u : Value} (l : List Value) (h : TriplesOk l) (e : codeAmong pos' (l ++ [rawInt pos.line, rawInt pos.col, v]) = some u) : codeAmong pos' l = some u ∨ u = v := by
  fun_induction TriplesOk l with
  | case1 =>
    simp only [List.nil_append, codeAmong, rawInt] at e
    split at e
    · exact .inr (Option.some.inj e).symm
    · cases e
  | case2 a t b w x rest ih =>
    simp only [List.cons_append, codeAmong] at e ⊢
    split at e
    · rename_i hc; rw [if_pos hc]; exact .inl e
    · rename_i hc; rw [if_neg hc]; exact ih h e
  | case3 l h1 h2 => exact h.elim
/-- a maker's table of lambdas: all its codes are called q -/
noncomputable def TabI (t : Heap) (q : Str) (ps : List Value) : Prop := TriplesOk ps ∧ ∀ pos v, codeAmong pos ps = some v → ∃ a, v = .ref a ∧ t.CodeRec v q
theorem TabI.sub {t t' : Heap} {q : Str} {ps : List Value} (x : Sub t t') (T : TabI t q ps) : TabI t' q ps := ⟨T.1, fun p v e => let ⟨a, h1, h2⟩ := T.2 p v e; ⟨a, h1, h2.keeps x⟩⟩
theorem TabI.nil {t : Heap} {q : Str} : TabI t q [] := ⟨trivial, fun _ _ e => by simp [codeAmong] at e⟩
noncomputable def FnAt (t : Heap) (mg : Str → Option Value) (f c' : Addr) (q : Str) (params : Arguments) (body : PySem.Expr) (scope : Scope) (clos : List (Str × Addr)) : Prop :=
  ∃ ctv, t.get? f = some (kla_obj "<lambda>" q params body scope clos ((mg "__name__").getD .none) c' ctv) ∧ t.CodeRec (.ref c') q
section
variable {prog : Program} {w : World} {mg mb : Str → Option Value} {A : Around} {s : Shared} {c : Cx} {t t' : Heap} {mu : List (Addr × (Obj → Prop))} {n : Nm} {Q E : Value → Shared → Prop} {env : Env} {k : Nat} {b : Bool} {tk ti : Tok}
theorem lam_any {cc P0 : Addr} {q : Str} {ps : List Value} {params : Arguments} {body : PySem.Expr} {scope : Scope} {pos : Pos} {clos : List (Str × Addr)} (S : ST w mg mb c t ((P0, TabC ps) :: mu) n s) (hG : env.globals = mainGlobals) (hcode : env.code = .ref cc) (C : CodeHd t cc P0)
    (T : TabI t q ps) (hq : env.qual ++ "<lambda>" = q) (hcl : closureFor scope env = pure clos) (hdef : defaultsOf params env = ([], []))
    (h : ∀ f c' t' ps' s', Sub t t' → FnAt t' mg f c' q params body scope clos → TabI t' q ps' → ST w mg mb c t' ((P0, TabC ps') :: mu) n s' → Q (.ref f) s') : wpAny (model prog w) A (eval (.Lambda params body scope pos) env) Q E s := by
  subst hq
  cases e : codeAmong pos ps with
  | none => exact lam_make S hG hcode C T.1 e hcl hdef fun f c' ctv t' s' x o r S' => h f c' t' _ s' x ⟨ctv, o, r⟩ ⟨TriplesOk_snoc _ _ _ _ T.1, fun p v e' => by
      rcases codeAmong_app ps T.1 e' with e' | rfl
      · obtain ⟨a, h1, h2⟩ := T.2 p v e'
        exact ⟨a, h1, h2.keeps x⟩
      · exact ⟨c', rfl, r⟩⟩ S'
  | some v =>
    obtain ⟨a, rfl, r⟩ := T.2 pos v e
    exact lam_hit S (.head _) hG hcode C T.1 e hcl hdef fun f ctv t' s' x o S' => h f a t' ps s' x ⟨ctv, o, r.keeps x⟩ (T.sub x) S'
theorem FnAt.fn {f c' : Addr} {q : Str} {params : Arguments} {body : PySem.Expr} {scope : Scope} {clos : List (Str × Addr)} (F : FnAt t mg f c' q params body scope clos) : ∃ o fd, t.get? f = some o ∧ o.data = .func fd := let ⟨_, h, _⟩ := F; ⟨_, _, h, rfl⟩
theorem cells_of {clos : List (Str × Addr)} {kv : Str → Option Value} (h : ∀ p ∈ clos, t.IsCell p.2 (kv p.1)) : ∀ x a, clos.lookup x = some a → t.IsCell a (kv x) := fun x a e => h _ (mem_of_lookup e)
noncomputable abbrev askedQ : Str := "_law_asked.<locals>.<lambda>"
theorem code_578 (H : PF w mg mb t) : CodeHd t 578 574 :=
  ⟨_, _, _, _, _, _, _, _, _, at_578 H, rfl, rfl, rfl, rfl, rfl, rfl, rfl, rfl, by decide⟩
theorem asked_spec {sh : Value} {plan : List Nd} {ps : List Value} {m : Nat} {e : Dt} (S : ST w mg mb c t ((574, TabC ps) :: mu) n s) (T : TabI t askedQ ps) (Ra : Ar A env c (k + 70)) (Z : IsShelf prog w t sh (nodesD b plan)) (W : WF plan) (he : Told m (wholeD b plan 0) e) (hm : m ≤ 40)
    (ret : ∀ v t' ps' s', Sub t t' → TabI t' askedQ ps' → ((∀ i, (trace plan 0).count i ≤ 16) → Rep prog w t' v (.lst [.lst ((trace plan 0).flatMap (pairsAt b plan)), .lst ((trace plan 0).flatMap (pairsAt b plan)), e])) →
      (¬ (∀ i, (trace plan 0).count i ≤ 16) → Rep prog w t' v (.lst [.str "refused", .str "refused", .str "refused"])) → ST w mg mb c t' ((574, TabC ps') :: mu) n s' → Q v s') :
    wpAny (model prog w) A (call (.ref 579) [.str (wd b) tk, sh]) Q E s := by
  refine call_defC (D := [(574, TabC ps)]) (R := mu) (k := k + 69) (binds := [("word", .str (wd b) tk), ("shelf", sh)]) S Ra S.1.pf.nl (at_579 S.1.pf) rfl (cr_579 S.1.pf) rfl (BK.at ⟨.inr ⟨rfl, rfl⟩, .inr ⟨rfl, rfl⟩, trivial⟩) rfl rfl rfl ?_
  intro c₁ s₁ env₁ A₁ n₀ e0 hN hF hcs S₁ R₁ bk Q₁ E₁
  refine w_cons ?_
  intro K₀
  have hn14 := W.len
  repeat w_left
  refine mk_Reference S₁ (R₁.less (Nat.add_le_add_left (by decide) k)) (k := k) fun rv t₂ s₂ x2 rr S₂ => ?_
  repeat w_left
  rename_i s₃ S₃
  have hL : c₁.N ≤ c₁.L := by have := S₃.1.hN; rw [← R₁.hL] at this; exact this
  have hl : c₁.cells = [(("root" : Str), c₁.L + 3), (("shelf" : Str), c₁.L + 2), (("word" : Str), c₁.L + 1)] := by rw [hcs]; rfl
  obtain ⟨t₄, x4, hce, S₄⟩ := S₃.freezeCells rfl [(("root" : Str), c₁.L + 3), (("shelf" : Str), c₁.L + 2), (("word" : Str), c₁.L + 1)] (fun p hp => by
    rw [hl]
    rcases List.mem_cons.mp hp with rfl | hp
    · exact ⟨rfl, Nat.le_trans hL (Nat.le_add_right _ _)⟩
    · rcases List.mem_cons.mp hp with rfl | hp
      · exact ⟨rfl, Nat.le_trans hL (Nat.le_add_right _ _)⟩
      · rw [List.mem_singleton.mp hp]; exact ⟨rfl, Nat.le_trans hL (Nat.le_add_right _ _)⟩) (by simp)
  have q1 := hce _ (.head _)
  have q2 := hce _ (.tail _ (.head _))
  have q3 := hce _ (.tail _ (.tail _ (.head _)))
  have hkv : ∀ {t' : Heap}, Sub t₄ t' → ∀ y a, [(("word" : Str), c₁.L + 1), (("shelf" : Str), c₁.L + 2), (("root" : Str), c₁.L + 3)].lookup y = some a → t'.IsCell a (List.lookup y [(("root" : Str), rv), (("shelf" : Str), sh), (("word" : Str), .str (wd b) tk)]) := fun x => cells_of fun p hp => by
    rcases List.mem_cons.mp hp with rfl | hp
    · exact Heap.IsCell.keeps q3 x
    · rcases List.mem_cons.mp hp with rfl | hp
      · exact Heap.IsCell.keeps q2 x
      · rw [List.mem_singleton.mp hp]; exact Heap.IsCell.keeps q1 x
  have hkv2 : ∀ {t' : Heap}, Sub t₄ t' → ∀ y a, [(("shelf" : Str), c₁.L + 2), (("root" : Str), c₁.L + 3)].lookup y = some a → t'.IsCell a (List.lookup y [(("root" : Str), rv), (("shelf" : Str), sh), (("word" : Str), .str (wd b) tk)]) := fun x => cells_of fun p hp => by
    rcases List.mem_cons.mp hp with rfl | hp
    · exact Heap.IsCell.keeps q2 x
    · rw [List.mem_singleton.mp hp]; exact Heap.IsCell.keeps q1 x
  clear hce q1 q2 q3
  have x04 := x2.tr x4
  have no : ¬ (∀ i, (trace plan 0).count i ≤ 16) → ∃ i, 16 < (trace plan 0).count i := fun h => by
    obtain ⟨i, hi⟩ := Classical.not_forall.mp h
    exact ⟨i, by omega⟩
  have yes : (∃ i, 16 < (trace plan 0).count i) → ¬ (∀ i, (trace plan 0).count i ≤ 16) := fun ⟨i, h⟩ h' => by have := h' i; omega
  refine lam_any (clos := [(("word" : Str), c₁.L + 1), (("shelf" : Str), c₁.L + 2), (("root" : Str), c₁.L + 3)]) S₄ rfl rfl (code_578 S₄.1.pf) (T.sub x04) (by kernel_rfl) rfl rfl fun f c' t₅ ps₅ s₅ x5 F5 T5 S₅ => ?_
  repeat w_left
  have K5 : Asks prog w mg mb t₅ f (k + 20) (∀ i, (trace plan 0).count i ≤ 16) (.lst ((trace plan 0).flatMap (pairsAt b plan))) := by
    intro A s c t' mu n Q E env x S Ra ret err
    obtain ⟨ctv, o, r⟩ := F5
    refine lam_call (D := []) S (k := k + 19) Ra (x _ _ o) (r.keeps x) rfl (hkv (x5.tr x)) (by decide +kernel) rfl rfl rfl ?_
    intro c₂ s₂ env₂ A₂ n₂' e0 hN hF S₂ R₂ bk E₂
    repeat w_left
    have x' := x04.tr (x5.tr x)
    refine tree_pairs_spec S₂ (R₂.less (Nat.add_le_add_left (by decide) k)) (k := k) (Z.sub x') W (rr.sub (x4.tr (x5.tr x))) (fun hg v' t'' s' x'' rv' S' => ret hg v' t'' s' x'' rv' (bk.same S')) (fun hb e T t'' s' x'' S' => ?_)
    exact leave_on S' R₂ hF fun s₃ T' S₃ => err (yes hb) e T' t'' s₃ x'' (bk _ [_, _] [] [] _ _ S₃ rfl)
  refine heard_spec F5.fn K5 S₅ (R₁.less (show k + 21 ≤ _ from Nat.add_le_add_left (by decide) k)) fun v1 t₆ s₆ x6 g6 b6 S₆ => ?_
  repeat w_left
  refine lam_any (clos := [(("word" : Str), c₁.L + 1), (("shelf" : Str), c₁.L + 2), (("root" : Str), c₁.L + 3)]) S₆ rfl rfl (code_578 S₆.1.pf) (T5.sub x6) (by kernel_rfl) rfl rfl fun f7 c7 t₇ ps₇ s₇ x7 F7 T7 S₇ => ?_
  repeat w_left
  have K7 : Asks prog w mg mb t₇ f7 (k + 20) (∀ i, (trace plan 0).count i ≤ 16) (.lst ((trace plan 0).flatMap (pairsAt b plan))) := by
    intro A s c t' mu n Q E env x S Ra ret err
    obtain ⟨ctv, o, r⟩ := F7
    refine lam_call (D := []) S (k := k + 19) Ra (x _ _ o) (r.keeps x) rfl (hkv (x5.tr (x6.tr (x7.tr x)))) (by decide +kernel) rfl rfl rfl ?_
    intro c₂ s₂ env₂ A₂ n₂' e0 hN hF S₂ R₂ bk E₂
    repeat w_left
    have x' := x04.tr (x5.tr (x6.tr (x7.tr x)))
    refine law_key_spec (i := 0) S₂ (R₂.less (Nat.add_le_add_left (by decide) k)) (k := k) (by decide) fun lo s₃ rlo S₃ => ?_
    repeat w_left
    refine law_key_spec (i := 9) S₃ (R₂.less (Nat.add_le_add_left (by decide) k)) (k := k) (by decide) fun hi s₄ rhi S₄ => ?_
    repeat w_left
    refine tree_span_spec S₄ (R₂.less (Nat.add_le_add_left (by decide) k)) (k := k) (Z.sub x') W (rr.sub (x4.tr (x5.tr (x6.tr (x7.tr x))))) rlo rhi (fun hg v' t'' s' x'' rv' S' => ret hg v' t'' s' x'' rv' (bk.same S')) (fun hb e T t'' s' x'' S' => ?_)
    exact leave_on S' R₂ hF fun s₅ T' S₅ => err (yes hb) e T' t'' s₅ x'' (bk _ [_, _] [] [] _ _ S₅ rfl)
  refine heard_spec F7.fn K7 S₇ (R₁.less (show k + 21 ≤ _ from Nat.add_le_add_left (by decide) k)) fun v2 t₈ s₈ x8 g8 b8 S₈ => ?_
  repeat w_left
  refine new_lst S₈ (by show 2 ≤ _; decide) fun s₉ ha hha S₉ => ?_
  repeat w_left
  rename_i s₁₀ S₁₀
  refine lam_any (clos := [(("shelf" : Str), c₁.L + 2), (("root" : Str), c₁.L + 3)]) (S₁₀.perm (List.Perm.swap ..)) rfl rfl (code_578 S₁₀.1.pf) (T7.sub x8) (by kernel_rfl) rfl rfl fun f11 c11 t₁₁ ps₁₁ s₁₁ x11 F11 T11 S₁₁ => ?_
  repeat w_left
  have K11 : Asks prog w mg mb t₁₁ f11 (k + 68) (∀ i, (trace plan 0).count i ≤ 16) e := by
    intro A s c t' mu n Q E env x S Ra ret err
    obtain ⟨ctv, o, r⟩ := F11
    have xx := x5.tr (x6.tr (x7.tr (x8.tr (x11.tr x))))
    refine lam_call (D := []) S (k := k + 67) Ra (x _ _ o) (r.keeps x) rfl (hkv2 xx) (by decide +kernel) rfl rfl rfl ?_
    intro c₂ s₂ env₂ A₂ n₂' e0 hN hF S₂ R₂ bk E₂
    repeat w_left
    refine gathered_spec S₂ (R₂.less (by omega)) (k := k) (Z.sub (x04.tr xx)) W (rr.sub (x4.tr xx)) (fun hg v' t'' s' x'' rv' S' => ?_) (fun hb e T t'' s' x'' S' => ?_)
    · repeat w_left
      refine told_spec he S' (R₂.less (by omega)) (k := k) rv' fun v₃ t₃ s₃ x₃ r₃ S₃ => ?_
      exact ret hg v₃ t₃ s₃ (x''.tr x₃) r₃ (bk.same S₃)
    · exact leave_on S' R₂ hF fun s₃ T' S₃ => err (yes hb) e T' t'' s₃ x'' (bk _ [_, _] [] [] _ _ S₃ rfl)
  refine heard_spec F11.fn K11 S₁₁ R₁ fun v3 t₁₂ s₁₂ x12 g12 b12 S₁₂ => ?_
  repeat w_left
  refine new_lst S₁₂ (by show 1 ≤ _; decide) fun s₁₃ la hla S₁₃ => ?_
  repeat w_left
  refine add_l S₁₃ (S₁₃.atM (.tail _ (.tail _ (.head _)))) (S₁₃.atM (.head _)) (by show 2 + 1 ≤ _; decide) fun ra s₁₄ hra S₁₄ => ?_
  repeat w_left
  obtain ⟨t₁₅, x15, a15, S₁₅⟩ := S₁₄.freezeT hra
  have xA := x11.tr (x12.tr x15)
  have xB := x7.tr (x8.tr xA)
  refine ret _ t₁₅ ps₁₁ _ (x04.tr (x5.tr (x6.tr xB))) (T11.sub (x12.tr x15)) (fun hg => lst_rep a15 (Reps.cons ((g6 hg).sub xB) (Reps.cons ((g8 hg).sub xA) (Reps.cons ((g12 hg).sub x15) Reps.nil))))
    (fun hg => lst_rep a15 (Reps.cons ((b6 hg).sub xB) (Reps.cons ((b8 hg).sub xA) (Reps.cons ((b12 hg).sub x15) Reps.nil)))) ?_
  exact bk _ [] [(574, TabC ps₁₁)] [_] _ _ ((S₁₅.sub (.cons _ (.refl _)))) rfl
end
end
section
open PySem PySem.W PyProof.Rows PySem.Calls
section
variable {prog : Program} {w : World} {mg mb : Str → Option Value} {A : Around} {s : Shared} {c : Cx} {t t' : Heap} {mu : List (Addr × (Obj → Prop))} {n : Nm} {Q E : Value → Shared → Prop} {env : Env} {k : Nat} {b : Bool} {tk ti : Tok}
noncomputable abbrev leafD (b : Bool) (q : Nat) : Dt := .dct [("Limits", .lst [oDt b q, oDt b q]), (wd b, .lst [oDt b q, .int 7])]
theorem put_below_empty {v pv : Value} {q wi : Nat} (hq : q < 9) (hw : 2 ≤ wi) (hw2 : wi ≤ 4) (S : ST w mg mb c t mu n s) (Ra : Ar A env c (k + 6)) (hv : Rep prog w t v (.dct [("Kids", .lst [])])) (hp : Rep prog w t pv (.tup [kDt b q, .int 7]))
    (ret : ∀ v' t' s', Sub t t' → Rep prog w t' v' (.lst [leafD b q]) → ST w mg mb c t' mu n s' → Q v' s') :
    wpAny (model prog w) A (call (.ref 484) [v, .str (wd b) tk, pv, .int (wi : Int) ti]) Q E s := by
  refine call_defC (D := []) (R := mu) (k := k + 5) (binds := [("node", v), ("word", .str (wd b) tk), ("pair", pv), ("width", .int (wi : Int) ti)]) S Ra S.1.pf.nl (at_484 S.1.pf) rfl (cr_484 S.1.pf) rfl (BK.at ⟨.inl rfl, .inr ⟨rfl, rfl⟩, .inl rfl, .inl rfl, trivial⟩) rfl rfl rfl ?_
  intro c₁ s₁ env₁ A₁ n₀ e0 hN hF hcs S₁ R₁ bk Q₁ E₁
  refine w_cons ?_
  intro K₀
  obtain ⟨na, _, rfl, _⟩ := hv.dct_inv
  obtain ⟨kvs, y1, y2, y3⟩ := hv.dct_rep
  obtain ⟨kv, k1, k2⟩ := y3.at (k := "Kids") (d := .lst []) (by rfl)
  obtain ⟨ka, kas, rfl, ka1, ka2⟩ := k2.lst_inv
  have hka : kas.length = 0 := ka2.1
  obtain rfl : kas = [] := List.length_eq_zero_iff.mp hka
  repeat w_left
  refine notin_d S₁ (S₁.atT y1) y2 (strKind_is _ _ _ _) fun s₂ S₂ _ => ?_
  rw [k1]
  repeat w_left
  try refine PySem.W.ite_neg (by simp) ?_
  repeat w_left
  refine item_d S₂ (S₂.atT y1) (strKind_is _ _ _ _) k1 fun s₃ S₃ _ => ?_
  repeat w_left
  refine new_lst S₃ (by show 0 ≤ _; decide) fun s₄ e1 he1 S₄ => ?_
  repeat w_left
  refine eq_nil (by assumption) (S₄.atT ka1) (S₄.atM (.head _)) ?_
  repeat w_left
  refine notin_d S₄ (S₄.atT y1) y2 (strKind_is _ _ _ _) fun s₅ S₅ _ => ?_
  rw [k1]
  repeat w_left
  try refine PySem.W.ite_neg (by simp) ?_
  repeat w_left
  refine new_lst S₅ (by show 0 ≤ _; decide) fun s₆ pa hpa S₆ => ?_
  repeat w_left
  rename_i s₇ S₇
  refine comp_list _ rfl rfl (by decide +kernel) ?_
  repeat w_left
  refine iter_list S₇ (S₇.atM (.head _)) fun it s₈ hit S₈ => ?_
  refine comp_go (it_list (vs := [])) self_list (fun m t' mu' ys => Sub t t' ∧ mu' = [(pa, LstO []), (e1, LstO [])] ∧ ys = []) R₁ ⟨⟩ (by decide +kernel) rfl S₈ ⟨Sub.rfl', rfl, rfl⟩ ?_ ?_ (Nat.zero_le _) ?_ ?_
  · rintro m t' mu' ys ⟨h1, rfl, rfl⟩
    exact ⟨rfl, Nat.zero_le _⟩
  · rintro m t' mu' ys c' n' s' p q ⟨h1, rfl, rfl⟩ S'
    exact S'.atM (List.mem_append_right _ (.tail _ (.head _)))
  · intro m v t₀ t' mu' ys c' s' m₀ acc E' env₂ hm
    exact absurd hm (Nat.not_lt_zero _)
  rintro t₉ mu' ys acc s₉ hacc ⟨x9, rfl, rfl⟩ S₉
  obtain ⟨t₁₀, x10, a10, S₁₀⟩ := S₉.freezeT hacc
  have xA := x9.tr x10
  obtain ⟨pa', pvs, rfl, p1, p2⟩ := hp.tup_inv
  obtain ⟨kv0, g1, g2⟩ := p2.get (i := 0) rfl
  have hpl : pvs.length = 2 := p2.1
  repeat w_left
  refine item_t (j := 0) (S₁₀.atT (p1.sub xA)) (by decide) (by decide) (by rw [hpl]; rfl) g1 ?_
  repeat w_left
  refine first_nil_spec S₁₀ (R₁.less (Nat.add_le_add_left (by decide) k)) (k := k) (lst_rep a10 Reps.nil) fun s₁₁ u₁₁ S₁₁ => ?_
  repeat w_left
  rename_i s₁₂ S₁₂
  refine len_l S₁₂ (S₁₂.atM (.head _)) (by show 0 ≤ _; decide) fun s₁₃ u₁₃ S₁₃ _ => ?_
  repeat w_left
  rename_i s₁₄ S₁₄
  refine comp_list _ rfl rfl (by decide +kernel) ?_
  repeat w_left
  refine slice_l (lo := none) (hi := some ((0 : Nat) : Int)) S₁₄ (S₁₄.atM (.head _)).isList .none (.int 0 _) (Nat.zero_le _) fun r1 s₁₅ hr1 S₁₅ => ?_
  rw [slicePick_upto', List.toList_toArray, List.take_nil] at S₁₅
  repeat w_left
  refine new_lst S₁₅ (by show 1 ≤ _; decide) fun s₁₆ r2 hr2 S₁₆ => ?_
  repeat w_left
  refine add_l S₁₆ (S₁₆.atM (.tail _ (.head _))) (S₁₆.atM (.head _)) (by show 0 + 1 ≤ _; decide) fun r3 s₁₇ hr3 S₁₇ => ?_
  repeat w_left
  refine slice_l (lo := some ((0 : Nat) : Int)) (hi := none) S₁₇ (S₁₇.atM (.tail _ (.tail _ (.tail _ (.head _))))).isList (.int 0 _) .none (Nat.zero_le _) fun r4 s₁₈ hr4 S₁₈ => ?_
  rw [pick_from (Nat.zero_le _), List.drop_nil] at S₁₈
  repeat w_left
  refine add_l S₁₈ (S₁₈.atM (.tail _ (.head _))) (S₁₈.atM (.head _)) (by show 1 + 0 ≤ _; decide) fun r5 s₁₉ hr5 S₁₉ => ?_
  obtain ⟨t₂₀, x20, a20, S₂₀⟩ := S₁₉.freezeT hr5
  repeat w_left
  refine even_one_spec S₂₀ (R₁.less (Nat.add_le_add_left (by decide) k)) (k := k) (lst_rep a20 (Reps.cons (hp.sub (xA.tr x20)) Reps.nil)) hw hw2 fun ev t₂₁ s₂₁ x21 re S₂₁ => ?_
  obtain ⟨ea, evs, rfl, ea1, ea2⟩ := re.lst_inv
  have hel : evs.length = 1 := ea2.1
  obtain ⟨ev0, eg, er⟩ := ea2.get (i := 0) rfl
  repeat w_left
  refine iter_list S₂₁ (S₂₁.atT ea1) fun it2 s₂₂ hit2 S₂₂ => ?_
  refine comp_go (it_list (vs := evs)) self_list (fun m t' mu' ys => Sub t₂₁ t' ∧ mu' = [(r4, LstO []), (r3, LstO ([] ++ [Value.ref pa'])), (r2, LstO [Value.ref pa']), (r1, LstO []), (pa, LstO []), (e1, LstO [])] ∧ ((m = 0 ∧ ys = []) ∨ (m = 1 ∧ Reps prog w t' ys [leafD b q]))) R₁ (by rw [hcs]; exact ⟨rfl, trivial⟩) (by decide +kernel) rfl S₂₂ ⟨Sub.rfl', rfl, .inl ⟨rfl, rfl⟩⟩ ?_ ?_ (by rw [hel]; decide) ?_ ?_
  · rintro m t' mu' ys ⟨h1, rfl, (⟨rfl, rfl⟩ | ⟨rfl, h2⟩)⟩
    · exact ⟨rfl, Nat.zero_le _⟩
    · exact ⟨rfl, Nat.le_of_eq h2.1⟩
  · rintro m t' mu' ys c' n' s' p q ⟨h1, rfl, _⟩ S'
    exact S'.atT (ea1.sub h1)
  · rintro m v t₀ t' mu' ys c' s' m₀ acc E' env₂ hm hv ⟨h1, rfl, (⟨rfl, rfl⟩ | ⟨rfl, h2⟩)⟩ x0 R₂ hN₂ S' Qy Qn
    · rw [eg] at hv; cases hv
      repeat w_left
      rename_i s₂₃ S₂₃
      refine leaf_node_spec hq S₂₃ (R₂.less (Nat.add_le_add_left (by decide) k)) (k := k) (er.sub (h1.tr x0)) fun lv t₂₄ s₂₄ x24 rl S₂₄ => ?_
      exact ⟨t₂₄, _, _, ⟨h1.tr (x0.tr x24), rfl, .inr ⟨rfl, Reps.cons rl Reps.nil⟩⟩, S₂₄⟩
    · rw [hel] at hm; exact absurd hm (by decide)
  · rintro t' mu' ys acc2 s' hacc2 ⟨h1, rfl, (⟨e, _⟩ | ⟨_, h2⟩)⟩ S'
    · rw [hel] at e; cases e
    · repeat w_left
      obtain ⟨t₂₅, x25, a25, S₂₅⟩ := S'.freezeT hacc2
      exact ret _ t₂₅ _ (xA.tr (x20.tr (x21.tr (h1.tr x25)))) (lst_rep a25 (h2.sub x25)) (bk.same S₂₅)
end
end
section
open PySem PySem.W PyProof.Rows PySem.Calls
/-- what no node's Limits are; what no node's row is -/
noncomputable def badLim : Dt → Bool
  | .lst [_] => true
  | .int _ => true
  | _ => false
noncomputable def badRow : Dt → Bool
  | .lst [_, _, _] => true
  | .int _ => true
  | _ => false
theorem bad3 {l : List Dt} (h : badRow (.lst l) = true) : l.length = 3 := by
  rcases l with _ | ⟨_, _ | ⟨_, _ | ⟨_, _ | _⟩⟩⟩
  all_goals first | rfl | cases h
theorem bad1 {l : List Dt} (h : badLim (.lst l) = true) : l.length = 1 := by
  rcases l with _ | ⟨_, _ | _⟩
  all_goals first | rfl | cases h
section
variable {prog : Program} {w : World} {mg mb : Str → Option Value} {A : Around} {s : Shared} {c : Cx} {t t' : Heap} {mu : List (Addr × (Obj → Prop))} {n : Nm} {Q E : Value → Shared → Prop} {env : Env} {k : Nat} {b : Bool} {tk ti : Tok}
theorem own_pairs_err {v : Value} {x : Dt} (hx : badRow x = true) (S : ST w mg mb c t mu n s) (Ra : Ar A env c (k + 4)) (hv : Rep prog w t v (.dct [(wd b, x)]))
    (err : ∀ e T s', ST w mg mb c t ((e, ExcO (.ref T)) :: (T, TbO .none) :: mu) n s' → E (.ref e) s') : wpAny (model prog w) A (call (.ref 474) [v, .str (wd b) tk]) Q E s := by
  refine call_defC (D := []) (R := mu) (k := k + 3) (binds := [("node", v), ("word", .str (wd b) tk)]) S Ra S.1.pf.nl (at_474 S.1.pf) rfl (cr_474 S.1.pf) rfl (BK.at ⟨.inl rfl, .inr ⟨rfl, rfl⟩, trivial⟩) rfl rfl rfl ?_
  intro c₁ s₁ env₁ A₁ n₀ e0 hN hF hcs S₁ R₁ bk Q₁ E₁
  refine w_cons ?_
  intro K₀
  obtain ⟨na, _, rfl, _⟩ := hv.dct_inv
  obtain ⟨kvs, y1, y2, y3⟩ := hv.dct_rep
  obtain ⟨rv, k1, k2⟩ := y3.at (k := wd b) (d := x) (by cases b <;> rfl)
  repeat w_left
  refine meth_d (S₁.atT y1) PySem.F.slot_dict_get PySem.F.type_dict_get ?_
  repeat w_left
  refine new_lst S₁ (by show 0 ≤ _; decide) fun s₂ ea hea S₂ => ?_
  repeat w_left
  refine get2_d S₂ (S₂.atT y1) y2 (strKind_is _ _ _ _) fun s₃ S₃ _ => ?_
  rw [k1]
  repeat w_left
  rename_i s₄ S₄
  cases x with
  | int i =>
    refine isi S₄ (k2.ty S₄ rfl) (b := false) (by kernel_rfl) fun s₅ S₅ _ => ?_
    repeat w_left
    refine make_fault S₅ R₁ fun e s₆ S₆ => ?_
    refine ⟨e, _, _, _, rfl, S₆, ?_⟩
    exact leave_new S₆ R₁ hF fun s₇ T S₇ => err e T s₇ (bk _ [_, _] [] [_] _ _ S₇ rfl)
  | lst l =>
    refine isi S₄ (k2.ty S₄ rfl) (b := true) (by kernel_rfl) fun s₅ S₅ _ => ?_
    obtain ⟨la, lvs, rfl, l1, l2⟩ := k2.lst_inv
    have hll : lvs.length = 3 := l2.1.trans (bad3 hx)
    repeat w_left
    show wpAny _ _ (call (.builtin "len") [.ref la]) _ _ _
    refine len_l S₅ (S₅.atT l1) (sz1 (Nat.le_of_eq hll) (by decide)) fun s₆ u₆ S₆ _ => ?_
    repeat w_left
    rw [hll]
    try refine PySem.W.ite_pos (by decide) ?_
    repeat w_left
    refine make_fault S₆ R₁ fun e s₇ S₇ => ?_
    refine ⟨e, _, _, _, rfl, S₇, ?_⟩
    exact leave_new S₇ R₁ hF fun s₈ T S₈ => err e T s₈ (bk _ [_, _] [] [_] _ _ S₈ rfl)
  | _ => cases hx
theorem own_ends_err {v : Value} {x : Dt} {r : List (Str × Dt)} (hx : badLim x = true) (hr : dAt r "Limits" = some x) (S : ST w mg mb c t mu n s) (Ra : Ar A env c (k + 4)) (hv : Rep prog w t v (.lst [.dct r]))
    (err : ∀ e T s', ST w mg mb c t ((e, ExcO (.ref T)) :: (T, TbO .none) :: mu) n s' → E (.ref e) s') : wpAny (model prog w) A (call (.ref 479) [v, .str (wd b) tk]) Q E s := by
  refine call_defC (D := []) (R := mu) (k := k + 3) (binds := [("kids", v), ("word", .str (wd b) tk)]) S Ra S.1.pf.nl (at_479 S.1.pf) rfl (cr_479 S.1.pf) rfl (BK.at ⟨.inl rfl, .inr ⟨rfl, rfl⟩, trivial⟩) rfl rfl rfl ?_
  intro c₁ s₁ env₁ A₁ n₀ e0 hN hF hcs S₁ R₁ bk Q₁ E₁
  refine w_cons ?_
  intro K₀
  obtain ⟨ka, kas, rfl, ka1, ka2⟩ := hv.lst_inv
  have hkl : kas.length = 1 := ka2.1
  obtain ⟨kv, g1, g2⟩ := ka2.get (i := 0) rfl
  obtain ⟨na, _, rfl, _⟩ := g2.dct_inv
  obtain ⟨kvs, y1, y2, y3⟩ := g2.dct_rep
  obtain ⟨rv, k1, k2⟩ := y3.at hr
  repeat w_left
  refine iter_list S₁ (S₁.atT ka1) fun it s₂ hit S₂ => ?_
  refine for_go (it_list (vs := kas)) (own_plain fun _ => rfl) (fun m t' mu' n' => m = 0 ∧ Sub t t' ∧ mu' = [] ∧ n' = _) R₁ S₂ ⟨rfl, Sub.rfl', rfl, rfl⟩ ?_ ?_ ?_
  · rintro m t' mu' n' s' p ⟨_, h1, rfl, _⟩ S'
    exact S'.atT (ka1.sub h1)
  · rintro m xv t₀ t' mu' n' s' hm hv ⟨rfl, h1, rfl, rfl⟩ x0 S' Eb Qb
    rw [g1] at hv; cases hv
    have x1 := h1.tr x0
    repeat w_left
    rename_i s₃ S₃
    refine meth_d (S₃.atT (y1.sub x1)) PySem.F.slot_dict_get PySem.F.type_dict_get ?_
    repeat w_left
    refine get1_d S₃ (S₃.atT (y1.sub x1)) y2 (strKind_is _ _ _ _) fun s₄ S₄ _ => ?_
    rw [k1]
    repeat w_left
    cases x with
    | int i =>
      refine isi S₄ ((k2.sub x1).ty S₄ rfl) (b := false) (by kernel_rfl) fun s₅ S₅ _ => ?_
      repeat w_left
      refine make_fault S₅ R₁ fun e s₆ S₆ => ?_
      refine ⟨e, _, _, _, rfl, S₆, ?_⟩
      exact loop_errN S₆ R₁ hF fun s₇ T S₇ => leave_held S₇ R₁ fun s₈ S₈ => err e T s₈ (St.shrink (bk _ [_, _] [] [_] _ _ S₈ rfl) S.1.base x1 S.1.pf)
    | lst l =>
      refine isi S₄ ((k2.sub x1).ty S₄ rfl) (b := true) (by kernel_rfl) fun s₅ S₅ _ => ?_
      obtain ⟨la, lvs, rfl, l1, l2⟩ := k2.lst_inv
      have hll : lvs.length = 1 := l2.1.trans (bad1 hx)
      repeat w_left
      refine item_d S₅ (S₅.atT (y1.sub x1)) (strKind_is _ _ _ _) k1 fun s₆ S₆ _ => ?_
      repeat w_left
      refine len_l S₆ (S₆.atT (l1.sub x1)) (sz1 (Nat.le_of_eq hll) (by decide)) fun s₇ u₇ S₇ _ => ?_
      repeat w_left
      rw [hll]
      try refine PySem.W.ite_pos (by decide) ?_
      repeat w_left
      refine make_fault S₇ R₁ fun e s₈ S₈ => ?_
      refine ⟨e, _, _, _, rfl, S₈, ?_⟩
      exact loop_errN S₈ R₁ hF fun s₉ T S₉ => leave_held S₉ R₁ fun s₁₀ S₁₀ => err e T s₁₀ (St.shrink (bk _ [_, _] [] [_] _ _ S₁₀ rfl) S.1.base x1 S.1.pf)
    | _ => cases hx
  · rintro t' mu' n' s' ⟨e, _⟩
    rw [hkl] at e; cases e
theorem assign_comp_raise {elt target iter : PySem.Expr} {y : Str} {py : Pos} {ifs : List PySem.Expr} {scope : Scope} {cl : List (Str × Addr)} {pos spos : Pos} {Q : Flow → Shared → Prop}
    (hsw : swapsWith (.ListComp elt [⟨target, iter, ifs, 0⟩] scope pos) (some (.Name y py)) spos.line env = pure true) (hclos : closureFor scope env = pure cl) (hkind : scope.kind = .function)
    (hnames : ∀ z ∈ scope.names, z.2 = .local → scope.names.lookup z.1 = some .local) (h : wpAny (model prog w) A (eval iter env) (fun _ _ => False) E s) (hs : ∀ x, foldedSetIterable iter env x = pure x := by intro _; rfl) :
    wpAny (model prog w) A (exec (.Assign [.Name y py] (.ListComp elt [⟨target, iter, ifs, 0⟩] scope pos) spos) env) Q E s := by
  rw [exec_Assign_Name_used _ _ _ _ hsw]
  refine wpAny_bind (wpAny_standAt (wpAny_bind ?_))
  show wpAny _ A (do let _ ← comprehension (.ListComp elt [⟨target, iter, ifs, 0⟩] scope pos) scope env _ (newList []) false (eval iter env) (some (assign (.Name y py) env))) _ _ s
  exact wpAny_bind (wpAny_mono (wpAny_comprehension_free (use := some (assign (.Name y py) env)) (Q := fun _ s' => Q .next s') rfl hs hclos hkind hnames
    (wpAny_mono h (fun _ _ f => f.elim) fun _ _ e => e)) (fun _ s' hq => wpAny_pure (wpAny_pure hq)) fun _ _ e => e)
/-- roots that the law has refused -/
inductive Bad (b : Bool) : Dt → Prop
  | lim (x : Dt) (r : List (Str × Dt)) : badLim x = true → dAt r "Limits" = some x → Bad b (.dct [("Kids", .lst [.dct r])])
  | row (x : Dt) : badRow x = true → Bad b (.dct [(wd b, x)])
theorem no_kids {x : Dt} : dAt [(wd b, x)] "Kids" = none := by cases b <;> rfl
theorem put_below_err {v pv wv : Value} {d : Dt} (hd : Bad b d) (S : ST w mg mb c t mu n s) (Ra : Ar A env c (k + 6)) (hv : Rep prog w t v d)
    (err : ∀ e T s', ST w mg mb c t ((e, ExcO (.ref T)) :: (T, TbO .none) :: mu) n s' → E (.ref e) s') : wpAny (model prog w) A (call (.ref 484) [v, .str (wd b) tk, pv, wv]) Q E s := by
  refine call_defC (D := []) (R := mu) (k := k + 5) (binds := [("node", v), ("word", .str (wd b) tk), ("pair", pv), ("width", wv)]) S Ra S.1.pf.nl (at_484 S.1.pf) rfl (cr_484 S.1.pf) rfl (BK.at ⟨.inl rfl, .inr ⟨rfl, rfl⟩, .inl rfl, .inl rfl, trivial⟩) rfl rfl rfl ?_
  intro c₁ s₁ env₁ A₁ n₀ e0 hN hF hcs S₁ R₁ bk Q₁ E₁
  refine w_cons ?_
  intro K₀
  cases hd with
  | row x hx =>
    obtain ⟨na, _, rfl, _⟩ := hv.dct_inv
    obtain ⟨kvs, y1, y2, y3⟩ := hv.dct_rep
    have k1 := y3.none (no_kids (b := b) (x := x))
    repeat w_left
    refine notin_d S₁ (S₁.atT y1) y2 (strKind_is _ _ _ _) fun s₂ S₂ _ => ?_
    rw [k1]
    repeat w_left
    refine notin_d S₂ (S₂.atT y1) y2 (strKind_is _ _ _ _) fun s₃ S₃ _ => ?_
    rw [k1]
    repeat w_left
    refine own_pairs_err hx S₃ (R₁.less (Nat.add_le_add_left (by decide) k)) (k := k) hv fun e T s₄ S₄ => ?_
    exact leave_on S₄ R₁ hF fun s₅ T' S₅ => err e T' s₅ (bk _ [_, _] [] [] _ _ S₅ rfl)
  | lim x r hx hr =>
    obtain ⟨na, _, rfl, _⟩ := hv.dct_inv
    obtain ⟨kvs, y1, y2, y3⟩ := hv.dct_rep
    obtain ⟨kv, k1, k2⟩ := y3.at (k := "Kids") (d := .lst [.dct r]) (by rfl)
    obtain ⟨ka, kas, rfl, ka1, ka2⟩ := k2.lst_inv
    have hka : kas.length = 1 := ka2.1
    repeat w_left
    refine notin_d S₁ (S₁.atT y1) y2 (strKind_is _ _ _ _) fun s₂ S₂ _ => ?_
    rw [k1]
    repeat w_left
    try refine PySem.W.ite_neg (by simp) ?_
    repeat w_left
    refine item_d S₂ (S₂.atT y1) (strKind_is _ _ _ _) k1 fun s₃ S₃ _ => ?_
    repeat w_left
    refine new_lst S₃ (by show 0 ≤ _; decide) fun s₄ e1 he1 S₄ => ?_
    repeat w_left
    refine eq_nil (by assumption) (S₄.atT ka1) (S₄.atM (.head _)) ?_
    rw [show kas.isEmpty = false by cases kas with | nil => cases hka | cons => rfl]
    repeat w_left
    refine item_d S₄ (S₄.atT y1) (strKind_is _ _ _ _) k1 fun s₅ S₅ _ => ?_
    repeat w_left
    rename_i s₆ S₆
    refine own_ends_err hx hr S₆ (R₁.less (Nat.add_le_add_left (by decide) k)) (k := k) k2 fun e T s₇ S₇ => ?_
    exact leave_on S₇ R₁ hF fun s₈ T' S₈ => err e T' s₈ (bk _ [_, _] [] [_] _ _ S₈ rfl)
theorem dropped_below_err {v kv : Value} {d : Dt} (hd : Bad b d) (S : ST w mg mb c t mu n s) (Ra : Ar A env c (k + 6)) (hv : Rep prog w t v d)
    (err : ∀ e T s', ST w mg mb c t ((e, ExcO (.ref T)) :: (T, TbO .none) :: mu) n s' → E (.ref e) s') : wpAny (model prog w) A (call (.ref 496) [v, .str (wd b) tk, kv]) Q E s := by
  refine call_defC (D := []) (R := mu) (k := k + 5) (binds := [("node", v), ("word", .str (wd b) tk), ("key", kv)]) S Ra S.1.pf.nl (at_496 S.1.pf) rfl (cr_496 S.1.pf) rfl (BK.at ⟨.inl rfl, .inl rfl, .inr ⟨rfl, rfl⟩, trivial⟩) rfl rfl rfl ?_
  intro c₁ s₁ env₁ A₁ n₀ e0 hN hF hcs S₁ R₁ bk Q₁ E₁
  refine w_cons ?_
  intro K₀
  cases hd with
  | row x hx =>
    obtain ⟨na, _, rfl, _⟩ := hv.dct_inv
    obtain ⟨kvs, y1, y2, y3⟩ := hv.dct_rep
    have k1 := y3.none (no_kids (b := b) (x := x))
    repeat w_left
    refine notin_d S₁ (S₁.atT y1) y2 (strKind_is _ _ _ _) fun s₂ S₂ _ => ?_
    rw [k1]
    repeat w_left
    refine assign_comp_raise rfl rfl rfl (by decide +kernel) ?_
    repeat w_left
    refine own_pairs_err hx S₂ (R₁.less (Nat.add_le_add_left (by decide) k)) (k := k) hv fun e T s₄ S₄ => ?_
    exact leave_on S₄ R₁ hF fun s₅ T' S₅ => err e T' s₅ (bk _ [_, _] [] [] _ _ S₅ rfl)
  | lim x r hx hr =>
    obtain ⟨na, _, rfl, _⟩ := hv.dct_inv
    obtain ⟨kvs, y1, y2, y3⟩ := hv.dct_rep
    obtain ⟨kv', k1, k2⟩ := y3.at (k := "Kids") (d := .lst [.dct r]) (by rfl)
    repeat w_left
    refine notin_d S₁ (S₁.atT y1) y2 (strKind_is _ _ _ _) fun s₂ S₂ _ => ?_
    rw [k1]
    repeat w_left
    try refine PySem.W.ite_neg (by simp) ?_
    repeat w_left
    refine item_d S₂ (S₂.atT y1) (strKind_is _ _ _ _) k1 fun s₅ S₅ _ => ?_
    repeat w_left
    rename_i s₆ S₆
    refine own_ends_err hx hr S₆ (R₁.less (Nat.add_le_add_left (by decide) k)) (k := k) k2 fun e T s₇ S₇ => ?_
    exact leave_on S₇ R₁ hF fun s₈ T' S₈ => err e T' s₈ (bk _ [_, _] [] [] _ _ S₈ rfl)
theorem tree_put_err {v kv vv : Value} {d : Dt} {wi : Nat} (hw : 2 ≤ wi) (hd : Bad b d) (S : ST w mg mb c t mu n s) (Ra : Ar A env c (k + 8)) (hv : Rep prog w t v d)
    (err : ∀ e T s', ST w mg mb c t ((e, ExcO (.ref T)) :: (T, TbO .none) :: mu) n s' → E (.ref e) s') : wpAny (model prog w) A (call (.ref 491) [v, .str (wd b) tk, kv, vv, .int (wi : Int) ti]) Q E s := by
  refine call_def (D := []) (R := mu) (k := k + 7) (binds := [("root", v), ("word", .str (wd b) tk), ("key", kv), ("value", vv), ("width", .int (wi : Int) ti)]) S Ra S.1.pf.nl (at_491 S.1.pf) rfl (cr_491 S.1.pf) (BindsTo.of_eq rfl) (locs rfl) (by decide +kernel) rfl rfl rfl ?_
  intro c₁ s₁ env₁ A₁ n₀ e0 hN hF S₁ R₁ bk Q₁ E₁
  refine w_cons ?_
  intro K₀
  repeat w_left
  try refine PySem.W.ite_neg (by simp; omega) ?_
  repeat w_left
  refine new_tup S₁ (by show 2 ≤ _; decide) fun s₂ t₂ p x2 a2 S₂ => ?_
  repeat w_left
  refine put_below_err hd S₂ (R₁.less (Nat.add_le_add_left (by decide) k)) (k := k) (hv.sub x2) fun e T s₃ S₃ => ?_
  exact leave_on S₃ R₁ hF fun s₄ T' S₄ => err e T' s₄ (St.shrink (bk _ [_, _] [] [] _ _ S₄ rfl) S.1.base x2 S.1.pf)
theorem tree_dropped_err {v kv : Value} {d : Dt} (hd : Bad b d) (S : ST w mg mb c t mu n s) (Ra : Ar A env c (k + 8)) (hv : Rep prog w t v d)
    (err : ∀ e T s', ST w mg mb c t ((e, ExcO (.ref T)) :: (T, TbO .none) :: mu) n s' → E (.ref e) s') : wpAny (model prog w) A (call (.ref 503) [v, .str (wd b) tk, kv]) Q E s := by
  refine call_def (D := []) (R := mu) (k := k + 7) (binds := [("root", v), ("word", .str (wd b) tk), ("key", kv)]) S Ra S.1.pf.nl (at_503 S.1.pf) rfl (cr_503 S.1.pf) (BindsTo.of_eq rfl) (locs rfl) (by decide +kernel) rfl rfl rfl ?_
  intro c₁ s₁ env₁ A₁ n₀ e0 hN hF S₁ R₁ bk Q₁ E₁
  refine w_cons ?_
  intro K₀
  repeat w_left
  refine dropped_below_err hd S₁ (R₁.less (Nat.add_le_add_left (by decide) k)) (k := k) hv fun e T s₃ S₃ => ?_
  exact leave_on S₃ R₁ hF fun s₄ T' S₄ => err e T' s₄ (bk _ [_, _] [] [] _ _ S₄ rfl)
theorem tree_put_empty {v kv : Value} {q wi : Nat} {tv : Tok} (hq : q < 9) (hw : 2 ≤ wi) (hw2 : wi ≤ 4) (S : ST w mg mb c t mu n s) (Ra : Ar A env c (k + 8)) (hv : Rep prog w t v (.dct [("Kids", .lst [])])) (hk : Rep prog w t kv (kDt b q))
    (ret : ∀ v' t' s', Sub t t' → Rep prog w t' v' (.dct [(wd b, .lst [oDt b q, .int 7])]) → ST w mg mb c t' mu n s' → Q v' s') :
    wpAny (model prog w) A (call (.ref 491) [v, .str (wd b) tk, kv, .int 7 tv, .int (wi : Int) ti]) Q E s := by
  refine call_def (D := []) (R := mu) (k := k + 7) (binds := [("root", v), ("word", .str (wd b) tk), ("key", kv), ("value", .int 7 tv), ("width", .int (wi : Int) ti)]) S Ra S.1.pf.nl (at_491 S.1.pf) rfl (cr_491 S.1.pf) (BindsTo.of_eq rfl) (locs rfl) (by decide +kernel) rfl rfl rfl ?_
  intro c₁ s₁ env₁ A₁ n₀ e0 hN hF S₁ R₁ bk Q₁ E₁
  refine w_cons ?_
  intro K₀
  repeat w_left
  try refine PySem.W.ite_neg (by simp; omega) ?_
  repeat w_left
  refine new_tup S₁ (by show 2 ≤ _; decide) fun s₂ t₂ p x2 a2 S₂ => ?_
  repeat w_left
  refine put_below_empty hq hw hw2 S₂ (R₁.less (Nat.add_le_add_left (by decide) k)) (k := k) (hv.sub x2) (tup_rep a2 (Reps.cons (hk.sub x2) (Reps.cons (.int _ _) Reps.nil))) fun nv t₃ s₃ x3 rn S₃ => ?_
  obtain ⟨na, ns, rfl, n1, n2⟩ := rn.lst_inv
  have hnl : ns.length = 1 := n2.1
  obtain ⟨lv, g1, g2⟩ := n2.get (i := 0) rfl
  repeat w_left
  rename_i s₄ S₄
  refine len_l S₄ (S₄.atT n1) (by rw [sizeLine_eq]; omega) fun s₅ u₅ S₅ _ => ?_
  repeat w_left
  rw [hnl]
  try refine PySem.W.ite_pos (by decide) ?_
  repeat w_left
  refine item_l (S₅.atT n1) (by decide) (by decide) g1 ?_
  repeat w_left
  refine as_root_spec S₅ (R₁.less (Nat.add_le_add_left (by decide) k)) (k := k) g2 fun rv t₆ s₆ x6 rr S₆ => ?_
  repeat w_left
  exact ret rv t₆ _ (x2.tr (x3.tr x6)) rr (bk.same S₆)
end
end
section
open PySem PySem.W PyProof.Rows PySem.Calls
section
variable {prog : Program} {w : World} {mg mb : Str → Option Value} {A : Around} {s : Shared} {c : Cx} {t t' : Heap} {mu : List (Addr × (Obj → Prop))} {n : Nm} {Q E : Value → Shared → Prop} {env : Env} {k : Nat} {b : Bool} {tk ti : Tok} {a d : Addr}
theorem update_d {K : Type} [DecidableEq K] {knd : KeyKind prog w K} {kvs more : List (K × Value)} (S : ST w mg mb c t ((a, DctO knd kvs) :: mu) n s) (x : At s.heap d (DctO knd more)) (hne : a ≠ d) (lo : (d == sysModules) = false) (hz : kvs.length + more.length ≤ sizeLine)
    (h : ∀ s', ST w mg mb c t ((a, DctO knd (merged kvs more)) :: mu) n s' → Q .none s') : wpAny (model prog w) A (call (.builtin "dict.update") [.ref a, .ref d]) Q E s := by
  have y : At s.heap a (DctO knd kvs) := S.atM (.head _)
  refine call_meetsIn PySem.F.slot_dict_update y.dct.typeIs PySem.F.entry_dict_update (PySem.F.args_dict_update_2 _ _) (meets_dict_update knd a d hne lo) ⟨kvs, more, y.dct, x.dct, hz, fun h' hd _ hs => ?_⟩
  obtain ⟨o', e', p'⟩ := at_dct hd
  exact h _ (S.write (k := s.toks) .head (fun b x hb e => (hs.2 b hb).trans e) e' p')
theorem bytes_item {value slice : PySem.Expr} {q : Nat} {tk ti : Tok} (hq : q < 100) (h : ∀ u, Q (.int ((65 + q : Nat) : Int) u) { s with toks := s.toks + 1 })
    (hs : subscripted slice false (.bytes (b1 q).toArray tk) (.int 0 ti) = operate [.bytes (b1 q).toArray tk, .int 0 ti] (getItem (.bytes (b1 q).toArray tk) (.int 0 ti)) := by with_unfolding_all rfl)
    (ht : ∀ v, letTemporaryGo value (.bytes (b1 q).toArray tk) v = pure () := by intro _; with_unfolding_all rfl) :
    wpAny (model prog w) A (subscriptTail value slice (.bytes (b1 q).toArray tk) (.int 0 ti)) Q E s := by
  refine KBy.item_N (x := b1 q) (by show 1 ≤ _; decide) (by decide) (by show (0 : Int) < 1; decide) ?_ hs ht
  have : ((b1 q).getD (0 : Int).toNat 0).toNat = 65 + q := by
    show (65 + q).toUInt8.toNat = 65 + q
    simp; omega
  rw [this]; exact h _
theorem slice_any {value slice : PySem.Expr} {vl vu : Value} {lo hi : Option Int} {vs : List Value} (S : ST w mg mb c t mu n s) (x : At s.heap a (LstO vs)) (pl : IsPart vl lo) (pu : IsPart vu hi) (hz : vs.length ≤ sizeLine)
    (h : ∀ r s', c.N ≤ r → ST w mg mb c t ((r, LstO (slicePick vs.toArray lo hi none).toList) :: mu) n s' → Q (.ref r) s')
    (hs : subscripted slice false (.ref a) (.ref s.heap.objs.size) = operate [.ref s.heap.objs.size, .ref a] (getItem (.ref a) (.ref s.heap.objs.size)) := by with_unfolding_all rfl) :
    wpAny (model prog w) A (subscriptTail value slice (.ref a) (.ref s.heap.objs.size)) Q E { s with heap := s.heap.push { cls := .type "slice", data := .fields #[vl, vu, .none] } } := by
  refine tail_any (Heap.IsList.typeIs (s := { s with heap := s.heap.push { cls := .type "slice", data := .fields #[vl, vu, .none] } }) (x.isList.push _)) slot_list_getitem.lookup
    (wpAny_getItem_list_slice (x.isList.push _) (Heap.IsSliceOf.new ..) pl pu .none (by simp) ?_ (by simpa using hz)) hs
  have S1 := (S.grow (k := s.toks) (Sub.push s.heap { cls := .type "slice", data := .fields #[vl, vu, .none] })).newMu (o := { cls := .type "list", data := .seq (slicePick vs.toArray lo hi none) }) (p := LstO (slicePick vs.toArray lo hi none).toList) ⟨0, by rw [Array.toArray_toList]⟩
  have e1 : (s.heap.push { cls := .type "slice", data := .fields #[vl, vu, .none] }).objs.size = s.heap.objs.size + 1 := Heap.size_push ..
  dsimp only at S1
  show Q (.ref (s.heap.push _).objs.size) _
  rw [e1] at S1 ⊢
  exact h _ _ (Nat.le_succ_of_le S.NL) S1
theorem told_tup {m : Nat} {ds : List (Str × Dt)} {e : Dt} (h : Told m (.dct ds) e) : ∃ es, e = .tup es := by cases h; exact ⟨_, rfl⟩
end
end
section
open PySem PySem.W PyProof.Rows PySem.Calls
theorem Ar.units65 {A : Around} {env : Env} {c : Cx} {k : Nat} (R : Ar A env c k) : A.in1.units + 64 < cLine := by have := R.un; show A.units + 1 + 64 < 9900; omega
section
variable {prog : Program} {w : World} {mg mb : Str → Option Value} {A : Around} {s : Shared} {c : Cx} {t t' : Heap} {mu : List (Addr × (Obj → Prop))} {n : Nm} {Q E : Value → Shared → Prop} {env : Env} {k : Nat} {b : Bool} {tk ti : Tok}
noncomputable abbrev hurtE (L : Addr) : Env := callEnvC (fnOf "_law_hurt_right" "_law_hurt_right" (fArgs (sA 57)) (fBody (sA 57)) (fScope (sA 57)) .none .none .none (.str "law_sa0515_01" 854) none (.ref 585) .none) L 586
noncomputable abbrev hurtQ : Str := "_law_hurt_right.<locals>.<lambda>"
theorem code_585 (H : PF w mg mb t) : CodeHd t 585 581 :=
  ⟨_, _, _, _, _, _, _, _, _, at_585 H, rfl, rfl, rfl, rfl, rfl, rfl, rfl, rfl, by decide⟩
theorem hurt_if {A₁ : Around} {t : Heap} {c₁ : Cx} {n₂ : Nm} {s₂₀ : Shared} {Q₁ : Flow → Shared → Prop} {E₁ : Value → Shared → Prop} {ua ca da la : Addr} {cap wi q : Nat} {kv : Value} {ps : List Value} (hq : q < 9) (hw : 2 ≤ wi) (hw2 : wi ≤ 4)
    (S₂₀ : ST w mg mb c₁ t [(ua, UrnP prog w ca cap), (581, TabC ps)] n₂ s₂₀) (R₁ : Ar A₁ (hurtE c₁.L) c₁ (k + 39)) (m3 : n₂.k "word" = some (.str (wd b) tk)) (m4 : n₂.k "width" = some (.int (wi : Int) ti)) (m5 : n₂.k "key" = some kv) (m6 : n₂.m "empty" = some (.ref da))
    (hC : c₁.cells = cellsFrom (c₁.L + 1) (fScope (sA 57)).names []) (rk' : Rep prog w t kv (kDt b q)) (a16 : At t da (DctO (PySem.strKind prog w) [("Kids", .ref la)])) (sda : (da == sysModules) = false) (a14 : At t la (LstO []))
    (next : ∀ t' s', Sub t t' → ST w mg mb c₁ t' [(ua, UrnP prog w ca cap), (581, TabC ps)] n₂ s' → wpAny (model prog w) A₁ (execs ((fBody (sA 57)).drop 3) (hurtE c₁.L)) Q₁ E₁ s') :
    wpAny (model prog w) A₁ (execs ((fBody (sA 57)).drop 2) (hurtE c₁.L)) Q₁ E₁ s₂₀ := by
  have dE : DRep prog w t [("Kids", .ref la)] [("Kids", .lst [])] := .cons (lst_rep a14 Reps.nil) .nil
  have rE := dE.rep a16 sda
  refine w_cons ?_
  intro K₀
  repeat w_left
  refine tree_put_empty hq hw hw2 S₂₀ (R₁.less (by omega)) (k := k) rE rk' fun tv t₂₁ s₂₁ x21 rt S₂₁ => ?_
  obtain ⟨e1, te1, fe1⟩ : Tell 3 (.dct [(wd b, .lst [oDt b q, .int 7])]) := tell_one (tell_lst (fun d hd => by
    rcases List.mem_cons.mp hd with rfl | hd
    · exact tell_o _
    · rw [List.mem_singleton] at hd; subst hd; exact tell_int _) (by show 2 ≤ _; decide))
  obtain ⟨es1, rfl⟩ := told_tup te1
  repeat w_left
  refine told_spec te1 S₂₁ (R₁.less (by omega)) (k := k) rt fun v₂₂ t₂₂ s₂₂ x22 r22 S₂₂ => ?_
  repeat w_left
  refine disp1 S₂₂ fun db s₂₃ hdb sdb S₂₃ => ?_
  repeat w_left
  refine ite_join (Mid := fun v s' => (∃ u, v = Value.int (q : Int) u) ∧ ST w mg mb c₁ t₂₂ [(db, DctO (PySem.strKind prog w) []), (ua, UrnP prog w ca cap), (581, TabC ps)] n₂ s') (fun hb => ?_) (fun hb => ?_) ?_
  · intro Md
    repeat w_left
    cases b with
    | true => exact absurd hb (by decide +kernel)
    | false => obtain ⟨u, rfl⟩ := rk'.int_inv; exact ⟨⟨u, rfl⟩, S₂₃⟩
  · intro Md
    repeat w_left
    cases b with
    | false => exact absurd hb (by decide +kernel)
    | true =>
      obtain ⟨u, rfl⟩ := rk'.byt_inv
      refine bytes_item (by omega) fun u' => ?_
      repeat w_left
      exact ⟨⟨_, by congr 1; omega⟩, S₂₃⟩
  rintro _ s₂₄ ⟨⟨u₂₄, rfl⟩, S₂₄⟩
  repeat w_left
  refine law_object_spec (i := q) S₂₄ (R₁.less (Nat.add_le_add_left (by decide) k)) (k := k) (by omega) fun oq t₂₅ s₂₅ x25 rq S₂₅ => ?_
  repeat w_left
  refine new_lst S₂₅ (by show 2 ≤ _; decide) fun s₂₆ lb hlb S₂₆ => ?_
  obtain ⟨t₂₇, x27, a27, S₂₇⟩ := S₂₆.freezeT hlb
  repeat w_left
  refine ⟨_, _, rfl, by simp, t₂₇, _, S₂₇, fun s₂₈ S₂₈ => ?_⟩
  obtain ⟨t₂₉, x29, a29, S₂₉⟩ := S₂₈.freezeT hdb
  have dB : DRep prog w t₂₉ [(wd b, .ref lb)] [(wd b, .lst [oDt b q, .int 7])] := .cons (lst_rep (a27.sub x29) (Reps.cons (rq.sub (x27.tr x29)) (Reps.cons (.int _ _) Reps.nil))) .nil
  have rB := dB.rep a29 sdb
  repeat w_left
  refine told_spec te1 S₂₉ (R₁.less (by omega)) (k := k) rB fun v₃₀ t₃₀ s₃₀ x30 r30 S₃₀ => ?_
  repeat w_left
  have xB : Sub t₂₂ t₃₀ := x25.tr (x27.tr (x29.tr x30))
  refine ne_tup S₃₀ R₁ (fe1.mono (by decide)) (r22.sub xB) r30 ?_
  repeat w_left
  refine disp1 S₃₀ fun dc s₃₁ hdc sdc S₃₁ => ?_
  repeat w_left
  refine new_lst S₃₁ (by show 0 ≤ _; decide) fun s₃₂ lc hlc S₃₂ => ?_
  obtain ⟨t₃₃, x33, a33, S₃₃⟩ := S₃₂.freezeT hlc
  repeat w_left
  refine ⟨_, _, rfl, by simp, t₃₃, _, S₃₃, fun s₃₄ S₃₄ => ?_⟩
  have xC : Sub t t₃₃ := x21.tr (x22.tr (xB.tr x33))
  repeat w_left
  refine keq_ne sda sdc (S₃₄.atT (a16.sub xC)).dct (S₃₄.atM (.head _)).dct R₁.units (r := true) (fun _ => KeqHits.hit (k := ("Kids" : Str)) (v := .ref la) (y := .ref lc) (r := []) (e := decide (([] : List Int) = [])) (b := true) (by rfl) (keq_ints (S₃₄.atT (a14.sub xC)).isList IntsAre.nil (S₃₄.atT a33).isList IntsAre.nil R₁.units65) .nil) ?_
  w_left
  try refine PySem.W.ite_neg (by show ¬ (false = true); decide) ?_
  w_left
  w_left
  w_left
  show wpAny _ _ (execs _ _) _ _ _
  exact next t₃₃ _ xC (S₃₄.sub (List.sublist_cons_self ..))
end
end
section
open PySem PySem.W PyProof.Rows PySem.Calls
section
variable {prog : Program} {w : World} {mg mb : Str → Option Value} {A : Around} {s : Shared} {c : Cx} {t t' : Heap} {mu : List (Addr × (Obj → Prop))} {n : Nm} {Q E : Value → Shared → Prop} {env : Env} {k : Nat} {b : Bool} {tk ti : Tok}
theorem lt4 : ∀ {n : Nat}, n < 4 → n = 0 ∨ n = 1 ∨ n = 2 ∨ n = 3 := by decide
/-- the kid, hurt in one of four ways -/
noncomputable def HurtKid (prog : Program) (w : World) (t : Heap) (b : Bool) (way : Nat) (v : Value) : Prop :=
  ∃ ld rd, Rep prog w t v (.dct [("Limits", ld), (wd b, rd)]) ∧ (way < 2 → badLim ld = true) ∧ (¬ way < 2 → badRow rd = true) ∧ Tell 1 ld ∧ Tell 1 rd
theorem m_lim {x y z : Value} : merged [(("Limits" : Str), x), (wd b, y)] [("Limits", z)] = [(("Limits" : Str), z), (wd b, y)] := by cases b <;> rfl
theorem m_row {x y z : Value} : merged [(("Limits" : Str), x), (wd b, y)] [(wd b, z)] = [(("Limits" : Str), x), (wd b, z)] := by cases b <;> rfl
theorem tell_os {l : List Dt} (hl : ∀ d ∈ l, (∃ i : Int, d = .int i) ∨ ∃ i, d = oDt b i) (hz : l.length ≤ 1000) : Tell 1 (.lst l) := tell_lst (fun d hd => by
  rcases hl d hd with ⟨i, rfl⟩ | ⟨i, rfl⟩
  · exact tell_int _
  · exact tell_o _) hz
theorem hurt_kid {A₁ : Around} {t : Heap} {c₁ : Cx} {n₂ : Nm} {s₁ : Shared} {Q₁ : Flow → Shared → Prop} {E₁ : Value → Shared → Prop} {ua ca ea : Addr} {cap way : Nat} {o0 o5 : Value} {tw : Tok} {ps : List Value} (hway : way < 4)
    (S₁ : ST w mg mb c₁ t [(ua, UrnP prog w ca cap), (581, TabC ps)] n₂ s₁) (R₁ : Ar A₁ (hurtE c₁.L) c₁ (k + 39)) (m2 : n₂.m "ends" = some (.ref ea)) (m3 : n₂.k "word" = some (.str (wd b) tk)) (m7 : n₂.m "way" = some (.int (way : Int) tw))
    (a7 : At t ea (LstO [o0, o5])) (r0 : Rep prog w t o0 (oDt b 0)) (r5 : Rep prog w t o5 (oDt b 5))
    (next : ∀ t' s' kd, Sub t t' → HurtKid prog w t' b way (.ref kd) → ST w mg mb c₁ t' [(ua, UrnP prog w ca cap), (581, TabC ps)] (n₂.set "kid" (.ref kd)) s' → wpAny (model prog w) A₁ (execs ((fBody (sA 57)).drop 5) (hurtE c₁.L)) Q₁ E₁ s') :
    wpAny (model prog w) A₁ (execs ((fBody (sA 57)).drop 3) (hurtE c₁.L)) Q₁ E₁ s₁ := by
  refine w_cons ?_
  intro K₀
  repeat w_left
  refine disp2 S₁ fun kd s₂ hkd skd S₂ => ?_
  repeat w_left
  refine law_object_spec (i := 0) S₂ (R₁.less (Nat.add_le_add_left (by decide) k)) (k := k) (by decide) fun p0 t₃ s₃ x3 q0 S₃ => ?_
  repeat w_left
  refine law_object_spec (i := 5) S₃ (R₁.less (Nat.add_le_add_left (by decide) k)) (k := k) (by decide) fun p5 t₄ s₄ x4 q5 S₄ => ?_
  repeat w_left
  refine new_lst S₄ (by show 4 ≤ _; decide) fun s₅ ra hra S₅ => ?_
  obtain ⟨t₆, x6, a6, S₆⟩ := S₅.freezeT hra
  repeat w_left
  refine ⟨_, _, _, _, rfl, rfl, (by show (["Limits", wd b] : List Str).Nodup; cases b <;> decide +kernel), t₆, _, S₆, fun s₇ S₇ => ?_⟩
  iterate 2 w_left
  rename_i s₈ S₈
  w_left
  repeat w_left
  refine meth_d (S₈.atM (.head _)) PySem.F.slot_dict_update PySem.F.type_dict_update ?_
  repeat w_left
  refine disp1 S₈ fun d1 s₉ hd1 sd1 S₉ => ?_
  repeat w_left
  refine slice_l (lo := none) (hi := some ((1 : Nat) : Int)) S₉ (S₉.atT (a7.sub (x3.tr (x4.tr x6)))).isList .none (.int 1 _) (by show 2 ≤ _; decide) fun la s₁₀ hla S₁₀ => ?_
  rw [slicePick_upto', List.toList_toArray] at S₁₀
  obtain ⟨t₁₁, x11, a11, S₁₁⟩ := S₁₀.freezeT hla
  repeat w_left
  refine ⟨_, _, rfl, by simp, t₁₁, _, S₁₁, fun s₁₂ S₁₂ => ?_⟩
  obtain ⟨t₁₃, x13, a13, S₁₃⟩ := S₁₂.freezeT hd1
  repeat w_left
  refine disp1 S₁₃ fun d2 s₁₄ hd2 sd2 S₁₄ => ?_
  repeat w_left
  refine ⟨_, _, rfl, by simp, t₁₃, _, S₁₄, fun s₁₅ S₁₅ => ?_⟩
  obtain ⟨t₁₆, x16, a16, S₁₆⟩ := S₁₅.freezeT hd2
  repeat w_left
  refine disp1 S₁₆ fun d3 s₁₇ hd3 sd3 S₁₇ => ?_
  repeat w_left
  refine item_d S₁₇ (S₁₇.atM (.tail _ (.head _))) (strKind_is _ _ _ _) wd_at fun s₁₈ S₁₈ _ => ?_
  repeat w_left
  refine slice_any (lo := none) (hi := some ((3 : Nat) : Int)) S₁₈ (S₁₈.atT (a6.sub (x11.tr (x13.tr x16)))) .none (.int 3 _) (by show 4 ≤ _; decide) fun lb s₁₉ hlb S₁₉ => ?_
  rw [slicePick_upto', List.toList_toArray] at S₁₉
  obtain ⟨t₂₀, x20, a20, S₂₀⟩ := S₁₉.freezeT hlb
  repeat w_left
  refine ⟨_, _, rfl, by simp, t₂₀, _, S₂₀, fun s₂₁ S₂₁ => ?_⟩
  obtain ⟨t₂₂, x22, a22, S₂₂⟩ := S₂₁.freezeT hd3
  repeat w_left
  refine disp1 S₂₂ fun d4 s₂₃ hd4 sd4 S₂₃ => ?_
  repeat w_left
  refine ⟨_, _, rfl, by simp, t₂₂, _, S₂₃, fun s₂₄ S₂₄ => ?_⟩
  obtain ⟨t₂₅, x25, a25, S₂₅⟩ := S₂₄.freezeT hd4
  repeat w_left
  refine new_lst S₂₅ (by show 4 ≤ _; decide) fun s₂₆ lc hlc S₂₆ => ?_
  repeat w_left
  have x6' : Sub t₃ t₂₅ := x4.tr (x6.tr (x11.tr (x13.tr (x16.tr (x20.tr (x22.tr x25))))))
  have x26 : Sub t₆ t₂₅ := x11.tr (x13.tr (x16.tr (x20.tr (x22.tr x25))))
  have rLim : Rep prog w t₂₅ (.ref ea) (.lst [oDt b 0, oDt b 5]) := lst_rep (a7.sub (x3.tr x6')) (Reps.cons (r0.sub (x3.tr x6')) (Reps.cons (r5.sub (x3.tr x6')) Reps.nil))
  have rRow : Rep prog w t₂₅ (.ref ra) (.lst [oDt b 0, .int 1, oDt b 5, .int 2]) := lst_rep (a6.sub x26) (Reps.cons (q0.sub x6') (Reps.cons (.int _ _) (Reps.cons (q5.sub (x6.tr x26)) (Reps.cons (.int _ _) Reps.nil))))
  obtain ⟨dd, mk, mv, lv, rv, ld, rd, g1, g2, g3, g4, g5, g6, g7, g8, g9, g10, g11⟩ : ∃ (dd : Addr) (mk : Str) (mv lv rv : Value) (ld rd : Dt), ([Value.ref d1, .ref d2, .ref d3, .ref d4] : List Value)[way]? = some (.ref dd) ∧ At t₂₅ dd (DctO (PySem.strKind prog w) [(mk, mv)]) ∧ (dd == sysModules) = false ∧
      merged [(("Limits" : Str), Value.ref ea), (wd b, Value.ref ra)] [(mk, mv)] = [(("Limits" : Str), lv), (wd b, rv)] ∧ Rep prog w t₂₅ lv ld ∧ Rep prog w t₂₅ rv rd ∧ (way < 2 → badLim ld = true) ∧ (¬ way < 2 → badRow rd = true) ∧ Tell 1 ld ∧ Tell 1 rd ∧ kd ≠ dd := by
    have ne : ∀ {dd : Addr} {p}, At t₂₅ dd p → kd ≠ dd := fun ⟨o, e, _⟩ z => by
      have := (S₂₆.1.mus _ (.tail _ (.head _))).2.2.1
      rw [z, e] at this; cases this
    have f1 : At t₂₅ d1 (DctO (PySem.strKind prog w) [("Limits", .ref la)]) := a13.sub (x16.tr (x20.tr (x22.tr x25)))
    have f2 : At t₂₅ d2 (DctO (PySem.strKind prog w) [("Limits", .int 5 _)]) := a16.sub (x20.tr (x22.tr x25))
    have f3 : At t₂₅ d3 (DctO (PySem.strKind prog w) [(wd b, .ref lb)]) := a22.sub x25
    have T2 : Tell 1 (.lst [oDt b 0, oDt b 5]) := tell_os (b := b) (fun d hd => by simp at hd; rcases hd with rfl | rfl <;> exact .inr ⟨_, rfl⟩) (by show 2 ≤ _; decide)
    have T4 : Tell 1 (.lst [oDt b 0, .int 1, oDt b 5, .int 2]) := tell_os (b := b) (fun d hd => by simp at hd; rcases hd with rfl | rfl | rfl | rfl <;> first | exact .inl ⟨_, rfl⟩ | exact .inr ⟨_, rfl⟩) (by show 4 ≤ _; decide)
    rcases lt4 hway with rfl | rfl | rfl | rfl
    · exact ⟨d1, _, _, _, _, _, _, rfl, f1, sd1, m_lim, lst_rep (a11.sub (x13.tr (x16.tr (x20.tr (x22.tr x25))))) (Reps.cons (r0.sub (x3.tr x6')) Reps.nil), rRow, fun _ => rfl, fun h => absurd (by decide) h,
        tell_os (b := b) (fun d hd => by simp at hd; subst hd; exact .inr ⟨_, rfl⟩) (by show 1 ≤ _; decide), T4, ne f1⟩
    · exact ⟨d2, _, _, _, _, _, _, rfl, f2, sd2, m_lim, .int _ _, rRow, fun _ => rfl, fun h => absurd (by decide) h, tell_int _, T4, ne f2⟩
    · exact ⟨d3, _, _, _, _, _, _, rfl, f3, sd3, m_row, rLim, lst_rep (a20.sub (x22.tr x25)) (Reps.cons (q0.sub x6') (Reps.cons (.int _ _) (Reps.cons (q5.sub (x6.tr x26)) Reps.nil))), fun h => absurd h (by decide), fun _ => rfl, T2,
        tell_os (b := b) (fun d hd => by simp at hd; rcases hd with rfl | rfl | rfl <;> first | exact .inl ⟨_, rfl⟩ | exact .inr ⟨_, rfl⟩) (by show 3 ≤ _; decide), ne f3⟩
    · exact ⟨d4, _, _, _, _, _, _, rfl, a25, sd4, m_row, rLim, .int _ _, fun h => absurd h (by decide), fun _ => rfl, T2, tell_int _, ne a25⟩
  refine item_l (S₂₆.atM (.head _)) (Int.natCast_nonneg _) (by omega) (by rw [Int.toNat_natCast]; exact g1) ?_
  repeat w_left
  refine update_d (S₂₆.perm (List.Perm.swap ..)) (S₂₆.atT g2) g11 g3 (by show 2 + 1 ≤ _; decide) fun s₂₇ S₂₇ => ?_
  rw [g4] at S₂₇
  obtain ⟨t₂₈, x28, a28, S₂₈⟩ := S₂₇.freezeT hkd
  show wpAny _ _ (execs _ _) _ _ _
  refine next t₂₈ _ kd (x3.tr (x6'.tr x28)) ⟨ld, rd, ?_, g7, g8, g9, g10⟩ (S₂₈.sub (List.sublist_cons_self ..))
  have dr : DRep prog w t₂₈ [(("Limits" : Str), lv), (wd b, rv)] [("Limits", ld), (wd b, rd)] := .cons (g5.sub x28) (.cons (g6.sub x28) .nil)
  exact dr.rep a28 skd
end
end
section
open PySem PySem.W PyProof.Rows PySem.Calls
section
variable {prog : Program} {w : World} {mg mb : Str → Option Value} {A : Around} {s : Shared} {c : Cx} {t t' : Heap} {mu : List (Addr × (Obj → Prop))} {n : Nm} {Q E : Value → Shared → Prop} {env : Env} {k : Nat} {b : Bool} {tk ti : Tok}
theorem hurt_root {A₁ : Around} {t : Heap} {c₁ : Cx} {n₃ : Nm} {s₁ : Shared} {Q₁ : Flow → Shared → Prop} {E₁ : Value → Shared → Prop} {ua ca kd : Addr} {cap way : Nat} {tw : Tok} {ps : List Value}
    (S₁ : ST w mg mb c₁ t [(ua, UrnP prog w ca cap), (581, TabC ps)] n₃ s₁) (R₁ : Ar A₁ (hurtE c₁.L) c₁ (k + 39)) (m0 : n₃.own = true) (m3 : n₃.k "word" = some (.str (wd b) tk)) (m7 : n₃.m "way" = some (.int (way : Int) tw)) (m8 : n₃.m "kid" = some (.ref kd)) (hC : c₁.cells = cellsFrom (c₁.L + 1) (fScope (sA 57)).names [])
    (H : HurtKid prog w t b way (.ref kd))
    (next : ∀ t' s' rv vb d es, Sub t t' → Bad b d → Told 4 d (.tup es) → Flat 64 (.tup es) → Rep prog w t' rv d → Rep prog w t' vb (.tup es) → ST w mg mb c₁ t' [(ua, UrnP prog w ca cap), (581, TabC ps)] ((n₃.cset "root" rv).set "before" vb) s' →
      wpAny (model prog w) A₁ (execs ((fBody (sA 57)).drop 7) (hurtE c₁.L)) Q₁ E₁ s') :
    wpAny (model prog w) A₁ (execs ((fBody (sA 57)).drop 5) (hurtE c₁.L)) Q₁ E₁ s₁ := by
  obtain ⟨ld, rd, hr, hl1, hl2, hT1, hT2⟩ := H
  obtain ⟨kvs, y1, y2, y3⟩ := hr.dct_rep
  refine w_cons ?_
  intro K₀
  repeat w_left
  refine ite_join (Mid := fun v s' => ∃ d es t', Sub t t' ∧ Bad b d ∧ Told 4 d (.tup es) ∧ Flat 64 (.tup es) ∧ Rep prog w t' v d ∧ ST w mg mb c₁ t' [(ua, UrnP prog w ca cap), (581, TabC ps)] n₃ s') (fun hb => ?_) (fun hb => ?_) ?_
  · intro Md
    have hb : way < 2 := by have := of_decide_eq_true hb; omega
    repeat w_left
    refine disp1 S₁ fun d1 s₂ hd1 sd1 S₂ => ?_
    repeat w_left
    refine new_lst S₂ (by show 1 ≤ _; decide) fun s₃ la hla S₃ => ?_
    obtain ⟨t₄, x4, a4, S₄⟩ := S₃.freezeT hla
    repeat w_left
    refine ⟨_, _, rfl, by simp, t₄, _, S₄, fun s₅ S₅ => ?_⟩
    obtain ⟨t₆, x6, a6, S₆⟩ := S₅.freezeT hd1
    obtain ⟨e, te, fe⟩ : Tell 4 (.dct [("Kids", .lst [.dct [("Limits", ld), (wd b, rd)]])]) := tell_one (tell_lst (fun d hd => by rw [List.mem_singleton] at hd; subst hd; exact tell_two (wd_or b) hT1 hT2) (by show 1 ≤ _; decide))
    obtain ⟨es, rfl⟩ := told_tup te
    have dr : DRep prog w t₆ [(("Kids" : Str), .ref la)] [("Kids", .lst [.dct [("Limits", ld), (wd b, rd)]])] := .cons (lst_rep (a4.sub x6) (Reps.cons (hr.sub (x4.tr x6)) Reps.nil)) .nil
    exact ⟨_, es, t₆, x4.tr x6, .lim ld _ (hl1 hb) dAt_eq, te, fe.mono (by decide), dr.rep a6 sd1, S₆⟩
  · intro Md
    have hb : ¬ way < 2 := by have := of_decide_eq_false hb; omega
    repeat w_left
    refine disp1 S₁ fun d1 s₂ hd1 sd1 S₂ => ?_
    repeat w_left
    obtain ⟨rv, g1, g2⟩ := y3.at (k := wd b) (d := rd) (by cases b <;> rfl)
    refine item_d S₂ (S₂.atT y1) (strKind_is _ _ _ _) g1 fun s₃ S₃ _ => ?_
    refine ⟨_, _, rfl, by simp, t, _, S₃, fun s₅ S₅ => ?_⟩
    obtain ⟨t₆, x6, a6, S₆⟩ := S₅.freezeT hd1
    obtain ⟨e, te, fe⟩ : Tell 4 (.dct [(wd b, rd)]) := (tell_one hT2).mono (by decide)
    obtain ⟨es, rfl⟩ := told_tup te
    have dr : DRep prog w t₆ [(wd b, rv)] [(wd b, rd)] := .cons (g2.sub x6) .nil
    exact ⟨_, es, t₆, x6, .row rd (hl2 hb), te, fe.mono (by decide), dr.rep a6 sd1, S₆⟩
  rintro rv s₇ ⟨d, es, t₇, x7, hB, hT, hF, rr, S₇⟩
  repeat w_left
  rename_i s₈ S₈
  refine told_spec hT S₈ (R₁.less (by omega)) (k := k) rr fun vb t₉ s₉ x9 rb S₉ => ?_
  w_left
  rename_i s₁₀ S₁₀
  exact next t₉ _ rv vb d es (x7.tr x9) hB hT hF (rr.sub x9) rb S₁₀
end
end
section
open PySem PySem.W PyProof.Rows PySem.Calls
section
variable {prog : Program} {w : World} {mg mb : Str → Option Value} {A : Around} {s : Shared} {c : Cx} {t t' : Heap} {mu : List (Addr × (Obj → Prop))} {n : Nm} {Q E : Value → Shared → Prop} {env : Env} {k : Nat} {b : Bool} {tk ti : Tok}
theorem hurt_ask {A₁ : Around} {t : Heap} {c₁ : Cx} {n₄ : Nm} {s₁ : Shared} {Q₁ : Flow → Shared → Prop} {E₁ : Value → Shared → Prop} {ua ca : Addr} {cap wi : Nat} {ps : List Value} {kv rv vb : Value} {d : Dt} {es : List Dt}
    (S₁ : ST w mg mb c₁ t [(ua, UrnP prog w ca cap), (581, TabC ps)] n₄ s₁) (T : TabI t hurtQ ps) (R₁ : Ar A₁ (hurtE c₁.L) c₁ (k + 39)) (m0 : n₄.own = true) (m3 : n₄.k "word" = some (.str (wd b) tk)) (m4 : n₄.k "width" = some (.int (wi : Int) ti)) (m5 : n₄.k "key" = some kv) (m6 : n₄.k "root" = some rv) (m7 : n₄.m "before" = some vb)
    (hC : c₁.cells = cellsFrom (c₁.L + 1) (fScope (sA 57)).names []) (hw : 2 ≤ wi) (hB : Bad b d) (hT : Told 4 d (.tup es)) (hF : Flat 64 (.tup es)) (rr : Rep prog w t rv d) (rb : Rep prog w t vb (.tup es))
    (ret : ∀ t' ps' n' s', Sub t t' → ST w mg mb c₁ t' [(ua, UrnP prog w ca cap), (581, TabC ps')] n' s' → Q₁ (.ret (.bool true)) s') :
    wpAny (model prog w) A₁ (execs ((fBody (sA 57)).drop 7) (hurtE c₁.L)) Q₁ E₁ s₁ := by
  have hL : c₁.N ≤ c₁.L := by have := S₁.1.hN; rw [← R₁.hL] at this; exact this
  have hl : c₁.cells = [(("root" : Str), c₁.L + 4), (("key" : Str), c₁.L + 3), (("width" : Str), c₁.L + 2), (("word" : Str), c₁.L + 1)] := by rw [hC]; rfl
  obtain ⟨t₂, x2, hce, S₂⟩ := S₁.freezeCells m0 [(("root" : Str), c₁.L + 4), (("key" : Str), c₁.L + 3), (("width" : Str), c₁.L + 2), (("word" : Str), c₁.L + 1)] (fun p hp => by
    rw [hl]
    rcases List.mem_cons.mp hp with rfl | hp
    · exact ⟨rfl, Nat.le_trans hL (Nat.le_add_right _ _)⟩
    · rcases List.mem_cons.mp hp with rfl | hp
      · exact ⟨rfl, Nat.le_trans hL (Nat.le_add_right _ _)⟩
      · rcases List.mem_cons.mp hp with rfl | hp
        · exact ⟨rfl, Nat.le_trans hL (Nat.le_add_right _ _)⟩
        · rw [List.mem_singleton.mp hp]; exact ⟨rfl, Nat.le_trans hL (Nat.le_add_right _ _)⟩) (by simp)
  refine w_cons ?_
  intro K₀
  repeat w_left
  have hk1 : ∀ {t' : Heap}, Sub t₂ t' → ∀ y a, [(("word" : Str), c₁.L + 1), (("width" : Str), c₁.L + 2), (("root" : Str), c₁.L + 4), (("key" : Str), c₁.L + 3)].lookup y = some a → t'.IsCell a (n₄.k y) := fun x => cells_of fun p hp => by
    refine Heap.IsCell.keeps (hce p ?_) x
    simp at hp ⊢
    rcases hp with rfl | rfl | rfl | rfl <;> simp
  have hk2 : ∀ {t' : Heap}, Sub t₂ t' → ∀ y a, [(("word" : Str), c₁.L + 1), (("root" : Str), c₁.L + 4), (("key" : Str), c₁.L + 3)].lookup y = some a → t'.IsCell a (n₄.k y) := fun x => cells_of fun p hp => by
    refine Heap.IsCell.keeps (hce p ?_) x
    simp at hp ⊢
    rcases hp with rfl | rfl | rfl <;> simp
  clear hce
  refine lam_any (clos := [(("word" : Str), c₁.L + 1), (("width" : Str), c₁.L + 2), (("root" : Str), c₁.L + 4), (("key" : Str), c₁.L + 3)]) (S₂.perm (List.Perm.swap ..)) rfl rfl (code_585 S₂.1.pf) (T.sub x2) (by kernel_rfl) rfl rfl fun f c' t₅ ps₅ s₅ x5 F5 T5 S₅ => ?_
  repeat w_left
  have K5 : Asks prog w mg mb t₅ f (k + 20) False (.int 0) := by
    intro A s c t' mu n Q E env x S Ra _ err
    obtain ⟨ctv, o, r⟩ := F5
    refine lam_call (D := []) S (k := k + 19) Ra (x _ _ o) (r.keeps x) rfl (hk1 (x5.tr x)) (by decide +kernel) rfl rfl rfl ?_
    intro c₂ s₂ env₂ A₂ n₂' e0 hN hF S₂ R₂ bk E₂
    repeat w_left
    refine tree_put_err hw hB S₂ (R₂.less (Nat.add_le_add_left (by decide) k)) (k := k) (rr.sub (x2.tr (x5.tr x))) fun e T s' S' => ?_
    exact leave_on S' R₂ hF fun s₃ T' S₃ => err (fun h => h) e T' t' s₃ Sub.rfl' (bk _ [_, _] [] [] _ _ S₃ rfl)
  refine heard_spec F5.fn K5 S₅ (R₁.less (show k + 21 ≤ _ from Nat.add_le_add_left (by decide) k)) fun v1 t₆ s₆ x6 _ b6 S₆ => ?_
  repeat w_left
  refine lam_any (clos := [(("word" : Str), c₁.L + 1), (("root" : Str), c₁.L + 4), (("key" : Str), c₁.L + 3)]) S₆ rfl rfl (code_585 S₆.1.pf) (T5.sub x6) (by kernel_rfl) rfl rfl fun f7 c7 t₇ ps₇ s₇ x7 F7 T7 S₇ => ?_
  repeat w_left
  have K7 : Asks prog w mg mb t₇ f7 (k + 20) False (.int 0) := by
    intro A s c t' mu n Q E env x S Ra _ err
    obtain ⟨ctv, o, r⟩ := F7
    refine lam_call (D := []) S (k := k + 19) Ra (x _ _ o) (r.keeps x) rfl (hk2 (x5.tr (x6.tr (x7.tr x)))) (by decide +kernel) rfl rfl rfl ?_
    intro c₂ s₂ env₂ A₂ n₂' e0 hN hF S₂ R₂ bk E₂
    repeat w_left
    refine tree_dropped_err hB S₂ (R₂.less (Nat.add_le_add_left (by decide) k)) (k := k) (rr.sub (x2.tr (x5.tr (x6.tr (x7.tr x))))) fun e T s' S' => ?_
    exact leave_on S' R₂ hF fun s₃ T' S₃ => err (fun h => h) e T' t' s₃ Sub.rfl' (bk _ [_, _] [] [] _ _ S₃ rfl)
  refine heard_spec F7.fn K7 S₇ (R₁.less (show k + 21 ≤ _ from Nat.add_le_add_left (by decide) k)) fun v2 t₈ s₈ x8 _ b8 S₈ => ?_
  repeat w_left
  refine new_lst S₈ (by show 2 ≤ _; decide) fun s₉ ha hha S₉ => ?_
  obtain ⟨t₁₀, x10, a10, S₁₀⟩ := S₉.freezeT hha
  repeat w_left
  rename_i s₁₁ S₁₁
  refine new_lst S₁₁ (by show 2 ≤ _; decide) fun s₁₂ la hla S₁₂ => ?_
  obtain ⟨t₁₃, x13, a13, S₁₃⟩ := S₁₂.freezeT hla
  have rA : Rep prog w t₁₃ (.ref ha) (.lst [.str "refused", .str "refused"]) := lst_rep (a10.sub x13) (Reps.cons ((b6 (fun h => h)).sub (x7.tr (x8.tr (x10.tr x13)))) (Reps.cons ((b8 (fun h => h)).sub (x10.tr x13)) Reps.nil))
  have rB : Rep prog w t₁₃ (.ref la) (.lst [.str "refused", .str "refused"]) := lst_rep a13 (Reps.cons (.str _ _) (Reps.cons (.str _ _) Reps.nil))
  repeat w_left
  refine eq_lst S₁₃ R₁ (fun d hd => ?_) rA rB ?_
  · simp at hd; subst hd; exact trivial
  repeat w_left
  have xA : Sub t t₁₃ := x2.tr (x5.tr (x6.tr (x7.tr (x8.tr (x10.tr x13)))))
  refine told_spec hT S₁₃ (R₁.less (by omega)) (k := k) (rr.sub xA) fun v' t₁₄ s₁₄ x14 r14 S₁₄ => ?_
  repeat w_left
  refine eq_tup S₁₄ R₁ hF r14 (rb.sub (xA.tr x14)) ?_
  repeat w_left
  exact ret t₁₄ ps₇ _ _ (xA.tr x14) (S₁₄.perm (List.Perm.swap ..))
end
end
section
open PySem PySem.W PyProof.Rows PySem.Calls
section
variable {prog : Program} {w : World} {mg mb : Str → Option Value} {A : Around} {s : Shared} {c : Cx} {t t' : Heap} {mu : List (Addr × (Obj → Prop))} {n : Nm} {Q E : Value → Shared → Prop} {env : Env} {k : Nat} {b : Bool} {tk ti : Tok}
theorem hurt_spec {ua ca : Addr} {cap wi : Nat} {ps : List Value} (C : Cells t ca) (sua : (ua == sysModules) = false) (S : ST w mg mb c t ([(ua, UrnP prog w ca cap), (581, TabC ps)] ++ mu) n s) (T : TabI t hurtQ ps) (Ra : Ar A env c (k + 40)) (hc : cap ≤ 900) (hw : 2 ≤ wi) (hw2 : wi ≤ 4)
    (ret : ∀ ps' s', ST w mg mb c t ([(ua, UrnP prog w ca (cap + 2)), (581, TabC ps')] ++ mu) n s' → Q (.bool true) s') : wpAny (model prog w) A (call (.ref 586) [.ref ua, .str (wd b) tk, .int (wi : Int) ti]) Q E s := by
  refine call_defC (D := [(ua, UrnP prog w ca cap), (581, TabC ps)]) (R := mu) (k := k + 39) (binds := [("urn", .ref ua), ("word", .str (wd b) tk), ("width", .int (wi : Int) ti)]) S Ra S.1.pf.nl (at_586 S.1.pf) rfl (cr_586 S.1.pf) rfl (BK.at ⟨.inl rfl, .inr ⟨rfl, rfl⟩, .inr ⟨rfl, rfl⟩, trivial⟩) rfl rfl rfl ?_
  intro c₁ s₁ env₁ A₁ n₀ e0 hN hF hcs S₁ R₁ bk Q₁ E₁
  refine w_cons ?_
  intro K₀
  repeat w_left
  refine law_lot_spec (m := 9) C sua S₁ (R₁.less (Nat.add_le_add_left (by decide) k)) (k := k) (by decide) (by decide) (by omega) fun q u₂ s₂ hq S₂ => ?_
  repeat w_left
  refine law_key_spec (i := q) S₂ (R₁.less (Nat.add_le_add_left (by decide) k)) (k := k) (by omega) fun kv s₃ rk S₃ => ?_
  repeat w_left
  refine law_object_spec (i := 0) S₃ (R₁.less (Nat.add_le_add_left (by decide) k)) (k := k) (by decide) fun o0 t₄ s₄ x4 r0 S₄ => ?_
  repeat w_left
  refine law_object_spec (i := 5) S₄ (R₁.less (Nat.add_le_add_left (by decide) k)) (k := k) (by decide) fun o5 t₅ s₅ x5 r5 S₅ => ?_
  repeat w_left
  refine new_lst S₅ (by show 2 ≤ _; decide) fun s₆ ea hea S₆ => ?_
  obtain ⟨t₇, x7, a7, S₇⟩ := S₆.freezeT hea
  repeat w_left
  refine new_tup S₇ (by show 2 ≤ _; decide) fun s₈ t₈ p8 x8 a8 S₈ => ?_
  repeat w_left
  refine assign_tup S₈ (by assumption) (S₈.atT a8) rfl rfl fun s₉ S₉ => ?_
  iterate 8 w_left
  rename_i s₁₀ S₁₀
  obtain ⟨n₁, m0, m1, m2, m3, m4, m5, S₁₁⟩ : ∃ n₁ : Nm, n₁.own = true ∧ n₁.m "urn" = some (.ref ua) ∧ n₁.m "ends" = some (.ref ea) ∧ n₁.k "word" = some (.str (wd b) tk) ∧ n₁.k "width" = some (.int (wi : Int) ti) ∧ n₁.k "key" = some kv ∧ ST w mg mb c₁ t₈ [(ua, UrnP prog w ca (cap + 1)), (581, TabC ps)] n₁ s₁₀ := by
    refine ⟨_, ?_, ?_, ?_, ?_, ?_, ?_, S₁₀⟩ <;> rfl
  clear S₁₀ S₉ S₈ S₇ S₆ S₅ S₄ S₃ S₂ S₁
  refine PyProof.Rows.Assign_Tuple_swapped (names := ["empty", "way"]) ?_ ?a ?b
  case a => rfl
  case b => kernel_rfl
  repeat w_left
  refine disp1 S₁₁ fun da s₁₂ hda sda S₁₂ => ?_
  repeat w_left
  refine new_lst S₁₂ (by show 0 ≤ _; decide) fun s₁₃ la hla S₁₃ => ?_
  obtain ⟨t₁₄, x14, a14, S₁₄⟩ := S₁₃.freezeT hla
  repeat w_left
  refine ⟨_, _, rfl, by simp, t₁₄, _, S₁₄, fun s₁₅ S₁₅ => ?_⟩
  obtain ⟨t₁₆, x16, a16, S₁₆⟩ := S₁₅.freezeT hda
  repeat w_left
  have xA : Sub t t₁₆ := x4.tr (x5.tr (x7.tr (x8.tr (x14.tr x16))))
  refine law_lot_spec (m := 4) (C.sub xA) sua S₁₆ (R₁.less (Nat.add_le_add_left (by decide) k)) (k := k) (by decide) (by decide) (by omega) fun way u₁₇ s₁₇ hway S₁₇ => ?_
  repeat w_left
  refine new_tup S₁₇ (by show 2 ≤ _; decide) fun s₁₈ t₁₈ p18 x18 a18 S₁₈ => ?_
  repeat w_left
  refine unpack_t S₁₈ (by assumption) (S₁₈.atT a18) rfl fun s₁₉ S₁₉ => ?_
  iterate 7 w_left
  rename_i s₂₀ S₂₀'
  obtain ⟨n₂, m0, m1, m2, m3, m4, m5, m6, m7, S₂₀⟩ : ∃ n₂ : Nm, n₂.own = true ∧ n₂.m "urn" = some (.ref ua) ∧ n₂.m "ends" = some (.ref ea) ∧ n₂.k "word" = some (.str (wd b) tk) ∧ n₂.k "width" = some (.int (wi : Int) ti) ∧ n₂.k "key" = some kv ∧ n₂.m "empty" = some (.ref da) ∧ n₂.m "way" = some (.int (way : Int) u₁₇) ∧
    ST w mg mb c₁ t₁₈ [(ua, UrnP prog w ca (cap + 2)), (581, TabC ps)] n₂ s₂₀ := by
    refine ⟨_, ?_, ?_, ?_, ?_, ?_, ?_, ?_, ?_, S₂₀'⟩ <;> first | rfl | assumption
  clear S₂₀' S₁₉ S₁₈ S₁₇ S₁₆ S₁₅ S₁₄ S₁₃ S₁₂ S₁₁
  have xT := xA.tr x18
  have xL : Sub t₈ t₁₈ := x14.tr (x16.tr x18)
  show wpAny _ _ (execs _ _) _ _ _
  refine hurt_if hq hw hw2 S₂₀ R₁ m3 m4 m5 m6 hcs (rk.sub xT) (a16.sub x18) sda (a14.sub (x16.tr x18)) fun t₂₁ s₂₁ x21 S₂₁ => ?_
  refine hurt_kid hway S₂₁ R₁ m2 m3 m7 (a7.sub (x8.tr (xL.tr x21))) (r0.sub (x5.tr (x7.tr (x8.tr (xL.tr x21))))) (r5.sub (x7.tr (x8.tr (xL.tr x21)))) fun t₂₂ s₂₂ kd x22 H S₂₂ => ?_
  refine hurt_root S₂₂ R₁ m0 m3 m7 rfl hcs H fun t₂₃ s₂₃ rv vb d es x23 hB hT hF rr rb S₂₃ => ?_
  refine hurt_ask S₂₃ (T.sub (xT.tr (x21.tr (x22.tr x23)))) R₁ m0 m3 m4 m5 rfl rfl hcs hw hB hT hF rr rb fun t' ps' n' s' x' S' => ?_
  exact ret ps' s' (St.shrink (bk _ [] [(ua, UrnP prog w ca (cap + 2)), (581, TabC ps')] [] _ _ S' rfl) S.1.base (xT.tr (x21.tr (x22.tr (x23.tr x')))) S.1.pf)
end
end
section
open PySem PySem.W PyProof.Rows PySem.Calls
theorem lw1 {m r : Nat} (h : m = 9 + r) (hr : r < 4) : m < 2 ^ 60 ∧ m ≤ 13 ∧ 5 ≤ m ∧ 2 * (m + 1 - 0) + 2 ≤ 40 := by refine ⟨?_, ?_, ?_, ?_⟩ <;> omega
theorem lw2 {k l : Nat} (h : l ≤ 14) : k + (l - 0) + 5 ≤ k + 75 := by omega
theorem lw3 {k l : Nat} (h : l ≤ 14) : k + (2 * (l - 0) + 2) + 4 ≤ k + 75 := by omega
theorem lw4 {l : Nat} (h : l ≤ 14) : 2 * (l - 0) + 2 ≤ 40 ∧ 2 * (2 * (l - 0) + 2) + 1 ≤ 63 := by refine ⟨?_, ?_⟩ <;> omega
theorem lw5 {r : Nat} (h : r < 2) : (-2 ^ 63 : Int) ≤ (r : Int) ∧ (r : Int) < 2 ^ 63 := by refine ⟨?_, ?_⟩ <;> omega
theorem lw6 {l : Nat} (h : 0 < l) : 0 < ((List.range l).map fun j => ((j : Nat) : Int)).length := by rw [List.length_map, List.length_range]; exact h
/-- the largest count -/
theorem good_iff {plan : List Nd} (W : WF plan) {M : Int} (hM : M ∈ (List.range plan.length).map fun j => ((cs plan plan.length j : Nat) : Int)) (hMx : ∀ x ∈ (List.range plan.length).map fun j => ((cs plan plan.length j : Nat) : Int), x ≤ M) :
    M ≤ 16 ↔ ∀ i, (trace plan 0).count i ≤ 16 := by
  have hc : ∀ j, j < plan.length → cs plan plan.length j = (trace plan 0).count j := fun j hj => counts_are W hj
  constructor
  · intro h
    refine counts_le W fun j hj => ?_
    have := hMx _ (List.mem_map.mpr ⟨j, List.mem_range.mpr hj, rfl⟩)
    omega
  · intro h
    obtain ⟨j, hj, e⟩ := List.mem_map.mp hM
    have := h j
    rw [← hc j (List.mem_range.mp hj)] at this
    omega
/-- the row of nodes that tell the next one twice -/
noncomputable def longP (m : Nat) : List Nd := (List.range m).map (fun i => Nd.kids [i + 1, i + 1]) ++ [Nd.leaf 1]
theorem longP_at {m i : Nat} (h : i < m) : (longP m)[i]? = some (.kids [i + 1, i + 1]) := by
  unfold longP
  rw [List.getElem?_append_left (by simpa using h), List.getElem?_map, List.getElem?_range h]; rfl
theorem longP_end {m : Nat} : (longP m)[m]? = some (.leaf 1) := by
  unfold longP
  rw [List.getElem?_append_right (by simp)]; simp
theorem longP_len {m : Nat} : (longP m).length = m + 1 := by unfold longP; simp
theorem longP_kids {m i : Nat} (h : i < m) : kidsOf (longP m) i = [i + 1, i + 1] := by unfold kidsOf; rw [longP_at h]
theorem longP_none {m i : Nat} (h : ¬ i < m) : kidsOf (longP m) i = [] := by
  unfold kidsOf
  by_cases e : i = m
  · subst e; rw [longP_end]
  · rw [List.getElem?_eq_none (by rw [longP_len]; omega)]
theorem longP_wf {m : Nat} (h : m ≤ 13) : WF (longP m) where
  lt := fun i j hj => by
    by_cases hi : i < m
    · rw [longP_kids hi] at hj
      have : j = i + 1 := by simpa using hj
      rw [longP_len]; omega
    · rw [longP_none hi] at hj; cases hj
  wid := fun i => by
    by_cases hi : i < m
    · rw [longP_kids hi]; exact (by decide : 2 ≤ 3)
    · rw [longP_none hi]; exact Nat.zero_le _
  leaf := fun i r e => by
    by_cases hi : i < m
    · rw [longP_at hi] at e; cases e
    · by_cases q : i = m
      · subst q; rw [longP_end] at e; cases e; decide
      · rw [List.getElem?_eq_none (by rw [longP_len]; omega)] at e; cases e
  len := by rw [longP_len]; omega
  pos := by rw [longP_len]; omega
theorem longP_count {m : Nat} (W : WF (longP m)) (hm : 5 ≤ m) : ∀ d, d ≤ 5 → 2 ^ d ≤ (trace (longP m) (5 - d)).count 5
  | 0, _ => by
    rw [occ_at W (by rw [longP_len]; omega)]
    simp
  | d + 1, h => by
    have ih := longP_count W hm d (by omega)
    rw [occ_at W (by rw [longP_len]; omega), longP_kids (by omega)]
    rw [show 5 - d = 5 - (d + 1) + 1 by omega] at ih
    simp only [List.map_cons, List.map_nil, List.sum_cons, List.sum_nil]
    rw [Nat.pow_succ]
    omega
theorem longP_no {m : Nat} (W : WF (longP m)) (hm : 5 ≤ m) : ¬ (∀ i, (trace (longP m) 0).count i ≤ 16) := fun h => by
  have a := longP_count W hm 5 (by decide)
  have b := h 5
  rw [show 5 - 5 = 0 from rfl] at a
  omega
noncomputable def dueD (b : Bool) (plan : List Nd) (e : Dt) : List Dt := [.lst ((trace plan 0).flatMap (pairsAt b plan)), .lst ((trace plan 0).flatMap (pairsAt b plan)), e]
noncomputable def refD3 : List Dt := [.str "refused", .str "refused", .str "refused"]
theorem flat_ref3 : Flat 64 (.lst refD3) := fun d hd => by
  have : d = .str "refused" := by simpa [refD3] using hd
  rw [this]; exact flat_str
theorem flat_due {b : Bool} {plan : List Nd} {e : Dt} (h : Flat 63 e) : Flat 64 (.lst (dueD b plan e)) := fun d hd => by
  have hp : Flat 63 (.lst ((trace plan 0).flatMap (pairsAt b plan))) := fun d hd => by
    obtain ⟨i, _, h1⟩ := List.mem_flatMap.mp hd
    unfold pairsAt at h1
    split at h1
    · obtain ⟨p, _, rfl⟩ := List.mem_map.mp h1
      intro x hx
      rcases List.mem_cons.mp hx with rfl | hx
      · unfold kDt; split <;> trivial
      · rw [List.mem_singleton.mp hx]; trivial
    · cases h1
  rcases List.mem_cons.mp hd with rfl | hd
  · exact hp
  · rcases List.mem_cons.mp hd with rfl | hd
    · exact hp
    · rw [List.mem_singleton.mp hd]; exact h
section
variable {prog : Program} {w : World} {mg mb : Str → Option Value} {A : Around} {s : Shared} {c : Cx} {t t' : Heap} {mu : List (Addr × (Obj → Prop))} {n : Nm} {Q E : Value → Shared → Prop} {env : Env} {k : Nat} {b : Bool} {tk ti : Tok}
theorem told_all {b : Bool} {plan : List Nd} (W : WF plan) : ∃ es : List Dt, (nodesD b plan).length = es.length ∧ (∀ (i : Nat) d e, (nodesD b plan)[i]? = some d → es[i]? = some e → Told 20 d e) ∧ Flat 64 (.tup [.tup (rowsD es), .tup [.str "dict"]]) := by
  obtain ⟨es, h1, h2, h3⟩ := tell_list (m := 2) (f := fun _ _ _ => True) (nodesD b plan) fun d hd => by
    obtain ⟨i, hi, e⟩ := List.getElem_of_mem hd
    unfold nodesD at hi e
    rw [List.length_mapIdx] at hi
    rw [List.getElem_mapIdx] at e
    rw [← e]
    exact tell_nd W (List.getElem?_eq_getElem hi)
  refine ⟨es, h1, fun i d e a b => (h2 i d e a b).mono (by decide), fun d hd => ?_⟩
  rcases List.mem_cons.mp hd with rfl | hd
  · intro d hd
    unfold rowsD at hd
    obtain ⟨i, hi, rfl⟩ := List.mem_mapIdx.mp hd
    intro x hx
    unfold rowD at *
    rcases List.mem_cons.mp hx with rfl | hx
    · trivial
    · rcases List.mem_cons.mp hx with rfl | hx
      · trivial
      · rw [List.mem_singleton.mp hx]; exact (h3 _ (List.getElem_mem hi)).mono (by decide)
  · rw [List.mem_singleton.mp hd]
    intro x hx
    rw [List.mem_singleton.mp hx]; trivial
noncomputable abbrev lawE (f : Addr) (cdv : Value) (L : Addr) : Env := envOf "law" (fScope (sA 58)) L f cdv
theorem law_tail {c₁ : Cx} {A₁ : Around} {n₂ : Nm} {Q₁ : Flow → Shared → Prop} {E₁ : Value → Shared → Prop} {f : Addr} {cdv : Value} {ua ca : Addr} {cap m : Nat} {sh bv dv : Value} {plan : List Nd} {ps qs : List Value} {e : Dt} {es : List Dt} (C : Cells t ca) (sua : (ua == sysModules) = false) (hc : cap ≤ 100)
    (S : ST w mg mb c₁ t [(ua, UrnP prog w ca cap), (574, TabC ps), (581, TabC qs)] n₂ s) (T : TabI t askedQ ps) (U : TabI t hurtQ qs) (R₁ : Ar A₁ (lawE f cdv c₁.L) c₁ (k + 75))
    (m0 : n₂.m "urn" = some (.ref ua)) (m1 : n₂.m "word" = some (.str (wd b) tk)) (m2 : n₂.m "shelf" = some sh) (m3 : n₂.m "before" = some bv) (m4 : n₂.m "due" = some dv)
    (W : WF plan) (Z : IsShelf prog w t sh (nodesD b plan)) (he : Told m (wholeD b plan 0) e) (hm : m ≤ 40) (hF : Flat 63 e) (hl : (nodesD b plan).length = es.length) (hE : ∀ (i : Nat) d e, (nodesD b plan)[i]? = some d → es[i]? = some e → Told 20 d e) (hB : Flat 64 (.tup [.tup (rowsD es), .tup [.str "dict"]]))
    (rb : Rep prog w t bv (.tup [.tup (rowsD es), .tup [.str "dict"]])) (d1 : (∀ i, (trace plan 0).count i ≤ 16) → Rep prog w t dv (.lst (dueD b plan e))) (d2 : ¬ (∀ i, (trace plan 0).count i ≤ 16) → Rep prog w t dv (.lst refD3))
    (ret : ∀ t' ps' qs' n' s' ua' cap', Sub t t' → ST w mg mb c₁ t' [(ua', UrnP prog w ca cap'), (581, TabC qs'), (574, TabC ps')] n' s' → Q₁ (.ret (.bool true)) s') :
    wpAny (model prog w) A₁ (execs ((fBody (sA 58)).drop 5) (lawE f cdv c₁.L)) Q₁ E₁ s := by
  refine w_cons ?_
  intro K₀
  repeat w_left
  refine asked_spec (S.perm (List.Perm.swap ..)) T R₁ Z W he hm fun v t₂ ps₂ s₂ x2 T2 g1 g2 S₂ => ?_
  repeat w_left
  obtain ⟨dl, hd, rv, rd⟩ : ∃ dl, Flat 64 (.lst dl) ∧ Rep prog w t₂ v (.lst dl) ∧ Rep prog w t₂ dv (.lst dl) := by
    by_cases h : ∀ i, (trace plan 0).count i ≤ 16
    · exact ⟨_, flat_due hF, g1 h, (d1 h).sub x2⟩
    · exact ⟨_, flat_ref3, g2 h, (d2 h).sub x2⟩
  clear d1 d2 g1 g2
  refine ne_lst S₂ R₁ hd rv rd ?_
  repeat w_left
  refine sh_meth S₂ (Z.sub x2) (by decide) (by decide) (f := 367) (by kernel_rfl) (by kernel_rfl) ?_
  repeat w_left
  refine shelf_told_spec (Z.sub x2) (by rw [hl]; unfold nodesD at hl; rw [List.length_mapIdx] at hl; rw [← hl]; exact Nat.lt_of_le_of_lt W.len (by decide)) hl hE S₂ (R₁.less (Nat.add_le_add_left (by decide) k)) (k := k) fun v2 t₃ s₃ x3 r3 S₃ => ?_
  repeat w_left
  refine ne_tup S₃ R₁ hB r3 (rb.sub (x2.tr x3)) ?_
  repeat w_left
  have x03 := x2.tr x3
  refine law_lot_spec (m := 4) (C.sub x03) sua (S₃.perm (List.Perm.swap ..)) (R₁.less (Nat.add_le_add_left (by decide) k)) (k := k) (by decide) (by decide) (Nat.le_trans hc (by decide)) fun r u s₄ hr S₄ => ?_
  repeat w_left
  rename_i s₅ S₅
  obtain ⟨m', hm'⟩ : ∃ m', m' = 9 + r := ⟨_, rfl⟩
  refine comp_list [] rfl rfl (by decide +kernel) ?_
  repeat w_left
  rw [show (9 : Int) + (r : Int) = ((m' : Nat) : Int) by rw [hm']; rfl]
  refine iter_range1 (m := m') S₅ (lw1 hm' hr).1 fun it s₆ hit S₆ => ?_
  refine comp_go it_range self_range (fun q t' mu' ys => Sub t₃ t' ∧ mu' = [(ua, UrnP prog w ca (cap + 1)), (574, TabC ps₂), (581, TabC qs)] ∧ ys.length ≤ q ∧ Reps prog w t' ys ((longP m').take q |>.map ndP)) R₁ trivial (by decide +kernel) rfl S₆ ⟨Sub.rfl', rfl, Nat.le_refl _, Reps.nil⟩ ?_ ?_ ?_ ?_ ?_
  · rintro q t' mu' ys ⟨h1, rfl, h2, h3⟩
    exact ⟨rfl, h2⟩
  · intros; trivial
  · exact sz1 (lw1 hm' hr).2.1 (by decide)
  · rintro q v' t₀ t' mu' ys c' s' m₀ acc E' env₂ hq ⟨tv, hv'⟩ ⟨h1, rfl, h2, h3⟩ x0 R₂ hN₂ S' Qy Qn
    rw [zi] at hv'
    subst hv'
    repeat w_left
    rename_i s₇ S₇
    rw [show (q : Int) + 1 = ((q + 1 : Nat) : Int) from rfl]
    refine new_lst S₇ (by show 2 ≤ _; decide) fun s₈ la hla S₈ => ?_
    obtain ⟨t₉, x9, a9, S₉⟩ := S₈.freezeT hla
    refine ⟨t₉, _, _, ⟨h1.tr (x0.tr x9), rfl, by rw [List.length_append]; exact Nat.succ_le_succ h2, ?_⟩, S₉⟩
    rw [List.take_add_one, longP_at hq, List.map_append]
    exact (h3.sub (x0.tr x9)).snoc (lst_rep a9 (Reps.cons (.int _ _) (Reps.cons (.int _ _) Reps.nil)))
  · rintro t₇ mu' ys acc s₇ hacc ⟨h1, rfl, h2, h3⟩ S₇
    repeat w_left
    refine new_lst S₇ (by show 1 ≤ _; decide) fun s₈ la hla S₈ => ?_
    repeat w_left
    refine add_l S₈ (S₈.atM (.tail _ (.head _))) (S₈.atM (.head _)) (by rw [sizeLine_eq]; simp; omega) fun ra s₉ hra S₉ => ?_
    obtain ⟨t₁₀, x10, a10, S₁₀⟩ := S₉.freezeT hra
    have W' : WF (longP m') := longP_wf (lw1 hm' hr).2.1
    have rp : Rep prog w t₁₀ (.ref ra) (planD (longP m')) := lst_rep a10 (by
      have e1 : (longP m').take m' = (List.range m').map (fun i => Nd.kids [i + 1, i + 1]) := by
        unfold longP; rw [List.take_append_of_le_length (by simp), List.take_of_length_le (by simp)]
      rw [e1] at h3
      unfold longP
      rw [List.map_append]
      exact (h3.sub x10).snoc (.int 1 _))
    replace S₁₀ := S₁₀.sub (mu' := [(ua, UrnP prog w ca (cap + 1)), (574, TabC ps₂), (581, TabC qs)]) (.cons _ (.cons _ (.refl _)))
    repeat w_left
    refine law_shelf_spec W' S₁₀ (R₁.less (Nat.add_le_add_left (by decide) k)) (k := k) rp fun sh' t₁₁ s₁₁ x11 Z' S₁₁ => ?_
    repeat w_left
    rename_i s₁₂ S₁₂
    obtain ⟨e', he', _⟩ := tell_whole (b := b) W' 0 W'.pos
    have x311 : Sub t₃ t₁₁ := h1.tr (x10.tr x11)
    refine asked_spec (S₁₂.perm (List.Perm.swap ..)) (T2.sub (x3.tr x311)) (R₁.less (Nat.add_le_add_left (by decide) k)) (k := k) Z' W' he' (by rw [longP_len]; exact (lw1 hm' hr).2.2.2) fun v3 t₁₃ ps₁₃ s₁₃ x13 T13 _ g13 S₁₃ => ?_
    have g13 := g13 (longP_no W' (lw1 hm' hr).2.2.1)
    repeat w_left
    refine new_lst S₁₃ (by show 1 ≤ _; decide) fun s₁₄ ra' hra' S₁₄ => ?_
    repeat w_left
    refine mul_l (m := 3) rfl S₁₄ (S₁₄.atM (.head _)) (by decide) fun rr s₁₅ hrr S₁₅ => ?_
    obtain ⟨t₁₆, x16, a16, S₁₆⟩ := S₁₅.freezeT hrr
    have rq : Rep prog w t₁₆ (.ref rr) (.lst refD3) := lst_rep a16 (Reps.cons (.str _ _) (Reps.cons (.str _ _) (Reps.cons (.str _ _) Reps.nil)))
    replace S₁₆ := S₁₆.sub (mu' := [(574, TabC ps₁₃), (ua, UrnP prog w ca (cap + 1)), (581, TabC qs)]) (.cons _ (.refl _))
    repeat w_left
    refine eq_lst S₁₆ R₁ flat_ref3 (g13.sub x16) rq ?_
    repeat w_left
    have xA : Sub t t₁₆ := x03.tr (x311.tr (x13.tr x16))
    refine law_lot_spec (m := 3) (C.sub xA) sua (S₁₆.perm (List.Perm.swap ..)) (R₁.less (Nat.add_le_add_left (by decide) k)) (k := k) (by decide) (by decide) (Nat.le_trans (Nat.succ_le_succ hc) (by decide)) fun r' u' s₁₇ hr' S₁₇ => ?_
    repeat w_left
    rw [show (2 : Int) + (r' : Int) = ((2 + r' : Nat) : Int) from rfl]
    have S₁₈ := (S₁₇.perm (List.Perm.cons _ (List.Perm.swap ..))).toks (k := s₁₇.toks + 1)
    refine hurt_spec (mu := [(574, TabC ps₁₃)]) (C.sub xA) sua S₁₈ (U.sub xA) (R₁.less (Nat.add_le_add_left (by decide) k)) (k := k) (Nat.le_trans (Nat.add_le_add_right hc 2) (by decide)) (Nat.le_add_right _ _) (Nat.add_le_add_left (Nat.le_of_lt_succ hr') 2) fun qs' s₁₉ S₁₉ => ?_
    repeat w_left
    exact ret t₁₆ ps₁₃ qs' _ _ ua _ xA S₁₉
theorem law_body {c₁ : Cx} {A₁ : Around} {n₁ : Nm} {Q₁ : Flow → Shared → Prop} {E₁ : Value → Shared → Prop} {f : Addr} {cdv : Value} {sa : Addr} {vs : List Value} {xs : List Int}
    (S₁ : ST w mg mb c₁ t [(574, TabC []), (581, TabC [])] n₁ s) (R₁ : Ar A₁ (lawE f cdv c₁.L) c₁ (k + 75)) (m0 : n₁.m "script" = some (.ref sa)) (hs : t.IsList sa vs.toArray) (hi : IntsAre vs xs) (hz : vs.length ≤ sizeLine)
    (ret : ∀ t' ps' qs' n' s' ua ca cap, Sub t t' → ST w mg mb c₁ t' [(ua, UrnP prog w ca cap), (581, TabC qs'), (574, TabC ps')] n' s' → Q₁ (.ret (.bool true)) s') :
    wpAny (model prog w) A₁ (execs (fBody (sA 58)) (lawE f cdv c₁.L)) Q₁ E₁ s := by
  refine w_cons ?_
  intro K₀
  repeat w_left
  refine law_urn_spec S₁ (R₁.less (Nat.add_le_add_left (by decide) k)) (k := k) hs hi hz fun ua ca t₂ s₂ hua sua x2 C S₂ => ?_
  repeat w_left
  refine new_tup (by assumption) (by show 2 ≤ _; decide) fun s₃ t₃ p3 x3 a3 S₃ => ?_
  repeat w_left
  refine law_lot_spec (m := 2) (C.sub x3) sua S₃ (R₁.less (Nat.add_le_add_left (by decide) k)) (k := k) (by decide) (by decide) (Nat.zero_le _) fun r u s₄ hr S₄ => ?_
  repeat w_left
  obtain ⟨ta, tb, a3⟩ : ∃ ta tb, At t₃ p3 (TupO [.str "Nums" ta, .str "Names" tb]) := ⟨_, _, a3⟩
  obtain ⟨b, tw, hb⟩ : ∃ (b : Bool) (tw : Tok), [Value.str "Nums" ta, Value.str "Names" tb][r]? = some (.str (wd b) tw) := by
    rcases r with _ | _ | r
    · exact ⟨false, _, rfl⟩
    · exact ⟨true, _, rfl⟩
    · omega
  refine item_t (j := r) (S₄.atT a3) (lw5 hr).1 (lw5 hr).2 (by rcases r with _ | _ | r <;> first | rfl | omega) hb ?_
  repeat w_left
  refine law_plan_spec (C.sub x3) sua S₄ (R₁.less (Nat.add_le_add_left (by decide) k)) (k := k) (by decide) fun plan pv t₅ s₅ W x5 rp S₅ => ?_
  repeat w_left
  refine new_tup S₅ (by show 2 ≤ _; decide) fun s₆ t₆ p6 x6 a6 S₆ => ?_
  repeat w_left
  refine unpack_t S₆ (by assumption) (S₆.atT a6) (by kernel_rfl) fun s₇ S₇ => ?_
  repeat w_left
  refine law_shelf_spec W (by assumption) (R₁.less (Nat.add_le_add_left (by decide) k)) (k := k) (rp.sub x6) fun sh t₈ s₈ x8 Z S₈ => ?_
  repeat w_left
  obtain ⟨es, hl, hE, hB⟩ := told_all (b := b) W
  rename_i s₉ S₉
  have hnl : (nodesD b plan).length < 60 := by unfold nodesD; rw [List.length_mapIdx]; exact Nat.lt_of_le_of_lt W.len (by decide)
  refine sh_meth S₉ Z (by decide) (by decide) (f := 367) (by kernel_rfl) (by kernel_rfl) ?_
  repeat w_left
  refine shelf_told_spec Z hnl hl hE S₉ (R₁.less (Nat.add_le_add_left (by decide) k)) (k := k) fun bv t₁₀ s₁₀ x10 rb S₁₀ => ?_
  repeat w_left
  refine new_lst S₁₀ (by show 1 ≤ _; decide) fun s₁₁ la hla S₁₁ => ?_
  repeat w_left
  refine mul_l (m := 3) rfl S₁₁ (S₁₁.atM (.head _)) (by decide) fun dv s₁₂ hdv S₁₂ => ?_
  obtain ⟨t₁₃, x13, a13, S₁₃⟩ := S₁₂.freezeT hdv
  have rd : Rep prog w t₁₃ (.ref dv) (.lst refD3) := lst_rep a13 (Reps.cons (.str _ _) (Reps.cons (.str _ _) (Reps.cons (.str _ _) Reps.nil)))
  replace S₁₃ := S₁₃.sub (mu' := [(ua, UrnP prog w ca (0 + 1 + 40)), (574, TabC []), (581, TabC [])]) (.cons _ (.refl _))
  repeat w_left
  refine new_tup S₁₃ (by show 2 ≤ _; decide) fun s₁₄ t₁₄ p14 x14 a14 S₁₄ => ?_
  repeat w_left
  refine unpack_t S₁₄ (by assumption) (S₁₄.atT a14) (by kernel_rfl) fun s₁₅ S₁₅ => ?_
  repeat w_left
  rename_i s₁₆ S₁₆
  obtain ⟨n₂, m0, m1, m2, m3, m4, m5, S₁₇⟩ : ∃ n₂ : Nm, n₂.m "urn" = some (.ref ua) ∧ n₂.m "word" = some (.str (wd b) tw) ∧ n₂.m "shelf" = some sh ∧ n₂.m "before" = some bv ∧ n₂.m "due" = some (.ref dv) ∧ n₂.m "plan" = some pv ∧ ST w mg mb c₁ t₁₄ [(ua, UrnP prog w ca (0 + 1 + 40)), (574, TabC []), (581, TabC [])] n₂ s₁₆ := by
    refine ⟨_, ?_, ?_, ?_, ?_, ?_, ?_, S₁₆⟩ <;> rfl
  clear S₁₆ S₁₅ S₁₄ S₁₃ S₁₂ S₁₁ S₁₀ S₉ S₈ S₇ S₆ S₅ S₄ S₃ S₂ S₁
  have x814 : Sub t₈ t₁₄ := x10.tr (x13.tr x14)
  have rp14 : Rep prog w t₁₄ pv (planD plan) := rp.sub (x6.tr (x8.tr x814))
  refine counts_spec W S₁₇ (R₁.less (Nat.add_le_add_left (by decide) k)) (k := k) rp14 fun ct t₁₈ s₁₈ cv x18 hcv S₁₈ => ?_
  repeat w_left
  have hW := W.pos
  refine max_l S₁₈ R₁ (S₁₈.atM (.head _)) hcv.ints (by rw [List.length_map, List.length_range]; exact hW) fun s₁₉ M uM hM hMx S₁₉ => ?_
  have S₂₀ := S₁₉.sub (mu' := [(ua, UrnP prog w ca (0 + 1 + 40)), (574, TabC []), (581, TabC [])]) (.cons _ (.refl _))
  clear S₁₇ S₁₈ S₁₉
  have good := good_iff W hM hMx
  obtain ⟨e, he, hF⟩ := tell_whole (b := b) W 0 W.pos
  have hlen := W.len
  have C' : Cells t₁₈ ca := C.sub (x3.tr (x5.tr (x6.tr (x8.tr (x814.tr x18)))))
  iterate 3 w_left
  have x8A : Sub t₈ t₁₈ := x814.tr x18
  have rpA : Rep prog w t₁₈ pv (planD plan) := rp14.sub x18
  have rbA : Rep prog w t₁₈ bv (.tup [.tup (rowsD es), .tup [.str "dict"]]) := rb.sub (x13.tr (x14.tr x18))
  have rdA : Rep prog w t₁₈ (.ref dv) (.lst refD3) := rd.sub (x14.tr x18)
  have ZA : IsShelf prog w t₁₈ sh (nodesD b plan) := Z.sub x8A
  have xS : Sub t t₁₈ := x2.tr (x3.tr (x5.tr (x6.tr (x8.tr x8A))))
  clear rp rp14 rb rd Z x814 C a3 a6 a13 a14 hi hs
  by_cases hg : M ≤ 16
  · have hc16 := good.mp hg
    try refine PySem.W.ite_pos (by simpa using hg) ?_
    repeat w_left
    refine walk_spec W 0 W.pos S₂₀ (R₁.less (lw2 hlen)) (k := k) rpA (Nat.le_trans (trace_len W hc16) (by decide)) fun pr t₂₁ s₂₁ x21 rpr S₂₁ => ?_
    repeat w_left
    rename_i s₂₂ S₂₂
    refine whole_spec W 0 W.pos S₂₂ (R₁.less (lw2 hlen)) (k := k) (rpA.sub x21) (ZA.sub x21) fun wv t₂₃ s₂₃ x23 rw S₂₃ => ?_
    repeat w_left
    refine told_spec he S₂₃ (R₁.less (lw3 hlen)) (k := k) rw fun ev t₂₄ s₂₄ x24 re S₂₄ => ?_
    repeat w_left
    refine new_lst S₂₄ (by show 3 ≤ _; decide) fun s₂₅ dl hdl S₂₅ => ?_
    obtain ⟨t₂₆, x26, a26, S₂₆⟩ := S₂₅.freezeT hdl
    iterate 2 w_left
    rename_i s₂₇ S₂₇
    show wpAny _ _ (execs _ _) _ _ _
    have xB : Sub t₁₈ t₂₆ := x21.tr (x23.tr (x24.tr x26))
    refine law_tail (plan := plan) (C'.sub xB) sua (by decide) S₂₇ TabI.nil TabI.nil R₁ m0 m1 m2 m3 rfl W (ZA.sub xB) he (lw4 hlen).1 (hF.mono (lw4 hlen).2) hl hE hB (rbA.sub xB)
      (fun _ => lst_rep a26 (Reps.cons (rpr.sub (x23.tr (x24.tr x26))) (Reps.cons (rpr.sub (x23.tr (x24.tr x26))) (Reps.cons (re.sub x26) Reps.nil)))) (fun h => absurd hc16 h)
      fun t' ps' qs' n' s' ua' cap' x' S' => ret t' ps' qs' n' s' ua' ca cap' (xS.tr (xB.tr x')) S'
  · refine PySem.W.ite_neg (by simpa using hg) ?_
    iterate 1 w_left
    show wpAny _ _ (execs _ _) _ _ _
    refine law_tail (plan := plan) C' sua (by decide) S₂₀ TabI.nil TabI.nil R₁ m0 m1 m2 m3 m4 W ZA he (lw4 hlen).1 (hF.mono (lw4 hlen).2) hl hE hB rbA
      (fun h => absurd (good.mpr h) hg) (fun _ => rdA)
      fun t' ps' qs' n' s' ua' cap' x' S' => ret t' ps' qs' n' s' ua' ca cap' (xS.tr x') S'
end
end
section
open PySem PySem.W PyProof.Rows PySem.Calls
theorem hide_in {P : Params} {h : Heap} {l : List Addr} (X : (K1 P).In h) (hl : ∀ a ∈ l, (K1 P).lookup a = none) : (K1 P).In (hideAll h l) := fun a o e =>
  hideAll_get _ (X a o e) fun q => by have := hl a q; rw [e] at this; cases this
theorem ns_hide {h : Heap} {l : List Addr} {a : Addr} {m : Str → Option Value} (x : h.Ns a m) (n : a ∉ l) : (hideAll h l).Ns a m := let ⟨o, es, ep, ho, r⟩ := x; ⟨o, es, ep, hideAll_get _ ho n, r⟩
theorem not_tab {P : Params} {h : Heap} {a : Addr} {o : Obj} (X : (K0 P).In h) (e : h.get? a = some o) (hc : o.cls ≠ .none) : a ∉ [574, 581] := fun q => by
  rcases List.mem_cons.mp q with rfl | q
  · rw [k0_574 X] at e; cases e; exact hc rfl
  · rw [List.mem_singleton] at q; subst q
    rw [k0_581 X] at e; cases e; exact hc rfl
/-- the walk's first context -/
noncomputable def c00 (s : Shared) : Cx := { wh := hideAll s.heap [574, 581], t₀ := hideAll s.heap [574, 581], N := s.heap.objs.size, L := s.heap.objs.size, loc := s.heap.objs.size, cells := [], outer := [], gens := s.gens, drawn := s.drawn, os := s.os }
theorem first_state {w : World} {mg mb : Str → Option Value} {s₁ : Shared} {h₁ : Heap} {m : Str → Option Value} (X : (K0 w.params).In s₁.heap) (hg : s₁.heap.Ns mainGlobals mg) (hb : s₁.heap.Ns builtinsNs mb) (nl : s₁.heap.NoLimit) (bi : ∀ x : Str, x ≠ "__name__" → mb x = bootBuiltins x)
    (bm : ∃ bm ob, mg "__builtins__" = some (.ref bm) ∧ bm ≠ builtinsNs ∧ s₁.heap.get? bm = some ob ∧ ob.cls = .type "module" ∧ ob.dict = some builtinsNs ∧ ob.data = .plain)
    (hns : h₁.Ns s₁.heap.objs.size m) (hk : ∀ b o, s₁.heap.get? b = some o → h₁.get? b = some o) :
    SH (PF w mg mb) (c00 s₁) (hideAll s₁.heap [574, 581]) [(574, TabC []), (581, TabC [])] ⟨m, fun _ => none, true⟩ h₁ := by
  have e1 := k0_574 X
  have e2 := k0_581 X
  have z1 := Heap.lt_size e1
  have z2 := Heap.lt_size e2
  have hid : Sub (hideAll s₁.heap [574, 581]) s₁.heap := hide_sub
  have top : (hideAll s₁.heap [574, 581]).get? s₁.heap.objs.size = none := hid.fresh
  have inG : ∀ a ∈ (c00 s₁).G, a = s₁.heap.objs.size := fun a ha => by
    rcases List.mem_cons.mp ha with h | h
    · exact h
    · exact List.mem_singleton.mp h
  exact {
    ns := hns
    whole := Ext.of_sub fun b o e => hk b o (hid b o e)
    keep := fun b o e => hk b o (hid b o e)
    outW := top
    outT := fun a ha => inG a ha ▸ top
    mus := fun p hp => by
      rcases List.mem_cons.mp hp with rfl | hp
      · exact ⟨⟨_, hk _ _ e1, rfl⟩, fun q => absurd z1 (by rw [← inG _ q]; exact Nat.lt_irrefl _), hideAll_none _ (.head _), hideAll_none _ (.head _)⟩
      · rw [List.mem_singleton.mp hp]
        exact ⟨⟨_, hk _ _ e2, rfl⟩, fun q => absurd z2 (by rw [← inG _ q]; exact Nat.lt_irrefl _), hideAll_none _ (.tail _ (.head _)), hideAll_none _ (.tail _ (.head _))⟩
    nod := by decide
    cel := fun x a e => nomatch e
    apart := fun _ => List.Pairwise.nil
    base := fun _ _ e => e
    new := fun _ _ => rfl
    hN := Nat.le_refl _
    me := FrObj.of_ns hns
    frames := fun e he => nomatch he
    whN := fun a o e => Heap.lt_size (hid a o e)
    pf := ⟨hide_in (k1_of X) (fun a ha => by
      rcases List.mem_cons.mp ha with rfl | ha
      · kernel_rfl
      · rw [List.mem_singleton.mp ha]; kernel_rfl), ns_hide hg (by decide), ns_hide hb (by decide), let ⟨mc, a, b⟩ := nl; ⟨mc, ns_hide a (by decide), b⟩, bi, let ⟨bm, ob, h1, h2, h3, h4, r⟩ := bm; ⟨bm, ob, h1, h2, hideAll_get _ h3 (not_tab X h3 (by rw [h4]; nofun)), h4, r⟩⟩ }
theorem last_state {w : World} {mg mb : Str → Option Value} {s₁ s' : Shared} {t' : Heap} {n' : Nm} {ua ca : Addr} {cap : Nat} {ps qs : List Value} {prog : Program} (X : (K0 w.params).In s₁.heap) (H : PF w mg mb (hideAll s₁.heap [574, 581]))
    (S : ST w mg mb (c00 s₁) t' [(ua, UrnP prog w ca cap), (581, TabC qs), (574, TabC ps)] n' s') : OldK s₁.heap s'.heap ∧ s'.os = s₁.os ∧ s'.gens = s₁.gens := by
  have e1 := k0_574 X
  have e2 := k0_581 X
  have code : ∀ c P, CodeHd (hideAll s₁.heap [574, 581]) c P → isCodeTable s₁.heap P := fun c P x => by
    obtain ⟨o, vs, _, _, _, _, _, _, _, q1, q2, q3, q4, _⟩ := x
    exact ⟨c, o, vs, hide_sub _ _ q1, q2, q3, q4⟩
  have kp : ∀ b o, s₁.heap.get? b = some o → b ∉ [574, 581] → s'.heap.get? b = some o := fun b o e n => S.1.whole.get (hideAll_get _ e n) fun q => by
    have : b = s₁.heap.objs.size := List.mem_singleton.mp q
    exact absurd (Heap.lt_size e) (by rw [this]; exact Nat.lt_irrefl _)
  have tab : ∀ b o, s₁.heap.get? b = some o → b ∈ [574, 581] → isCodeTable s₁.heap b ∧ o = { cls := .none, data := .fields #[] } ∧ ∃ ps : List Value, s'.heap.get? b = some { cls := .none, data := .fields ps.toArray } := fun b o e m => by
    rcases List.mem_cons.mp m with rfl | m
    · rw [e1] at e; cases e
      obtain ⟨_, h1, h2⟩ := S.inMu (.tail _ (.tail _ (.head _)))
      rw [h2] at h1
      exact ⟨code _ _ (code_578 H), rfl, ps, h1⟩
    · rw [List.mem_singleton] at m; subst m
      rw [e2] at e; cases e
      obtain ⟨_, h1, h2⟩ := S.inMu (.tail _ (.head _))
      rw [h2] at h1
      exact ⟨code _ _ (code_585 H), rfl, qs, h1⟩
  refine ⟨⟨fun b o e => ?_, fun b o e => ?_⟩, S.2.2.2, S.2.1⟩
  · by_cases m : b ∈ [574, 581]
    · obtain ⟨h1, rfl, ps, h2⟩ := tab b o e m
      exact .inr (.inl ⟨h1, rfl, #[], ps.toArray, rfl, by rw [Array.empty_append]; exact h2⟩)
    · exact .inl (kp b o e m)
  · by_cases m : b ∈ [574, 581]
    · obtain ⟨_, _, ps, h2⟩ := tab b o e m
      exact ⟨_, h2⟩
    · exact ⟨o, kp b o e m⟩
theorem t1 : PySem.Challenge.rw_sa0515_01.Holds := by
  refine head ?_
  intro w s₀ s₁ mg mb G Y fa o pm cd doc dV kV ho hd hcd hD hmg hg args vals as hpre hlay hrd hwl hlo
  have X : (K0 w.params).In s₁.heap := kIn_of Y
  have T := G.T
  clear Y
  wrow_args hpre hlay hrd hwl hlo
  rename_i xs _ _ _ _ _ _ _ sa vs _ hL _ _ _ hI _ hc _
  refine enter_call ?_
  have hz : vs.length ≤ sizeLine := by rw [hI.length, sizeLine_eq]; omega
  have z1 : dV = .none := hD.pos.elim (fun h => h.2) fun h => absurd rfl h.1
  have z2 : kV = .none := hD.kw.elim (fun h => h.2) fun h => absurd rfl h.1
  subst z1 z2
  have hd' : o.data = .func (fnOf "law" "law" (fArgs (sA 58)) (fBody (sA 58)) (fScope (sA 58)) .none .none doc pm none cd .none) := hd
  clear hd
  refine codeAny_call_def (binds := [("script", .ref sa)]) (by decide) ho hd' T.nolimit hcd rfl (BindsTo.of_eq rfl) (show ∀ x ∈ (fScope (sA 58)).names, x.2 ≠ .cell by decide +kernel) (locs rfl) (fun h₁ hns hk => ?_)
  have S := first_state X T.g T.b T.nolimit T.builtins T.bmain hns hk
  have hL' : (hideAll s₁.heap [574, 581]).IsList sa vs.toArray := let ⟨o, e, r1, r2⟩ := hL; ⟨o, hideAll_get _ e (not_tab X e (by rw [r1]; nofun)), r1, r2⟩
  show wpAny (model _ w) _ (execs (fBody (sA 58)) (lawE fa cd (c00 s₁).L)) _ _ _
  have Ra : Ar (callerA.deeper (lawE fa cd (c00 s₁).L)) (lawE fa cd (c00 s₁).L) (c00 s₁) (0 + 75) := ⟨rfl, ⟨_, rfl, rfl, rfl⟩, rfl, rfl, rfl, rfl, rfl, rfl, (by decide : 1 + claimMargin + 1 + 75 < 900), (by decide : 4 + 3 + 20 * 75 < 9000)⟩
  refine law_body (k := 0) ⟨S, rfl, rfl, rfl⟩ Ra rfl hL' hI hz fun t' ps qs n' s' ua ca cap x' S' => ?_
  obtain ⟨q1, q2, q3⟩ := last_state X S.pf S'
  exact ⟨.inl ⟨_, _, [], rfl, fun _ => rfl, ReadsW.bool true, (by first | rfl | wrow_post), fun _ => ⟨List.nodup_nil, fun _ hm => (nomatch hm)⟩⟩, q1, q2, .of_eq (q3.trans hg)⟩
end
end Mine

theorem PySem.Challenge.cw_sa0515_01_holds : PySem.Challenge.rw_sa0515_01.Holds :=
  Mine.t1
