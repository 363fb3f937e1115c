import PyProof.Rows.All
import Wide.All
import OpenK.AllK
import Wide.FinOn
import PyProof.InstStoreFacts
import PyProof.ExcBaseAll.Exception
import PyProof.ExcAttrAll.Exception
import KE.KIsAll
import KE.KItem
import KE.KPop
import PyProof.Rows.Range3
import PyProof.EnumFor
import PyProof.EnumMake
import PyProof.CompFree
import PyProof.DictCompW
import PyProof.Cells
import PyProof.NeKinds
import PyProof.EqKinds
import Lean
import PySem.Challenge.RW_oj0064_01
set_option Elab.async false
set_option compiler.extract_closed false
set_option genSizeOf false
set_option bootstrap.genMatcherCode false
section
open PySem PySem.W PySem.W.X PyProof.Rows
set_option maxRecDepth 100000
set_option maxHeartbeats 0
namespace Mine.Head
noncomputable abbrev pw : Program := Challenge.pw_oj0064_01
noncomputable def p0 : Pos := { line := 0, col := 0, endLine := 0, endCol := 0 }
noncomputable abbrev ann0 : Option Value := some (.ref 6)
noncomputable def env0 : Env := { scope := pw.main.scope, locals := mainNs, globals := mainNs, cells := [], code := .ref 13, frame := some 14 }
noncomputable def bd : List Stmt := behindTheImports pw
noncomputable abbrev cB : Code := .body bd env0
noncomputable def btOf : List Obj → Nat → BT → BT
  | [], _, t => t
  | o :: l, n, t => btOf l (n + 1) (t.ins n o)
noncomputable def S0 (w : World) (os : OsState) : Shared := ⟨boot_heap w.params, Array.mk [], boot_drawn, boot_toks, os⟩
noncomputable def SA (w : World) (os : OsState) : Shared := match topGo treeTable pw w 11 ann0 12 (S0 w os) (topStub pw) with
  | some (s, _) => s
  | none => S0 w os
theorem pre (w : World) (os : OsState) : topGo treeTable pw w 11 ann0 12 (S0 w os) (topStub pw) = some (SA w os, ⟨denote treeTable cB, cB, p0, [topFrame p0]⟩) := by kernel_rfl
noncomputable def SB (w : World) (os : OsState) : Shared := match segRun treeTable pw w 11 ann0 1 1 (SA w os) (blockOf bd env0 cB p0 [topFrame p0]) with
  | some (_, s, _) => s
  | none => S0 w os
noncomputable def TB (w : World) (os : OsState) : SharedT := ⟨btOf (SB w os).heap.objs.toList 0 .nil, 15, {}, Array.mk [], {}, 187, os⟩
theorem block (w : World) (os : OsState) : segRun treeTable pw w 11 ann0 1 1 (SA w os) (blockOf bd env0 cB p0 [topFrame p0]) = some (.next, (TB w os).abs, cB, p0) := by kernel_rfl
noncomputable def KEEP : List Nat := [0, 2, 3, 4, 5, 6, 7, 9, 10, 11, 12, 13, 15, 16, 17, 18, 19, 20, 21, 23, 25, 26, 27, 29, 30, 31, 32, 33, 34, 35, 37, 39, 40, 41, 42, 43, 44, 45, 46, 48, 49, 50, 51, 52, 53, 54, 55, 56, 57, 58, 59, 60, 61, 62, 63]
noncomputable def qv : Program := view pw KEEP
noncomputable abbrev lo : List Str := ["Raised", "error", "SmallHost"]
noncomputable abbrev mods0 : List Str := importedModules pw.main.body
noncomputable def Xt0 : Shared → Bool := fun s => xlAt qv [] s && recOk (RowW.records Challenge.rw_oj0064_01.row.toRowW) s
noncomputable abbrev de (P : Params) (x : Str) (t : Tok) (v : Value) : DictEntry := { hash := PyData.keyHash P x, key := .str x t, val := v }
noncomputable def st (i : Nat) : Stmt := pw.main.body.getD i (.Pass p0)
noncomputable def stm (i j : Nat) : Stmt := match st i with
  | .ClassDef _ _ _ b _ _ _ _ _ _ _ => b.getD j (.Pass p0)
  | x => x
noncomputable def fnO (q : Str) (d : Stmt) (c : Addr) (m : Str) (t : Tok) (dv : Value) : Obj := { cls := .type "function", data := .func (match d with
  | .FunctionDef n ps b _ _ _ sc _ _ _ => { name := n, qualname := q, params := ps, body := .stmts b, scope := sc, globals := 3, closure := [], defaults := dv, kwdefaults := .none, pyModule := .str m t, code := .ref c }
  | _ => { name := "", qualname := q, params := { posonlyargs := [], args := [], vararg := none, kwonlyargs := [], kw_defaults := [], kwarg := none, defaults := [] }, body := .stmts [], scope := { kind := .function, names := [], isGenerator := false, isCoroutine := false }, globals := 3, closure := [], defaults := dv, kwdefaults := .none }) }
noncomputable abbrev cdO (n q : Str) (t : Tok) (l c v : Int) (a : Addr) (u : Int) : Obj := { cls := .type "code", data := .fields #[.str n t, .str q (t + 1), .str "/claim/cut.py" (t + 2), .int l 0, .int c 0, .int 0 0, .int 0 0, .int v 0, .ref a, .bool true, .int 181 0, .ref (a + 1), .none, .ref (a + 2), .ref (a + 3), .ref (a + 4), .int u 0, .int l 0, .str "/claim/cut.py" (u.toNat + 1)] }
noncomputable def Kf (P : Params) : Frag := [
  (0, { cls := .type "dict", data := .dict #[de P "__name__" 1 (.str "builtins" 160), de P "__doc__" 2 (.builtin "builtins.__doc__:str#opaque"), de P "__package__" 3 (.builtin "builtins.__package__:str#opaque"), de P "__loader__" 4 (.builtin "builtins.__loader__:shared#opaque"), de P "__spec__" 5 (.builtin "builtins.__spec__#opaque"), de P "__build_class__" 6 (.builtin "__build_class__"), de P "__import__" 7 (.builtin "__import__"), de P "abs" 8 (.builtin "abs"), de P "all" 9 (.builtin "all"), de P "any" 10 (.builtin "any"), de P "ascii" 11 (.builtin "ascii"), de P "bin" 12 (.builtin "bin"), de P "breakpoint" 13 (.builtin "breakpoint"), de P "callable" 14 (.builtin "callable"), de P "chr" 15 (.builtin "chr"), de P "compile" 16 (.builtin "compile"), de P "delattr" 17 (.builtin "delattr"), de P "dir" 18 (.builtin "dir"), de P "divmod" 19 (.builtin "divmod"), de P "eval" 20 (.builtin "eval"), de P "exec" 21 (.builtin "exec"), de P "format" 22 (.builtin "format"), de P "getattr" 23 (.builtin "getattr"), de P "globals" 24 (.builtin "globals"), de P "hasattr" 25 (.builtin "hasattr"), de P "hash" 26 (.builtin "hash"), de P "hex" 27 (.builtin "hex"), de P "id" 28 (.builtin "id"), de P "input" 29 (.builtin "input"), de P "isinstance" 30 (.builtin "isinstance"), de P "issubclass" 31 (.builtin "issubclass"), de P "iter" 32 (.builtin "iter"), de P "aiter" 33 (.builtin "aiter"), de P "len" 34 (.builtin "len"), de P "locals" 35 (.builtin "locals"), de P "max" 36 (.builtin "max"), de P "min" 37 (.builtin "min"), de P "next" 38 (.builtin "next"), de P "anext" 39 (.builtin "anext"), de P "oct" 40 (.builtin "oct"), de P "ord" 41 (.builtin "ord"), de P "pow" 42 (.builtin "pow"), de P "print" 43 (.builtin "print"), de P "repr" 44 (.builtin "repr"), de P "round" 45 (.builtin "round"), de P "setattr" 46 (.builtin "setattr"), de P "sorted" 47 (.builtin "sorted"), de P "sum" 48 (.builtin "sum"), de P "vars" 49 (.builtin "vars"), de P "None" 50 (.none), de P "Ellipsis" 51 (.ellipsis), de P "NotImplemented" 52 (.notImplemented), de P "False" 53 (.bool false), de P "True" 54 (.bool true), de P "bool" 55 (.type "bool"), de P "memoryview" 56 (.type "memoryview"), de P "bytearray" 57 (.type "bytearray"), de P "bytes" 58 (.type "bytes"), de P "classmethod" 59 (.type "classmethod"), de P "complex" 60 (.type "complex"), de P "dict" 61 (.type "dict"), de P "enumerate" 62 (.type "enumerate"), de P "filter" 63 (.type "filter"), de P "float" 64 (.type "float"), de P "frozenset" 65 (.type "frozenset"), de P "property" 66 (.type "property"), de P "int" 67 (.type "int"), de P "list" 68 (.type "list"), de P "map" 69 (.type "map"), de P "object" 70 (.type "object"), de P "range" 71 (.type "range"), de P "reversed" 72 (.type "reversed"), de P "set" 73 (.type "set"), de P "slice" 74 (.type "slice"), de P "staticmethod" 75 (.type "staticmethod"), de P "str" 76 (.type "str"), de P "super" 77 (.type "super"), de P "tuple" 78 (.type "tuple"), de P "type" 79 (.type "type"), de P "zip" 80 (.type "zip"), de P "__debug__" 81 (.bool true), de P "BaseException" 82 (.type "BaseException"), de P "BaseExceptionGroup" 83 (.type "BaseExceptionGroup"), de P "Exception" 84 (.type "Exception"), de P "GeneratorExit" 85 (.type "GeneratorExit"), de P "KeyboardInterrupt" 86 (.type "KeyboardInterrupt"), de P "SystemExit" 87 (.type "SystemExit"), de P "ArithmeticError" 88 (.type "ArithmeticError"), de P "AssertionError" 89 (.type "AssertionError"), de P "AttributeError" 90 (.type "AttributeError"), de P "BufferError" 91 (.type "BufferError"), de P "EOFError" 92 (.type "EOFError"), de P "ImportError" 93 (.type "ImportError"), de P "LookupError" 94 (.type "LookupError"), de P "MemoryError" 95 (.type "MemoryError"), de P "NameError" 96 (.type "NameError"), de P "OSError" 97 (.type "OSError"), de P "ReferenceError" 98 (.type "ReferenceError"), de P "RuntimeError" 99 (.type "RuntimeError"), de P "StopAsyncIteration" 100 (.type "StopAsyncIteration"), de P "StopIteration" 101 (.type "StopIteration"), de P "SyntaxError" 102 (.type "SyntaxError"), de P "SystemError" 103 (.type "SystemError"), de P "TypeError" 104 (.type "TypeError"), de P "ValueError" 105 (.type "ValueError"), de P "Warning" 106 (.type "Warning"), de P "FloatingPointError" 107 (.type "FloatingPointError"), de P "OverflowError" 108 (.type "OverflowError"), de P "ZeroDivisionError" 109 (.type "ZeroDivisionError"), de P "BytesWarning" 110 (.type "BytesWarning"), de P "DeprecationWarning" 111 (.type "DeprecationWarning"), de P "EncodingWarning" 112 (.type "EncodingWarning"), de P "FutureWarning" 113 (.type "FutureWarning"), de P "ImportWarning" 114 (.type "ImportWarning"), de P "PendingDeprecationWarning" 115 (.type "PendingDeprecationWarning"), de P "ResourceWarning" 116 (.type "ResourceWarning"), de P "RuntimeWarning" 117 (.type "RuntimeWarning"), de P "SyntaxWarning" 118 (.type "SyntaxWarning"), de P "UnicodeWarning" 119 (.type "UnicodeWarning"), de P "UserWarning" 120 (.type "UserWarning"), de P "BlockingIOError" 121 (.type "BlockingIOError"), de P "ChildProcessError" 122 (.type "ChildProcessError"), de P "ConnectionError" 123 (.type "ConnectionError"), de P "FileExistsError" 124 (.type "FileExistsError"), de P "FileNotFoundError" 125 (.type "FileNotFoundError"), de P "InterruptedError" 126 (.type "InterruptedError"), de P "IsADirectoryError" 127 (.type "IsADirectoryError"), de P "NotADirectoryError" 128 (.type "NotADirectoryError"), de P "PermissionError" 129 (.type "PermissionError"), de P "ProcessLookupError" 130 (.type "ProcessLookupError"), de P "TimeoutError" 131 (.type "TimeoutError"), de P "IndentationError" 132 (.type "IndentationError"), de P "_IncompleteInputError" 133 (.type "_IncompleteInputError"), de P "IndexError" 134 (.type "IndexError"), de P "KeyError" 135 (.type "KeyError"), de P "ModuleNotFoundError" 136 (.type "ModuleNotFoundError"), de P "NotImplementedError" 137 (.type "NotImplementedError"), de P "PythonFinalizationError" 138 (.type "PythonFinalizationError"), de P "RecursionError" 139 (.type "RecursionError"), de P "UnboundLocalError" 140 (.type "UnboundLocalError"), de P "UnicodeError" 141 (.type "UnicodeError"), de P "BrokenPipeError" 142 (.type "BrokenPipeError"), de P "ConnectionAbortedError" 143 (.type "ConnectionAbortedError"), de P "ConnectionRefusedError" 144 (.type "ConnectionRefusedError"), de P "ConnectionResetError" 145 (.type "ConnectionResetError"), de P "TabError" 146 (.type "TabError"), de P "UnicodeDecodeError" 147 (.type "UnicodeDecodeError"), de P "UnicodeEncodeError" 148 (.type "UnicodeEncodeError"), de P "UnicodeTranslateError" 149 (.type "UnicodeTranslateError"), de P "ExceptionGroup" 150 (.type "ExceptionGroup"), de P "EnvironmentError" 151 (.type "OSError"), de P "IOError" 152 (.type "OSError"), de P "open" 153 (.builtin "open"), de P "quit" 154 (.builtin "builtins.quit#opaque"), de P "exit" 155 (.builtin "builtins.exit#opaque"), de P "copyright" 156 (.builtin "builtins.copyright#opaque"), de P "credits" 157 (.builtin "builtins.credits#opaque"), de P "license" 158 (.builtin "builtins.license#opaque"), de P "help" 159 (.builtin "builtins.help#opaque")] 159 }),
  (1, { cls := .type "dict", data := .dict #[de P "builtins" 162 (.ref 4), de P "__main__" 163 (.ref 5)] 2 }),
  (2, { cls := .none, data := .dict #[de P "type.__subclasses__.Exception.0" 221 (.int 38 0), de P "type.__subclasses__.Exception.n" 222 (.int 2 0), de P "type.__subclasses__.Exception.1" 297 (.int 84 0)] 3 }),
  (3, { cls := .type "dict", data := .dict #[de P "__name__" 165 (.str "law_oj0064_01" 940), de P "__doc__" 166 (.none), de P "__package__" 167 (.none), de P "__loader__" 168 (.builtin "__main__.__loader__#opaque"), de P "__spec__" 169 (.none), de P "__annotations__" 170 (.ref 6), de P "__builtins__" 171 (.ref 4), de P "__file__" 173 (.str "/claim/cut.py" 172), de P "__cached__" 174 (.none), de P "_wall" 193 (.ref 21), de P "TclFault" 224 (.ref 38), de P "Misused" 240 (.ref 51), de P "OutOfFuel" 256 (.ref 63), de P "Raised" 300 (.ref 84), de P "Nest" 336 (.ref 105), de P "Pause" 367 (.ref 126), de P "error" 376 (.ref 139), de P "wrong_args" 383 (.ref 146), de P "cut" 391 (.ref 153), de P "note_row" 399 (.ref 160), de P "end_return" 406 (.ref 167), de P "end_proc" 416 (.ref 174), de P "is_blank" 425 (.ref 181), de P "digit" 433 (.ref 188), de P "digits_value" 444 (.ref 195), de P "base_of" 451 (.ref 202), de P "whole_of" 463 (.ref 209), de P "bool_of" 473 (.ref 216), de P "need_bool" 481 (.ref 223), de P "truth" 492 (.ref 230), de P "trim" 503 (.ref 237), de P "concat_part" 512 (.ref 244), de P "concat" 522 (.ref 251), de P "bad_if" 531 (.ref 258), de P "script_place" 539 (.ref 265), de P "else_script" 547 (.ref 272), de P "branch_of" 560 (.ref 279), de P "run_if" 569 (.ref 286), de P "run_eval" 577 (.ref 293), de P "if_commands" 583 (.ref 300), de P "Var" 618 (.ref 317), de P "Host" 732 (.ref 402), de P "no_variable" 741 (.ref 413), de P "var_in" 749 (.ref 420), de P "put_value" 758 (.ref 427), de P "elements_in" 768 (.ref 434), de P "pair_of" 775 (.ref 441), de P "act" 785 (.ref 448), de P "SmallHost" 939 (.ref 565), de P "_law_take" 951 (.ref 574), de P "_law_words" 957 (.ref 581), de P "_law_chains" 963 (.ref 588), de P "_law_tests" 969 (.ref 595), de P "_law_scripts" 975 (.ref 602), de P "_law_truth" 983 (.ref 609), de P "_law_due" 1002 (.ref 616), de P "_law_wrong" 1009 (.ref 623), de P "_law_clauses" 1020 (.ref 630), de P "_law_expr" 1030 (.ref 637), de P "_law_run" 1040 (.ref 644), de P "_law_host" 1049 (.ref 651), de P "_law_called" 1058 (.ref 658), de P "_law_nested" 1070 (.ref 665), de P "_law_case_is_right" 1076 (.ref 670), de P "law" 1082 (.ref 675)] 65 }),
  (4, { cls := .type "module", dict := some 0 }),
  (5, { cls := .type "module", dict := some 3 }),
  (6, { cls := .type "dict", data := .dict #[] }),
  (7, { cls := .type "tuple", data := .seq #[] }),
  (8, { cls := .none, data := .fields #[] }),
  (9, { cls := .type "code", data := .fields #[.str "<module>" 176, .str "<module>" 177, .str "/claim/cut.py" 178, .int 1 0, .int 0 0, .int 0 0, .int 0 0, .int 0 0, .ref 7, .bool false, .int 175 0, .ref 8, .none, .none, .none, .none, .int 179 0, .int 1 0, .str "/claim/cut.py" 180] }),
  (11, { cls := .type "tuple", data := .seq #[] }),
  (13, { cls := .type "code", data := .fields #[.str "<module>" 182, .str "<module>" 183, .str "/claim/cut.py" 184, .int 1 0, .int 0 0, .int 0 0, .int 0 0, .int 0 0, .ref 11, .bool false, .int 181 0, .ref 12, .none, .none, .none, .none, .int 185 0, .int 1 0, .str "/claim/cut.py" 186] }),
  (20, cdO "_wall" "_wall" 187 1 1 3 15 191),
  (21, fnO "_wall" (st 0) 20 "__main__" 164 .none),
  (34, cdO "__init__" "TclFault.__init__" 208 7 2 3 29 213),
  (35, fnO "TclFault.__init__" (stm 2 0) 34 "tclcore.faults" 194 .none),
  (37, { cls := .type "dict", data := .dict #[de P "__module__" 203 (.str "tclcore.faults" 194), de P "__firstlineno__" 207 (.int 5 206), de P "__init__" 215 (.ref 35), de P "__static_attributes__" 217 (.ref 36), de P "__weakref__" 219 (.ref 39), de P "__doc__" 220 (.none)] 3 }),
  (38, { cls := .type "type", data := .cls { name := "TclFault", bases := [.type "Exception"], mro := [.ref 38, .type "Exception", .type "BaseException", .type "object"], ns := 37, qualname := "TclFault", subclasses := [.ref 51, .ref 63] }, slots := #[some (.ref 22), none, some (.str "TclFault" 196), some (.str "TclFault" 204), some (.builtin "Exception.__new__"), some (.bool true)] }),
  (39, { cls := .type "getset_descriptor", data := .fields #[.str "__weakref__" 218, .ref 38, .builtin "ExceptionGroup.__weakref__", .none] }),
  (50, { cls := .type "dict", data := .dict #[de P "__module__" 232 (.str "tclcore.faults" 194), de P "__firstlineno__" 236 (.int 10 235), de P "__static_attributes__" 237 (.ref 49), de P "__doc__" 238 (.none)] 2 }),
  (51, { cls := .type "type", data := .cls { name := "Misused", bases := [.ref 38], mro := [.ref 51, .ref 38, .type "Exception", .type "BaseException", .type "object"], ns := 50, qualname := "Misused" }, slots := #[some (.ref 42), none, some (.str "Misused" 225), some (.str "Misused" 233), some (.builtin "Exception.__new__"), some (.bool true)] }),
  (62, { cls := .type "dict", data := .dict #[de P "__module__" 248 (.str "tclcore.faults" 194), de P "__firstlineno__" 252 (.int 12 251), de P "__static_attributes__" 253 (.ref 61), de P "__doc__" 254 (.none)] 2 }),
  (63, { cls := .type "type", data := .cls { name := "OutOfFuel", bases := [.ref 38], mro := [.ref 63, .ref 38, .type "Exception", .type "BaseException", .type "object"], ns := 62, qualname := "OutOfFuel" }, slots := #[some (.ref 54), none, some (.str "OutOfFuel" 241), some (.str "OutOfFuel" 249), some (.builtin "Exception.__new__"), some (.bool true)] }),
  (73, { cls := .type "tuple", data := .seq #[.str "NONE" 269] }),
  (74, { cls := .type "tuple", data := .seq #[.ref 73, .int 0 270, .int 0 271] }),
  (80, cdO "__init__" "Raised.__init__" 272 16 6 3 75 281),
  (81, fnO "Raised.__init__" (stm 5 0) 80 "tclcore.faults" 194 (.ref 74)),
  (83, { cls := .type "dict", data := .dict #[de P "__module__" 264 (.str "tclcore.faults" 194), de P "__firstlineno__" 268 (.int 14 267), de P "__init__" 283 (.ref 81), de P "__static_attributes__" 293 (.ref 82), de P "__weakref__" 295 (.ref 85), de P "__doc__" 296 (.none)] 3 }),
  (84, { cls := .type "type", data := .cls { name := "Raised", bases := [.type "Exception"], mro := [.ref 84, .type "Exception", .type "BaseException", .type "object"], ns := 83, qualname := "Raised" }, slots := #[some (.ref 66), none, some (.str "Raised" 257), some (.str "Raised" 265), some (.builtin "Exception.__new__"), some (.bool true)] }),
  (85, { cls := .type "getset_descriptor", data := .fields #[.str "__weakref__" 294, .ref 84, .builtin "ExceptionGroup.__weakref__", .none] }),
  (95, { cls := .type "tuple", data := .seq #[.none, .bool false, .str "" 313] }),
  (101, cdO "__init__" "Nest.__init__" 314 29 5 3 96 322),
  (102, fnO "Nest.__init__" (stm 6 0) 101 "tclcore.faults" 194 (.ref 95)),
  (104, { cls := .type "dict", data := .dict #[de P "__module__" 308 (.str "tclcore.faults" 194), de P "__firstlineno__" 312 (.int 27 311), de P "__init__" 324 (.ref 102), de P "__static_attributes__" 329 (.ref 103), de P "__dict__" 331 (.ref 106), de P "__weakref__" 333 (.ref 107), de P "__doc__" 334 (.none)] 4 }),
  (105, { cls := .type "type", data := .cls { name := "Nest", bases := [.type "object"], mro := [.ref 105, .type "object"], ns := 104, qualname := "Nest" }, slots := #[none, none, some (.str "Nest" 301), some (.str "Nest" 309), some (.builtin "object.__new__"), some (.bool true)] }),
  (106, { cls := .type "getset_descriptor", data := .fields #[.str "__dict__" 330, .ref 105, .builtin "function.__dict__", .builtin "function.__dict__#set"] }),
  (107, { cls := .type "getset_descriptor", data := .fields #[.str "__weakref__" 332, .ref 105, .builtin "ExceptionGroup.__weakref__", .none] }),
  (122, cdO "__init__" "Pause.__init__" 349 36 3 3 117 355),
  (123, fnO "Pause.__init__" (stm 7 0) 122 "tclcore.faults" 194 .none),
  (125, { cls := .type "dict", data := .dict #[de P "__module__" 344 (.str "tclcore.faults" 194), de P "__firstlineno__" 348 (.int 34 347), de P "__init__" 357 (.ref 123), de P "__static_attributes__" 360 (.ref 124), de P "__dict__" 362 (.ref 127), de P "__weakref__" 364 (.ref 128), de P "__doc__" 365 (.none)] 4 }),
  (126, { cls := .type "type", data := .cls { name := "Pause", bases := [.type "object"], mro := [.ref 126, .type "object"], ns := 125, qualname := "Pause" }, slots := #[none, none, some (.str "Pause" 337), some (.str "Pause" 345), some (.builtin "object.__new__"), some (.bool true)] }),
  (127, { cls := .type "getset_descriptor", data := .fields #[.str "__dict__" 361, .ref 126, .builtin "function.__dict__", .builtin "function.__dict__#set"] }),
  (128, { cls := .type "getset_descriptor", data := .fields #[.str "__weakref__" 363, .ref 126, .builtin "ExceptionGroup.__weakref__", .none] }),
  (131, { cls := .type "tuple", data := .seq #[.str "NONE" 368] }),
  (132, { cls := .type "tuple", data := .seq #[.ref 131] }),
  (138, cdO "error" "error" 369 39 2 3 133 374),
  (139, fnO "error" (st 8) 138 "tclcore.faults" 194 (.ref 132)),
  (145, cdO "wrong_args" "wrong_args" 377 41 1 3 140 381),
  (146, fnO "wrong_args" (st 9) 145 "tclcore.faults" 194 .none),
  (152, cdO "cut" "cut" 384 43 2 3 147 389),
  (153, fnO "cut" (st 10) 152 "tclcore.faults" 194 .none),
  (159, cdO "note_row" "note_row" 392 47 2 3 154 397),
  (160, fnO "note_row" (st 11) 159 "tclcore.faults" 194 .none),
  (166, cdO "end_return" "end_return" 400 54 1 3 161 404),
  (167, fnO "end_return" (st 12) 166 "tclcore.faults" 194 .none),
  (173, cdO "end_proc" "end_proc" 407 62 2 3 168 414),
  (174, fnO "end_proc" (st 13) 173 "tclcore.faults" 194 .none),
  (180, cdO "is_blank" "is_blank" 419 77 1 3 175 423),
  (181, fnO "is_blank" (st 15) 180 "tclcore.numbers" 417 .none),
  (187, cdO "digit" "digit" 426 79 1 3 182 431),
  (188, fnO "digit" (st 16) 187 "tclcore.numbers" 417 .none),
  (194, cdO "digits_value" "digits_value" 434 90 2 3 189 442),
  (195, fnO "digits_value" (st 17) 194 "tclcore.numbers" 417 .none),
  (201, cdO "base_of" "base_of" 445 100 1 3 196 449),
  (202, fnO "base_of" (st 18) 201 "tclcore.numbers" 417 .none),
  (208, cdO "whole_of" "whole_of" 452 110 1 3 203 461),
  (209, fnO "whole_of" (st 19) 208 "tclcore.numbers" 417 .none),
  (215, cdO "bool_of" "bool_of" 464 130 1 3 210 471),
  (216, fnO "bool_of" (st 20) 215 "tclcore.numbers" 417 .none),
  (222, cdO "need_bool" "need_bool" 474 144 1 3 217 479),
  (223, fnO "need_bool" (st 21) 222 "tclcore.numbers" 417 .none),
  (229, cdO "truth" "truth" 484 150 2 3 224 490),
  (230, fnO "truth" (st 23) 229 "tclcore.exprrun" 482 .none),
  (236, cdO "trim" "trim" 495 154 1 3 231 501),
  (237, fnO "trim" (st 25) 236 "tclcore.lists" 493 .none),
  (243, cdO "concat_part" "concat_part" 504 161 1 3 238 510),
  (244, fnO "concat_part" (st 26) 243 "tclcore.lists" 493 .none),
  (250, cdO "concat" "concat" 513 167 1 3 245 520),
  (251, fnO "concat" (st 27) 250 "tclcore.lists" 493 .none),
  (257, cdO "bad_if" "bad_if" 525 175 1 3 252 529),
  (258, fnO "bad_if" (st 29) 257 "tclcore.control" 523 .none),
  (264, cdO "script_place" "script_place" 532 177 2 3 259 537),
  (265, fnO "script_place" (st 30) 264 "tclcore.control" 523 .none),
  (271, cdO "else_script" "else_script" 540 183 2 3 266 545),
  (272, fnO "else_script" (st 31) 271 "tclcore.control" 523 .none),
  (278, cdO "branch_of" "branch_of" 548 191 2 3 273 558),
  (279, fnO "branch_of" (st 32) 278 "tclcore.control" 523 .none),
  (285, cdO "run_if" "run_if" 561 210 2 3 280 567),
  (286, fnO "run_if" (st 33) 285 "tclcore.control" 523 .none),
  (292, cdO "run_eval" "run_eval" 570 215 2 3 287 575),
  (293, fnO "run_eval" (st 34) 292 "tclcore.control" 523 .none),
  (299, cdO "if_commands" "if_commands" 578 221 0 3 294 581),
  (300, fnO "if_commands" (st 35) 299 "tclcore.control" 523 .none),
  (313, cdO "__init__" "Var.__init__" 598 226 1 3 308 602),
  (314, fnO "Var.__init__" (stm 37 0) 313 "tclcore.spaces" 584 .none),
  (316, { cls := .type "dict", data := .dict #[de P "__module__" 593 (.str "tclcore.spaces" 584), de P "__firstlineno__" 597 (.int 224 596), de P "__init__" 604 (.ref 314), de P "__static_attributes__" 611 (.ref 315), de P "__dict__" 613 (.ref 318), de P "__weakref__" 615 (.ref 319), de P "__doc__" 616 (.none)] 4 }),
  (317, { cls := .type "type", data := .cls { name := "Var", bases := [.type "object"], mro := [.ref 317, .type "object"], ns := 316, qualname := "Var" }, slots := #[none, none, some (.str "Var" 586), some (.str "Var" 594), some (.builtin "object.__new__"), some (.bool true)] }),
  (318, { cls := .type "getset_descriptor", data := .fields #[.str "__dict__" 612, .ref 317, .builtin "function.__dict__", .builtin "function.__dict__#set"] }),
  (319, { cls := .type "getset_descriptor", data := .fields #[.str "__weakref__" 614, .ref 317, .builtin "ExceptionGroup.__weakref__", .none] }),
  (329, { cls := .type "tuple", data := .seq #[.int 40 633, .none] }),
  (335, cdO "__init__" "Host.__init__" 634 236 3 3 330 640),
  (336, fnO "Host.__init__" (stm 39 0) 335 "tclcore.host" 619 (.ref 329)),
  (342, cdO "tool" "Host.tool" 643 247 2 3 337 648),
  (343, fnO "Host.tool" (stm 39 1) 342 "tclcore.host" 619 .none),
  (349, cdO "spend" "Host.spend" 651 252 1 3 344 655),
  (350, fnO "Host.spend" (stm 39 2) 349 "tclcore.host" 619 .none),
  (356, cdO "where" "Host.where" 658 257 1 3 351 662),
  (357, fnO "Host.where" (stm 39 3) 356 "tclcore.host" 619 .none),
  (363, cdO "run" "Host.run" 665 260 2 3 358 671),
  (364, fnO "Host.run" (stm 39 4) 363 "tclcore.host" 619 .none),
  (370, cdO "run_global" "Host.run_global" 674 270 2 3 365 679),
  (371, fnO "Host.run_global" (stm 39 5) 370 "tclcore.host" 619 .none),
  (377, cdO "call" "Host.call" 682 273 2 3 372 688),
  (378, fnO "Host.call" (stm 39 6) 377 "tclcore.host" 619 .none),
  (384, cdO "finish" "Host.finish" 691 283 2 3 379 697),
  (385, fnO "Host.finish" (stm 39 7) 384 "tclcore.host" 619 .none),
  (391, cdO "leave" "Host.leave" 700 293 2 3 386 705),
  (392, fnO "Host.leave" (stm 39 8) 391 "tclcore.host" 619 .none),
  (398, cdO "outcome" "Host.outcome" 708 297 2 3 393 713),
  (399, fnO "Host.outcome" (stm 39 9) 398 "tclcore.host" 619 .none),
  (401, { cls := .type "dict", data := .dict #[de P "__module__" 628 (.str "tclcore.host" 619), de P "__firstlineno__" 632 (.int 234 631), de P "__init__" 642 (.ref 336), de P "tool" 650 (.ref 343), de P "spend" 657 (.ref 350), de P "where" 664 (.ref 357), de P "run" 673 (.ref 364), de P "run_global" 681 (.ref 371), de P "call" 690 (.ref 378), de P "finish" 699 (.ref 385), de P "leave" 707 (.ref 392), de P "outcome" 715 (.ref 399), de P "__static_attributes__" 725 (.ref 400), de P "__dict__" 727 (.ref 403), de P "__weakref__" 729 (.ref 404), de P "__doc__" 730 (.none)] 4 }),
  (402, { cls := .type "type", data := .cls { name := "Host", bases := [.type "object"], mro := [.ref 402, .type "object"], ns := 401, qualname := "Host", subclasses := [.ref 565] }, slots := #[none, none, some (.str "Host" 621), some (.str "Host" 629), some (.builtin "object.__new__"), some (.bool true)] }),
  (403, { cls := .type "getset_descriptor", data := .fields #[.str "__dict__" 726, .ref 402, .builtin "function.__dict__", .builtin "function.__dict__#set"] }),
  (404, { cls := .type "getset_descriptor", data := .fields #[.str "__weakref__" 728, .ref 402, .builtin "ExceptionGroup.__weakref__", .none] }),
  (412, cdO "no_variable" "no_variable" 733 299 2 3 407 739),
  (413, fnO "no_variable" (st 40) 412 "tclcore.host" 619 .none),
  (419, cdO "var_in" "var_in" 742 302 2 3 414 747),
  (420, fnO "var_in" (st 41) 419 "tclcore.host" 619 .none),
  (426, cdO "put_value" "put_value" 750 306 3 3 421 756),
  (427, fnO "put_value" (st 42) 426 "tclcore.host" 619 .none),
  (433, cdO "elements_in" "elements_in" 759 311 2 3 428 766),
  (434, fnO "elements_in" (st 43) 433 "tclcore.host" 619 .none),
  (440, cdO "pair_of" "pair_of" 769 317 1 3 435 773),
  (441, fnO "pair_of" (st 44) 440 "tclcore.host" 619 .none),
  (447, cdO "act" "act" 776 321 4 3 442 783),
  (448, fnO "act" (st 45) 447 "tclcore.host" 619 .none),
  (456, { cls := .type "tuple", data := .seq #[.int 40 798, .none] }),
  (462, cdO "__init__" "SmallHost.__init__" 799 327 3 3 457 805),
  (463, fnO "SmallHost.__init__" (stm 46 0) 462 "tclcore.host" 619 (.ref 456)),
  (469, cdO "has" "SmallHost.has" 808 333 2 3 464 813),
  (470, fnO "SmallHost.has" (stm 46 1) 469 "tclcore.host" 619 .none),
  (476, cdO "place" "SmallHost.place" 816 336 2 3 471 821),
  (477, fnO "SmallHost.place" (stm 46 2) 476 "tclcore.host" 619 .none),
  (483, cdO "read_var" "SmallHost.read_var" 824 339 3 3 478 830),
  (484, fnO "SmallHost.read_var" (stm 46 3) 483 "tclcore.host" 619 .none),
  (490, cdO "write_var" "SmallHost.write_var" 833 344 4 3 485 840),
  (491, fnO "SmallHost.write_var" (stm 46 4) 490 "tclcore.host" 619 .none),
  (497, cdO "read" "SmallHost.read" 843 347 2 3 492 848),
  (498, fnO "SmallHost.read" (stm 46 5) 497 "tclcore.host" 619 .none),
  (504, cdO "write" "SmallHost.write" 851 350 3 3 499 857),
  (505, fnO "SmallHost.write" (stm 46 6) 504 "tclcore.host" 619 .none),
  (511, cdO "drop" "SmallHost.drop" 860 353 2 3 506 865),
  (512, fnO "SmallHost.drop" (stm 46 7) 511 "tclcore.host" 619 .none),
  (518, cdO "stamp" "SmallHost.stamp" 868 356 2 3 513 873),
  (519, fnO "SmallHost.stamp" (stm 46 8) 518 "tclcore.host" 619 .none),
  (525, cdO "array" "SmallHost.array" 876 359 3 3 520 883),
  (526, fnO "SmallHost.array" (stm 46 9) 525 "tclcore.host" 619 .none),
  (527, { cls := .type "tuple", data := .seq #[.none] }),
  (533, cdO "put" "SmallHost.put" 886 363 4 3 528 893),
  (534, fnO "SmallHost.put" (stm 46 10) 533 "tclcore.host" 619 (.ref 527)),
  (540, cdO "remove" "SmallHost.remove" 896 367 2 3 535 901),
  (541, fnO "SmallHost.remove" (stm 46 11) 540 "tclcore.host" 619 .none),
  (547, cdO "add" "SmallHost.add" 904 373 2 3 542 912),
  (548, fnO "SmallHost.add" (stm 46 12) 547 "tclcore.host" 619 .none),
  (554, cdO "is_first" "SmallHost.is_first" 915 379 2 3 549 920),
  (555, fnO "SmallHost.is_first" (stm 46 13) 554 "tclcore.host" 619 .none),
  (561, cdO "begin" "SmallHost.begin" 923 382 2 3 556 930),
  (562, fnO "SmallHost.begin" (stm 46 14) 561 "tclcore.host" 619 .none),
  (564, { cls := .type "dict", data := .dict #[de P "__module__" 793 (.str "tclcore.host" 619), de P "__firstlineno__" 797 (.int 325 796), de P "__init__" 807 (.ref 463), de P "has" 815 (.ref 470), de P "place" 823 (.ref 477), de P "read_var" 832 (.ref 484), de P "write_var" 842 (.ref 491), de P "read" 850 (.ref 498), de P "write" 859 (.ref 505), de P "drop" 867 (.ref 512), de P "stamp" 875 (.ref 519), de P "array" 885 (.ref 526), de P "put" 895 (.ref 534), de P "remove" 903 (.ref 541), de P "add" 914 (.ref 548), de P "is_first" 922 (.ref 555), de P "begin" 932 (.ref 562), de P "__static_attributes__" 936 (.ref 563), de P "__doc__" 937 (.none)] 2 }),
  (565, { cls := .type "type", data := .cls { name := "SmallHost", bases := [.ref 402], mro := [.ref 565, .ref 402, .type "object"], ns := 564, qualname := "SmallHost" }, slots := #[some (.ref 449), none, some (.str "SmallHost" 786), some (.str "SmallHost" 794), some (.builtin "object.__new__"), some (.bool true)] }),
  (573, cdO "_law_take" "_law_take" 942 389 2 3 568 949),
  (574, fnO "_law_take" (st 48) 573 "law_oj0064_01" 940 .none),
  (580, cdO "_law_words" "_law_words" 952 394 0 3 575 955),
  (581, fnO "_law_words" (st 49) 580 "law_oj0064_01" 940 .none),
  (587, cdO "_law_chains" "_law_chains" 958 396 0 3 582 961),
  (588, fnO "_law_chains" (st 50) 587 "law_oj0064_01" 940 .none),
  (594, cdO "_law_tests" "_law_tests" 964 398 0 3 589 967),
  (595, fnO "_law_tests" (st 51) 594 "law_oj0064_01" 940 .none),
  (601, cdO "_law_scripts" "_law_scripts" 970 400 0 3 596 973),
  (602, fnO "_law_scripts" (st 52) 601 "law_oj0064_01" 940 .none),
  (608, cdO "_law_truth" "_law_truth" 976 402 1 3 603 981),
  (609, fnO "_law_truth" (st 53) 608 "law_oj0064_01" 940 .none),
  (615, cdO "_law_due" "_law_due" 984 405 2 3 610 1000),
  (616, fnO "_law_due" (st 54) 615 "law_oj0064_01" 940 .none),
  (622, cdO "_law_wrong" "_law_wrong" 1003 442 1 3 617 1007),
  (623, fnO "_law_wrong" (st 55) 622 "law_oj0064_01" 940 .none),
  (629, cdO "_law_clauses" "_law_clauses" 1010 444 1 3 624 1018),
  (630, fnO "_law_clauses" (st 56) 629 "law_oj0064_01" 940 .none),
  (636, cdO "_law_expr" "_law_expr" 1021 456 2 3 631 1028),
  (637, fnO "_law_expr" (st 57) 636 "law_oj0064_01" 940 .none),
  (643, cdO "_law_run" "_law_run" 1031 462 2 3 638 1038),
  (644, fnO "_law_run" (st 58) 643 "law_oj0064_01" 940 .none),
  (650, cdO "_law_host" "_law_host" 1041 470 2 3 645 1047),
  (651, fnO "_law_host" (st 59) 650 "law_oj0064_01" 940 .none),
  (657, cdO "_law_called" "_law_called" 1050 475 2 3 652 1056),
  (658, fnO "_law_called" (st 60) 657 "law_oj0064_01" 940 .none),
  (664, cdO "_law_nested" "_law_nested" 1059 480 3 3 659 1068),
  (665, fnO "_law_nested" (st 61) 664 "law_oj0064_01" 940 .none),
  (669, { cls := .type "code", data := .fields #[.str "_law_case_is_right" 1071, .str "_law_case_is_right" 1072, .str "/claim/cut.py" 1073, .int 487 0, .int 3 0, .int 0 0, .int 0 0, .int 3 0, .ref 666, .bool true, .int 181 0, .ref 667, .none, .none, .none, .ref 668, .int 1074 0, .int 487 0, .str "/claim/cut.py" 1075] }),
  (670, fnO "_law_case_is_right" (st 62) 669 "law_oj0064_01" 940 .none),
  (674, { cls := .type "code", data := .fields #[.str "law" 1077, .str "law" 1078, .str "/claim/cut.py" 1079, .int 510 0, .int 1 0, .int 0 0, .int 0 0, .int 3 0, .ref 671, .bool true, .int 181 0, .ref 672, .none, .none, .none, .ref 673, .int 1080 0, .int 510 0, .str "/claim/cut.py" 1081] }),
  (675, fnO "law" (st 63) 674 "law_oj0064_01" 940 .none)]
noncomputable def as : List Addr := [0, 1, 2, 3, 4, 5, 6, 7, 8, 9, 11, 13, 20, 21, 34, 35, 37, 38, 39, 50, 51, 62, 63, 73, 74, 80, 81, 83, 84, 85, 95, 101, 102, 104, 105, 106, 107, 122, 123, 125, 126, 127, 128, 131, 132, 138, 139, 145, 146, 152, 153, 159, 160, 166, 167, 173, 174, 180, 181, 187, 188, 194, 195, 201, 202, 208, 209, 215, 216, 222, 223, 229, 230, 236, 237, 243, 244, 250, 251, 257, 258, 264, 265, 271, 272, 278, 279, 285, 286, 292, 293, 299, 300, 313, 314, 316, 317, 318, 319, 329, 335, 336, 342, 343, 349, 350, 356, 357, 363, 364, 370, 371, 377, 378, 384, 385, 391, 392, 398, 399, 401, 402, 403, 404, 412, 413, 419, 420, 426, 427, 433, 434, 440, 441, 447, 448, 456, 462, 463, 469, 470, 476, 477, 483, 484, 490, 491, 497, 498, 504, 505, 511, 512, 518, 519, 525, 526, 527, 533, 534, 540, 541, 547, 548, 554, 555, 561, 562, 564, 565, 573, 574, 580, 581, 587, 588, 594, 595, 601, 602, 608, 609, 615, 616, 622, 623, 629, 630, 636, 637, 643, 644, 650, 651, 657, 658, 664, 665, 669, 670, 674, 675]

theorem as_ok (P : Params) : as = (Kf P).map (·.1) := by kernel_rfl
noncomputable abbrev hook : Hook := kHook Kf as as_ok
noncomputable def endS (w : World) (os : OsState) : Option (Code × Shared) := (Fast.tw10110043849684766642 Fast.tw14364793385576792824 pw w 11 ann0 1 6000 (TB w os) (piecesOf bd env0 cB p0 [topFrame p0])).bind fun r => match r with
    | (.next, s', c', p') => (Fast.tw14082659384304107361 Fast.tw14364793385576792824 pw w 11 ann0 2 s'.abs ⟨doneF .next, c', p', [topFrame p0]⟩).map fun s => (c', s)
    | _ => none
noncomputable abbrev sn (s : Shared) := Fast.tw4187177175401517315 qv lo mods0 Xt0 true s
theorem bigA (w : World) (os : OsState) : (endS w os).map (fun x => (x.1, staticsOk mods0 (boot_heap w.params) x.2.heap && namesBound pw x.2.heap && gensDone x.2 && laidKept (boot_heap w.params) x.2.heap, hook.obs x.2)) = some (cB, true, hook.val w) := by kernel_rfl
theorem bigB (w : World) (os : OsState) : (endS w os).map (fun x => (sn x.2).1) = some (PyProof.Rows.expectedOf qv) := by kernel_rfl
theorem bigC (w : World) (os : OsState) : (endS w os).map (fun x => ((sn x.2).2.1, (sn x.2).2.2.1, (sn x.2).2.2.2.1)) = some (bltViewBooted, true, true) := by kernel_rfl
theorem bigD (w : World) (os : OsState) : (endS w os).map (fun x => ((sn x.2).2.2.2.2.1, (sn x.2).2.2.2.2.2.1)) = some (pinGoodD (PyProof.Rows.drecsOf qv), PyProof.Rows.plainGoodE qv (looseW qv lo)) := by kernel_rfl
theorem bigE (w : World) (os : OsState) : (endS w os).map (fun x => ((sn x.2).2.2.2.2.2.2.1, (sn x.2).2.2.2.2.2.2.2.1, (sn x.2).2.2.2.2.2.2.2.2)) = some (PyProof.Rows.plainGoodD qv lo, wideGood qv, clsGoodW qv lo) := by kernel_rfl

end Mine.Head
end
section
open PySem PySem.W PySem.W.X PyProof.Rows
set_option maxRecDepth 100000
set_option maxHeartbeats 0
namespace Mine.Head
theorem topFrom_of {tb : String → Option Builtin} {p : Program} {w : World} {N m : Nat} {ann : Option Value} {s₀ s : Shared} (z1 : (s₀.heap.isNs mainGlobals && s₀.gens.size == 0) = true) (z2 : s₀.heap.objs.size = m) (z3 : s₀.heap.nsMap mainGlobals "__annotations__" = ann)
    (r : topRun tb p w m ann N s₀ (topStub p) = some s) (h : (staticsOk (importedModules p.main.body) s₀.heap s.heap && namesBound p s.heap && gensDone s && laidKept s₀.heap s.heap) = true) : topFrom tb p w N s₀ = some s := by
  unfold topFrom
  rw [z1]
  dsimp only
  rw [z2, z3, r]
  show (match staticsOk (importedModules p.main.body) s₀.heap s.heap && namesBound p s.heap && gensDone s && laidKept s₀.heap s.heap with | true => some s | false => none) = some s
  rw [h]
theorem left_of {p q : Program} {loose : List Str} {Xt : Shared → Bool} {α : Type} {Yf : Shared → α} {Ya : World → α} {N K m : Nat} {ann : Option Value} {H : Params → Heap} {d : Drawn} {k : Nat}
    (open_ : ∀ w : World, (fencedOpening treeTable p w N).map (fun s => (s.heap, s.gens, s.drawn, s.toks)) = some (H w.params, Array.mk [], d, k))
    (size : ∀ w : World, ((H w.params).isNs mainGlobals && (Array.mk [] : Array GenState).size == 0, (H w.params).objs.size, (H w.params).nsMap mainGlobals "__annotations__") = (true, m, ann))
    (le : Nat.ble K N = true)
    (run : ∀ (w : World) (os : OsState), ∃ s, topRun treeTable p w m ann K ⟨H w.params, Array.mk [], d, k, os⟩ (topStub p) = some s ∧
      (staticsOk (importedModules p.main.body) (H w.params) s.heap && namesBound p s.heap && gensDone s && laidKept (H w.params) s.heap) = true ∧ openSeen q loose (importedModules p.main.body) Xt true s = openGood q loose ∧ Yf s = Ya w) : LeftO p q loose Xt Yf Ya N := fun w => by
  obtain ⟨⟨h, gs, d', k', os⟩, e, e'⟩ := Option.map_eq_some_iff.mp (open_ w)
  obtain ⟨rfl, rfl, rfl, rfl⟩ : h = H w.params ∧ gs = Array.mk [] ∧ d' = d ∧ k' = k := by simpa using e'
  obtain ⟨s, r, h1, h2, h3⟩ := run w os
  have r := topRun_mono (N - K) _ _ _ _ r
  rw [show K + (N - K) = N by have := Nat.le_of_ble_eq_true le; omega] at r
  obtain ⟨z1, z2, z3⟩ : _ ∧ _ ∧ _ := by simpa only [Prod.mk.injEq] using size w
  unfold openEnds
  rw [e]
  show (topFrom treeTable p w N _).map _ = _
  rw [topFrom_of z1 z2 z3 r h1]
  exact congrArg some (Prod.ext h2 h3)
theorem good_eq : openGood qv lo = (PyProof.Rows.expectedOf qv, bltViewBooted, true, true, pinGoodD (PyProof.Rows.drecsOf qv), PyProof.Rows.plainGoodE qv (looseW qv lo), PyProof.Rows.plainGoodD qv lo, wideGood qv, clsGoodW qv lo) := rfl
theorem map_at {α β : Type} {o : Option α} {f : α → β} {x : α} {b : β} (e : o = some x) (h : o.map f = some b) : f x = b := by
  subst e
  exact Option.some.inj h
theorem ends (w : World) (os : OsState) : ∃ s, endS w os = some (cB, s) ∧ (staticsOk mods0 (boot_heap w.params) s.heap && namesBound pw s.heap && gensDone s && laidKept (boot_heap w.params) s.heap) = true ∧ openSeen qv lo mods0 Xt0 true s = openGood qv lo ∧ hook.obs s = hook.val w := by
  obtain ⟨⟨c, s⟩, hx, hA⟩ := Option.map_eq_some_iff.mp (bigA w os)
  simp only [Prod.mk.injEq] at hA
  obtain ⟨rfl, h1, h2⟩ := hA
  have hB := map_at hx (bigB w os)
  have hC := map_at hx (bigC w os)
  have hD := map_at hx (bigD w os)
  have hE := map_at hx (bigE w os)
  simp only [Prod.mk.injEq] at hC hD hE
  refine ⟨s, hx, h1, ?_, h2⟩
  rw [good_eq, Fast.te4187177175401517315]
  exact Prod.ext hB (Prod.ext hC.1 (Prod.ext hC.2.1 (Prod.ext hC.2.2 (Prod.ext hD.1 (Prod.ext hD.2 (Prod.ext hE.1 (Prod.ext hE.2.1 hE.2.2)))))))
theorem runs (w : World) (os : OsState) : ∃ s, topRun treeTable pw w 11 ann0 (12 + (1 + (6000 + 2))) (S0 w os) (topStub pw) = some s ∧
    (staticsOk mods0 (boot_heap w.params) s.heap && namesBound pw s.heap && gensDone s && laidKept (boot_heap w.params) s.heap) = true ∧ openSeen qv lo mods0 Xt0 true s = openGood qv lo ∧ hook.obs s = hook.val w := by
  obtain ⟨s, hx, h5, h6, h7⟩ := ends w os
  unfold endS at hx
  rw [← Fast.te10110043849684766642, ← Fast.te14364793385576792824, ← Fast.te14082659384304107361] at hx
  obtain ⟨⟨f, s', c', p'⟩, h1, h2⟩ := Option.bind_eq_some_iff.mp hx
  cases f with
  | next =>
    obtain ⟨s, h3, h4⟩ := Option.map_eq_some_iff.mp h2
    cases h4
    refine ⟨s, go_top (pre w os) (piece_block (block w os) ?_), h5, h6, h7⟩
    have := piece_app (rest := []) (segRun_of h1) h3
    rw [List.append_nil] at this
    exact this
  | _ => cases h2
theorem le0 : ∀ s, fenceModules? pw s = some s := fun s => by rfl
theorem op0 : opening pw = plainProg pw.main.scope.names := by rfl
theorem sz0 (w : World) : ((boot_heap w.params).isNs mainGlobals && (Array.mk [] : Array GenState).size == 0, (boot_heap w.params).objs.size, (boot_heap w.params).nsMap mainGlobals "__annotations__") = (true, 11, ann0) := by kernel_rfl
theorem left : LeftO pw qv lo Xt0 hook.obs hook.val 7000 := left_of (boot_open op0 rfl le0) sz0 (K := 12 + (1 + (6000 + 2))) rfl runs
end Mine.Head
end
section
open PySem PySem.W PySem.W.X PyProof.Rows
set_option maxRecDepth 100000
set_option maxHeartbeats 0
namespace Mine.Head
theorem said : OpenLaw.wellSaid Challenge.rw_oj0064_01 = true := by
  rw [Fast.te9446332074065402090]
  kernel_rfl
theorem fits : (chainsOk qv && opensWell Challenge.rw_oj0064_01.row.prog && (frees Challenge.rw_oj0064_01.row.toRowW && Challenge.rw_oj0064_01.row.within.isEmpty)) = true := by kernel_rfl
theorem hd {d : DefRec} {kwd : List (Str × Expr)} (hdef : defOf qv Challenge.rw_oj0064_01.row.name = some (d, kwd)) (hp : Challenge.rw_oj0064_01.row.prog.theDef Challenge.rw_oj0064_01.row.name = some (d.params, d.body, d.scope)) (hk : kwWritten? d.params.kwonlyargs d.params.kw_defaults = some kwd)
    (hw : Challenge.rw_oj0064_01.row.promised) (call : WalkO qv lo (XL qv []) hook.says Challenge.rw_oj0064_01.row.toRowW d kwd fun f vs => PySem.call f vs) : Challenge.rw_oj0064_01.Holds :=
  holds_law said fun sd => W.holds_open left hook.of hook.keeps (fun s e => xl_of s (Bool.and_eq_true_iff.mp e).1) XL.keeps hdef hp hk (fun s e => recFacts_of (Bool.and_eq_true_iff.mp e).2) rfl sd fits ⟨rfl, rfl, rfl, rfl, rfl, by decide +kernel⟩ hw call
end Mine.Head
end
section
open PySem PySem.W PySem.Calls PyProof.Rows
set_option maxRecDepth 100000
set_option autoImplicit false
namespace Mine

inductive AV where
  | none
  | bool (b : Bool)
  | int (i : Int)
  | str (s : Str)
  | tup (xs : List AV)
  | ref (a : Addr)
  | typ (n : String)
  | bi (id : String)

noncomputable abbrev tupObj (vs : List Value) (n : Nat) : Obj := { cls := .type "tuple", data := .seq vs.toArray n }
noncomputable abbrev lstObj (vs : List Value) (n : Nat) : Obj := { cls := .type "list", data := .seq vs.toArray n }

mutual
inductive VR (h : Heap) : Value → AV → Prop
  | none : VR h .none .none
  | bool (b : Bool) : VR h (.bool b) (.bool b)
  | int (i : Int) (t : Tok) : VR h (.int i t) (.int i)
  | str (s : Str) (t : Tok) : VR h (.str s t) (.str s)
  | ref (a : Addr) : VR h (.ref a) (.ref a)
  | typ (n : String) : VR h (.type n) (.typ n)
  | bi (i : String) : VR h (.builtin i) (.bi i)
  | tup {a : Addr} {vs : List Value} {n : Nat} {xs : List AV} : h.get? a = some (tupObj vs n) → VRs h vs xs → VR h (.ref a) (.tup xs)
inductive VRs (h : Heap) : List Value → List AV → Prop
  | nil : VRs h [] []
  | cons {v : Value} {x : AV} {vs : List Value} {xs : List AV} : VR h v x → VRs h vs xs → VRs h (v :: vs) (x :: xs)
end

noncomputable def TL (h h' : Heap) : Prop := ∀ a vs n, h.get? a = some (tupObj vs n) → h'.get? a = some (tupObj vs n)
theorem TL.refl (h : Heap) : TL h h := fun _ _ _ e => e
theorem TL.trans {h h' h'' : Heap} (x : TL h h') (y : TL h' h'') : TL h h'' := fun a vs n e => y a vs n (x a vs n e)
theorem TL.of {h h' : Heap} (k : ∀ a o, h.get? a = some o → h'.get? a = some o) : TL h h' := fun a _ _ e => k a _ e

theorem VR.mono {h h' : Heap} (T : TL h h') {v : Value} {x : AV} (V : VR h v x) : VR h' v x :=
  VR.rec (motive_1 := fun v x _ => VR h' v x) (motive_2 := fun vs xs _ => VRs h' vs xs) .none .bool .int .str .ref .typ .bi (fun e _ r => .tup (T _ _ _ e) r) .nil (fun _ _ v r => .cons v r) V
theorem VRs.mono {h h' : Heap} (T : TL h h') : ∀ {vs : List Value} {xs : List AV}, VRs h vs xs → VRs h' vs xs := by
  intro vs xs V
  induction vs generalizing xs with
  | nil => cases V; exact .nil
  | cons v vs ih =>
    cases V with
    | cons V r => exact .cons (V.mono T) (ih r)

inductive DRs (P : Params) (h : Heap) : List DictEntry → List (Str × AV) → Prop
  | nil : DRs P h [] []
  | cons {k : Str} {t : Tok} {v : Value} {x : AV} {ds : List DictEntry} {es : List (Str × AV)} : VR h v x → DRs P h ds es → DRs P h (⟨PyData.keyHash P k, .str k t, v⟩ :: ds) ((k, x) :: es)
theorem DRs.mono {P : Params} {h h' : Heap} (T : TL h h') : ∀ {ds : List DictEntry} {es : List (Str × AV)}, DRs P h ds es → DRs P h' ds es := by
  intro ds es h
  induction h with
  | nil => exact .nil
  | cons v _ ih => exact .cons (v.mono T) ih

inductive VKs (h : Heap) : List (Str × Value) → List (Str × AV) → Prop
  | nil : VKs h [] []
  | cons {k : Str} {v : Value} {x : AV} {ds : List (Str × Value)} {es : List (Str × AV)} : VR h v x → VKs h ds es → VKs h ((k, v) :: ds) ((k, x) :: es)
theorem VKs.mono {h h' : Heap} (T : TL h h') : ∀ {ds : List (Str × Value)} {es : List (Str × AV)}, VKs h ds es → VKs h' ds es := by
  intro ds es h
  induction h with
  | nil => exact .nil
  | cons v _ ih => exact .cons (v.mono T) ih
theorem dictAt_same {P : Program} {w : World} {h h' : Heap} {a : Addr} {kvs : List (Str × Value)} {ep : Nat} (x : h.DictAt (strKind P w) a kvs ep) (e : ∀ o, h.get? a = some o → h'.get? a = some o) : h'.DictAt (strKind P w) a kvs ep :=
  let ⟨o, es, ho, r⟩ := x; ⟨o, es, e _ ho, r⟩
theorem dictOf_same {P : Program} {w : World} {h h' : Heap} {a : Addr} {kvs : List (Str × Value)} (x : h.DictOf (strKind P w) a kvs) (e : ∀ o, h.get? a = some o → h'.get? a = some o) : h'.DictOf (strKind P w) a kvs :=
  let ⟨o, es, ep, ho, r⟩ := x; ⟨o, es, ep, e _ ho, r⟩
inductive At (x : Str) (av : AV) : List Str → List (Option AV) → Prop
  | head {ns os} : At x av (x :: ns) (some av :: os)
  | tail {n o ns os} : At x av ns os → At x av (n :: ns) (o :: os)
inductive PutAt (x : Str) (ov : Option AV) : List Str → List (Option AV) → List (Option AV) → Prop
  | head {ns o os} : PutAt x ov (x :: ns) (o :: os) (ov :: os)
  | tail {n o ns os os'} : PutAt x ov ns os os' → PutAt x ov (n :: ns) (o :: os) (o :: os')
inductive HasN (x : Str) : List Str → Prop
  | head {ns} : HasN x (x :: ns)
  | tail {n ns} : HasN x ns → HasN x (n :: ns)
theorem HasN.mem {x : Str} : ∀ {ns}, HasN x ns → x ∈ ns := by
  intro ns h
  induction h with
  | head => exact .head _
  | tail _ ih => exact .tail _ ih
theorem At.mem {x : Str} {av : AV} : ∀ {ns os}, At x av ns os → x ∈ ns := by
  intro ns os h
  induction h with
  | head => exact .head _
  | tail _ ih => exact .tail _ ih
theorem PutAt.mem {x : Str} {ov : Option AV} : ∀ {ns os os'}, PutAt x ov ns os os' → x ∈ ns := by
  intro ns os os' h
  induction h with
  | head => exact .head _
  | tail _ ih => exact .tail _ ih
theorem PutAt.at {x y : Str} {ov : Option AV} {aw : AV} {ns os os'} (p : PutAt x ov ns os os') : ns.Nodup → At y aw ns os' → (y = x ∧ ov = some aw) ∨ (y ≠ x ∧ At y aw ns os) := by
  induction p with
  | head =>
    intro nd a
    cases a with
    | head => exact .inl ⟨rfl, rfl⟩
    | tail r => exact .inr ⟨fun q => (List.nodup_cons.mp nd).1 (q ▸ r.mem), .tail r⟩
  | tail p ih =>
    intro nd a
    cases a with
    | head => exact .inr ⟨fun q => (List.nodup_cons.mp nd).1 (q ▸ p.mem), .head⟩
    | tail r => exact (ih (List.nodup_cons.mp nd).2 r).imp id fun q => ⟨q.1, .tail q.2⟩

noncomputable def LocR (h : Heap) (m : Str → Option Value) (ns : List Str) (loc : List (Option AV)) : Prop := ∀ x av, At x av ns loc → ∃ v, m x = some v ∧ VR h v av
theorem LocR.mono {h h' : Heap} {m : Str → Option Value} {ns} {loc} (x : LocR h m ns loc) (T : TL h h') : LocR h' m ns loc := fun n av e => let ⟨v, a, b⟩ := x n av e; ⟨v, a, b.mono T⟩
theorem LocR.put {h : Heap} {m : Str → Option Value} {ns} {loc loc'} {x : Str} {v : Value} {av : AV} (nd : ns.Nodup) (r : LocR h m ns loc) (p : PutAt x (some av) ns loc loc') (hv : VR h v av) : LocR h (fun y => if y = x then some v else m y) ns loc' := by
  intro y w e
  rcases p.at nd e with ⟨q, e'⟩ | ⟨q, e'⟩
  · cases e'; exact ⟨v, by simp [q], hv⟩
  · obtain ⟨v', a, b⟩ := r y w e'
    exact ⟨v', by simp only [q, if_false]; exact a, b⟩
theorem LocR.unput {h : Heap} {m : Str → Option Value} {ns} {loc loc'} {x : Str} {ov : Option Value} (nd : ns.Nodup) (r : LocR h m ns loc) (p : PutAt x none ns loc loc') : LocR h (fun y => if y = x then ov else m y) ns loc' := by
  intro y w e
  rcases p.at nd e with ⟨q, e'⟩ | ⟨q, e'⟩
  · cases e'
  · obtain ⟨v', a, b⟩ := r y w e'
    exact ⟨v', by simp only [q, if_false]; exact a, b⟩
noncomputable def LocE (h : Heap) (m : Str → Option Value) (es : List (Str × AV)) : Prop := (∀ x av, es.lookup x = some av → ∃ v, m x = some v ∧ VR h v av) ∧ ∀ x, es.lookup x = none → m x = none

inductive AObj where
  | list (xs : List AV)
  | dict (es : List (Str × AV))
  | inst (C d : Addr) (es : List (Str × AV))
  | exc (C : Addr) (d : Option Addr) (b : Bool) (es : List (Str × AV))
  | raw (P : Obj → Prop)
  | fdict (es : List (Str × AV)) (ep : Nat)
  | cell (v : Option Addr)
noncomputable def rawOk (o : Obj) : Prop := o.cls ≠ .type "tuple" ∧ o.cls ≠ .type "traceback"
noncomputable def AObj.foot (a : Addr) : AObj → List Addr
  | .list _ => [a]
  | .dict _ => [a]
  | .inst _ d _ => [a, d]
  | .exc _ d _ _ => a :: d.toList
  | .raw _ => [a]
  | .fdict _ _ => [a]
  | .cell _ => [a]
noncomputable abbrev AH := List (Addr × AObj)
noncomputable def feet (H : AH) : List Addr := H.flatMap fun p => p.2.foot p.1

structure Cx where
  P : Program
  w : World
  B : Heap
  Kp : List (Addr × Obj)
noncomputable def arnd (A : Around) (hd : Option Addr) : Around := { A with handled := hd.map Value.ref }
noncomputable def Cx.new (C : Cx) (x : Addr) : Prop := C.B.get? x = none ∧ ∀ p ∈ C.Kp, p.1 ≠ x

noncomputable def TB (C : Cx) (h : Heap) (v : Value) : Prop := v = .none ∨ ∃ T oT ts, v = .ref T ∧ h.get? T = some oT ∧ oT.cls = .type "traceback" ∧ oT.data = .fields ts ∧ 3 < ts.size ∧ C.new T

noncomputable def OD (C : Cx) (h : Heap) (es : List (Str × AV)) : Option Addr → Prop
  | none => es = []
  | some d => ∃ ds n, h.get? d = some (dictOf ds n) ∧ DRs C.w.params h ds es
noncomputable def OR (C : Cx) (h : Heap) (a : Addr) : AObj → Prop
  | .list xs => ∃ vs n, h.get? a = some (lstObj vs n) ∧ VRs h vs xs
  | .dict es => ∃ kvs, h.DictOf (strKind C.P C.w) a kvs ∧ VKs h kvs es
  | .inst cl d es => ∃ ds n, h.get? a = some (instObj cl d) ∧ h.get? d = some (dictOf ds n) ∧ DRs C.w.params h ds es
  | .exc cl d b es => ∃ vs sl, h.get? a = some ⟨.ref cl, d, .fields vs, sl⟩ ∧ (∃ t, vs[1]? = some t ∧ TB C h t ∧ (b = true → t ≠ .none)) ∧ OD C h es d
  | .raw P => ∃ o, h.get? a = some o ∧ rawOk o ∧ P o
  | .fdict es ep => ∃ kvs, h.DictAt (strKind C.P C.w) a kvs ep ∧ VKs h kvs es
  | .cell v => ∃ o, h.get? a = some o ∧ o.data = .cell (v.map Value.ref)

noncomputable abbrev Frs := List (Env × (Str → Option Value))

noncomputable def own (l : List Env) : List Env := l.filter fun e => e.frame == some e.locals
theorem own_cons {e : Env} {l : List Env} (h : e.frame = some e.locals) : own (e :: l) = e :: own l := by
  unfold own
  rw [List.filter_cons, if_pos (by rw [h]; exact beq_self_eq_true _)]
noncomputable def FrOk : List Env → Prop
  | [] => True
  | e :: r => (∃ e1 outer, own (e :: r) = e1 :: outer ∧ e.frame = some e1.locals) ∧ FrOk r

structure Inv0 (C : Cx) (fr : Frs) (H : AH) (h : Heap) : Prop where
  base : ∀ a o, C.B.get? a = some o → h.get? a = some o
  kp : ∀ p ∈ C.Kp, h.get? p.1 = some p.2
  frames : ∀ p ∈ fr, p.1.scope.kind = .function ∧ True ∧ h.Ns p.1.locals p.2
  obj : ∀ p ∈ H, OR C h p.1 p.2
  newH : ∀ x ∈ feet H, C.new x ∧ ∀ p ∈ fr, p.1.locals ≠ x
  newF : ∀ p ∈ fr, C.new p.1.locals
  nodup : (fr.map (·.1.locals)).Nodup
  feet : (feet H).Nodup
  frok : FrOk (fr.map (·.1))
theorem mem_feet {H : AH} {p : Addr × AObj} (hp : p ∈ H) {x : Addr} (hx : x ∈ p.2.foot p.1) : x ∈ feet H := List.mem_flatMap.mpr ⟨p, hp, hx⟩
theorem feet_perm {H H' : AH} (p : H.Perm H') : (feet H).Perm (feet H') := p.flatMap_right _

theorem TB.mono {C : Cx} {h h' : Heap} (k : ∀ a o, h.get? a = some o → h'.get? a = some o) {v : Value} (x : TB C h v) : TB C h' v := by
  rcases x with rfl | ⟨T, oT, ts, rfl, e, r⟩
  · exact .inl rfl
  · exact .inr ⟨T, oT, ts, rfl, k _ _ e, r⟩
theorem OD.mono {C : Cx} {h h' : Heap} {es : List (Str × AV)} (T : TL h h') : ∀ {d : Option Addr}, OD C h es d → (∀ a o, d = some a → h.get? a = some o → h'.get? a = some o) → OD C h' es d
  | none, x, _ => x
  | some _, ⟨ds, n, e, r⟩, k => ⟨ds, n, k _ _ rfl e, r.mono T⟩
theorem OR.mono {C : Cx} {h h' : Heap} {a : Addr} (k : ∀ a o, h.get? a = some o → h'.get? a = some o) : ∀ {o : AObj}, OR C h a o → OR C h' a o
  | .list _, ⟨vs, n, e, r⟩ => ⟨vs, n, k _ _ e, r.mono (.of k)⟩
  | .dict _, ⟨kvs, e, r⟩ => ⟨kvs, dictOf_same e (k _), r.mono (.of k)⟩
  | .inst .., ⟨ds, n, e, e', r⟩ => ⟨ds, n, k _ _ e, k _ _ e', r.mono (.of k)⟩
  | .exc .., ⟨vs, sl, e, ⟨t, et, tb, ne⟩, r⟩ => ⟨vs, sl, k _ _ e, ⟨t, et, tb.mono k, ne⟩, r.mono (.of k) fun _ o _ e => k _ o e⟩
  | .raw _, ⟨o, e, r⟩ => ⟨o, k _ _ e, r⟩
  | .fdict .., ⟨kvs, e, r⟩ => ⟨kvs, dictAt_same e (k _), r.mono (.of k)⟩
  | .cell _, ⟨o, e, r⟩ => ⟨o, k _ _ e, r⟩
theorem OR.there {C : Cx} {h : Heap} {a : Addr} {o : AObj} (x : OR C h a o) : ∀ y ∈ o.foot a, ∃ ob, h.get? y = some ob := by
  cases o with
  | list xs => obtain ⟨vs, n, e, _⟩ := x; intro y hy; simp [AObj.foot] at hy; subst hy; exact ⟨_, e⟩
  | dict xs => obtain ⟨kvs, ⟨o, _, _, e, _⟩, _⟩ := x; intro y hy; simp [AObj.foot] at hy; subst hy; exact ⟨_, e⟩
  | inst c d es => obtain ⟨ds, n, e, e', _⟩ := x; intro y hy; simp [AObj.foot] at hy; rcases hy with rfl | rfl <;> exact ⟨_, by assumption⟩
  | exc c d b es =>
    obtain ⟨vs, sl, e, _, r⟩ := x
    intro y hy
    cases d with
    | none => simp [AObj.foot] at hy; subst hy; exact ⟨_, e⟩
    | some d =>
      obtain ⟨ds, n, e', _⟩ := r
      simp [AObj.foot] at hy; rcases hy with rfl | rfl <;> exact ⟨_, by assumption⟩
  | raw o' => obtain ⟨o, e, _⟩ := x; intro y hy; simp [AObj.foot] at hy; subst hy; exact ⟨_, e⟩
  | fdict xs ep => obtain ⟨kvs, ⟨o, _, e, _⟩, _⟩ := x; intro y hy; simp [AObj.foot] at hy; subst hy; exact ⟨_, e⟩
  | cell v => obtain ⟨o, e, _⟩ := x; intro y hy; simp [AObj.foot] at hy; subst hy; exact ⟨_, e⟩

theorem Inv0.mono {C : Cx} {fr : Frs} {H : AH} {h h' : Heap} (I : Inv0 C fr H h) (k : ∀ a o, h.get? a = some o → h'.get? a = some o) : Inv0 C fr H h' where
  base a o e := k _ _ (I.base a o e)
  kp p hp := k _ _ (I.kp p hp)
  frames p hp := ⟨(I.frames p hp).1, (I.frames p hp).2.1, (I.frames p hp).2.2.keeps k⟩
  obj p hp := (I.obj p hp).mono k
  newH := I.newH
  newF := I.newF
  nodup := I.nodup
  feet := I.feet
  frok := I.frok
theorem Inv0.perm {C : Cx} {fr : Frs} {H H' : AH} {h : Heap} (I : Inv0 C fr H h) (p : H.Perm H') : Inv0 C fr H' h where
  base := I.base
  kp := I.kp
  frames := I.frames
  obj q hq := I.obj q (p.mem_iff.mpr hq)
  newH x hx := I.newH x ((feet_perm p).mem_iff.mpr hx)
  newF := I.newF
  nodup := I.nodup
  feet := (feet_perm p).nodup_iff.mp I.feet
  frok := I.frok
theorem Inv0.dropHead {C : Cx} {fr : Frs} {p : Addr × AObj} {H : AH} {h : Heap} (I : Inv0 C fr (p :: H) h) : Inv0 C fr H h where
  base := I.base
  kp := I.kp
  frames := I.frames
  obj q hq := I.obj q (.tail _ hq)
  newH x hx := I.newH x (List.mem_append_right _ hx)
  newF := I.newF
  nodup := I.nodup
  feet := (List.nodup_append.mp I.feet).2.1
  frok := I.frok

inductive InH (a : Addr) (o : AObj) : AH → Prop
  | head {H} : InH a o ((a, o) :: H)
  | tail {p H} : InH a o H → InH a o (p :: H)
theorem InH.mem {a : Addr} {o : AObj} : ∀ {H}, InH a o H → (a, o) ∈ H := by
  intro H h
  induction h with
  | head => exact .head _
  | tail _ ih => exact .tail _ ih
inductive Sel (a : Addr) (o : AObj) : AH → AH → Prop
  | head {H} : Sel a o ((a, o) :: H) H
  | tail {p H R} : Sel a o H R → Sel a o (p :: H) (p :: R)
theorem Sel.perm {a : Addr} {o : AObj} : ∀ {H R}, Sel a o H R → H.Perm ((a, o) :: R) := by
  intro H R h
  induction h with
  | head => exact .refl _
  | tail _ ih => exact (ih.cons _).trans (.swap ..)
theorem Sel.inH {a : Addr} {o : AObj} : ∀ {H R}, Sel a o H R → InH a o H := by
  intro H R h
  induction h with
  | head => exact .head
  | tail _ ih => exact .tail ih
inductive SetH (a : Addr) (o o' : AObj) : AH → AH → Prop
  | head {H} : SetH a o o' ((a, o) :: H) ((a, o') :: H)
  | tail {p H H'} : SetH a o o' H H' → SetH a o o' (p :: H) (p :: H')
theorem SetH.sel {a : Addr} {o o' : AObj} : ∀ {H H'}, SetH a o o' H H' → ∃ R, Sel a o H R ∧ Sel a o' H' R := by
  intro H H' h
  induction h with
  | head => exact ⟨_, .head, .head⟩
  | tail _ ih => exact let ⟨_, x, y⟩ := ih; ⟨_, .tail x, .tail y⟩

theorem SetH.inH {a : Addr} {o o' : AObj} : ∀ {H H'}, SetH a o o' H H' → InH a o H := by
  intro H H' h
  induction h with
  | head => exact .head
  | tail _ ih => exact .tail ih
theorem Inv0.size_new {C : Cx} {fr : Frs} {H : AH} {h : Heap} (I : Inv0 C fr H h) {x : Addr} (hx : h.get? x = none) : C.new x ∧ (∀ p ∈ fr, p.1.locals ≠ x) ∧ x ∉ Mine.feet H := by
  have nh : ∀ o, h.get? x ≠ some o := fun o e => by rw [hx] at e; cases e
  refine ⟨⟨?_, fun p hp e => nh _ (e ▸ I.kp p hp)⟩, fun p hp e => ?_, fun m => ?_⟩
  · cases q : C.B.get? x with
    | none => rfl
    | some o => exact absurd (I.base _ _ q) (nh o)
  · obtain ⟨o, _, _, ho, _⟩ := (I.frames p hp).2.2
    exact nh o (e ▸ ho)
  · obtain ⟨p, hp, hx⟩ := List.mem_flatMap.mp m
    obtain ⟨ob, e'⟩ := (I.obj p hp).there x hx
    exact nh _ e'

theorem Inv0.take {C : Cx} {fr : Frs} {H : AH} {h h' : Heap} {a : Addr} {o : AObj} (I : Inv0 C fr H h) (k : ∀ a o, h.get? a = some o → h'.get? a = some o)
    (hn : ∀ x ∈ o.foot a, h.get? x = none) (hs : (o.foot a).Nodup) (ho : OR C h' a o) : Inv0 C fr ((a, o) :: H) h' where
  base := (I.mono k).base
  kp := (I.mono k).kp
  frames := (I.mono k).frames
  obj p hp := by
    rcases List.mem_cons.mp hp with rfl | hp
    · exact ho
    · exact (I.mono k).obj p hp
  newH x hx := by
    rcases List.mem_append.mp hx with hx | hx
    · exact ⟨(I.size_new (hn x hx)).1, (I.size_new (hn x hx)).2.1⟩
    · exact I.newH x hx
  newF := I.newF
  nodup := I.nodup
  feet := List.nodup_append.mpr ⟨hs, I.feet, fun x hx y hy q => (I.size_new (hn x hx)).2.2 (q ▸ hy)⟩
  frok := I.frok

theorem TB.turn {C : Cx} {h h' : Heap} {x : Addr} (hs : Heap.SameBut x h h') (hx : ∀ oT ts, h.get? x = some oT → oT.cls = .type "traceback" → oT.data = .fields ts → False) {v : Value} (t : TB C h v) : TB C h' v := by
  rcases t with rfl | ⟨T, oT, ts, rfl, e, c, d, r⟩
  · exact .inl rfl
  · refine .inr ⟨T, oT, ts, rfl, (hs.2 T fun q => ?_).trans e, c, d, r⟩
    subst q; exact hx _ _ e c d
theorem TL.turn {h h' : Heap} {x : Addr} (hs : Heap.SameBut x h h') (hx : ∀ vs n, h.get? x ≠ some (tupObj vs n)) : TL h h' := fun a vs n e => by
  refine (hs.2 a fun q => ?_).trans e
  subst q; exact hx _ _ e
theorem OR.turn {C : Cx} {h h' : Heap} {x a : Addr} (hs : Heap.SameBut x h h') (ht : ∀ vs n, h.get? x ≠ some (tupObj vs n)) (hx : ∀ oT ts, h.get? x = some oT → oT.cls = .type "traceback" → oT.data = .fields ts → False) :
    ∀ {o : AObj}, x ∉ o.foot a → OR C h a o → OR C h' a o
  | .list _, n, ⟨vs, m, e, r⟩ => ⟨vs, m, (hs.2 _ fun q => n (by simp [AObj.foot, q])).trans e, r.mono (.turn hs ht)⟩
  | .dict _, n, ⟨kvs, e, r⟩ => ⟨kvs, dictOf_same e fun o e => (hs.2 _ fun q => n (by simp [AObj.foot, q])).trans e, r.mono (.turn hs ht)⟩
  | .inst .., n, ⟨ds, m, e, e', r⟩ => ⟨ds, m, (hs.2 _ fun q => n (by simp [AObj.foot, q])).trans e, (hs.2 _ fun q => n (by simp [AObj.foot, q])).trans e', r.mono (.turn hs ht)⟩
  | .exc .., n, ⟨vs, sl, e, ⟨t, et, tb, ne⟩, r⟩ => ⟨vs, sl, (hs.2 _ fun q => n (by simp [AObj.foot, q])).trans e, ⟨t, et, tb.turn hs hx, ne⟩, r.mono (.turn hs ht) fun a o q e => (hs.2 _ fun z => n (by simp [AObj.foot, q, z])).trans e⟩
  | .raw _, n, ⟨o, e, r⟩ => ⟨o, (hs.2 _ fun q => n (by simp [AObj.foot, q])).trans e, r⟩
  | .fdict .., n, ⟨kvs, e, r⟩ => ⟨kvs, dictAt_same e fun o e => (hs.2 _ fun q => n (by simp [AObj.foot, q])).trans e, r.mono (.turn hs ht)⟩
  | .cell _, n, ⟨o, e, r⟩ => ⟨o, (hs.2 _ fun q => n (by simp [AObj.foot, q])).trans e, r⟩

theorem Inv0.turnG {C : Cx} {fr : Frs} {R : AH} {h h' : Heap} {a x : Addr} {o o' : AObj} (I : Inv0 C fr ((a, o) :: R) h) (hx : x ∈ o.foot a) (hf : ∀ y ∈ o'.foot a, y ∈ o.foot a ∨ (C.new y ∧ (∀ p ∈ fr, p.1.locals ≠ y) ∧ y ∉ Mine.feet R)) (hn : (o'.foot a).Nodup) (hs : Heap.SameBut x h h')
    (ht : ∀ vs n, h.get? x ≠ some (tupObj vs n)) (hT : ∀ oT ts, h.get? x = some oT → oT.cls = .type "traceback" → oT.data = .fields ts → False) (ho : OR C h' a o') : Inv0 C fr ((a, o') :: R) h' := by
  have nw := I.newH x (List.mem_append_left _ hx)
  have nd := List.nodup_append.mp I.feet
  refine ⟨fun b ob eb => ?_, fun p hp => ?_, fun p hp => ?_, fun p hp => ?_, fun y hy => ?_, I.newF, I.nodup, List.nodup_append.mpr ⟨hn, nd.2.1, fun y hy z hz q => ?_⟩, I.frok⟩
  · refine (hs.2 b fun q => ?_).trans (I.base b ob eb)
    subst q; rw [nw.1.1] at eb; cases eb
  · exact (hs.2 _ (nw.1.2 p hp)).trans (I.kp p hp)
  · exact ⟨(I.frames p hp).1, (I.frames p hp).2.1, (I.frames p hp).2.2.sameBut hs (nw.2 p hp)⟩
  · rcases List.mem_cons.mp hp with rfl | hp
    · exact ho
    · refine (I.obj p (.tail _ hp)).turn hs ht hT fun m => ?_
      exact nd.2.2 x hx x (mem_feet hp m) rfl
  · rcases List.mem_append.mp hy with hy | hy
    · rcases hf y hy with q | q
      · exact I.newH y (List.mem_append_left _ q)
      · exact ⟨q.1, q.2.1⟩
    · exact I.newH y (List.mem_append_right _ hy)
  · rcases hf y hy with w | w
    · exact nd.2.2 y w z hz q
    · exact w.2.2 (q ▸ hz)
theorem Inv0.turn {C : Cx} {fr : Frs} {R : AH} {h h' : Heap} {a x : Addr} {o o' : AObj} (I : Inv0 C fr ((a, o) :: R) h) (hx : x ∈ o.foot a) (hf : o'.foot a = o.foot a) (hs : Heap.SameBut x h h')
    (ht : ∀ vs n, h.get? x ≠ some (tupObj vs n)) (hT : ∀ oT ts, h.get? x = some oT → oT.cls = .type "traceback" → oT.data = .fields ts → False) (ho : OR C h' a o') : Inv0 C fr ((a, o') :: R) h' :=
  I.turnG hx (fun y hy => .inl (hf ▸ hy)) (hf ▸ (List.nodup_append.mp I.feet).1) hs ht hT ho
theorem Inv0.turnH {C : Cx} {fr : Frs} {H H' : AH} {h h' : Heap} {a x : Addr} {o o' : AObj} (I : Inv0 C fr H h) (e : SetH a o o' H H') (hx : x ∈ o.foot a) (hf : o'.foot a = o.foot a) (hs : Heap.SameBut x h h')
    (ht : ∀ vs n, h.get? x ≠ some (tupObj vs n)) (hT : ∀ oT ts, h.get? x = some oT → oT.cls = .type "traceback" → oT.data = .fields ts → False) (ho : OR C h' a o') : Inv0 C fr H' h' := by
  obtain ⟨R, s, s'⟩ := e.sel
  exact ((I.perm s.perm).turn hx hf hs ht hT ho).perm s'.perm.symm

theorem Inv0.change {C : Cx} {fr : Frs} {R E E' : AH} {h h' : Heap} (I : Inv0 C fr (E ++ R) h) (hE : ∀ p ∈ E, ∃ P, p.2 = .raw P) (hs : ∀ b o, b ∉ Mine.feet E → h.get? b = some o → h'.get? b = some o) (hf : ∀ x ∈ Mine.feet E', x ∈ Mine.feet E) (hn : (Mine.feet E').Nodup)
    (ho : ∀ p ∈ E', OR C h' p.1 p.2) : Inv0 C fr (E' ++ R) h' ∧ TL h h' := by
  have fa : Mine.feet (E ++ R) = Mine.feet E ++ Mine.feet R := List.flatMap_append
  have fa' : Mine.feet (E' ++ R) = Mine.feet E' ++ Mine.feet R := List.flatMap_append
  have nd := List.nodup_append.mp (fa ▸ I.feet)
  have nw : ∀ a ∈ Mine.feet E, C.new a ∧ ∀ p ∈ fr, p.1.locals ≠ a := fun a ha => I.newH a (fa ▸ List.mem_append_left _ ha)
  have at_ : ∀ a ∈ Mine.feet E, ∃ o, h.get? a = some o ∧ rawOk o := fun a ha => by
    obtain ⟨p, hp, hx⟩ := List.mem_flatMap.mp ha
    obtain ⟨P, e⟩ := hE p hp
    obtain ⟨b, ob⟩ := p
    dsimp only at e hx
    subst e
    obtain ⟨o, ho, hr, _⟩ := I.obj (b, .raw P) (List.mem_append_left _ hp)
    simp [AObj.foot] at hx
    subst hx
    exact ⟨o, ho, hr⟩
  have tu : ∀ b vs n, h.get? b = some (tupObj vs n) → b ∉ Mine.feet E := fun b vs n e q => by
    obtain ⟨o, ho, hr⟩ := at_ b q; rw [ho] at e; cases e; exact hr.1 rfl
  have tr : ∀ b oT ts, h.get? b = some oT → oT.cls = .type "traceback" → oT.data = .fields ts → b ∉ Mine.feet E := fun b oT ts e c _ q => by
    obtain ⟨o, ho, hr⟩ := at_ b q; rw [ho] at e; cases e; exact hr.2 c
  have T : TL h h' := fun b vs n e => hs b _ (tu b vs n e) e
  have TBk : ∀ v, TB C h v → TB C h' v := fun v t => by
    rcases t with rfl | ⟨U, oT, ts, rfl, e, c, d, r⟩
    · exact .inl rfl
    · exact .inr ⟨U, oT, ts, rfl, hs _ _ (tr _ _ _ e c d) e, c, d, r⟩
  refine ⟨⟨fun b ob eb => ?_, fun p hp => ?_, fun p hp => ?_, fun p hp => ?_, fun y hy => ?_, I.newF, I.nodup, ?_, I.frok⟩, T⟩
  · refine hs _ _ (fun q => ?_) (I.base b ob eb)
    rw [(nw b q).1.1] at eb; cases eb
  · exact hs _ _ (fun q => (nw _ q).1.2 p hp rfl) (I.kp p hp)
  · obtain ⟨e1, e2, ob, es, ep, e3, r⟩ := I.frames p hp
    exact ⟨e1, e2, ob, es, ep, hs _ _ (fun q => (nw _ q).2 p hp rfl) e3, r⟩
  · rcases List.mem_append.mp hp with hp | hp
    · exact ho p hp
    have ne : ∀ y ∈ p.2.foot p.1, y ∉ Mine.feet E := fun y hy q => nd.2.2 y q y (mem_feet hp hy) rfl
    have z := I.obj p (List.mem_append_right _ hp)
    obtain ⟨b, ob⟩ := p
    dsimp only at ne z ⊢
    cases ob with
    | list xs => obtain ⟨vs, n, e, r⟩ := z; exact ⟨vs, n, hs _ _ (ne _ (.head _)) e, r.mono T⟩
    | dict es => obtain ⟨kvs, e, r⟩ := z; exact ⟨kvs, dictOf_same e fun o e => hs _ _ (ne _ (.head _)) e, r.mono T⟩
    | inst c d es => obtain ⟨ds, n, e, e', r⟩ := z; exact ⟨ds, n, hs _ _ (ne _ (.head _)) e, hs _ _ (ne _ (.tail _ (.head _))) e', r.mono T⟩
    | exc c d b es => obtain ⟨vs, sl, e, ⟨t, et, tb, nn⟩, r⟩ := z; exact ⟨vs, sl, hs _ _ (ne _ (.head _)) e, ⟨t, et, TBk _ tb, nn⟩, r.mono T fun q o eq e => hs _ _ (ne _ (.tail _ (by rw [eq]; exact .head _))) e⟩
    | raw P' => obtain ⟨o, e, r⟩ := z; exact ⟨o, hs _ _ (ne _ (.head _)) e, r⟩
    | fdict es ep => obtain ⟨kvs, e, r⟩ := z; exact ⟨kvs, dictAt_same e fun o e => hs _ _ (ne _ (.head _)) e, r.mono T⟩
    | cell v => obtain ⟨o, e, r⟩ := z; exact ⟨o, hs _ _ (ne _ (.head _)) e, r⟩
  · rw [fa'] at hy
    rcases List.mem_append.mp hy with hy | hy
    · exact I.newH y (fa ▸ List.mem_append_left _ (hf y hy))
    · exact I.newH y (fa ▸ List.mem_append_right _ hy)
  · rw [fa']
    exact List.nodup_append.mpr ⟨hn, nd.2.1, fun y hy z hz => nd.2.2 y (hf y hy) z hz⟩
theorem Inv0.lose {C : Cx} {fr : Frs} {R : AH} {h h' : Heap} {a : Addr} {P : Obj → Prop} (I : Inv0 C fr ((a, .raw P) :: R) h) (hs : Heap.ExtBut a h h') : Inv0 C fr R h' ∧ TL h h' :=
  Inv0.change (E := [(a, .raw P)]) (E' := []) I (fun p hp => by simp at hp; subst hp; exact ⟨P, rfl⟩) (fun b o hb e => hs b o (fun q => hb (by simp [Mine.feet, AObj.foot, q])) e) (fun x hx => by simp [Mine.feet] at hx) (by simp [Mine.feet]) (fun p hp => by simp at hp)

theorem Inv0.store {C : Cx} {env : Env} {m m' : Str → Option Value} {fr : Frs} {H : AH} {h h' : Heap} (I : Inv0 C ((env, m) :: fr) H h) (hn : h'.Ns env.locals m') (hs : Heap.SameBut env.locals h h') : Inv0 C ((env, m') :: fr) H h' := by
  have F := I.frames _ (.head _)
  obtain ⟨oL, es, ep, hL, hd, _⟩ := F.2.2
  have ht : ∀ vs n, h.get? env.locals ≠ some (tupObj vs n) := fun vs n e => by rw [hL] at e; cases e; cases hd
  have hT : ∀ oT ts, h.get? env.locals = some oT → oT.cls = .type "traceback" → oT.data = .fields ts → False := fun oT ts e _ d => by rw [hL] at e; cases e; rw [hd] at d; cases d
  have nl := I.newF _ (.head _)
  have nd := List.nodup_cons.mp I.nodup
  refine ⟨fun b ob eb => ?_, fun p hp => ?_, fun p hp => ?_, fun p hp => ?_, fun x hx => ⟨(I.newH x hx).1, fun p hp => ?_⟩, fun p hp => ?_, ?_, I.feet, I.frok⟩
  · refine (hs.2 b fun q => ?_).trans (I.base b ob eb)
    subst q; rw [nl.1] at eb; cases eb
  · exact (hs.2 _ (nl.2 p hp)).trans (I.kp p hp)
  · rcases List.mem_cons.mp hp with rfl | hp
    · exact ⟨F.1, F.2.1, hn⟩
    · exact ⟨(I.frames p (.tail _ hp)).1, (I.frames p (.tail _ hp)).2.1, (I.frames p (.tail _ hp)).2.2.sameBut hs fun q => nd.1 (List.mem_map.mpr ⟨p, hp, q⟩)⟩
  · exact (I.obj p hp).turn hs ht hT fun m => (I.newH _ (mem_feet hp m)).2 _ (.head _) rfl
  · rcases List.mem_cons.mp hp with rfl | hp
    · exact (I.newH x hx).2 (env, m) (.head _)
    · exact (I.newH x hx).2 p (.tail _ hp)
  · rcases List.mem_cons.mp hp with rfl | hp
    · exact nl
    · exact I.newF p (.tail _ hp)
  · exact I.nodup

theorem Inv0.enter {C : Cx} {env : Env} {m : Str → Option Value} {fr : Frs} {H : AH} {h h' : Heap} (I : Inv0 C fr H h) (k : ∀ a o, h.get? a = some o → h'.get? a = some o) (hL : h.get? env.locals = none) (hk : env.scope.kind = .function) (hf : ∃ e1 outer, own (env :: fr.map (·.1)) = e1 :: outer ∧ env.frame = some e1.locals)
    (hn : h'.Ns env.locals m) : Inv0 C ((env, m) :: fr) H h' := by
  have J := I.mono k
  have z := I.size_new hL
  refine ⟨J.base, J.kp, fun p hp => ?_, J.obj, fun x hx => ⟨(I.newH x hx).1, fun p hp => ?_⟩, fun p hp => ?_, ?_, I.feet, ⟨hf, I.frok⟩⟩
  · rcases List.mem_cons.mp hp with rfl | hp
    · exact ⟨hk, trivial, hn⟩
    · exact J.frames p hp
  · rcases List.mem_cons.mp hp with rfl | hp
    · intro q
      dsimp only at q
      exact z.2.2 (q ▸ hx)
    · exact (I.newH x hx).2 p hp
  · rcases List.mem_cons.mp hp with rfl | hp
    · exact z.1
    · exact I.newF p hp
  · refine List.nodup_cons.mpr ⟨fun m => ?_, I.nodup⟩
    obtain ⟨p, hp, q⟩ := List.mem_map.mp m
    exact z.2.1 p hp q
theorem Inv0.leave {C : Cx} {env : Env} {m : Str → Option Value} {fr : Frs} {H : AH} {h : Heap} (I : Inv0 C ((env, m) :: fr) H h) : Inv0 C fr H h where
  base := I.base
  kp := I.kp
  frames p hp := I.frames p (.tail _ hp)
  obj := I.obj
  newH x hx := ⟨(I.newH x hx).1, fun p hp => (I.newH x hx).2 p (.tail _ hp)⟩
  newF p hp := I.newF p (.tail _ hp)
  nodup := (List.nodup_cons.mp I.nodup).2
  feet := I.feet
  frok := I.frok.2

end Mine
end
section
open PySem PySem.W PySem.Calls PyProof.Rows
set_option maxRecDepth 100000
set_option autoImplicit false
namespace Mine

structure Gl where
  P : Program
  K : Params → Frag
structure Fn where
  name : Str
  scope : Scope
  fn : Option Addr
  cd : Value
  names : List Str
  globs : List Str
  cells : List (Str × Addr)
  fr : Option Addr
noncomputable def Fn.env (F : Fn) (L : Addr) : Env := { scope := F.scope, locals := L, globals := mainGlobals, cells := F.cells, qual := F.name ++ ".<locals>.", func := F.fn, code := F.cd, frame := some (F.fr.getD L), builtins := builtinsNs }
structure St where
  loc : List (Option AV)
  H : AH

structure Ok (G : Gl) (C : Cx) (A : Around) (envs : List Env) (d : Nat) : Prop where
  P : C.P = G.P
  K : (G.K C.w.params).In C.B
  frames : A.frames = some (own envs)
  depth : A.depth + d ≤ 990
  units : A.units + 20 * d ≤ 9800
  nolimit : C.B.NoLimit
  sm : (C.B.get? sysModules).isSome = true

structure Fn.WF (F : Fn) : Prop where
  nodup : F.names.Nodup
  loc : ∀ x ∈ F.names, F.scope.names.lookup x = some .local ∧ (x == ("__debug__" : Str)) = false
  glob : ∀ x ∈ F.globs, F.scope.names.lookup x = some .globalImplicit ∧ (x == ("__debug__" : Str)) = false
noncomputable def Fn.wf (F : Fn) : Bool := decide F.names.Nodup && F.names.all (fun x => F.scope.names.lookup x == some .local && !(x == ("__debug__" : Str))) && F.globs.all (fun x => F.scope.names.lookup x == some .globalImplicit && !(x == ("__debug__" : Str)))
theorem Fn.WF.of {F : Fn} (e : F.wf = true) : F.WF := by
  unfold Fn.wf at e
  simp only [Bool.and_eq_true, decide_eq_true_eq, List.all_eq_true, beq_iff_eq, Bool.not_eq_true'] at e
  exact ⟨e.1.1, fun x hx => e.1.2 x hx, fun x hx => e.2 x hx⟩
noncomputable def InvF (C : Cx) (F : Fn) (L : Addr) (fr : Frs) (σ : St) (h : Heap) : Prop := ∃ m, Inv0 C ((F.env L, m) :: fr) σ.H h ∧ LocR h m F.names σ.loc ∧ F.WF

noncomputable def SL (s s' : Shared) : Prop := TL s.heap s'.heap ∧ s'.gens = s.gens ∧ s'.os = s.os
theorem SL.refl (s : Shared) : SL s s := ⟨.refl _, rfl, rfl⟩
theorem SL.trans {s s' s'' : Shared} (x : SL s s') (y : SL s' s'') : SL s s'' := ⟨x.1.trans y.1, y.2.1.trans x.2.1, y.2.2.trans x.2.2⟩
theorem SL.toks (s : Shared) (t : Nat) : SL s { s with toks := t } := ⟨.refl _, rfl, rfl⟩

noncomputable def IsX (H : AH) (a : Addr) : Prop := ∃ c d b es, (a, AObj.exc c d b es) ∈ H
inductive PV (C : Cx) (F : Fn) (L : Addr) (fr : Frs) (s₀ : Shared) (k : AV → St → Prop) (v : Value) (s' : Shared) : Prop
  | mk (av : AV) (σ' : St) (i : InvF C F L fr σ' s'.heap) (l : SL s₀ s') (r : VR s'.heap v av) (q : k av σ')
inductive PX (C : Cx) (F : Fn) (L : Addr) (fr : Frs) (s₀ : Shared) (X : Addr → St → Prop) (v : Value) (s' : Shared) : Prop
  | mk (a : Addr) (σ' : St) (e : v = .ref a) (i : InvF C F L fr σ' s'.heap) (l : SL s₀ s') (n : IsX σ'.H a) (x : X a σ')
inductive PB (C : Cx) (F : Fn) (L : Addr) (fr : Frs) (s₀ : Shared) (k : Bool → St → Prop) (b : Bool) (s' : Shared) : Prop
  | mk (σ' : St) (i : InvF C F L fr σ' s'.heap) (l : SL s₀ s') (q : k b σ')
inductive Fl where
  | next
  | ret (av : AV)
noncomputable def Fl.on (kn : St → Prop) (kr : AV → St → Prop) : Fl → St → Prop
  | .next, σ => kn σ
  | .ret v, σ => kr v σ
theorem on_next {kn : St → Prop} {kr : AV → St → Prop} {σ : St} (h : kn σ) : Fl.on kn kr .next σ := h
theorem on_ret {kn : St → Prop} {kr : AV → St → Prop} {v : AV} {σ : St} (h : kr v σ) : Fl.on kn kr (.ret v) σ := h
theorem if_t {c : Bool} {A B : Prop} (e : c = true) (h : A) : if c = true then A else B := by rw [if_pos e]; exact h
theorem if_f {c : Bool} {A B : Prop} (e : c = false) (h : B) : if c = true then A else B := by rw [if_neg (by rw [e]; decide)]; exact h
noncomputable def FlR (h : Heap) : Flow → Fl → Prop
  | .next, .next => True
  | .ret v, .ret av => VR h v av
  | _, _ => False
theorem FlR.mono {h h' : Heap} (T : TL h h') : ∀ {f : Flow} {g : Fl}, FlR h f g → FlR h' f g
  | .next, .next, _ => trivial
  | .ret _, .ret _, x => VR.mono T x
inductive PF (C : Cx) (F : Fn) (L : Addr) (fr : Frs) (s₀ : Shared) (k : Fl → St → Prop) (f : Flow) (s' : Shared) : Prop
  | mk (g : Fl) (σ' : St) (i : InvF C F L fr σ' s'.heap) (l : SL s₀ s') (r : FlR s'.heap f g) (q : k g σ')

section
variable {C : Cx} {F : Fn} {L : Addr} {fr : Frs} {s s₁ s' : Shared}
theorem PV.trans {k : AV → St → Prop} {v : Value} (x : SL s s₁) : PV C F L fr s₁ k v s' → PV C F L fr s k v s' := fun ⟨a, σ, i, l, r, q⟩ => ⟨a, σ, i, x.trans l, r, q⟩
theorem PX.trans {X : Addr → St → Prop} {v : Value} (x : SL s s₁) : PX C F L fr s₁ X v s' → PX C F L fr s X v s' := fun ⟨a, σ, e, i, l, r, q⟩ => ⟨a, σ, e, i, x.trans l, r, q⟩
theorem PB.trans {k : Bool → St → Prop} {v : Bool} (x : SL s s₁) : PB C F L fr s₁ k v s' → PB C F L fr s k v s' := fun ⟨σ, i, l, q⟩ => ⟨σ, i, x.trans l, q⟩
theorem PF.trans {k : Fl → St → Prop} {v : Flow} (x : SL s s₁) : PF C F L fr s₁ k v s' → PF C F L fr s k v s' := fun ⟨a, σ, i, l, r, q⟩ => ⟨a, σ, i, x.trans l, r, q⟩
theorem PV.mono {k k' : AV → St → Prop} {v : Value} (f : ∀ a σ, k a σ → k' a σ) : PV C F L fr s k v s' → PV C F L fr s k' v s' := fun ⟨a, σ, i, l, r, q⟩ => ⟨a, σ, i, l, r, f _ _ q⟩
theorem PX.mono {k k' : Addr → St → Prop} {v : Value} (f : ∀ a σ, k a σ → k' a σ) : PX C F L fr s k v s' → PX C F L fr s k' v s' := fun ⟨a, σ, e, i, l, r, q⟩ => ⟨a, σ, e, i, l, r, f _ _ q⟩
theorem PB.mono {k k' : Bool → St → Prop} {v : Bool} (f : ∀ a σ, k a σ → k' a σ) : PB C F L fr s k v s' → PB C F L fr s k' v s' := fun ⟨σ, i, l, q⟩ => ⟨σ, i, l, f _ _ q⟩
theorem PF.mono {k k' : Fl → St → Prop} {v : Flow} (f : ∀ a σ, k a σ → k' a σ) : PF C F L fr s k v s' → PF C F L fr s k' v s' := fun ⟨a, σ, i, l, r, q⟩ => ⟨a, σ, i, l, r, f _ _ q⟩
end

section
variable (G : Gl) (F : Fn) (d : Nat) (hd : Option Addr)
structure HE (e : Expr) (σ : St) (k : AV → St → Prop) (X : Addr → St → Prop) : Prop where
  run : ∀ C A L fr s, Ok G C A (F.env L :: fr.map (·.1)) d → InvF C F L fr σ s.heap → wpAny (model G.P C.w) (arnd A hd) (eval e (F.env L)) (PV C F L fr s k) (PX C F L fr s X) s
structure HT (e : Expr) (σ : St) (k : Bool → St → Prop) (X : Addr → St → Prop) : Prop where
  run : ∀ C A L fr s, Ok G C A (F.env L :: fr.map (·.1)) d → InvF C F L fr σ s.heap → wpAny (model G.P C.w) (arnd A hd) (isTrue e (F.env L) (eval e (F.env L))) (PB C F L fr s k) (PX C F L fr s X) s
structure HS (st : Stmt) (σ : St) (k : Fl → St → Prop) (X : Addr → St → Prop) : Prop where
  run : ∀ C A L fr s, Ok G C A (F.env L :: fr.map (·.1)) d → InvF C F L fr σ s.heap → wpAny (model G.P C.w) (arnd A hd) (exec st (F.env L)) (PF C F L fr s k) (PX C F L fr s X) s
structure HSs (sts : List Stmt) (σ : St) (k : Fl → St → Prop) (X : Addr → St → Prop) : Prop where
  run : ∀ C A L fr s, Ok G C A (F.env L :: fr.map (·.1)) d → InvF C F L fr σ s.heap → wpAny (model G.P C.w) (arnd A hd) (execs sts (F.env L)) (PF C F L fr s k) (PX C F L fr s X) s
structure HO (t : List Value → Sem Value) (xs : List AV) (σ : St) (k : AV → St → Prop) (X : Addr → St → Prop) : Prop where
  run : ∀ C A L fr s vs, Ok G C A (F.env L :: fr.map (·.1)) d → InvF C F L fr σ s.heap → VRs s.heap vs xs → wpAny (model G.P C.w) (arnd A hd) (t vs) (PV C F L fr s k) (PX C F L fr s X) s
structure HB (t : Value → Sem Bool) (x : AV) (σ : St) (k : Bool → St → Prop) (X : Addr → St → Prop) : Prop where
  run : ∀ C A L fr s v, Ok G C A (F.env L :: fr.map (·.1)) d → InvF C F L fr σ s.heap → VR s.heap v x → wpAny (model G.P C.w) (arnd A hd) (t v) (PB C F L fr s k) (PX C F L fr s X) s
end

section
variable {G : Gl} {F : Fn} {d : Nat} {hd : Option Addr} {X : Addr → St → Prop} {σ : St}

theorem HE.mono {e : Expr} {k k' : AV → St → Prop} {X' : Addr → St → Prop} (h : HE G F d hd e σ k X) (f : ∀ a σ, k a σ → k' a σ) (g : ∀ a σ, X a σ → X' a σ) : HE G F d hd e σ k' X' := ⟨fun C A L fr s ok I => wpAny_mono (h.run C A L fr s ok I) (fun _ _ p => p.mono f) (fun _ _ p => p.mono g)⟩
theorem HSs.mono {e : List Stmt} {k k' : Fl → St → Prop} {X' : Addr → St → Prop} (h : HSs G F d hd e σ k X) (f : ∀ a σ, k a σ → k' a σ) (g : ∀ a σ, X a σ → X' a σ) : HSs G F d hd e σ k' X' := ⟨fun C A L fr s ok I => wpAny_mono (h.run C A L fr s ok I) (fun _ _ p => p.mono f) (fun _ _ p => p.mono g)⟩
theorem HS.mono {e : Stmt} {k k' : Fl → St → Prop} {X' : Addr → St → Prop} (h : HS G F d hd e σ k X) (f : ∀ a σ, k a σ → k' a σ) (g : ∀ a σ, X a σ → X' a σ) : HS G F d hd e σ k' X' := ⟨fun C A L fr s ok I => wpAny_mono (h.run C A L fr s ok I) (fun _ _ p => p.mono f) (fun _ _ p => p.mono g)⟩

theorem e_none {i : Nat} {pos : Pos} {k : AV → St → Prop} (h : k .none σ) : HE G F d hd (.Constant .none i pos) σ k X := ⟨fun _ _ _ _ s _ I => wpAny_Constant_none ⟨_, _, I, .refl s, .none, h⟩⟩
theorem e_bool {b : Bool} {i : Nat} {pos : Pos} {k : AV → St → Prop} (h : k (.bool b) σ) : HE G F d hd (.Constant (.bool b) i pos) σ k X := ⟨fun _ _ _ _ s _ I => wpAny_Constant_bool ⟨_, _, I, .refl s, .bool b, h⟩⟩
theorem e_int {n : Int} {i : Nat} {pos : Pos} {k : AV → St → Prop} (h : k (.int n) σ) : HE G F d hd (.Constant (.int n) i pos) σ k X := ⟨fun _ _ _ _ s _ I => wpAny_Constant_int ⟨_, _, I, .toks s _, .int n _, h⟩⟩
theorem e_str {x : Str} {i : Nat} {pos : Pos} {k : AV → St → Prop} (h : k (.str x) σ) : HE G F d hd (.Constant (.str x) i pos) σ k X := ⟨fun _ _ _ _ s _ I => wpAny_Constant_str ⟨_, _, I, .toks s _, .str x _, h⟩⟩

theorem e_loc {x : Str} {pos : Pos} {av : AV} {k : AV → St → Prop} (h : k av σ) (e : At x av F.names σ.loc := by with_reducible (repeat (first | exact At.head | apply At.tail))) : HE G F d hd (.Name x pos) σ k X := by
  refine ⟨?_⟩
  intro C A L fr s ok I
  obtain ⟨m, I0, lr, nd⟩ := I
  obtain ⟨v, hv, r⟩ := lr x av e
  have q := I0.frames _ (.head _)
  exact wpAny_Name (wpAny_loadName_local q.1 (nd.loc _ e.mem).1 q.2.2 hv ⟨_, _, ⟨m, I0, lr, nd⟩, .refl s, r, h⟩) (nd.loc _ e.mem).2

theorem InvF.K {C : Cx} {A : Around} {envs : List Env} {L : Addr} {fr : Frs} {h : Heap} (ok : Ok G C A envs d) (I : InvF C F L fr σ h) : (G.K C.w.params).In h := by
  obtain ⟨m, I0, _⟩ := I
  exact ok.K.keeps I0.base
theorem InvF.kind {C : Cx} {L : Addr} {fr : Frs} {h : Heap} (I : InvF C F L fr σ h) : F.scope.kind = .function := by
  obtain ⟨m, I0, _⟩ := I
  exact (I0.frames _ (.head _)).1

theorem InvF.wf {C : Cx} {L : Addr} {fr : Frs} {h : Heap} (I : InvF C F L fr σ h) : F.WF := let ⟨_, _, _, w⟩ := I; w
noncomputable def av? : Value → Option AV
  | .ref a => some (.ref a)
  | .none => some .none
  | .type n => some (.typ n)
  | .builtin i => some (.bi i)
  | _ => none
theorem VR.of_av {h : Heap} : ∀ {v : Value} {x : AV}, av? v = some x → VR h v x
  | .ref a, _, e => by cases e; exact .ref a
  | .none, _, e => by cases e; exact .none
  | .type n, _, e => by cases e; exact .typ n
  | .builtin i, _, e => by cases e; exact .bi i

theorem e_glob {x : Str} {pos : Pos} {v : Value} {av : AV} {k : AV → St → Prop} (e : ∀ P, nsIn (G.K P) mainGlobals x = some (some v)) (hv : av? v = some av) (h : k av σ) (hg : HasN x F.globs := by with_reducible (repeat (first | exact HasN.head | apply HasN.tail))) :
    HE G F d hd (.Name x pos) σ k X := by
  refine ⟨?_⟩
  intro C A L fr s ok I
  obtain ⟨hl, hx⟩ := I.wf.glob _ hg.mem
  refine Name_function_global I.kind hl ?_ hx
  unfold loadGlobal
  refine wpAny_bind ((looks_nsIn (I.K ok) (e _)).here ?_)
  exact wpAny_pure ⟨_, _, I, .refl s, .of_av hv, h⟩
theorem e_blt {x : Str} {pos : Pos} {v : Value} {av : AV} {k : AV → St → Prop} (e : ∀ P, nsIn (G.K P) mainGlobals x = some none) (e' : ∀ P, nsIn (G.K P) builtinsNs x = some (some v)) (hv : av? v = some av) (h : k av σ) (hg : HasN x F.globs := by with_reducible (repeat (first | exact HasN.head | apply HasN.tail))) :
    HE G F d hd (.Name x pos) σ k X := by
  refine ⟨?_⟩
  intro C A L fr s ok I
  obtain ⟨hl, hx⟩ := I.wf.glob _ hg.mem
  refine Name_function_global I.kind hl ?_ hx
  unfold loadGlobal
  refine wpAny_bind ((looks_nsIn (I.K ok) (e _)).here ?_)
  refine wpAny_bind ((looks_nsIn (I.K ok) (e' _)).here ?_)
  exact wpAny_pure ⟨_, _, I, .refl s, .of_av hv, h⟩

noncomputable def op2 (t : Value → Value → Sem Value) : List Value → Sem Value
  | [a, b] => t a b
  | _ => .unsupported "op2"
noncomputable def op1 (t : Value → Sem Value) : List Value → Sem Value
  | [a] => t a
  | _ => .unsupported "op1"

section
variable (G : Gl) (F : Fn) (d : Nat) (hd : Option Addr) (X : Addr → St → Prop)
noncomputable abbrev kO1 (t : Value → Sem Value) (k : AV → St → Prop) : AV → St → Prop := fun a σ₁ => HO G F d hd (op1 t) [a] σ₁ k X
noncomputable abbrev kO2b (t : Value → Value → Sem Value) (a : AV) (k : AV → St → Prop) : AV → St → Prop := fun b σ₁ => HO G F d hd (op2 t) [a, b] σ₁ k X
noncomputable abbrev kO2 (r : Expr) (t : Value → Value → Sem Value) (k : AV → St → Prop) : AV → St → Prop := fun a σ₁ => HE G F d hd r σ₁ (kO2b G F d hd X t a k) X
noncomputable abbrev kTr (k : Bool → St → Prop) : AV → St → Prop := fun c σ₁ => HB G F d hd truthy c σ₁ k X
noncomputable abbrev kIE (b o : Expr) (k : AV → St → Prop) : Bool → St → Prop := fun c σ₁ => if c = true then HE G F d hd b σ₁ k X else HE G F d hd o σ₁ k X
noncomputable abbrev kIf (b o : List Stmt) (k : Fl → St → Prop) : Bool → St → Prop := fun c σ₁ => if c = true then HSs G F d hd b σ₁ k X else HSs G F d hd o σ₁ k X
noncomputable abbrev kSs (rest : List Stmt) (k : Fl → St → Prop) : Fl → St → Prop := Fl.on (fun σ₁ => HSs G F d hd rest σ₁ k X) (fun v σ₁ => k (.ret v) σ₁)
end
theorem kSs_next {rest : List Stmt} {k : Fl → St → Prop} (h : HSs G F d hd rest σ k X) : kSs G F d hd X rest k .next σ := h
theorem kSs_ret {rest : List Stmt} {k : Fl → St → Prop} {v : AV} (h : k (.ret v) σ) : kSs G F d hd X rest k (.ret v) σ := h
noncomputable abbrev kRet (k : Fl → St → Prop) : AV → St → Prop := fun v σ₁ => k (.ret v) σ₁
noncomputable abbrev kNx (k : Fl → St → Prop) : AV → St → Prop := fun _ σ₁ => k .next σ₁
noncomputable abbrev kAsg (F : Fn) (x : Str) (k : Fl → St → Prop) : AV → St → Prop := fun v σ₁ => ∃ loc', PutAt x (some v) F.names σ₁.loc loc' ∧ k .next ⟨loc', σ₁.H⟩
theorem kAsg_i {x : Str} {v : AV} {k : Fl → St → Prop} {loc'} (p : PutAt x (some v) F.names σ.loc loc') (h : k .next ⟨loc', σ.H⟩) : kAsg F x k v σ := ⟨loc', p, h⟩
theorem e_bin {l r : Expr} {op : Operator} {pos : Pos} {k : AV → St → Prop} (h : HE G F d hd l σ (kO2 G F d hd X r (binaryOp op) k) X) : HE G F d hd (.BinOp l op r pos) σ k X := by
  refine ⟨?_⟩
  intro C A L fr s ok I
  refine wpAny_BinOp (wpAny_mono (h.run C A L fr s ok I) (fun v₁ s₁ p₁ => ?_) fun _ _ e => e)
  obtain ⟨a, σ₁, I₁, S₁, V₁, h₁⟩ := p₁
  refine wpAny_mono (h₁.run C A L fr s₁ ok I₁) (fun v₂ s₂ p₂ => ?_) fun _ _ e => e.trans S₁
  obtain ⟨b, σ₂, I₂, S₂, V₂, h₂⟩ := p₂
  exact wpAny_mono (h₂.run C A L fr s₂ [v₁, v₂] ok I₂ (.cons (V₁.mono S₂.1) (.cons V₂ .nil))) (fun _ _ p => p.trans (S₁.trans S₂)) fun _ _ e => e.trans (S₁.trans S₂)
theorem e_cmp {l r : Expr} {op : CmpOp} {pos : Pos} {k : AV → St → Prop} (h : HE G F d hd l σ (kO2 G F d hd X r (compareOp op) k) X) (hm : behindInMarks op r = false := by with_unfolding_all rfl) : HE G F d hd (.Compare l [op] [r] pos) σ k X := by
  refine ⟨?_⟩
  intro C A L fr s ok I
  refine wpAny_Compare1 (wpAny_mono (h.run C A L fr s ok I) (fun v₁ s₁ p₁ => ?_) fun _ _ e => e) hm
  obtain ⟨a, σ₁, I₁, S₁, V₁, h₁⟩ := p₁
  refine wpAny_mono (h₁.run C A L fr s₁ ok I₁) (fun v₂ s₂ p₂ => ?_) fun _ _ e => e.trans S₁
  obtain ⟨b, σ₂, I₂, S₂, V₂, h₂⟩ := p₂
  exact wpAny_mono (h₂.run C A L fr s₂ [v₁, v₂] ok I₂ (.cons (V₁.mono S₂.1) (.cons V₂ .nil))) (fun _ _ p => p.trans (S₁.trans S₂)) fun _ _ e => e.trans (S₁.trans S₂)
theorem t_cmp {l r : Expr} {op : CmpOp} {pos : Pos} {k : Bool → St → Prop} (h : HE G F d hd l σ (kO2 G F d hd X r (compareOp op) (kTr G F d hd X k)) X) (hm : behindInMarks op r = false := by with_unfolding_all rfl) : HT G F d hd (.Compare l [op] [r] pos) σ k X := by
  refine ⟨?_⟩
  intro C A L fr s ok I
  refine wpAny_isTrue_Compare1 (wpAny_mono (h.run C A L fr s ok I) (fun v₁ s₁ p₁ => ?_) fun _ _ e => e) hm
  obtain ⟨a, σ₁, I₁, S₁, V₁, h₁⟩ := p₁
  refine wpAny_mono (h₁.run C A L fr s₁ ok I₁) (fun v₂ s₂ p₂ => ?_) fun _ _ e => e.trans S₁
  obtain ⟨b, σ₂, I₂, S₂, V₂, h₂⟩ := p₂
  refine wpAny_mono (h₂.run C A L fr s₂ [v₁, v₂] ok I₂ (.cons (V₁.mono S₂.1) (.cons V₂ .nil))) (fun v₃ s₃ p₃ => ?_) fun _ _ e => e.trans (S₁.trans S₂)
  obtain ⟨c, σ₃, I₃, S₃, V₃, h₃⟩ := p₃
  exact wpAny_mono (h₃.run C A L fr s₃ v₃ ok I₃ V₃) (fun _ _ p => p.trans ((S₁.trans S₂).trans S₃)) fun _ _ e => e.trans ((S₁.trans S₂).trans S₃)
theorem e_unary {x : Expr} {op : UnaryOp} {pos : Pos} {k : AV → St → Prop} (h : HE G F d hd x σ (kO1 G F d hd X (unaryOp op) k) X) : HE G F d hd (.UnaryOp op x pos) σ k X := by
  refine ⟨?_⟩
  intro C A L fr s ok I
  refine wpAny_UnaryOp (wpAny_mono (h.run C A L fr s ok I) (fun v₁ s₁ p₁ => ?_) fun _ _ e => e)
  obtain ⟨a, σ₁, I₁, S₁, V₁, h₁⟩ := p₁
  exact wpAny_mono (h₁.run C A L fr s₁ [v₁] ok I₁ (.cons V₁ .nil)) (fun _ _ p => p.trans S₁) fun _ _ e => e.trans S₁
theorem e_ifexp {t b o : Expr} {pos : Pos} {k : AV → St → Prop} (h : HT G F d hd t σ (kIE G F d hd X b o k) X) : HE G F d hd (.IfExp t b o pos) σ k X := by
  refine ⟨?_⟩
  intro C A L fr s ok I
  refine wpAny_IfExp (wpAny_mono (h.run C A L fr s ok I) (fun c s₁ p₁ => ?_) fun _ _ e => e)
  obtain ⟨σ₁, I₁, S₁, h₁⟩ := p₁
  cases c
  · exact wpAny_mono (h₁.run C A L fr s₁ ok I₁) (fun _ _ p => p.trans S₁) fun _ _ e => e.trans S₁
  · exact wpAny_mono (h₁.run C A L fr s₁ ok I₁) (fun _ _ p => p.trans S₁) fun _ _ e => e.trans S₁
theorem t_not {x : Expr} {pos : Pos} {k : Bool → St → Prop} (h : HT G F d hd x σ (fun b => k (!b)) X) : HT G F d hd (.UnaryOp .Not x pos) σ k X := by
  refine ⟨?_⟩
  intro C A L fr s ok I
  exact wpAny_isTrue_Not (wpAny_mono (h.run C A L fr s ok I) (fun c s₁ ⟨σ, i, l, q⟩ => ⟨σ, i, l, q⟩) fun _ _ e => e)
theorem t_val {e : Expr} {k : Bool → St → Prop} (h : HE G F d hd e σ (kTr G F d hd X k) X)
    (he : ∀ env whole, isTrue e env whole = (do let v ← whole; standAt e.pos; holding [v] (truthy v)) := by intros; with_unfolding_all rfl) : HT G F d hd e σ k X := by
  refine ⟨?_⟩
  intro C A L fr s ok I
  refine wpAny_isTrue_value (wpAny_mono (h.run C A L fr s ok I) (fun v₁ s₁ p₁ => ?_) fun _ _ e => e) (he _ _)
  obtain ⟨a, σ₁, I₁, S₁, V₁, h₁⟩ := p₁
  exact wpAny_mono (h₁.run C A L fr s₁ v₁ ok I₁ V₁) (fun _ _ p => p.trans S₁) fun _ _ e => e.trans S₁
structure HAll (G : Gl) (F : Fn) (d : Nat) (hd : Option Addr) (op : BoolOp) (es : List Expr) (σ : St) (k : Bool → St → Prop) (X : Addr → St → Prop) : Prop where
  run : ∀ C A L fr s, Ok G C A (F.env L :: fr.map (·.1)) d → InvF C F L fr σ s.heap → wpAny (model G.P C.w) (arnd A hd) (allTrue op es (F.env L)) (PB C F L fr s k) (PX C F L fr s X) s
theorem t_and {es : List Expr} {op : BoolOp} {pos : Pos} {k : Bool → St → Prop} (h : HAll G F d hd op es σ k X) : HT G F d hd (.BoolOp op es pos) σ k X := ⟨fun C A L fr s ok I => wpAny_isTrue_BoolOp (h.run C A L fr s ok I)⟩
theorem all_and_nil {k : Bool → St → Prop} (h : k true σ) : HAll G F d hd .And [] σ k X := ⟨fun _ _ _ _ s _ I => wpAny_allTrue_And_nil ⟨_, I, .refl s, h⟩⟩
theorem all_or_nil {k : Bool → St → Prop} (h : k false σ) : HAll G F d hd .Or [] σ k X := ⟨fun _ _ _ _ s _ I => wpAny_allTrue_Or_nil ⟨_, I, .refl s, h⟩⟩
theorem all_and {x : Expr} {es : List Expr} {k : Bool → St → Prop} (h : HT G F d hd x σ (fun b σ₁ => if b = true then HAll G F d hd .And es σ₁ k X else k false σ₁) X) : HAll G F d hd .And (x :: es) σ k X := by
  refine ⟨?_⟩
  intro C A L fr s ok I
  refine wpAny_allTrue_And_cons (wpAny_mono (h.run C A L fr s ok I) (fun c s₁ p₁ => ?_) fun _ _ e => e)
  obtain ⟨σ₁, I₁, S₁, h₁⟩ := p₁
  cases c
  · exact ⟨_, I₁, S₁, h₁⟩
  · exact wpAny_mono (h₁.run C A L fr s₁ ok I₁) (fun _ _ p => p.trans S₁) fun _ _ e => e.trans S₁
theorem all_or {x : Expr} {es : List Expr} {k : Bool → St → Prop} (h : HT G F d hd x σ (fun b σ₁ => if b = true then k true σ₁ else HAll G F d hd .Or es σ₁ k X) X) : HAll G F d hd .Or (x :: es) σ k X := by
  refine ⟨?_⟩
  intro C A L fr s ok I
  refine wpAny_allTrue_Or_cons (wpAny_mono (h.run C A L fr s ok I) (fun c s₁ p₁ => ?_) fun _ _ e => e)
  obtain ⟨σ₁, I₁, S₁, h₁⟩ := p₁
  cases c
  · exact wpAny_mono (h₁.run C A L fr s₁ ok I₁) (fun _ _ p => p.trans S₁) fun _ _ e => e.trans S₁
  · exact ⟨_, I₁, S₁, h₁⟩
theorem e_and2 {x y : Expr} {pos : Pos} {k : AV → St → Prop} (h : HE G F d hd x σ (fun v σ₁ => HB G F d hd truthy v σ₁ (fun b σ₂ => if b = true then HE G F d hd y σ₂ k X else k v σ₂) X) X) : HE G F d hd (.BoolOp .And [x, y] pos) σ k X := by
  refine ⟨?_⟩
  intro C A L fr s ok I
  refine wpAny_And2 (wpAny_mono (h.run C A L fr s ok I) (fun v₁ s₁ p₁ => ?_) fun _ _ e => e)
  obtain ⟨a, σ₁, I₁, S₁, V₁, h₁⟩ := p₁
  refine wpAny_mono (h₁.run C A L fr s₁ v₁ ok I₁ V₁) (fun c s₂ p₂ => ?_) fun _ _ e => e.trans S₁
  obtain ⟨σ₂, I₂, S₂, h₂⟩ := p₂
  cases c
  · exact ⟨_, _, I₂, S₁.trans S₂, V₁.mono S₂.1, h₂⟩
  · exact wpAny_mono (h₂.run C A L fr s₂ ok I₂) (fun _ _ p => p.trans (S₁.trans S₂)) fun _ _ e => e.trans (S₁.trans S₂)

theorem s_nil {k : Fl → St → Prop} (h : k .next σ) : HSs G F d hd [] σ k X := ⟨fun _ _ _ _ s _ I => wpAny_execs_nil ⟨.next, _, I, .refl s, trivial, h⟩⟩
theorem s_cons {st : Stmt} {rest : List Stmt} {k : Fl → St → Prop} (h : HS G F d hd st σ (kSs G F d hd X rest k) X) : HSs G F d hd (st :: rest) σ k X := by
  refine ⟨?_⟩
  intro C A L fr s ok I
  refine wpAny_execs_cons (wpAny_mono (h.run C A L fr s ok I) (fun f s₁ p₁ => ?_) fun _ _ e => e)
  obtain ⟨g, σ₁, I₁, S₁, V₁, h₁⟩ := p₁
  cases f <;> cases g <;> first | exact V₁.elim | skip
  · exact wpAny_mono (h₁.run C A L fr s₁ ok I₁) (fun _ _ p => p.trans S₁) fun _ _ e => e.trans S₁
  · exact ⟨_, _, I₁, S₁, V₁, h₁⟩
theorem s_if {t : Expr} {b o : List Stmt} {pos : Pos} {k : Fl → St → Prop} (h : HT G F d hd t σ (kIf G F d hd X b o k) X) : HS G F d hd (.If t b o pos) σ k X := by
  refine ⟨?_⟩
  intro C A L fr s ok I
  refine wpAny_If (wpAny_mono (h.run C A L fr s ok I) (fun c s₁ p₁ => ?_) fun _ _ e => e)
  obtain ⟨σ₁, I₁, S₁, h₁⟩ := p₁
  cases c
  · exact wpAny_mono (h₁.run C A L fr s₁ ok I₁) (fun _ _ p => p.trans S₁) fun _ _ e => e.trans S₁
  · exact wpAny_mono (h₁.run C A L fr s₁ ok I₁) (fun _ _ p => p.trans S₁) fun _ _ e => e.trans S₁
theorem s_ret {e : Expr} {pos : Pos} {k : Fl → St → Prop} (h : HE G F d hd e σ (kRet k) X) : HS G F d hd (.Return (some e) pos) σ k X := by
  refine ⟨?_⟩
  intro C A L fr s ok I
  refine wpAny_Return_some (wpAny_mono (h.run C A L fr s ok I) (fun v s₁ p₁ => ?_) fun _ _ e => e)
  obtain ⟨a, σ₁, I₁, S₁, V₁, h₁⟩ := p₁
  exact ⟨.ret a, σ₁, I₁, S₁, V₁, h₁⟩

noncomputable def put (x : Str) (v : AV) : List (Str × AV) → List (Str × AV)
  | [] => [(x, v)]
  | (y, w) :: r => if x = y then (x, v) :: r else (y, w) :: put x v r
structure HStore (G : Gl) (F : Fn) (d : Nat) (hd : Option Addr) (t : Env → Value → Sem Unit) (x : AV) (σ : St) (k : St → Prop) (X : Addr → St → Prop) : Prop where
  run : ∀ C A L fr s v, Ok G C A (F.env L :: fr.map (·.1)) d → InvF C F L fr σ s.heap → VR s.heap v x → wpAny (model G.P C.w) (arnd A hd) (t (F.env L) v) (fun _ s' => ∃ σ', InvF C F L fr σ' s'.heap ∧ SL s s' ∧ k σ') (PX C F L fr s X) s
theorem store_name {x : Str} {av : AV} {k : St → Prop} {loc'} (p : PutAt x (some av) F.names σ.loc loc') (h : k ⟨loc', σ.H⟩) : HStore G F d hd (fun env v => storeName env x v) av σ k X := by
  refine ⟨?_⟩
  intro C A L fr s v ok I V
  obtain ⟨m, I0, lr, nd⟩ := I
  have q := I0.frames _ (.head _)
  refine wpAny_storeName_local (m := m) (nd.loc _ p.mem).1 q.2.2 (fun h' hn hs => ?_) ?_
  · obtain ⟨oL, es, ep, hL, hdd, _⟩ := q.2.2
    have T : TL s.heap h' := .turn hs fun vs n e => by rw [hL] at e; cases e; cases hdd
    exact ⟨⟨loc', σ.H⟩, ⟨_, I0.store hn hs, (lr.mono T).put nd.nodup p (V.mono T), nd⟩, ⟨T, rfl, rfl⟩, h⟩
  · show (F.scope.kind == .class || (F.scope.kind == .module && L != mainGlobals)) = false
    rw [show F.scope.kind = .function from q.1]; rfl
theorem s_assign {x : Str} {np pos : Pos} {e : Expr} {k : Fl → St → Prop} (h : HE G F d hd e σ (kAsg F x k) X)
    (hs : ∀ env, swapsWith e (some (.Name x np)) pos.line env = pure false := by intros; with_unfolding_all rfl) : HS G F d hd (.Assign [.Name x np] e pos) σ k X := by
  refine ⟨?_⟩
  intro C A L fr s ok I
  refine wpAny_Assign_Name (wpAny_mono (h.run C A L fr s ok I) (fun v s₁ p₁ => ?_) fun _ _ e => e) (hs _)
  obtain ⟨a, σ₁, I₁, S₁, V₁, loc', hp, h₁⟩ := p₁
  refine wpAny_mono ((store_name (k := fun σ => k .next σ) hp h₁).run C A L fr s₁ v ok I₁ V₁) (fun _ s₂ p₂ => ?_) fun _ _ e => e.trans S₁
  obtain ⟨σ₂, I₂, S₂, h₂⟩ := p₂
  exact ⟨.next, σ₂, I₂, S₁.trans S₂, trivial, h₂⟩
theorem s_aug {x : Str} {np pos : Pos} {op : Operator} {e : Expr} {av : AV} {k : Fl → St → Prop} 
    (h : HE G F d hd e σ (kO2b G F d hd X (inplaceOp op) av (kAsg F x k)) X) (ex : At x av F.names σ.loc := by with_reducible (repeat (first | exact At.head | apply At.tail))) : HS G F d hd (.AugAssign (.Name x np) op e pos) σ k X := by
  refine ⟨?_⟩
  intro C A L fr s ok I
  obtain ⟨m, I0, lr, nd⟩ := I
  obtain ⟨v, hv, V⟩ := lr x av ex
  have q := I0.frames _ (.head _)
  refine wpAny_AugAssign_Name (wpAny_loadName_local q.1 (nd.loc _ ex.mem).1 q.2.2 hv ?_)
  refine wpAny_mono (h.run C A L fr s ok ⟨m, I0, lr, nd⟩) (fun v₁ s₁ p₁ => ?_) fun _ _ e => e
  obtain ⟨a, σ₁, I₁, S₁, V₁, h₁⟩ := p₁
  refine wpAny_mono (h₁.run C A L fr s₁ [v, v₁] ok I₁ (.cons (V.mono S₁.1) (.cons V₁ .nil))) (fun v₂ s₂ p₂ => ?_) fun _ _ e => e.trans S₁
  obtain ⟨b, σ₂, I₂, S₂, V₂, loc', hp, h₂⟩ := p₂
  refine wpAny_mono ((store_name (k := fun σ => k .next σ) hp h₂).run C A L fr s₂ v₂ ok I₂ V₂) (fun _ s₃ p₃ => ?_) fun _ _ e => e.trans (S₁.trans S₂)
  obtain ⟨σ₃, I₃, S₃, h₃⟩ := p₃
  exact ⟨.next, σ₃, I₃, (S₁.trans S₂).trans S₃, trivial, h₃⟩

theorem InvF.perm {C : Cx} {L : Addr} {fr : Frs} {h : Heap} {loc} {H H' : AH} (I : InvF C F L fr ⟨loc, H⟩ h) (p : H.Perm H') : InvF C F L fr ⟨loc, H'⟩ h := let ⟨m, I0, r⟩ := I; ⟨m, I0.perm p, r⟩
theorem InvF.dropHead {C : Cx} {L : Addr} {fr : Frs} {h : Heap} {loc} {p} {H : AH} (I : InvF C F L fr ⟨loc, p :: H⟩ h) : InvF C F L fr ⟨loc, H⟩ h := let ⟨m, I0, r⟩ := I; ⟨m, I0.dropHead, r⟩
end
end Mine
end
section
open PySem PySem.W PySem.Calls PyProof.Rows
set_option maxRecDepth 100000
set_option autoImplicit false
namespace Mine

theorem TB.off {C : Cx} {h h' : Heap} (k : ∀ a oT ts, h.get? a = some oT → oT.cls = .type "traceback" → oT.data = .fields ts → h'.get? a = some oT) {v : Value} (t : TB C h v) : TB C h' v := by
  rcases t with rfl | ⟨T, oT, ts, rfl, e, c, d, r⟩
  · exact .inl rfl
  · exact .inr ⟨T, oT, ts, rfl, k _ _ _ e c d, c, d, r⟩
theorem OR.off {C : Cx} {h h' : Heap} {a : Addr} (T : TL h h') (tb : ∀ v, TB C h v → TB C h' v) : ∀ {o : AObj}, (∀ x ∈ o.foot a, h'.get? x = h.get? x) → OR C h a o → OR C h' a o
  | .list _, n, ⟨vs, m, e, r⟩ => ⟨vs, m, (n _ (.head _)).trans e, r.mono T⟩
  | .dict _, n, ⟨kvs, e, r⟩ => ⟨kvs, dictOf_same e fun o e => (n _ (.head _)).trans e, r.mono T⟩
  | .inst .., n, ⟨ds, m, e, e', r⟩ => ⟨ds, m, (n _ (.head _)).trans e, (n _ (.tail _ (.head _))).trans e', r.mono T⟩
  | .exc .., n, ⟨vs, sl, e, ⟨t, et, b, ne⟩, r⟩ => ⟨vs, sl, (n _ (.head _)).trans e, ⟨t, et, tb _ b, ne⟩, r.mono T fun a o q e => (n _ (.tail _ (by rw [q]; exact .head _))).trans e⟩
  | .raw _, n, ⟨o, e, r⟩ => ⟨o, (n _ (.head _)).trans e, r⟩
  | .fdict .., n, ⟨kvs, e, r⟩ => ⟨kvs, dictAt_same e fun o e => (n _ (.head _)).trans e, r.mono T⟩
  | .cell _, n, ⟨o, e, r⟩ => ⟨o, (n _ (.head _)).trans e, r⟩
theorem Inv0.off {C : Cx} {fr : Frs} {H : AH} {h h' : Heap} (I : Inv0 C fr H h) (T : TL h h') (tb : ∀ v, TB C h v → TB C h' v) (hb : ∀ a o, C.B.get? a = some o → h'.get? a = h.get? a) (hk : ∀ p ∈ C.Kp, h'.get? p.1 = h.get? p.1)
    (hf : ∀ p ∈ fr, h'.Ns p.1.locals p.2) (ho : ∀ x ∈ Mine.feet H, h'.get? x = h.get? x) : Inv0 C fr H h' where
  base a o e := (hb a o e).trans (I.base a o e)
  kp p hp := (hk p hp).trans (I.kp p hp)
  frames p hp := ⟨(I.frames p hp).1, (I.frames p hp).2.1, hf p hp⟩
  obj p hp := (I.obj p hp).off T tb fun x hx => ho x (mem_feet hp hx)
  newH := I.newH
  newF := I.newF
  nodup := I.nodup
  feet := I.feet
  frok := I.frok

theorem frames_sub {l : List Env} : ∀ b ∈ (own l).filterMap (·.frame), b ∈ l.map (·.locals) := by
  intro b h
  obtain ⟨e, he, hf⟩ := List.mem_filterMap.mp h
  obtain ⟨he, ho⟩ := List.mem_filter.mp he
  rw [beq_iff_eq.mp ho] at hf
  cases hf
  exact List.mem_map.mpr ⟨e, he, rfl⟩
theorem funFrames {C : Cx} {h : Heap} : ∀ {fr : Frs}, (∀ p ∈ fr, p.1.scope.kind = .function ∧ True ∧ h.Ns p.1.locals p.2) → (∀ p ∈ fr, C.new p.1.locals) → h.FunFrames C.B (own (fr.map (·.1)))
  | [], _, _ => trivial
  | p :: r, k, n => by
    have ih : h.FunFrames C.B (own (r.map (·.1))) := funFrames (fun q hq => k q (.tail _ hq)) fun q hq => n q (.tail _ hq)
    by_cases hp : p.1.frame = some p.1.locals
    · rw [List.map_cons, own_cons hp]
      obtain ⟨o, es, ep, ho, hd, _⟩ := (k p (.head _)).2.2
      exact ⟨by rw [(k p (.head _)).1]; decide, ⟨_, o, hp, (n p (.head _)).1, ho, fun vs e => by rw [hd] at e; cases e⟩, ih⟩
    · have e : own ((p :: r).map (·.1)) = own (r.map (·.1)) := by
        unfold own
        rw [List.map_cons, List.filter_cons, if_neg (by rw [beq_iff_eq]; exact hp)]
      rw [e]
      exact ih

theorem Inv0.slots {C : Cx} {fr : Frs} {H : AH} {h h' : Heap} (I : Inv0 C fr H h) (x : Heap.SlotsOnly (fr.map (·.1.locals)) h h') : Inv0 C fr H h' ∧ TL h h' := by
  have nofr : ∀ a o, h.get? a = some o → (∀ es ep, o.data ≠ .dict es ep) → h'.get? a = some o := fun a o e n => by
    refine (x.2.1 a fun m => ?_).trans e
    obtain ⟨p, hp, rfl⟩ := List.mem_map.mp m
    obtain ⟨o', es, ep, ho, hd, _⟩ := (I.frames p hp).2.2
    rw [e] at ho; cases ho; exact n _ _ hd
  have T : TL h h' := fun a vs n e => nofr a _ e fun _ _ q => by cases q
  refine ⟨I.off T (fun v t => t.off fun a oT ts e _ d => nofr a oT e fun es ep q => by rw [d] at q; cases q) (fun a o e => x.2.1 a fun m => ?_) (fun p hp => x.2.1 _ fun m => ?_) (fun p hp => ?_) (fun y hy => x.2.1 y fun m => ?_), T⟩
  · obtain ⟨p, hp, rfl⟩ := List.mem_map.mp m
    rw [(I.newF p hp).1] at e; cases e
  · obtain ⟨q, hq, e⟩ := List.mem_map.mp m
    exact (I.newF q hq).2 p hp e.symm
  · obtain ⟨o, es, ep, ho, hd, r⟩ := (I.frames p hp).2.2
    obtain ⟨sl, hs⟩ := x.2.2 _ _ ho
    exact ⟨_, es, ep, hs, hd, r⟩
  · obtain ⟨q, hq, e'⟩ := List.mem_map.mp m
    exact (I.newH y hy).2 q hq e'

theorem Inv0.tback {C : Cx} {fr : Frs} {H : AH} {h h' : Heap} {T : Addr} {oT oT' : Obj} {ts ts' : Array Value} (I : Inv0 C fr H h) (hT : h.get? T = some oT) (hc : oT.cls = .type "traceback") (hd : oT.data = .fields ts) (hn : C.new T) (hs : Heap.SameBut T h h')
    (hT' : h'.get? T = some oT') (hc' : oT'.cls = .type "traceback") (hd' : oT'.data = .fields ts') (hsz : 3 < ts'.size) : Inv0 C fr H h' ∧ TL h h' := by
  have other : ∀ a o, h.get? a = some o → (o.cls = .type "traceback" → ∀ ts, o.data = .fields ts → False) → h'.get? a = h.get? a := fun a o e n => hs.2 a fun q => by subst q; rw [hT] at e; cases e; exact n hc _ hd
  have TT : TL h h' := fun a vs n e => (other a _ e fun _ _ q => by cases q).trans e
  refine ⟨I.off TT (fun v t => ?_) (fun a o e => hs.2 a fun q => ?_) (fun p hp => hs.2 _ (hn.2 p hp)) (fun p hp => ?_) (fun y hy => ?_), TT⟩
  · rcases t with rfl | ⟨U, oU, us, rfl, e, c, d, r, nw⟩
    · exact .inl rfl
    · by_cases q : U = T
      · subst q; exact .inr ⟨U, oT', ts', rfl, hT', hc', hd', hsz, nw⟩
      · exact .inr ⟨U, oU, us, rfl, (hs.2 U q).trans e, c, d, r, nw⟩
  · subst q; rw [hn.1] at e; cases e
  · obtain ⟨o, es, ep, ho, hdd, r⟩ := (I.frames p hp).2.2
    exact ⟨o, es, ep, (other _ o ho fun _ ts q => by rw [hdd] at q; cases q).trans ho, hdd, r⟩
  · obtain ⟨⟨a, o⟩, hp, hy⟩ := List.mem_flatMap.mp hy
    have z := I.obj _ hp
    dsimp only at hy z
    cases o with
    | list xs => obtain ⟨vs, m, e1, _⟩ := z; simp [AObj.foot] at hy; subst hy; exact other _ _ e1 fun q => absurd (show Value.type "list" = Value.type "traceback" from q) (by decide)
    | dict xs => obtain ⟨kvs, ⟨o, _, _, e1, x1, _⟩, _⟩ := z; simp [AObj.foot] at hy; subst hy; exact other _ _ e1 fun q => absurd (x1.1.symm.trans q) (by decide)
    | inst c d es => obtain ⟨ds, m, e1, e2, _⟩ := z; simp [AObj.foot] at hy; rcases hy with rfl | rfl <;> first | exact other _ _ e1 fun q => by cases q | exact other _ _ e2 fun q => absurd (show Value.type "dict" = Value.type "traceback" from q) (by decide)
    | exc c d b es =>
      obtain ⟨vs, sl, e1, _, r⟩ := z
      cases d with
      | none => simp [AObj.foot] at hy; subst hy; exact other _ _ e1 fun q => by cases q
      | some d =>
        obtain ⟨ds, n, e2, _⟩ := r
        simp [AObj.foot] at hy; rcases hy with rfl | rfl <;> first | exact other _ _ e1 fun q => by cases q | exact other _ _ e2 fun q => absurd (show Value.type "dict" = Value.type "traceback" from q) (by decide)
    | raw P => obtain ⟨o, e1, r⟩ := z; simp [AObj.foot] at hy; subst hy; exact other _ _ e1 fun q => absurd q r.1.2
    | fdict xs ep => obtain ⟨kvs, ⟨o, _, e1, x1, _⟩, _⟩ := z; simp [AObj.foot] at hy; subst hy; exact other _ _ e1 fun q => absurd (x1.1.symm.trans q) (by decide)
    | cell v => obtain ⟨o, e1, x1⟩ := z; simp [AObj.foot] at hy; subst hy; exact other _ _ e1 fun _ ts q => by rw [x1] at q; cases q

theorem sel_of {a : Addr} {o : AObj} : ∀ {H : AH}, (a, o) ∈ H → ∃ R, Sel a o H R
  | [], h => nomatch h
  | p :: H, h => by
    rcases List.mem_cons.mp h with q | q
    · subst q; exact ⟨_, .head⟩
    · obtain ⟨R, x⟩ := sel_of q; exact ⟨_, .tail x⟩
noncomputable def IsN (H : AH) (h : Heap) (a : Addr) : Prop := ∃ c d b es vs sl T, (a, AObj.exc c d b es) ∈ H ∧ h.get? a = some ⟨.ref c, d, .fields vs, sl⟩ ∧ vs[1]? = some (.ref T)
theorem IsN.x {H : AH} {h : Heap} {a : Addr} (x : IsN H h a) : IsX H a := let ⟨c, d, b, es, _, _, _, e, _⟩ := x; ⟨c, d, b, es, e⟩

section
variable {M : Model} {A : Around} {E : Value → Shared → Prop} {s : Shared} {C : Cx} {fr : Frs} {H : AH} {a : Addr}

theorem flight {f : Option Addr} {Q : Unit → Shared → Prop} (I : Inv0 C fr H s.heap) (x : IsX H a) (h : ∀ h', Inv0 C fr H h' → TL s.heap h' → (∀ H', IsN H' s.heap a → IsN H' h' a) → Q () { s with heap := h' }) : wpAny M A (setFlight (.ref a) f) Q E s := by
  obtain ⟨c, d, b, es, e⟩ := x
  obtain ⟨vs, sl, hx, ⟨t, ht, tb, ne⟩, r⟩ := I.obj _ e
  unfold setFlight
  refine wpAny_bind (wpAny_field hx rfl ht ?_)
  rcases tb with rfl | ⟨T, oT, ts, rfl, hT, hc, hdt, hsz, hn⟩
  · rw [if_neg (by decide)]
    exact wpAny_pure (h _ I (.refl _) fun _ q => q)
  · rw [if_pos (show (Value.ref T != Value.none) = true from by simp)]
    refine wpAny_setField hT hdt hsz ?_
    have hTx : T ≠ a := fun q => by subst q; rw [hx] at hT; cases hT; cases hc
    have ge := Heap.get?_update_self (Obj.mapFields (·.setIfInBounds 3 (f.elim .none fun f => rawInt f))) hT (Obj.isFreed_of_fields (Obj.data_mapFields hdt _))
    obtain ⟨I', TT⟩ := I.tback hT hc hdt hn (Heap.SameBut.update ..) ge ((Obj.cls_mapFields _ _).trans hc) (Obj.data_mapFields hdt _) (by simpa using hsz)
    refine h _ I' TT fun H' q => ?_
    obtain ⟨c', d', b', es', vs', sl', T', q1, q2, q3⟩ := q
    exact ⟨c', d', b', es', vs', sl', T', q1, (Heap.get?_update_other _ _ hTx).trans q2, q3⟩

theorem note {env : Env} {m : Str → Option Value} {Q : Unit → Shared → Prop} (I : Inv0 C ((env, m) :: fr) H s.heap) (x : IsX H a) (hA : A.frames = some (own (env :: fr.map (·.1))))
    (h : ∀ h', Inv0 C ((env, m) :: fr) H h' → TL s.heap h' → IsN H h' a → Q () { s with heap := h' }) : wpAny M A (noteFrame (.ref a) env) Q E s := by
  obtain ⟨⟨e1, outer, hown, hf⟩, _⟩ := I.frok
  have hf : env.frame = some e1.locals := hf
  have hf1 : e1.frame = some e1.locals := by
    have : e1 ∈ own (env :: fr.map (·.1)) := by
      have h : own (env :: fr.map (·.1)) = e1 :: outer := hown
      rw [h]; exact .head _
    exact beq_iff_eq.mp (List.mem_filter.mp this).2
  have hfo : PySem.frameOf env = PySem.frameOf e1 := by unfold PySem.frameOf; rw [hf, hf1]
  generalize hL : e1.locals = L at hf hf1
  have entry : ∀ {s₁ : Shared} {head : Value} {hadNext : Bool}, Inv0 C ((env, m) :: fr) H s₁.heap → TL s.heap s₁.heap → ({ s with heap := s₁.heap } = s₁) →
      wpAny M A (do setField (.ref a) 1 (← EntryCells.newEntry head (← frameOf env) .none (rawInt L) .none (← entryPlaceOf L hadNext))) Q E s₁ := by
    intro s₁ head hadNext I₁ T₁ es₁
    have ff := funFrames (C := C) I₁.frames I₁.newF
    have hown' : own (((env, m) :: fr).map (·.1)) = e1 :: outer := hown
    rw [hown'] at ff
    rw [hfo]
    refine wpAny_bind (wpAny_frameOf_fun (base := C.B) (L := L) (hA.trans (congrArg some hown)) ff hf1 fun h₂ hs₂ => ?_)
    have hs₂' : Heap.SlotsOnly (((env, m) :: fr).map (·.1.locals)) s₁.heap h₂ := hs₂.mono fun b hb => by
      rw [← hown'] at hb
      have := frames_sub b hb
      rw [List.map_map] at this
      exact this
    obtain ⟨I₂, T₂⟩ := I₁.slots hs₂'
    refine wpAny_bind (wpAny_entryPlaceOf fun pl hpl => ?_)
    unfold EntryCells.newEntry newFields
    refine wpAny_bind (wpAny_newObj_type ?_ (hpl.sizeOk5 _ _ _ _ _))
    have I₃ := I₂.mono fun b o e => Heap.get?_push_of_some { cls := .type "traceback", dict := none, data := .fields ([head, .ref L, .none, rawInt L, .none] ++ (if pl.isEmpty then List.replicate 6 Value.none else pl)).toArray } e
    obtain ⟨c, d, b, es, e⟩ := x
    obtain ⟨vs, sl, hx, ⟨t, ht, tb, ne⟩, r⟩ := I₃.obj _ e
    refine wpAny_setField hx rfl (Array.getElem?_eq_some_iff.mp ht).1 ?_
    have hxs := I₂.size_new (x := h₂.objs.size) (Heap.get?_none_of_le (Nat.le_refl _))
    have hT := Heap.get?_push_size h₂ (o := { cls := .type "traceback", dict := none, data := .fields ([head, .ref L, .none, rawInt L, .none] ++ (if pl.isEmpty then List.replicate 6 Value.none else pl)).toArray }) rfl
    have hTa : h₂.objs.size ≠ a := fun q => by rw [← q] at hx; rw [hT] at hx; cases hx
    have ge := Heap.get?_update_self (Obj.mapFields (·.setIfInBounds 1 (Value.ref h₂.objs.size))) hx rfl
    have hs := Heap.SameBut.update (h₂.push { cls := .type "traceback", dict := none, data := .fields ([head, .ref L, .none, rawInt L, .none] ++ (if pl.isEmpty then List.replicate 6 Value.none else pl)).toArray }) a (Obj.mapFields (·.setIfInBounds 1 (Value.ref h₂.objs.size)))
    obtain ⟨R, hR⟩ := sel_of e
    have hda : ∀ q, d = some q → q ≠ a := fun q eq z => by
      have := (List.nodup_append.mp (I₃.perm hR.perm).feet).1
      subst z
      rw [eq] at this
      simp [AObj.foot] at this
    have ht₁ : (vs.setIfInBounds 1 (Value.ref h₂.objs.size))[1]? = some (.ref h₂.objs.size) := by
      have := (Array.getElem?_eq_some_iff.mp ht).1
      simp [this]
    have TT := TL.turn hs fun vs n q => by rw [hx] at q; cases q
    have I₄ := (I₃.perm hR.perm).turn (o' := .exc c d b es) (x := a) (.head _) rfl hs (fun vs n q => by rw [hx] at q; cases q) (fun oT ts q c' _ => by rw [hx] at q; cases q; cases c')
      ⟨_, _, ge, ⟨_, ht₁, .inr ⟨_, _, _, rfl, (hs.2 _ hTa).trans hT, rfl, rfl, by simp only [List.size_toArray, List.length_append, List.length_cons, List.length_nil]; omega, hxs.1⟩, fun _ q => by cases q⟩, r.mono TT fun q o e' e => (hs.2 q (hda q e')).trans e⟩
    have I₄ := I₄.perm hR.perm.symm
    rw [← es₁]
    exact h _ I₄ (((T₁.trans T₂).trans (.of fun b o e => Heap.get?_push_of_some _ e)).trans TT) ⟨c, d, b, es, _, _, _, e, ge, ht₁⟩
  obtain ⟨c, d, b, es, e⟩ := x
  obtain ⟨vs, sl, hx, ⟨t, ht, tb, ne⟩, r⟩ := I.obj _ e
  unfold noteFrame
  simp only [hf]
  refine wpAny_bind (wpAny_field hx rfl ht ?_)
  rcases tb with rfl | ⟨T, oT, ts, rfl, hT, hc, hdt, hsz, hn⟩
  · rw [if_neg (by decide)]
    exact entry I (.refl _) rfl
  · rw [if_pos (show (Value.ref T != Value.none) = true from by simp)]
    refine wpAny_bind (wpAny_field hT hdt (x := ts[3]) (by simp [hsz]) ?_)
    split
    · exact wpAny_pure (h _ I (.refl _) ⟨c, d, b, es, vs, sl, T, e, hx, ht⟩)
    · refine wpAny_bind (wpAny_setField hT hdt hsz ?_)
      have ge := Heap.get?_update_self (Obj.mapFields (·.setIfInBounds 3 Value.none)) hT (Obj.isFreed_of_fields (Obj.data_mapFields hdt _))
      obtain ⟨I', TT⟩ := I.tback hT hc hdt hn (Heap.SameBut.update ..) ge ((Obj.cls_mapFields _ _).trans hc) (Obj.data_mapFields hdt _) (by simpa using hsz)
      exact entry (s₁ := { s with heap := s.heap.update T (Obj.mapFields (·.setIfInBounds 3 Value.none)) }) I' TT rfl
end
theorem setH_of {a : Addr} {o o' : AObj} : ∀ {H : AH}, (a, o) ∈ H → ∃ H', SetH a o o' H H'
  | [], h => nomatch h
  | p :: H, h => by
    rcases List.mem_cons.mp h with q | q
    · subst q; exact ⟨_, .head⟩
    · obtain ⟨R, x⟩ := setH_of (o' := o') q; exact ⟨_, .tail x⟩
theorem SetH.there {a : Addr} {o o' : AObj} : ∀ {H H'}, SetH a o o' H H' → InH a o' H'
  | _, _, .head => .head
  | _, _, .tail r => .tail r.there
theorem Inv0.unflag {C : Cx} {fr : Frs} {H H' : AH} {h : Heap} {a cl : Addr} {dd b es} (J : Inv0 C fr H' h) (e : SetH a (.exc cl dd b es) (.exc cl dd true es) H H') : Inv0 C fr H h := by
  obtain ⟨R, s, s'⟩ := e.sel
  have J := J.perm s'.perm
  refine Inv0.perm (H := (a, .exc cl dd b es) :: R) ⟨J.base, J.kp, J.frames, fun p hp => ?_, J.newH, J.newF, J.nodup, J.feet, J.frok⟩ s.perm.symm
  rcases List.mem_cons.mp hp with rfl | hp
  · obtain ⟨vs, sl, ho, ⟨t, ht, tb, ne⟩, od⟩ := J.obj _ (.head _)
    exact ⟨vs, sl, ho, ⟨t, ht, tb, fun _ => ne rfl⟩, od⟩
  · exact J.obj p (.tail _ hp)
end Mine
end
section
open PySem PySem.W PySem.Calls PyProof.Rows
set_option maxRecDepth 100000
set_option autoImplicit false
namespace Mine

noncomputable def PC (C : Cx) (fr : Frs) (s₀ : Shared) (k : AV → AH → Prop) (v : Value) (s' : Shared) : Prop := ∃ av H', Inv0 C fr H' s'.heap ∧ SL s₀ s' ∧ VR s'.heap v av ∧ k av H'
noncomputable def PCX (C : Cx) (fr : Frs) (s₀ : Shared) (X : Addr → AH → Prop) (v : Value) (s' : Shared) : Prop := ∃ a H', v = .ref a ∧ Inv0 C fr H' s'.heap ∧ SL s₀ s' ∧ IsX H' a ∧ X a H'
noncomputable def PCR (C : Cx) (fr : Frs) (s₀ : Shared) (k : AV → AH → Prop) (X : Addr → AH → Prop) : Result → Shared → Prop
  | .ok (.ret v), s' => PC C fr s₀ k v s'
  | .ok _, _ => False
  | .error e, s' => PCX C fr s₀ X e s'
structure CC (G : Gl) (d : Nat) (hd : Option Addr) (f : Value) (xs : List AV) (H : AH) (k : AV → AH → Prop) (X : Addr → AH → Prop) : Prop where
  run : ∀ C A fr s vs, Ok G C A (fr.map (·.1)) d → Inv0 C fr H s.heap → VRs s.heap vs xs → codeAny (model G.P C.w) (arnd A hd) (.call f ⟨vs, []⟩) (PCR C fr s k X) s


theorem VRs.length {h : Heap} : ∀ {vs : List Value} {xs : List AV}, VRs h vs xs → vs.length = xs.length := by
  intro vs xs V
  induction vs generalizing xs with
  | nil => cases V; rfl
  | cons v vs ih =>
    cases V with
    | cons _ r => exact congrArg (· + 1) (ih r)
theorem VRs.append {h : Heap} : ∀ {vs ws : List Value} {xs ys : List AV}, VRs h vs xs → VRs h ws ys → VRs h (vs ++ ws) (xs ++ ys) := by
  intro vs ws xs ys V r'
  induction vs generalizing xs with
  | nil => cases V; exact r'
  | cons v vs ih =>
    cases V with
    | cons V r => exact .cons V (ih r)

theorem lookup_none {β : Type} : ∀ {l : List (Str × β)} {x : Str}, (∀ p ∈ l, p.1 ≠ x) → l.lookup x = none
  | [], _, _ => rfl
  | (y, z) :: r, x, h => by
    have h1 : (x == y) = false := beq_eq_false_iff_ne.mpr fun q => h _ (.head _) q.symm
    rw [List.lookup_cons, h1]
    exact lookup_none fun p hp => h p (.tail _ hp)
theorem lookup_rev_none {β : Type} {ns : List Str} {vs : List β} {x : Str} (h : x ∉ ns) : (ns.zip vs).reverse.lookup x = none :=
  lookup_none fun p hp q => h (q ▸ (List.of_mem_zip (List.mem_reverse.mp hp)).1)
theorem LocR.zip {h : Heap} : ∀ {ns : List Str} {vs : List Value} {xs : List AV} {more : List Str}, VRs h vs xs → ns.Nodup → ns.length = vs.length → LocR h (fun x => (ns.zip vs).reverse.lookup x) (ns ++ more) (xs.map some)
  | [], _, _, more, .nil, _, _ => fun x av e => by
    cases more <;> cases e
  | [], _, _, _, .cons _ _, _, hl => by cases hl
  | _ :: _, _, _, _, .nil, _, hl => by cases hl
  | n :: ns, _, _, more, .cons (v := v) (x := a) (vs := vs) (xs := xs) V r, nd, hl => fun x av e => by
    have nd' := List.nodup_cons.mp nd
    have ih := LocR.zip (h := h) (more := more) r nd'.2 (Nat.succ.inj hl)
    show ∃ v', ((n, v) :: ns.zip vs).reverse.lookup x = some v' ∧ VR h v' av
    rw [List.reverse_cons, List.lookup_append]
    have e' : At x av (n :: (ns ++ more)) (some a :: xs.map some) := e
    cases e' with
    | head =>
      refine ⟨v, ?_, V⟩
      rw [lookup_rev_none nd'.1]
      simp [List.lookup]
    | tail e' =>
      obtain ⟨w, e1, e2⟩ := ih x av e'
      exact ⟨w, by dsimp only at e1; rw [e1]; rfl, e2⟩

theorem At.none_app {x : Str} {av : AV} : ∀ {ns : List Str} {os : List (Option AV)} {n : Nat}, At x av ns (os ++ List.replicate n none) → At x av ns os
  | _, [], 0, e => by simpa using e
  | _, [], n + 1, e => by
    cases e with
    | tail r => exact absurd (At.none_app (os := []) (n := n) r) (by intro q; cases q)
  | _, o :: os, n, e => by
    have e' : At x av _ (o :: (os ++ List.replicate n none)) := e
    cases e' with
    | head => exact .head
    | tail r => exact .tail r.none_app
theorem LocR.more {h : Heap} {m : Str → Option Value} {ns more : List Str} {os : List (Option AV)} (r : LocR h m (ns ++ more) os) : LocR h m (ns ++ more) (os ++ more.map (fun _ => none)) := fun x av e => r x av (by
  rw [List.map_const'] at e
  exact e.none_app)

noncomputable def Fl.val : Fl → AV
  | .next => .none
  | .ret v => v

theorem call_def {G : Gl} {d : Nat} {hd : Option Addr} {a : Addr} {fd : FuncData} {body : List Stmt} {F : Fn} {names : List Str} {dvs : List Value} {xs dxs : List AV} {H : AH} {k : AV → AH → Prop} {X : Addr → AH → Prop}
    (ho : ∀ P, ∃ oc od osl, (G.K P).lookup a = some ⟨oc, od, .func fd, osl⟩) (hcd : ∀ P, codeIn (G.K P) fd.code fd.qualname = true) (hF : ∀ L, callEnv fd L a = F.env L) (hbody : fd.body = .stmts body)
    (hb : ∀ P S (vs : List Value), vs.length = xs.length → peek (G.K P) S (bindArgs fd ⟨vs, []⟩) = some (names.zip (vs ++ dvs))) (hdv : ∀ P h, (G.K P).In h → VRs h dvs dxs) (hwf : F.wf = true) {more : List Str} (hns : F.names = names ++ more) (hlen : names.length = (xs ++ dxs).length)
    (hcell : (fd.scope.names.all fun x => x.2 != .cell) = true)
    (hco : fd.scope.isCoroutine = false) (hgen : fd.scope.isGenerator = false) (hk : fd.scope.kind = .function)
    {loc : List (Option AV)} (hl : (xs ++ dxs).map some ++ more.map (fun _ => none) = loc) (h : HSs G F d hd body ⟨loc, H⟩ (fun fl σ => k fl.val σ.H) (fun a σ => X a σ.H)) : CC G (d + 1) hd (.ref a) xs H k X := by
  refine ⟨?_⟩
  intro C A fr s vs ok I V
  obtain ⟨oc, od, osl, hlk⟩ := ho C.w.params
  have X0 := ok.K.keeps I.base
  refine codeAny_call_def (o := ⟨oc, od, .func fd, osl⟩) (by have := ok.depth; show A.depth < recursionLimit; unfold recursionLimit; omega) (X0 _ _ hlk) rfl (ok.nolimit.keeps I.base) (codeRec_of X0 (hcd _)) hbody (kp_binds X0 fun S => hb _ S vs V.length)
    (fun x hx q => by have := List.all_eq_true.mp hcell x hx; rw [q] at this; exact absurd this (by decide)) (fun x hx => ?_) (fun h₀ hn hkeep => ?_) hco hgen hk
  · have : x.1 ∈ names := (List.of_mem_zip hx).1
    have e : fd.scope = F.scope := congrArg Env.scope (hF 0)
    rw [e]
    exact ((Fn.WF.of hwf).loc x.1 (hns ▸ List.mem_append_left _ this)).1
  · rw [hF]
    have kk : (callEnv fd s.heap.objs.size a).scope.kind = .function := hk
    rw [hF] at kk
    have kL : (callEnv fd s.heap.objs.size a).locals = s.heap.objs.size := rfl
    rw [hF] at kL
    have kf : (callEnv fd s.heap.objs.size a).frame = some (callEnv fd s.heap.objs.size a).locals := rfl
    rw [hF] at kf
    have T : TL s.heap h₀ := .of hkeep
    have I' : Inv0 C ((F.env s.heap.objs.size, fun x => (names.zip (vs ++ dvs)).reverse.lookup x) :: fr) H h₀ := I.enter hkeep (by rw [kL]; exact Heap.get?_none_of_le (Nat.le_refl _)) kk ⟨_, _, own_cons kf, kf⟩ (by rw [kL]; exact hn)
    have ok' : Ok G C (A.deeper (F.env s.heap.objs.size)) (F.env s.heap.objs.size :: fr.map (·.1)) d := ⟨ok.P, ok.K, by show A.frames.map _ = _; rw [ok.frames, own_cons kf]; rfl, by have := ok.depth; show A.depth + 1 + d ≤ 990; omega, by have := ok.units; show A.units + 3 + 20 * d ≤ 9800; omega, ok.nolimit, ok.sm⟩
    have S0 : SL s { s with heap := h₀, toks := s.toks + (names.zip (vs ++ dvs)).length } := ⟨T, rfl, rfl⟩
    refine wpAny_mono (h.run C (A.deeper (F.env s.heap.objs.size)) s.heap.objs.size fr { s with heap := h₀, toks := s.toks + (names.zip (vs ++ dvs)).length } ok' ⟨_, I', hl ▸ hns ▸ LocR.more (LocR.zip ((V.mono T).append (hdv _ _ (X0.keeps hkeep))) (List.nodup_append.mp (hns ▸ (Fn.WF.of hwf).nodup)).1 (by rw [hlen, List.length_append, List.length_append, V.length, (hdv _ _ (X0.keeps hkeep)).length])), Fn.WF.of hwf⟩) (fun f s' p => ?_) fun e s' p => ?_
    · obtain ⟨g, σ', ⟨m, J, _⟩, S, FR, z⟩ := p
      show PC C fr s k _ s'
      cases f <;> cases g <;> first | exact FR.elim | skip
      · exact ⟨.none, σ'.H, J.leave, S0.trans S, .none, z⟩
      · exact ⟨_, σ'.H, J.leave, S0.trans S, FR, z⟩
    · obtain ⟨x, σ', rfl, ⟨m, J, _⟩, S, hx, z⟩ := p
      unfold leaving
      refine wpAny_bind (note J hx ok'.frames fun h₁ J₁ T₁ n₁ => ?_)
      refine flight J₁ n₁.x fun h₂ J₂ T₂ n₂ => ?_
      exact ⟨x, σ'.H, rfl, J₂.leave, (S0.trans S).trans ⟨T₁.trans T₂, rfl, rfl⟩, hx, z⟩

section
variable {G : Gl} {F : Fn} {d : Nat} {hd : Option Addr} {X : Addr → St → Prop} {σ : St}

noncomputable abbrev kH (l : List (Option AV)) (k : AV → St → Prop) : AV → AH → Prop := fun v H => k v ⟨l, H⟩
noncomputable abbrev xH (l : List (Option AV)) (X : Addr → St → Prop) : Addr → AH → Prop := fun a H => X a ⟨l, H⟩
theorem o_call {f : Value} {xs : List AV} {k : AV → St → Prop} (h : CC G d hd f xs σ.H (kH σ.loc k) (xH σ.loc X)) : HO G F d hd (fun vs => call f vs) xs σ k X := by
  refine ⟨?_⟩
  intro C A L fr s vs ok I V
  obtain ⟨m, I0, lr, nd⟩ := I
  refine wpAny_call (codeAny_mono (h.run C A ((F.env L, m) :: fr) s vs ok I0 V) fun r s' z => ?_)
  rcases r with e | (_ | _ | _ | v)
  · obtain ⟨a, H', e1, e2, e3, e4, e5⟩ := z; exact ⟨a, ⟨σ.loc, H'⟩, e1, ⟨m, e2, lr.mono e3.1, nd⟩, e3, e4, e5⟩
  · exact z
  · exact z
  · exact z
  · obtain ⟨a, H', e2, e3, e4, e5⟩ := z; exact ⟨a, ⟨σ.loc, H'⟩, ⟨m, e2, lr.mono e3.1, nd⟩, e3, e4, e5⟩

structure HEs (G : Gl) (F : Fn) (d : Nat) (hd : Option Addr) (es : List Expr) (σ : St) (k : List AV → St → Prop) (X : Addr → St → Prop) : Prop where
  run : ∀ C A L fr s pos, Ok G C A (F.env L :: fr.map (·.1)) d → InvF C F L fr σ s.heap → wpAny (model G.P C.w) (arnd A hd) (spliced (backTo pos (starEach es (F.env L)))) (fun vs s' => ∃ xs σ', InvF C F L fr σ' s'.heap ∧ SL s s' ∧ VRs s'.heap vs xs ∧ k xs σ') (PX C F L fr s X) s
noncomputable abbrev kEsb (a : AV) (k : List AV → St → Prop) : List AV → St → Prop := fun xs σ₁ => k (a :: xs) σ₁
noncomputable abbrev kEs (G : Gl) (F : Fn) (d : Nat) (hd : Option Addr) (X : Addr → St → Prop) (es : List Expr) (k : List AV → St → Prop) : AV → St → Prop := fun a σ₁ => HEs G F d hd es σ₁ (kEsb a k) X
noncomputable abbrev kCa (G : Gl) (F : Fn) (d : Nat) (hd : Option Addr) (X : Addr → St → Prop) (f : Value) (k : AV → St → Prop) : List AV → St → Prop := fun xs σ₁ => HO G F d hd (fun vs => call f vs) xs σ₁ k X
noncomputable abbrev kCm (G : Gl) (F : Fn) (d : Nat) (hd : Option Addr) (X : Addr → St → Prop) (f : Value) (x : AV) (k : AV → St → Prop) : List AV → St → Prop := fun xs σ₁ => HO G F d hd (fun vs => call f vs) (x :: xs) σ₁ k X
theorem es_nil {k : List AV → St → Prop} (h : k [] σ) : HEs G F d hd [] σ k X := ⟨fun _ _ _ _ s _ _ I => spliced_nil ⟨_, _, I, .refl s, .nil, h⟩⟩
theorem es_cons {e : Expr} {es : List Expr} {k : List AV → St → Prop} (h : HE G F d hd e σ (kEs G F d hd X es k) X)
    (he : ∀ env, starEach (e :: es) env = (false, eval e env) :: starEach es env := by intros; with_unfolding_all rfl) : HEs G F d hd (e :: es) σ k X := by
  refine ⟨?_⟩
  intro C A L fr s pos ok I
  rw [he]
  refine spliced_cons (wpAny_mono (h.run C A L fr s ok I) (fun v₁ s₁ p₁ => ?_) fun _ _ e => e)
  obtain ⟨a, σ₁, I₁, S₁, V₁, h₁⟩ := p₁
  refine wpAny_mono (h₁.run C A L fr s₁ pos ok I₁) (fun v₂ s₂ p₂ => ?_) fun _ _ e => e.trans S₁
  obtain ⟨xs, σ₂, I₂, S₂, V₂, h₂⟩ := p₂
  exact ⟨_, _, I₂, S₁.trans S₂, .cons (V₁.mono S₂.1) V₂, h₂⟩

noncomputable def keepOk (G : Gl) (f : Value) : Prop := (∃ id, f = .builtin id) ∨ (∃ T, f = .type T) ∨ ∀ P, keepIn (G.K P) f = true
theorem evalArgs_all {M : Model} {A : Around} {E : Value → Shared → Prop} {s : Shared} {f : Value} {args : List (Bool × Sem Value)} {Q : Args → Shared → Prop} (hp : args.any (·.1) = false)
    (h : wpAny M A (spliced args) (fun vs s' => Q ⟨vs, []⟩ s') E s) : wpAny M A (evalArgs f true args []) Q E s := by
  cases args with
  | nil =>
    unfold evalArgs
    show wpAny M A (spliced [] >>= _) Q E s
    refine wpAny_bind (wpAny_mono h (fun vs s' h' => wpAny_bind (wpAny_pure ?_)) fun _ _ x => x)
    refine wpAny_holding ?_
    exact wpAny_bind (wpAny_pure (wpAny_bind (wpAny_pure (wpAny_pure h'))))
  | cons x r =>
    obtain ⟨b, x⟩ := x
    have : b = false := by
      simp only [List.any_cons, Bool.or_eq_false_iff] at hp
      exact hp.1
    subst this
    exact evalArgs_plain h
theorem back_any (pos : Pos) : ∀ l : List (Bool × Sem Value), (backTo pos l).any (·.1) = l.any (·.1)
  | [] => rfl
  | (b, x) :: r => by
    show (b || (backTo pos r).any (·.1)) = (b || r.any (·.1))
    rw [back_any pos r]
theorem cw {M : Model} {A : Around} {E : Value → Shared → Prop} {s : Shared} {f : Value} {w : World} {first : List Value} {args : List (Bool × Sem Value)} {pos : Pos} {Q : Value → Shared → Prop} (hk : keepOk G f) (hp : args.any (·.1) = false)
    (h : wpAny M A (spliced (backTo pos args)) (fun vs s₁ => (G.K w.params).In s₁.heap ∧ wpAny M A (call f (first ++ vs)) Q E s₁) E s) : wpAny M A (callWith pos f first (backTo pos args) []) Q E s := by
  have hp' : (backTo pos args).any (·.1) = false := (back_any pos args).trans hp
  refine callWith_of (P := fun h => (G.K w.params).In h) (by rw [hp']; rfl) (fun h X => ?_) (evalArgs_all hp' h)
  rcases hk with ⟨id, rfl⟩ | ⟨T, rfl⟩ | hk
  · exact ⟨.machine, .inr (.inl rfl), Looks.of_pure rfl⟩
  · exact ⟨.machine, .inr (.inl rfl), Looks.of_pure rfl⟩
  · exact keeps_K (hk _) h X

noncomputable def val? : AV → Option Value
  | .ref a => some (.ref a)
  | .typ n => some (.type n)
  | .bi i => some (.builtin i)
  | _ => none
theorem VR.val {h : Heap} {v : Value} {x : AV} {f : Value} (V : VR h v x) (e : val? x = some f) : v = f := by
  cases V <;> cases e <;> rfl

theorem e_call {func : Expr} {es : List Expr} {pos : Pos} {k : AV → St → Prop} (h : HE G F d hd func σ (fun fv σ₁ => ∃ f, val? fv = some f ∧ keepOk G f ∧ HEs G F d hd es σ₁ (kCa G F d hd X f k) X) X)
    (hp : ∀ env, (starEach es env).any (·.1) = false := by intros; with_unfolding_all rfl)
    (hf : ∀ env, eval (.Call func es [] pos) env = (do callWith pos (← eval func env) [] (backTo pos (starEach es env)) (backToKw pos (keywordEach [] env))) := by intros; with_unfolding_all rfl) : HE G F d hd (.Call func es [] pos) σ k X := by
  refine ⟨?_⟩
  intro C A L fr s ok I
  rw [hf]
  refine wpAny_bind (wpAny_mono (h.run C A L fr s ok I) (fun v₁ s₁ p₁ => ?_) fun _ _ e => e)
  obtain ⟨a, σ₁, I₁, S₁, V₁, f, hv, hk, h₁⟩ := p₁
  rw [V₁.val hv]
  show wpAny _ _ (callWith pos f [] (backTo pos (starEach es (F.env L))) []) _ _ _
  refine cw (w := C.w) hk (hp _) (wpAny_mono (h₁.run C A L fr s₁ pos ok I₁) (fun vs s₂ p₂ => ?_) fun _ _ e => e.trans S₁)
  obtain ⟨xs, σ₂, I₂, S₂, V₂, h₂⟩ := p₂
  exact ⟨I₂.K ok, wpAny_mono (h₂.run C A L fr s₂ vs ok I₂ V₂) (fun _ _ p => p.trans (S₁.trans S₂)) fun _ _ e => e.trans (S₁.trans S₂)⟩

structure GM (G : Gl) (F : Fn) (d : Nat) (name : Str) (x : AV) (f : Value) (σ : St) : Prop where
  run : ∀ C A L fr s v pl A' (Q : Value × List Value → Shared → Prop) E, Ok G C A (F.env L :: fr.map (·.1)) d → InvF C F L fr σ s.heap → VR s.heap v x → Q (f, [v]) s → wpAny (model G.P C.w) A' (getMethod v name pl) Q E s
noncomputable abbrev kMe (G : Gl) (F : Fn) (d : Nat) (hd : Option Addr) (X : Addr → St → Prop) (name : Str) (es : List Expr) (k : AV → St → Prop) : AV → St → Prop := fun x σ₁ => ∃ f, GM G F d name x f σ₁ ∧ keepOk G f ∧ HEs G F d hd es σ₁ (kCm G F d hd X f x k) X
theorem e_meth {o : Expr} {name : Str} {es : List Expr} {apos pos : Pos} {k : AV → St → Prop}
    (h : HE G F d hd o σ (kMe G F d hd X name es k) X)
    (hp : ∀ env, (starEach es env).any (·.1) = false := by intros; with_unfolding_all rfl) (hbase : ∀ env, attributeBase o name env (eval o env) = eval o env := by intros; with_unfolding_all rfl) (hline : (apos.endLine == pos.line) = true := by with_unfolding_all rfl) (hn : es.length < 29 := by with_unfolding_all decide) :
    HE G F d hd (.Call (.Attribute o name apos) es [] pos) σ k X := by
  refine ⟨?_⟩
  intro C A L fr s ok I
  rw [arm_eval_Call, hbase]
  refine wpAny_bind (wpAny_mono (h.run C A L fr s ok I) (fun v₁ s₁ p₁ => ?_) fun _ _ e => e)
  obtain ⟨x, σ₁, I₁, S₁, V₁, f, hg, hk, h₁⟩ := p₁
  refine wpAny_bind (wpAny_standAt ?_)
  have hform : methodCallForm (es.length + ([] : List Keyword).length) (backTo pos (starEach es (F.env L))) (backToKw pos (keywordEach [] (F.env L))) = true := by
    have e1 : (backTo pos (starEach es (F.env L))).all (fun x => !x.1) = true := by
      have := (back_any pos (starEach es (F.env L))).trans (hp _)
      rw [List.all_eq_not_any_not]
      simp only [Bool.not_not, this, Bool.not_false]
    unfold methodCallForm
    rw [e1]
    show (true && true && decide (es.length + 0 + 0 < 30)) = true
    have : es.length + 0 + 0 < 30 := by omega
    simp only [this, decide_true, Bool.and_self]
  have hpos : methodCallPos true o (F.env L) apos pos = pure pos := by unfold methodCallPos; simp [hline]
  unfold methodCall
  rw [hform]
  refine wpAny_bind (wpAny_holding (hg.run C A L fr s₁ v₁ _ _ _ _ ok I₁ V₁ ?_))
  refine wpAny_bind (wpAny_of_eq hpos ?_)
  show wpAny _ _ (callWith pos f [v₁] (backTo pos (starEach es (F.env L))) []) _ _ _
  refine cw (w := C.w) hk (hp _) (wpAny_mono (h₁.run C A L fr s₁ pos ok I₁) (fun vs s₂ p₂ => ?_) fun _ _ e => e.trans S₁)
  obtain ⟨xs, σ₂, I₂, S₂, V₂, h₂⟩ := p₂
  exact ⟨I₂.K ok, wpAny_mono (h₂.run C A L fr s₂ (v₁ :: vs) ok I₂ (.cons (V₁.mono S₂.1) V₂)) (fun _ _ p => p.trans (S₁.trans S₂)) fun _ _ e => e.trans (S₁.trans S₂)⟩

end
end Mine
end
section
open PySem PySem.W PySem.Calls PyProof.Rows
set_option maxRecDepth 100000
set_option autoImplicit false
namespace Mine

noncomputable def attrOk (K : Frag) (C : Addr) (name : Str) : Bool := plainGet K C name && hasDictIn K C && (match findIn K (.ref C) name with | some attr => noGet K attr | none => false)
noncomputable def setOk (K : Frag) (C : Addr) (name : Str) : Bool := findIn K (.ref C) "__setattr__" == some (some (.builtin "object.__setattr__")) && plainOver K C && takerIn K C name == some none && hasDictIn K C
noncomputable def methOk (K : Frag) (C : Addr) (name : Str) (f : Addr) : Bool := plainGet K C name && findIn K (.ref C) name == some (some (.ref f)) && typeIn K (.ref f) == some (.type "function")

inductive GetE (x : Str) (av : AV) : List (Str × AV) → Prop
  | head {es} : GetE x av ((x, av) :: es)
  | tail {y w es} : y ≠ x → GetE x av es → GetE x av ((y, w) :: es)
inductive NoE (x : Str) : List (Str × AV) → Prop
  | nil : NoE x []
  | cons {y w es} : y ≠ x → NoE x es → NoE x ((y, w) :: es)
inductive PutE (x : Str) (av : AV) : List (Str × AV) → List (Str × AV) → Prop
  | nil : PutE x av [] [(x, av)]
  | head {w es} : PutE x av ((x, w) :: es) ((x, av) :: es)
  | tail {y w es es'} : y ≠ x → PutE x av es es' → PutE x av ((y, w) :: es) ((y, w) :: es')
theorem getL_cons {P : Params} {k x : Str} {t : Tok} {v : Value} (l : List DictEntry) : getL x (⟨PyData.keyHash P k, .str k t, v⟩ :: l) = if k = x then some (some v) else getL x l := by
  unfold getL
  by_cases q : k = x
  · subst q
    simp [List.find?, Value.isStr]
  · have : Value.isStr (.str k t) x = false := by simp [Value.isStr, q]
    have e2 : DictEntry.refKey ⟨PyData.keyHash P k, .str k t, v⟩ = false := rfl
    simp [this, q, e2]
theorem DRs.getE {P : Params} {h : Heap} {x : Str} {av : AV} : ∀ {ds : List DictEntry} {es : List (Str × AV)}, DRs P h ds es → GetE x av es → ∃ v, getL x ds = some (some v) ∧ VR h v av := by
  intro ds es h
  induction h with
  | nil => intro g; cases g
  | cons V _ ih =>
    intro g
    cases g with
    | head => exact ⟨_, by rw [getL_cons, if_pos rfl], V⟩
    | tail n g =>
      obtain ⟨w, e, W⟩ := ih g
      exact ⟨w, by rw [getL_cons, if_neg n]; exact e, W⟩
theorem DRs.noE {P : Params} {h : Heap} {x : Str} : ∀ {ds : List DictEntry} {es : List (Str × AV)}, DRs P h ds es → NoE x es → getL x ds = some none := by
  intro ds es h
  induction h with
  | nil => intro _; rfl
  | cons V _ ih =>
    intro g
    cases g with
    | cons n g => rw [getL_cons, if_neg n]; exact ih g
theorem DRs.putE {P : Params} {h : Heap} {x : Str} {t : Tok} {v : Value} {av : AV} (V : VR h v av) {es es' : List (Str × AV)} (g : PutE x av es es') : ∀ {ds : List DictEntry}, DRs P h ds es → DRs P h (putL x (PyData.keyHash P x) (.str x t) v ds) es' := by
  induction g with
  | nil => intro ds r; cases r; exact .cons V .nil
  | head =>
    intro ds r
    cases r with
    | cons W r =>
      unfold putL
      rw [if_pos (by simp [Value.isStr])]
      exact .cons V r
  | tail n g ih =>
    intro ds r
    cases r with
    | cons W r =>
      unfold putL
      have : ∀ t' : Tok, Value.isStr (.str _ t') x = false := fun t' => by simp only [Value.isStr]; exact beq_eq_false_iff_ne.mpr n
      simp only [this, Bool.false_eq_true, if_false]
      exact .cons W (ih r)
theorem DRs.length {P : Params} {h : Heap} : ∀ {ds : List DictEntry} {es : List (Str × AV)}, DRs P h ds es → ds.length = es.length
  | _, _, .nil => rfl
  | _, _, .cons _ r => congrArg (· + 1) r.length
theorem instAt {C : Cx} {fr : Frs} {H : AH} {h : Heap} {x cl d : Addr} {es : List (Str × AV)} (I : Inv0 C fr H h) (e : (x, AObj.inst cl d es) ∈ H) : ∃ ds n, W.InstAt h x (instObj cl d) cl (some (dictOf ds n)) ∧ h.get? d = some (dictOf ds n) ∧ DRs C.w.params h ds es := by
  obtain ⟨ds, n, hx, hn, r⟩ := I.obj _ e
  exact ⟨ds, n, ⟨hx, rfl, rfl, hn⟩, hn, r⟩

section
variable {G : Gl} {F : Fn} {d : Nat} {hd : Option Addr} {X : Addr → St → Prop} {σ : St}

theorem DRs.strs {P : Params} {h : Heap} : ∀ {ds : List DictEntry} {es : List (Str × AV)}, DRs P h ds es → ds.any (·.refKey) = false
  | _, _, .nil => rfl
  | _, _, .cons _ r => by rw [List.any_cons, r.strs]; rfl
theorem ns_set {M : Program} {w : World} {A : Around} {E : Value → Shared → Prop} {s : Shared} {dd : Addr} {name : Str} {v : Value} {ds : List DictEntry} {n : Nat} {Q : Unit → Shared → Prop} (hn : s.heap.get? dd = some (dictOf ds n)) (hk : ds.any (·.refKey) = false)
    (h : ∀ h' t, Heap.SameBut dd s.heap h' → h'.get? dd = some (dictOf (putL name (PyData.keyHash w.params name) (.str name t) v ds) (putN name ds n)) → Q () { s with heap := h', toks := s.toks + 1 }) : wpAny (model M w) A (nsSet dd name v) Q E s := by
  unfold nsSet
  refine wpAny_bind (wpAny_bind (wpAny_askSetting (wpAny_pure (wpAny_bind (wpAny_mkText (wpAny_bind (wpAny_loadPart hn ?_)))))))
  dsimp only
  have c : (!ds.toArray.any (·.key.isStr name) && ds.toArray.any (·.refKey)) = false := by
    rw [← Array.any_toList, ← Array.any_toList]
    rw [show ds.toArray.toList = ds from rfl, hk, Bool.and_false]
  rw [aRefKeyMayBeTheName_at, c]
  refine wpAny_updatePart hn ?_
  refine h _ s.toks (Heap.SameBut.update ..) ?_
  have e := putName_dict name (PyData.keyHash w.params name) (.str name s.toks) v ds n
  exact (Heap.get?_update_self _ hn ((congrArg Obj.isFreed e).trans rfl)).trans (congrArg some e)

theorem VR.handed {h : Heap} {v : Value} {x : AV} (V : VR h v x) (n : ∀ i, x ≠ .bi i) : handedIn v = true := by
  cases V <;> first | rfl | exact absurd rfl (n _)

theorem o_attr {x cl dd : Addr} {es : List (Str × AV)} {name : Str} {av : AV} {b : Bool} {k : AV → St → Prop} (hx : InH x (.inst cl dd es) σ.H) (he : GetE name av es) (ha : ∀ P, attrOk (G.K P) cl name = true) (hb : ∀ i, av ≠ .bi i) (h : k av σ) :
    HO G F d hd (op1 fun v => getAttr v name b) [.ref x] σ k X := by
  refine ⟨?_⟩
  intro C A L fr s vs ok I V
  obtain ⟨m, I0, lr⟩ := I
  cases V with
  | cons v r =>
    cases r
    have hv := v.val (f := .ref x) rfl
    subst hv
    obtain ⟨ds, n, IA, hn, r⟩ := instAt I0 hx.mem
    obtain ⟨w, hw, VW⟩ := r.getE he
    have X0 := ok.K.keeps I0.base
    have q := ha C.w.params
    unfold attrOk at q
    simp only [Bool.and_eq_true] at q
    obtain ⟨⟨q1, q2⟩, q3⟩ := q
    split at q3
    · rename_i attr hattr
      refine get_value X0 IA (plainGet_of q1).1 (findObj_own q2 hattr q3 hw) (VW.handed hb) ?_
      exact ⟨av, σ, ⟨m, I0, lr⟩, .toks s _, VW, h⟩
    · cases q3

theorem gm_inst {x cl dd f : Addr} {es : List (Str × AV)} {name : Str} (hx : InH x (.inst cl dd es) σ.H) (he : NoE name es) (hm : ∀ P, methOk (G.K P) cl name f = true) : GM G F d name (.ref x) (.ref f) σ := by
  refine ⟨?_⟩
  intro C A L fr s v pl A' Q E ok I V q
  obtain ⟨m, I0, lr⟩ := I
  have hv := V.val (f := .ref x) rfl
  subst hv
  obtain ⟨ds, n, IA, hn, r⟩ := instAt I0 hx.mem
  have X0 := ok.K.keeps I0.base
  have z := hm C.w.params
  unfold methOk at z
  simp only [Bool.and_eq_true, beq_iff_eq] at z
  exact method_fn X0 IA (plainGet_of z.1.1).1 (plainGet_of z.1.1).2 z.1.2 z.2 (by show (getL name ds).map _ = _; rw [r.noE he]; rfl) q

theorem set_inst {C : Cx} {A : Around} {fr : Frs} {s : Shared} {H : AH} {x cl dd : Addr} {es : List (Str × AV)} {name : Str} {av : AV} {v : Value} {Q : Unit → Shared → Prop} {E : Value → Shared → Prop} {envs : List Env} (ok : Ok G C A envs d) (I : Inv0 C fr H s.heap) {es' : List (Str × AV)} {H' : AH} (hp : PutE name av es es') (hx : SetH x (.inst cl dd es) (.inst cl dd es') H H') (ha : ∀ P, setOk (G.K P) cl name = true) (hz : es'.length ≤ 1000) (V : VR s.heap v av)
    (h : ∀ s', Inv0 C fr H' s'.heap → SL s s' → Q () s') : wpAny (model G.P C.w) (arnd A hd) (setAttr (.ref x) name v) Q E s := by
  obtain ⟨ds, n, IA, hn, r⟩ := instAt I hx.inH.mem
  have X0 := ok.K.keeps I.base
  have z := ha C.w.params
  unfold setOk at z
  simp only [Bool.and_eq_true, beq_iff_eq] at z
  obtain ⟨⟨⟨z1, z2⟩, z3⟩, z4⟩ := z
  refine set_plain X0 IA z1 (osa_open (s := { s with toks := s.toks + 1 }) X0 IA z2 z3 fun b => ?_)
  obtain ⟨cd, hc, hd'⟩ := any_some z4
  have hxo := IA.at_
  refine wpAny_bind (wpAny_pure (wpAny_bind (wpAny_bind (wpAny_loadPart hxo (wpAny_bind (looks_clsIn X0 hc _ _ _ _ (fun _ _ e => e) ?_))))))
  rw [hd']
  refine wpAny_pure (a := some dd) (wpAny_bind (wpAny_pure (wpAny_bind ?_)))
  have ht : ∀ vs n, s.heap.get? dd ≠ some (tupObj vs n) := fun vs n e => by rw [hn] at e; simp at e
  have ne : x ≠ dd := by
    obtain ⟨R, sl, _⟩ := hx.sel
    have := (List.nodup_append.mp (I.perm sl.perm).feet).1
    simp only [AObj.foot, List.nodup_cons, List.mem_singleton] at this
    exact this.1
  refine ns_set (w := C.w) (s := { s with toks := s.toks + 1 }) hn (r.strs) fun h' t hs' hg' => ?_
  have T : TL s.heap h' := .turn hs' ht
  have r' := DRs.putE (t := t) (V.mono T) hp (r.mono T)
  refine wpAny_bind (wpAny_lookBehind hg' (pastItsLine_dict (by rw [List.size_toArray, r'.length, sizeLine_eq]; omega)) ?_)
  refine wpAny_pure ?_
  exact h _ (I.turnH (o' := .inst cl dd es') hx (x := dd) (by simp [AObj.foot]) rfl hs' ht (fun oT ts e _ q => by rw [hn] at e; cases e; cases q) ⟨_, _, (hs'.2 x ne).trans hxo, hg', r'⟩) ⟨T, rfl, rfl⟩

theorem s_setattr {o e : Expr} {name : Str} {ap pos : Pos} {k : Fl → St → Prop}
    (h : HE G F d hd e σ (fun v σ₁ => HE G F d hd o σ₁ (fun ov σ₂ => ∃ x cl dd es es' H', ov = .ref x ∧ SetH x (.inst cl dd es) (.inst cl dd es') σ₂.H H' ∧ PutE name v es es' ∧ (∀ P, setOk (G.K P) cl name = true) ∧ es'.length ≤ 1000 ∧ k .next ⟨σ₂.loc, H'⟩) X) X)
    (hs : ∀ env, swapsWith e (some (.Attribute o name ap)) pos.line env = pure false := by intros; with_unfolding_all rfl) : HS G F d hd (.Assign [.Attribute o name ap] e pos) σ k X := by
  refine ⟨?_⟩
  intro C A L fr s ok I
  refine plainObj_wpAny_Assign_Attribute (wpAny_mono (h.run C A L fr s ok I) (fun v s₁ p₁ => ?_) fun _ _ e => e) (hs _)
  obtain ⟨a, σ₁, I₁, S₁, V₁, h₁⟩ := p₁
  refine wpAny_mono (h₁.run C A L fr s₁ ok I₁) (fun ov s₂ p₂ => ?_) fun _ _ e => e.trans S₁
  obtain ⟨b, σ₂, I₂, S₂, V₂, x, cl, dd, es, es', H', rfl, hx, hp, hok, hz, h₂⟩ := p₂
  have hv := V₂.val (f := .ref x) rfl
  subst hv
  obtain ⟨m, I0, lr⟩ := I₂
  exact set_inst ok I0 hp hx hok hz (V₁.mono S₂.1) fun s' I' S' => ⟨.next, ⟨σ₂.loc, H'⟩, ⟨m, I', lr.1.mono S'.1, lr.2⟩, (S₁.trans S₂).trans S', trivial, h₂⟩

theorem e_attr {o : Expr} {name : Str} {pos : Pos} {k : AV → St → Prop} (h : HE G F d hd o σ (kO1 G F d hd X (fun v => getAttr v name true) k) X) (hbase : ∀ env, attributeBase o name env (eval o env) = eval o env := by intros; with_unfolding_all rfl) : HE G F d hd (.Attribute o name pos) σ k X := by
  refine ⟨?_⟩
  intro C A L fr s ok I
  show wpAny _ _ (do
    let o' ← attributeBase o name (F.env L) (eval o (F.env L))
    standAt pos.atName
    let r ← holding [o'] (getAttr o' name true)
    letTemporaryGo o o' r
    pure r) _ _ _
  rw [hbase]
  refine wpAny_bind (wpAny_mono (h.run C A L fr s ok I) (fun v₁ s₁ p₁ => ?_) fun _ _ e => e)
  obtain ⟨a, σ₁, I₁, S₁, V₁, h₁⟩ := p₁
  refine wpAny_bind (wpAny_standAt (wpAny_bind (wpAny_holding (wpAny_mono (h₁.run C A L fr s₁ [v₁] ok I₁ (.cons V₁ .nil)) (fun v₂ s₂ p₂ => ?_) fun _ _ e => e.trans S₁))))
  exact wpAny_bind (wpAny_letTemporaryGo (wpAny_pure (p₂.trans S₁)))

theorem s_augattr {o e : Expr} {name : Str} {op : Operator} {ap pos : Pos} {k : Fl → St → Prop}
    (h : HE G F d hd o σ (fun ov σ₁ => ∃ x cl dd es, ov = .ref x ∧ InH x (.inst cl dd es) σ₁.H ∧ (∀ P, setOk (G.K P) cl name = true) ∧ ∃ av, GetE name av es ∧ (∀ P, attrOk (G.K P) cl name = true) ∧ (∀ i, av ≠ .bi i) ∧
      HE G F d hd e σ₁ (fun v σ₂ => HO G F d hd (op2 (inplaceOp op)) [av, v] σ₂ (fun r σ₃ => ∃ es₃ es' H', SetH x (.inst cl dd es₃) (.inst cl dd es') σ₃.H H' ∧ PutE name r es₃ es' ∧ es'.length ≤ 1000 ∧ k .next ⟨σ₃.loc, H'⟩) X) X) X) : HS G F d hd (.AugAssign (.Attribute o name ap) op e pos) σ k X := by
  refine ⟨?_⟩
  intro C A L fr s ok I
  refine wpAny_AugAssign_AttributeAny (wpAny_mono (h.run C A L fr s ok I) (fun v₁ s₁ p₁ => ?_) fun _ _ e => e)
  obtain ⟨a, σ₁, I₁, S₁, V₁, x, cl, dd, es, rfl, hx, hset, av, hl, hat, hbi, h₁⟩ := p₁
  have hv := V₁.val (f := .ref x) rfl
  subst hv
  refine wpAny_mono ((o_attr (d := d) (hd := hd) (b := true) (k := fun a σ => a = av ∧ σ = σ₁) (X := X) hx hl hat hbi ⟨rfl, rfl⟩).run C A L fr s₁ [.ref x] ok I₁ (.cons (.ref x) .nil)) (fun old s₂ p₂ => ?_) fun _ _ e => e.trans S₁
  obtain ⟨_, _, I₂, S₂, V₂, rfl, rfl⟩ := p₂
  refine wpAny_mono (h₁.run C A L fr s₂ ok I₂) (fun v s₃ p₃ => ?_) fun _ _ e => e.trans (S₁.trans S₂)
  obtain ⟨b, σ₃, I₃, S₃, V₃, h₃⟩ := p₃
  refine wpAny_mono (h₃.run C A L fr s₃ [old, v] ok I₃ (.cons (V₂.mono S₃.1) (.cons V₃ .nil))) (fun r s₄ p₄ => ?_) fun _ _ e => e.trans ((S₁.trans S₂).trans S₃)
  obtain ⟨c, σ₄, I₄, S₄, V₄, es₃, es', H', hx₄, hp, hz, h₄⟩ := p₄
  obtain ⟨m, I0, lr⟩ := I₄
  exact set_inst ok I0 hp hx₄ hset hz V₄ fun s' I' S' => ⟨.next, ⟨σ₄.loc, H'⟩, ⟨m, I', lr.1.mono S'.1, lr.2⟩, (((S₁.trans S₂).trans S₃).trans S₄).trans S', trivial, h₄⟩
end
end Mine
end
section
open PySem PySem.W PySem.Calls PyProof.Rows
set_option maxRecDepth 100000
set_option autoImplicit false
namespace Mine

section
variable {G : Gl} {C : Cx} {F : Fn} {L : Addr} {fr : Frs} {A : Around} {d : Nat} {hd : Option Addr} {s s₀ : Shared} {X : Addr → St → Prop} {E : Value → Shared → Prop}

noncomputable def PXN (C : Cx) (F : Fn) (L : Addr) (fr : Frs) (s₀ : Shared) (X : Addr → St → Prop) (v : Value) (s' : Shared) : Prop := ∃ a σ', v = .ref a ∧ InvF C F L fr σ' s'.heap ∧ SL s₀ s' ∧ IsN σ'.H s'.heap a ∧ X a σ'
theorem PXN.x {v : Value} {s' : Shared} (p : PXN C F L fr s₀ X v s') : PX C F L fr s₀ X v s' := let ⟨a, σ, e, i, l, n, x⟩ := p; ⟨a, σ, e, i, l, n.x, x⟩
theorem px_note {v : Value} {hd' : Option Addr} (ok : Ok G C A (F.env L :: fr.map (·.1)) d) (p : PX C F L fr s₀ X v s) {Q : Unit → Shared → Prop} (h : ∀ s', PXN C F L fr s₀ X v s' → Q () s') : wpAny (model G.P C.w) (arnd A hd') (noteFrame v (F.env L)) Q E s := by
  obtain ⟨a, σ, rfl, ⟨m, I0, lr⟩, S, hx, x⟩ := p
  exact note I0 hx ok.frames fun h' I' T n => h _ ⟨a, σ, rfl, ⟨m, I', lr.1.mono T, lr.2⟩, S.trans ⟨T, rfl, rfl⟩, n, x⟩
theorem px_flight {M : Model} {v : Value} {f : Option Addr} {A : Around} (p : PXN C F L fr s₀ X v s) {Q : Unit → Shared → Prop} (h : ∀ s', PXN C F L fr s₀ X v s' → Q () s') : wpAny M A (setFlight v f) Q E s := by
  obtain ⟨a, σ, rfl, ⟨m, I0, lr⟩, S, hx, x⟩ := p
  exact flight I0 hx.x fun h' I' T n => h _ ⟨a, σ, rfl, ⟨m, I', lr.1.mono T, lr.2⟩, S.trans ⟨T, rfl, rfl⟩, n _ hx, x⟩
theorem px_back {M : Model} {A : Around} {v : Value} {env : Env} (p : PXN C F L fr s₀ X v s) (h : ∀ s', PXN C F L fr s₀ X v s' → E v s') : cameBackBy M A env E v s := by
  have p' := p
  obtain ⟨a, σ, rfl, ⟨m, I0, lr⟩, S, ⟨c, dd, b, es, vs, sl, T, q1, q2, q3⟩, x⟩ := p
  refine wpAny_bind (wpAny_field q2 rfl q3 ?_)
  rw [if_neg (by simp)]
  exact px_flight (Q := fun _ s'' => E (.ref a) s'') p' h
theorem px_pass {α : Type} {M : Model} {A : Around} {v : Value} {env : Env} {what : String} {Q : α → Shared → Prop} (p : PXN C F L fr s₀ X v s) (h : ∀ s', PXN C F L fr s₀ X v s' → E v s') : wpAny M A (PySem.passOn what v env) Q E s := by
  have p' := p
  obtain ⟨a, σ, rfl, ⟨m, I0, lr⟩, S, ⟨c, dd, b, es, vs, sl, T, q1, q2, q3⟩, x⟩ := p
  unfold PySem.passOn
  refine wpAny_bind (wpAny_field q2 rfl q3 ?_)
  rw [if_neg (by simp)]
  exact wpAny_bind (px_flight p' fun s' p => wpAny_throw (h s' p))
theorem px_noted {A' : Around} {hd' : Option Addr} {v : Value} (ok : Ok G C A (F.env L :: fr.map (·.1)) d) (p : PX C F L fr s₀ X v s) : notedBy (model G.P C.w) (arnd A hd') (F.env L) (cameBackBy (model G.P C.w) A' (F.env L) (PX C F L fr s₀ X)) v s :=
  px_note ok p fun _ p => px_back p fun _ p => p.x

theorem PX.mono' {X' : Addr → St → Prop} {v : Value} {s' : Shared} (f : ∀ a σ, X a σ → X' a σ) (p : PX C F L fr s₀ X v s') : PX C F L fr s₀ X' v s' := p.mono f

theorem name_goes {M : Model} {n : Str} {pos : Pos} {σ : St} {loc'} {A : Around} {Q : Unit → Shared → Prop} (I : InvF C F L fr σ s.heap) (p : PutAt n none F.names σ.loc loc')
    (h : ∀ s', InvF C F L fr ⟨loc', σ.H⟩ s'.heap → SL s s' → Q () s') : wpAny M A (do bindName (F.env L) n .none; unbindBehindTheSuite (F.env L) n pos) Q E s := by
  obtain ⟨m, I0, lr, nd⟩ := I
  have q := I0.frames _ (.head _)
  have hp : ((F.env L).scope.kind == .class || ((F.env L).scope.kind == .module && (F.env L).locals != (F.env L).globals)) = false := by
    show (F.scope.kind == .class || (F.scope.kind == .module && L != mainGlobals)) = false
    rw [show F.scope.kind = .function from q.1]; rfl
  have hk : (F.env L).kindOf n = some .local := (nd.loc _ p.mem).1
  obtain ⟨oL, es, ep, hL, hdd, _⟩ := q.2.2
  refine wpAny_bind (wpAny_bindName (wpAny_storeName_local hk q.2.2 (fun h₁ hn₁ hs₁ => ?_) hp))
  unfold unbindBehindTheSuite
  refine wpAny_onRaise ?_
  unfold unbindName
  refine wpAny_bind (wpAny_point (wpAny_bind ?_))
  unfold deleteName
  simp only [hk, hp]
  rw [if_neg (by decide)]
  refine wpAny_bind (wpAny_nsDel_keeps hn₁ fun h₂ v hn₂ hs₂ => ?_)
  simp only [if_true, Option.isSome_some, Bool.not_true, Bool.false_eq_true, if_false]
  refine wpAny_pure (wpAny_point ?_)
  have e : (fun x => if x = n then v else if x = n then some Value.none else m x) = fun x => if x = n then v else m x := by funext x; split <;> rfl
  rw [e] at hn₂
  have hs := hs₁.trans hs₂
  have T : TL s.heap h₂ := .turn hs fun vs n e => by rw [hL] at e; cases e; cases hdd
  exact h _ ⟨_, I0.store hn₂ hs, (lr.mono T).unput nd.nodup p, nd⟩ ⟨T, rfl, rfl⟩
end

noncomputable def excBm : List Value := [.type "Exception", .type "BaseException", .type "object"]
structure ExcC (G : Gl) (C N fI : Addr) : Prop where
  cls : ∀ P, ∃ nm q bs sn sub ab col dd k0 k1 k2 k3 k5, (G.K P).lookup C = some (excClassObj nm q C N bs excBm true sn sub ab col dd k0 k1 k2 k3 k5 "Exception.__new__")
  ns : ∀ P, nsOkIn (G.K P) N = true
  init : ∀ P, nsIn (G.K P) N "__init__" = some (some (.ref fI))
  fn : ∀ P, typeIn (G.K P) (.ref fI) = some (.type "function")

section
variable {G : Gl} {F : Fn} {d : Nat} {hd : Option Addr} {X : Addr → St → Prop} {σ : St}

theorem s_expr {e : Expr} {pos : Pos} {k : Fl → St → Prop} (h : HE G F d hd e σ (kNx k) X) (hs : ∀ env, swapsWith e none pos.line env = pure false := by intros; with_unfolding_all rfl) : HS G F d hd (.Expr e pos) σ k X := by
  refine ⟨?_⟩
  intro C A L fr s ok I
  have hi : interactive (F.env L) = false := by
    unfold interactive
    obtain ⟨m, I0, _⟩ := I
    have := (I0.frames _ (.head _)).1
    have hk : F.scope.kind = .function := this
    show (F.scope.kind == .module && _) = false
    rw [hk]; rfl
  refine wpAny_Expr_any (wpAny_mono (h.run C A L fr s ok I) (fun v s₁ p₁ => ?_) fun _ _ e => e) hi (hs _)
  obtain ⟨a, σ₁, I₁, S₁, V₁, h₁⟩ := p₁
  exact ⟨.next, σ₁, I₁, S₁, trivial, h₁⟩

theorem s_raise {e : Expr} {pos : Pos} {k : Fl → St → Prop} (h : HE G F d hd e σ (fun v σ₁ => ∃ a C N fI dd b es, v = .ref a ∧ InH a (.exc C dd b es) σ₁.H ∧ ExcC G C N fI ∧ (hd = none ∨ hd = some a) ∧ X a σ₁) X) : HS G F d hd (.Raise (some e) none pos) σ k X := by
  refine ⟨?_⟩
  intro C A L fr s ok I
  rw [arm_exec_Raise]
  refine wpAny_bind (wpAny_standAt ?_)
  show wpAny _ _ (raiseStmt (F.env L) (some (do let v ← eval e (F.env L); standAt pos; pure v)) none) _ _ _
  unfold raiseStmt
  refine wpAny_bind (wpAny_bind (wpAny_mono (h.run C A L fr s ok I) (fun v s₁ p₁ => wpAny_bind (wpAny_standAt (wpAny_pure ?_))) fun _ _ e => e))
  obtain ⟨a, σ₁, I₁, S₁, V₁, x, cl, N, fI, dd, b, es, rfl, hx, hc, hh, h₁⟩ := p₁
  have hv := V₁.val (f := .ref x) rfl
  subst hv
  have K := I₁.K ok
  obtain ⟨nm, q, bs, sn, sub, ab, col, dc, k0, k1, k2, k3, k5, hcl⟩ := hc.cls C.w.params
  have hC := K _ _ hcl
  obtain ⟨m, I0, lr⟩ := I₁
  obtain ⟨vs, sl, ho, ht, hdd⟩ := I0.obj _ hx.mem
  have B := looks_mroIn (M := model G.P C.w) K (C := cl) (base := .type "BaseException") (r := true) (by unfold mroIn clsIn; rw [hcl]; rfl)
  have L0 : Looks (model G.P C.w) s₁.heap (typeOf (.ref x)) (.ref cl) := (Looks.ld ho).andThen .now
  have L1 : Looks (model G.P C.w) s₁.heap (typeOf (.ref cl)) (.type "type") := (Looks.ld hC).andThen .now
  have T : Looks (model G.P C.w) s₁.heap (isType (.ref x)) false := (Looks.ld ho).andThen .now
  refine wpAny_bind (wpAny_pure (wpAny_bind (wpAny_holding ?_)))
  unfold excFromValue isExcClass
  refine wpAny_bind (wpAny_bind (T.here (wpAny_pure ?_)))
  rw [if_neg (by decide)]
  unfold isInstance
  refine wpAny_bind (wpAny_bind (L0.here (B.here ?_)))
  rw [if_pos rfl]
  refine wpAny_pure (wpAny_bind (T.here ?_))
  rw [if_neg (by decide)]
  unfold raisedInstance
  refine wpAny_bind (wpAny_bind (L0.here (wpAny_bind (L1.here ?_))))
  rw [if_pos (by decide)]
  refine wpAny_pure ?_
  refine wpAny_bind (flight I0 ⟨_, _, _, _, hx.mem⟩ fun h' I' T n => ?_)
  unfold raiseNew
  refine wpAny_bind (wpAny_handled ?_)
  rcases hh with rfl | rfl
  · show wpAny _ _ (do pure (); throw (Value.ref x)) _ _ _
    exact wpAny_bind (wpAny_pure (wpAny_throw ⟨x, σ₁, rfl, ⟨m, I', lr.1.mono T, lr.2⟩, S₁.trans ⟨T, rfl, rfl⟩, ⟨_, _, _, _, hx.mem⟩, h₁⟩))
  · show wpAny _ _ (if (Value.ref x != Value.ref x) = true then _ else throw (Value.ref x)) _ _ _
    rw [if_neg (by simp)]
    exact (wpAny_throw ⟨x, σ₁, rfl, ⟨m, I', lr.1.mono T, lr.2⟩, S₁.trans ⟨T, rfl, rfl⟩, ⟨_, _, _, _, hx.mem⟩, h₁⟩)
end
end Mine
end
section
open PySem PySem.W PySem.Calls PyProof.Rows
set_option maxRecDepth 100000
set_option autoImplicit false
namespace Mine

section
variable {G : Gl} {F : Fn} {d : Nat} {hd : Option Addr} {X : Addr → St → Prop} {σ : St}

theorem flagged {C : Cx} {L : Addr} {fr : Frs} {loc} {H H' : AH} {h : Heap} {a cl : Addr} {dd b es} (I : InvF C F L fr ⟨loc, H⟩ h) (n : IsN H h a) (e : SetH a (.exc cl dd b es) (.exc cl dd true es) H H') : InvF C F L fr ⟨loc, H'⟩ h := by
  obtain ⟨m, I0, lr⟩ := I
  obtain ⟨R, s, s'⟩ := e.sel
  have J := I0.perm s.perm
  obtain ⟨c', d', b', es', vs', sl', T, q1, q2, q3⟩ := n
  have O : OR C h a (.exc cl dd b es) := J.obj (a, .exc cl dd b es) (.head _)
  obtain ⟨vs, sl, ho, ⟨t, ht, tb, -⟩, od⟩ := O
  have q2' := q2
  rw [ho] at q2
  cases q2
  rw [q3] at ht
  cases ht
  refine ⟨m, Inv0.perm (H := (a, .exc cl dd true es) :: R) ⟨J.base, J.kp, J.frames, fun p hp => ?_, J.newH, J.newF, J.nodup, J.feet, J.frok⟩ s'.perm.symm, lr⟩
  rcases List.mem_cons.mp hp with rfl | hp
  · exact ⟨_, _, ho, ⟨_, q3, tb, fun _ => by intro q; cases q⟩, od⟩
  · exact J.obj p (.tail _ hp)
theorem isN_of {C : Cx} {L : Addr} {fr : Frs} {H : AH} {loc} {h : Heap} {a cl : Addr} {dd es} (I : InvF C F L fr ⟨loc, H⟩ h) (e : InH a (.exc cl dd true es) H) : IsN H h a := by
  obtain ⟨m, I0, lr⟩ := I
  obtain ⟨vs, sl, ho, ⟨t, ht, tb, ne⟩, od⟩ := I0.obj _ e.mem
  rcases tb with rfl | ⟨T, oT, ts, rfl, r⟩
  · exact absurd rfl (ne rfl)
  · exact ⟨cl, dd, true, es, vs, sl, T, e.mem, ho, ht⟩

theorem s_finally {body : List Stmt} {f₀ : Stmt} {fs : List Stmt} {pos : Pos} {k : Fl → St → Prop}
    (h : HSs G F d hd body σ (fun fl σ₁ => HSs G F d hd (f₀ :: fs) σ₁ (Fl.on (fun σ₂ => k fl σ₂) (fun v σ₂ => k (.ret v) σ₂)) X)
      (fun a σ₁ => ∃ cl dd b es H', SetH a (.exc cl dd b es) (.exc cl dd true es) σ₁.H H' ∧
        HSs G F d (some a) (f₀ :: fs) ⟨σ₁.loc, H'⟩ (fun g σ₂ => g = .next ∧ ∃ cl dd es, InH a (.exc cl dd true es) σ₂.H ∧ X a σ₂) X)) :
    HS G F d hd (.Try body [] [] (f₀ :: fs) pos) σ k X := by
  refine ⟨?_⟩
  intro C A L fr s ok I
  have raised : ∀ v s₁, PX C F L fr s (fun a σ₁ => ∃ cl dd b es H', SetH a (.exc cl dd b es) (.exc cl dd true es) σ₁.H H' ∧
        HSs G F d (some a) (f₀ :: fs) ⟨σ₁.loc, H'⟩ (fun g σ₂ => g = .next ∧ ∃ cl dd es, InH a (.exc cl dd true es) σ₂.H ∧ X a σ₂) X) v s₁ →
      FinallyRaised G.P C.w (arnd A hd) (PX C F L fr s X) (F.env L) (f₀ :: fs) (PF C F L fr s k) v s₁ := by
    intro v s₁ p₁
    refine ⟨by (obtain ⟨a, _, rfl, _⟩ := p₁; intro q; cases q), ?_⟩
    refine px_note ok p₁ fun s₂ p₂ => px_flight p₂ fun s₃ p₃ => ?_
    obtain ⟨a, σ₁, rfl, I₃, S₃, n₃, cl, dd, b, es, H', e, h₁⟩ := p₃
    have I₃' := flagged (loc := σ₁.loc) I₃ n₃ e
    refine wpAny_mono (h₁.run C A L fr s₃ ok I₃') (fun f s₄ p₄ => ?_) fun v s₄ p₄ => px_noted (A := A) (hd' := some a) ok (p₄.trans S₃)
    obtain ⟨g, σ₄, I₄, S₄, FR, rfl, cl, dd, es, hi, h₄⟩ := p₄
    cases f <;> first | exact FR.elim | skip
    have p : PXN C F L fr s X (.ref a) s₄ := ⟨a, σ₄, rfl, I₄, S₃.trans S₄, isN_of I₄ hi, h₄⟩
    exact px_pass p fun s' p => p.x
  refine wpAny_Try_finally (wpAny_mono (h.run C A L fr s ok I) (fun f s₁ p₁ => ?_) (fun v s₁ p₁ => ?_))
  · obtain ⟨g, σ₁, I₁, S₁, FR, h₁⟩ := p₁
    cases f <;> cases g <;> first | exact FR.elim | skip
    · refine wpAny_execs_nil (wpAny_mono (h₁.run C A L fr s₁ ok I₁) (fun f s₂ p₂ => ?_) fun v s₂ p₂ => px_noted ok (p₂.trans S₁))
      obtain ⟨g, σ₂, I₂, S₂, FR₂, h₂⟩ := p₂
      cases f <;> cases g <;> first | exact FR₂.elim | skip
      · exact ⟨.next, _, I₂, S₁.trans S₂, trivial, h₂⟩
      · exact ⟨_, _, I₂, S₁.trans S₂, FR₂, h₂⟩
    · refine wpAny_mono (h₁.run C A L fr s₁ ok I₁) (fun f s₂ p₂ => ?_) fun v s₂ p₂ => px_noted ok (p₂.trans S₁)
      obtain ⟨g, σ₂, I₂, S₂, FR₂, h₂⟩ := p₂
      cases f <;> cases g <;> first | exact FR₂.elim | skip
      · exact ⟨_, _, I₂, S₁.trans S₂, FR.mono S₂.1, h₂⟩
      · exact ⟨_, _, I₂, S₁.trans S₂, FR₂, h₂⟩
  · exact px_note ok p₁ fun s₂ p₂ => raised v s₂ p₂.x
end
end Mine
end
section
open PySem PySem.W PySem.Calls PyProof.Rows Builtin Builtin.ObjectAttr Builtin.Getset_descriptor
set_option maxRecDepth 100000
set_option autoImplicit false
set_option maxHeartbeats 4000000
namespace Mine

section
variable {G : Gl} {C : Cx} {fr : Frs} {A : Around} {d : Nat} {hd : Option Addr} {s : Shared} {E : Value → Shared → Prop} {H H' : AH} {x cl N fI : Addr} {b : Bool} {es es' : List (Str × AV)} {name : Str} {v : Value} {av : AV} {dd : Option Addr}

theorem excAt (I : Inv0 C fr H s.heap) (e : (x, AObj.exc cl dd b es) ∈ H) : ∃ vs sl od, W.InstAt s.heap x ⟨.ref cl, dd, .fields vs, sl⟩ cl od := by
  obtain ⟨vs, sl, ho, ht, od⟩ := I.obj _ e
  cases dd with
  | none => exact ⟨vs, sl, none, ho, rfl, rfl, trivial⟩
  | some d =>
    obtain ⟨ds, n, hn, r⟩ := od
    exact ⟨vs, sl, some (dictOf ds n), ho, rfl, rfl, hn⟩

structure ExcSet (G : Gl) (cl : Addr) (name : Str) : Prop where
  sa : ∀ P, findIn (G.K P) (.ref cl) "__setattr__" = some (some (.builtin "object.__setattr__"))
  no : ∀ P, findIn (G.K P) (.ref cl) name = some none

theorem set_exc {envs : List Env} (ok : Ok G C A envs d) (I : Inv0 C fr H s.heap) (hc : ExcC G cl N fI) (hs : ExcSet G cl name) (hp : PutE name av es es') (hx : InH x (.exc cl dd b es) H) (hz : es'.length ≤ 1000) (V : VR s.heap v av) {Q : Unit → Shared → Prop} {Pk : Addr → AH → Prop} (hH : ∀ d', ∃ H', SetH x (.exc cl dd b es) (.exc cl (some d') b es') H H' ∧ Pk d' H')
    (h : ∀ d' H' s', Pk d' H' → Inv0 C fr H' s'.heap → SL s s' → Q () s') : wpAny (model G.P C.w) (arnd A hd) (setAttr (.ref x) name v) Q E s := by
  have X0 := ok.K.keeps I.base
  obtain ⟨vs, sl, od0, IA⟩ := excAt I hx.mem
  obtain ⟨nm, q, bs, sn, sub, ab, col, dc, k0, k1, k2, k3, k5, hcl⟩ := hc.cls C.w.params
  have hC := X0 _ _ hcl
  have hxo := IA.at_
  have SF := PySem.F.store_Exception
  have hcd : ∃ cd, clsIn (G.K C.w.params) cl = some cd ∧ cd.mro = Value.ref cl :: excBm ∧ cd.hasDict = true := ⟨_, by unfold clsIn; rw [hcl], rfl, rfl⟩
  obtain ⟨cd, hcd, hmro, hhd⟩ := hcd
  have hm : Looks (model G.P C.w) s.heap (mroOf (.ref cl)) (Value.ref cl :: excBm) := hmro ▸ (looks_clsIn X0 hcd).andThen .now
  have L3 : Looks (model G.P C.w) s.heap (storeTaker? none) none := .now
  have LN := looks_findIn (M := model G.P C.w) X0 (hs.no C.w.params)
  have hpass := SF.passes (.ref x)
  refine set_plain X0 IA (hs.sa _) ?_
  refine codeAny_call_builtin SF.slot.plain SF.entry ?_
  have SF' : StoreFacts "Exception" excBm "object.__setattr__" "object" := SF
  with_reducible refine wpAny_check_sa SF' hC hxo (by rfl) ?_
  rw [osa_eq, refuse_eq]
  refine wpAny_bind (wpAny_bind (IA.type _ _ _ _ (fun _ _ e => e) (wpAny_bind (hm _ _ _ _ (fun _ _ e => e) ?_))))
  unfold excBm
  rw [refuseLoop_ref, hpass]
  refine wpAny_pure (wpAny_bind (IA.type _ _ _ _ (fun _ _ e => e) (wpAny_bind (LN _ _ _ _ (fun _ _ e => e) (wpAny_bind (L3 _ _ _ _ (fun _ _ e => e) ?_))))))
  have ne : ∀ d', dd = some d' → x ≠ d' := fun d' e q => by
    obtain ⟨R, sl⟩ := sel_of hx.mem
    have := (List.nodup_append.mp (I.perm sl.perm).feet).1
    subst e
    simp only [AObj.foot, Option.toList, List.nodup_cons, List.mem_singleton] at this
    exact this.1 q
  have fin : ∀ (d' : Addr) (s₁ : Shared) (ds : List DictEntry) (n : Nat) (tk : Nat) (A' : Around) (E' : Value → Shared → Prop) (Q' : PySem.Fin → Shared → Prop), s₁.heap.get? d' = some (dictOf ds n) → DRs C.w.params s₁.heap ds es →
      (∀ h' t ds' n', Heap.SameBut d' s₁.heap h' → h'.get? d' = some (dictOf ds' n') → DRs C.w.params h' ds' es' → Q' (.done (.ret .none)) { s₁ with heap := h', toks := t }) → VR s₁.heap v av →
      wpAny (model G.P C.w) A' (storeInDict d' (.str name tk) name v) Q' E' s₁ := by
    intro d' s₁ ds n tk A' E' Q' hn r k V
    unfold storeInDict newKeyGuard
    have ht : ∀ vs n, s₁.heap.get? d' ≠ some (tupObj vs n) := fun vs n e => by rw [hn] at e; simp at e
    refine wpAny_bind (wpAny_pure (wpAny_bind (ns_set (w := C.w) hn (r.strs) fun h' tk hs' hg' => ?_)))
    have T : TL s₁.heap h' := .turn hs' ht
    have r' := DRs.putE (t := tk) (V.mono T) hp (r.mono T)
    refine wpAny_bind (wpAny_lookBehind hg' (pastItsLine_dict (by rw [List.size_toArray, r'.length, sizeLine_eq]; omega)) ?_)
    exact wpAny_pure (k _ _ _ _ hs' hg' r')
  unfold storeInOwnDict ownDictForStores instanceDict
  refine wpAny_bind (wpAny_pure (wpAny_bind (wpAny_bind (wpAny_loadPart hxo (wpAny_bind (looks_clsIn X0 hcd _ _ _ _ (fun _ _ e => e) ?_))))))
  rw [hhd]
  rw [if_neg (by decide)]
  obtain ⟨R, sel⟩ := sel_of hx.mem
  cases dd with
  | some d' =>
    obtain ⟨vs₁, sl₁, ho₁, ht₁, ds, n, hn, r⟩ := I.obj _ hx.mem
    refine wpAny_pure (a := some d') ?_
    refine fin d' _ ds n _ _ _ _ hn r (fun h' t ds' n' hs' hg' r' => ?_) V
    obtain ⟨H', e, pk⟩ := hH d'
    have htu : ∀ vs n, s.heap.get? d' ≠ some (tupObj vs n) := fun vs n e => by rw [hn] at e; simp at e
    refine h d' H' { s with heap := h', toks := t } pk ?_ ⟨.turn hs' htu, rfl, rfl⟩
    refine I.turnH e (x := d') (.tail _ (.head _)) rfl hs' htu (fun oT ts e _ q => by rw [hn] at e; cases e; cases q) ?_
    obtain ⟨t₁, et, tb, nn⟩ := ht₁
    exact ⟨vs₁, sl₁, (hs'.2 x (ne d' rfl)).trans ho₁, ⟨t₁, et, tb.turn hs' (fun oT ts e _ q => by rw [hn] at e; cases e; cases q), nn⟩, ds', n', hg', r'⟩
  | none =>
    obtain ⟨vs₁, sl₁, ho₁, ht₁, hes⟩ := I.obj _ hx.mem
    have hes : es = [] := hes
    subst hes
    dsimp only
    rw [if_neg (by simp [typeHasDict])]
    have hxs : x ≠ s.heap.objs.size := Nat.ne_of_lt (Heap.lt_size hxo)
    have hx₁ : (s.heap.push emptyDict).get? x = some ⟨.ref cl, none, .fields vs, sl⟩ := Heap.get?_push_of_some _ hxo
    refine wpAny_bind (wpAny_alloc (wpAny_bind (wpAny_update hx₁ ?_)))
    refine wpAny_pure (a := some s.heap.objs.size) ?_
    have kp : ∀ b o, s.heap.get? b = some o → (s.heap.push emptyDict).get? b = some o := fun b o e => Heap.get?_push_of_some _ e
    have I₁ := I.mono kp
    have new := I.size_new (x := s.heap.objs.size) (Heap.get?_none_of_le (Nat.le_refl _))
    have hs₁ := Heap.SameBut.update (s.heap.push emptyDict) x (fun o => { cls := o.cls, dict := some s.heap.objs.size, data := o.data, slots := o.slots })
    have hg₁ := Heap.get?_update_self (fun o => { cls := o.cls, dict := some s.heap.objs.size, data := o.data, slots := o.slots }) hx₁ rfl
    have hgd : ((s.heap.push emptyDict).update x fun o => { cls := o.cls, dict := some s.heap.objs.size, data := o.data, slots := o.slots }).get? s.heap.objs.size = some (dictOf [] 0) :=
      (hs₁.2 _ hxs.symm).trans (Heap.get?_push_size _ rfl)
    have htx : ∀ vs n, (s.heap.push emptyDict).get? x ≠ some (tupObj vs n) := fun vs n e => by rw [hx₁] at e; cases e
    have hTx : ∀ oT ts, (s.heap.push emptyDict).get? x = some oT → oT.cls = .type "traceback" → oT.data = .fields ts → False := fun oT ts e c _ => by rw [hx₁] at e; cases e; cases c
    have T₁ : TL s.heap ((s.heap.push emptyDict).update x fun o => { cls := o.cls, dict := some s.heap.objs.size, data := o.data, slots := o.slots }) := (TL.of kp).trans (.turn hs₁ htx)
    obtain ⟨t₁, et, tb, nn⟩ := ht₁
    have ho₁' : s.heap.get? x = _ := ho₁
    rw [hxo] at ho₁'
    cases ho₁'
    have I₂ : Inv0 C fr ((x, .exc cl (some s.heap.objs.size) b []) :: R) ((s.heap.push emptyDict).update x fun o => { cls := o.cls, dict := some s.heap.objs.size, data := o.data, slots := o.slots }) := by
      refine (I₁.perm sel.perm).turnG (x := x) (.head _) (fun y hy => ?_) (by simp [AObj.foot, hxs]) hs₁ htx hTx ?_
      · rcases List.mem_cons.mp hy with q | q
        · exact .inl (q ▸ .head _)
        · have q : y = s.heap.objs.size := by simpa using q
          subst q
          exact .inr ⟨new.1, new.2.1, fun m => new.2.2 ((feet_perm sel.perm).mem_iff.mpr (List.mem_append_right _ m))⟩
      · exact ⟨vs, sl, hg₁, ⟨t₁, et, (tb.mono kp).turn hs₁ hTx, nn⟩, [], 0, hgd, .nil⟩
    obtain ⟨H', e, pk⟩ := hH s.heap.objs.size
    refine fin _ { s with heap := _, toks := s.toks + 1 } [] 0 _ _ _ _ hgd .nil (fun h' t ds' n' hs' hg' r' => ?_) (V.mono T₁)
    have htu : ∀ vs n, ((s.heap.push emptyDict).update x fun o => { cls := o.cls, dict := some s.heap.objs.size, data := o.data, slots := o.slots }).get? s.heap.objs.size ≠ some (tupObj vs n) := fun vs n e => by rw [hgd] at e; simp at e
    refine h _ H' { s with heap := h', toks := t } pk ?_ ⟨T₁.trans (.turn hs' htu), rfl, rfl⟩
    obtain ⟨R', z1, z2⟩ := e.sel
    have hTd : ∀ oT ts, ((s.heap.push emptyDict).update x fun o => { cls := o.cls, dict := some s.heap.objs.size, data := o.data, slots := o.slots }).get? s.heap.objs.size = some oT → oT.cls = .type "traceback" → oT.data = .fields ts → False := fun oT ts e _ q => by rw [hgd] at e; cases e; cases q
    have I₃ := I₂.turn (o' := .exc cl (some s.heap.objs.size) b es') (x := s.heap.objs.size) (.tail _ (.head _)) rfl hs' htu hTd ⟨vs, sl, (hs'.2 x hxs).trans hg₁, ⟨t₁, et, ((tb.mono kp).turn hs₁ hTx).turn hs' hTd, nn⟩, ds', n', hg', r'⟩
    have p1 : (((x, AObj.exc cl (some s.heap.objs.size) b es') :: R) : AH).Perm H' := ((List.perm_cons _).mpr ((List.perm_cons (x, AObj.exc cl none b [])).mp (sel.perm.symm.trans z1.perm))).trans z2.perm.symm
    exact I₃.perm p1
end
end Mine
end
section
open PySem PySem.W PySem.Calls PyProof.Rows Builtin Builtin.ObjectAttr Builtin.Getset_descriptor
set_option maxRecDepth 100000
set_option autoImplicit false
set_option maxHeartbeats 4000000
namespace Mine

section
variable {G : Gl} {F : Fn} {d : Nat} {hd : Option Addr} {X : Addr → St → Prop} {σ : St}

structure ExcGet (G : Gl) (cl : Addr) (name : Str) : Prop where
  ga : ∀ P, findIn (G.K P) (.ref cl) "__getattribute__" = some (some (.builtin "BaseException.__getattribute__"))
  gt : ∀ P, findIn (G.K P) (.ref cl) "__getattr__" = some none
  no : ∀ P, findIn (G.K P) (.ref cl) name = some none
  di : ∀ P, hasDictIn (G.K P) cl = true

theorem o_attr_exc {x cl N fI dd : Addr} {b ex : Bool} {es : List (Str × AV)} {name : Str} {av : AV} {k : AV → St → Prop} (hx : InH x (.exc cl (some dd) b es) σ.H) (he : GetE name av es) (hc : ExcC G cl N fI) (hg : ExcGet G cl name) (hb : ∀ i, av ≠ .bi i) (h : k av σ) :
    HO G F d hd (op1 fun v => getAttr v name ex) [.ref x] σ k X := by
  refine ⟨?_⟩
  intro C A L fr s vs ok I V
  obtain ⟨m, I0, lr⟩ := I
  cases V with
  | cons v r =>
    cases r
    have hv := v.val (f := .ref x) rfl
    subst hv
    have X0 := ok.K.keeps I0.base
    obtain ⟨vs, sl, ho, ht, ds, n, hn, r⟩ := I0.obj _ hx.mem
    obtain ⟨w, hw, VW⟩ := r.getE he
    have ho : s.heap.get? x = some ⟨.ref cl, some dd, .fields vs, sl⟩ := ho
    have IA : W.InstAt s.heap x ⟨.ref cl, some dd, .fields vs, sl⟩ cl (some (dictOf ds n)) := ⟨ho, rfl, rfl, hn⟩
    obtain ⟨nm, q, bs, sn, sub, ab, col, dc, k0, k1, k2, k3, k5, hcl⟩ := hc.cls C.w.params
    have hC := X0 _ _ hcl
    have hf : findObj (G.K C.w.params) cl (some (dictOf ds n)) name = some (.value w) := findObj_own (hg.di _) (hg.no _) rfl hw
    have L0 := IA.type (M := model G.P C.w)
    have L1 := looks_findIn (M := model G.P C.w) X0 (hg.ga C.w.params)
    have L2 := looks_find (M := model G.P C.w) X0 IA hf
    have L3 := looks_hook (M := model G.P C.w) (mc := .ref cl) X0 (r := none) (by rw [if_pos (show onTheHeap (.ref cl) = true from rfl)]; exact hg.gt _)
    have FB := PySem.F.attrBase_Exception
    have hx2 : (Value.builtin "BaseException.__getattribute__" == Value.builtin "object.__getattribute__") = false := by decide +kernel
    show wpAny _ _ (getAttr (.ref x) name ex) _ _ _
    unfold getAttr getAttrBy
    refine wpAny_bind (wpAny_mkText (wpAny_holding (wpAny_bind (L0 _ _ _ _ (fun _ _ e => e) (wpAny_bind (L1 _ _ _ _ (fun _ _ e => e) ?_))))))
    dsimp only
    rw [hx2, Bool.and_false, if_neg (by decide)]
    unfold getAttrByItsOwn
    refine wpAny_bind (L3 _ _ _ _ (fun _ _ e => e) (wpAny_bind (wpAny_attempt ?_)))
    unfold callGetattribute
    have hx0 : (ex && onTheHeap (Value.builtin "BaseException.__getattribute__")) = false := by cases ex <;> rfl
    rw [hx0, if_neg (by decide)]
    unfold boundAndCalled
    refine wpAny_holding (wpAny_bind ?_)
    rw [FB.ga.bind]
    refine wpAny_pure (wpAny_call (codeAny_call_builtin FB.ga.plain PySem.F.entry_bexc_ga ?_))
    dsimp only [List.cons_append, List.nil_append]
    with_reducible refine wpAny_check_ga_own FB hC .base ho (by rfl) ?_
    unfold Builtin.«object.__getattribute__»
    refine wpAny_bind (wpAny_pure (wpAny_bind (wpAny_pure (wpAny_bind (L0 _ _ _ _ (fun _ _ e => e) (wpAny_bind (L2 _ _ _ _ (fun _ _ e => e) ?_)))))))
    refine wpAny_pure ?_
    show wpAny _ _ (handedOut w) _ _ _
    rw [handedOut_of (VW.handed hb)]
    exact wpAny_pure ⟨av, σ, ⟨m, I0, lr⟩, .toks s _, VW, h⟩

theorem s_setattr_exc {o e : Expr} {name : Str} {ap pos : Pos} {k : Fl → St → Prop} {cl N fI : Addr} (hc : ExcC G cl N fI) (hs : ExcSet G cl name)
    (h : HE G F d hd e σ (fun v σ₁ => HE G F d hd o σ₁ (fun ov σ₂ => ∃ x dd b es es', ov = .ref x ∧ InH x (.exc cl dd b es) σ₂.H ∧ PutE name v es es' ∧ es'.length ≤ 1000 ∧ ∀ d', ∃ H', SetH x (.exc cl dd b es) (.exc cl (some d') b es') σ₂.H H' ∧ k .next ⟨σ₂.loc, H'⟩) X) X)
    (hsw : ∀ env, swapsWith e (some (.Attribute o name ap)) pos.line env = pure false := by intros; with_unfolding_all rfl) : HS G F d hd (.Assign [.Attribute o name ap] e pos) σ k X := by
  refine ⟨?_⟩
  intro C A L fr s ok I
  refine plainObj_wpAny_Assign_Attribute (wpAny_mono (h.run C A L fr s ok I) (fun v s₁ p₁ => ?_) fun _ _ e => e) (hsw _)
  obtain ⟨a, σ₁, I₁, S₁, V₁, h₁⟩ := p₁
  refine wpAny_mono (h₁.run C A L fr s₁ ok I₁) (fun ov s₂ p₂ => ?_) fun _ _ e => e.trans S₁
  obtain ⟨c, σ₂, I₂, S₂, V₂, x, dd, b, es, es', rfl, hx, hp, hz, h₂⟩ := p₂
  have hv := V₂.val (f := .ref x) rfl
  subst hv
  obtain ⟨m, I0, lr⟩ := I₂
  exact set_exc ok I0 hc hs hp hx hz (V₁.mono S₂.1) h₂ fun d' H' s' e I' S' => ⟨.next, ⟨σ₂.loc, H'⟩, ⟨m, I', lr.1.mono S'.1, lr.2⟩, (S₁.trans S₂).trans S', trivial, e⟩
end

theorem tc_weight (C : Addr) (rest : List Value) (kw : List (Str × Value)) : (Code.builtin "type.__call__" ⟨.ref C :: rest, kw⟩).weight = 1 := by kernel_rfl
theorem tc_units (C : Addr) (rest : List Value) (kw : List (Str × Value)) : (Code.builtin "type.__call__" ⟨.ref C :: rest, kw⟩).cUnits = 1 := by kernel_rfl
theorem tc_envs (C : Addr) (rest : List Value) (kw : List (Str × Value)) : (Code.builtin "type.__call__" ⟨.ref C :: rest, kw⟩).envs = [] := by kernel_rfl
theorem ok_under {G : Gl} {C : Cx} {A : Around} {envs : List Env} {d : Nat} {c : Addr} {rest : List Value} {kw : List (Str × Value)} (ok : Ok G C A envs (d + 1)) : Ok G C (A.under (.builtin "type.__call__" ⟨.ref c :: rest, kw⟩)) envs d := by
  refine ⟨ok.P, ok.K, ?_, ?_, ?_, ok.nolimit, ok.sm⟩
  · have e : (A.under (.builtin "type.__call__" ⟨.ref c :: rest, kw⟩)).frames = pushEnvs (Code.builtin "type.__call__" ⟨.ref c :: rest, kw⟩).envs A.frames := rfl
    rw [e, tc_envs]; exact ok.frames
  · show A.depth + _ + d ≤ 990
    rw [tc_weight]; have := ok.depth; omega
  · show A.units + _ + 20 * d ≤ 9800
    rw [tc_units]; have := ok.units; omega

section
variable {G : Gl} {d : Nat} {hd : Option Addr} {H : AH} {X : Addr → AH → Prop}

theorem ns_some_of {K : Frag} {h : Heap} {N : Addr} {mg : Str → Option Value} {n : Str} {v : Value} (X : K.In h) (G : h.Ns N mg) (e : nsIn K N n = some (some v)) : mg n = some v := by
  obtain ⟨o, es, ep, ho, hd, _, hf⟩ := G
  unfold nsIn at e
  split at e
  · rename_i c d es' n' sl q
    have := X _ _ q
    rw [ho] at this
    cases this
    cases hd
    split at e
    · rename_i en he
      cases e
      rw [← hf]
      unfold nsFind findBy
      rw [← Array.find?_toList, he]
      rfl
    · split at e <;> cases e
  · cases e
theorem cc_exc {C N fI : Addr} {xs : List AV} {k : AV → AH → Prop} (hc : ExcC G C N fI) (hn : xs.length ≤ 1000) (h : ∀ a, CC G d hd (.ref fI) (.ref a :: xs) ((a, .exc C none false []) :: H) (fun v H' => v = .none ∧ k (.ref a) H') X) : CC G (d + 1) hd (.ref C) xs H k X := by
  refine ⟨?_⟩
  intro Cx A fr s vs ok I V
  have X0 := ok.K.keeps I.base
  obtain ⟨nm, q, bs, sn, sub, ab, col, dc, k0, k1, k2, k3, k5, hcl⟩ := hc.cls Cx.w.params
  have hC := X0 _ _ hcl
  have FE := PySem.F.excBase_Exception
  have hT : s.TypeIs (.ref C) "type" := ⟨_, hC, rfl⟩
  have f1 := tc_lookup
  have f2 := tc_bind (.ref C)
  have hN : s.heap.Ns N (s.heap.nsMap N) := .of_isNs (isNs_of_in X0 (hc.ns _))
  have hi : s.heap.nsMap N "__init__" = some (.ref fI) := ns_some_of X0 hN (hc.init _)
  have hf := hc.fn Cx.w.params
  obtain ⟨oI, hoI, hcI⟩ : ∃ o, s.heap.get? fI = some o ∧ o.cls = .type "function" := by
    obtain ⟨o, ho, e⟩ := Option.map_eq_some_iff.mp hf
    exact ⟨o, X0 _ _ ho, e⟩
  obtain ⟨hh, g, dr, t, os⟩ := s
  refine codeAny_of_tree ?_
  show wpAny _ _ (callAny (.ref C) _) _ _ _
  repeat (any_goals (first | assumption | with_reducible refine wpAny_loadPart_at hC ?_ | wp_step))
  refine ⟨rfl, ?_⟩
  have hlen : vs.length ≤ sizeLine := by rw [V.length, sizeLine_eq]; omega
  refine codeAny_call_builtin_at (Code.quiet_builtin _ (by decide +kernel)) entry_typeCall (wpAny_check_type_call_sub hC (wpAny_type_call_exc_init (hrest := hlen) FE hC hN hi hoI hcI fun h' e hm => ?_))
  obtain ⟨kp, en, t', h1, h2, h3⟩ := hm
  have S0 : SL ⟨hh, g, dr, t, os⟩ ⟨h', g, dr, t, os⟩ := ⟨.of kp, rfl, rfl⟩
  have J : Inv0 Cx fr ((e, .exc C none false []) :: H) h' := I.take kp (fun x hx => by simp [AObj.foot] at hx; rw [hx]; exact en) (by simp [AObj.foot]) ⟨_, _, h1, ⟨_, rfl, .inl rfl, fun q => by cases q⟩, rfl⟩
  refine wpAny_call (codeAny_mono ((h e).run Cx _ fr ⟨h', g, dr, t, os⟩ (.ref e :: vs) (ok_under ok) J (.cons (.ref e) (V.mono S0.1))) fun r s' z => ?_)
  rcases r with e | (_ | _ | _ | v)
  · obtain ⟨a, H', e1, e2, e3, e4, e5⟩ := z; exact ⟨a, H', e1, e2, S0.trans e3, e4, e5⟩
  · exact z
  · exact z
  · exact z
  · obtain ⟨av, H', e2, e3, e4, rfl, e5⟩ := z
    cases e4
    exact ⟨rfl, _, H', e2, S0.trans e3, .ref e, e5⟩
end
end Mine
end
section
open PySem PySem.W PySem.Calls PyProof.Rows
set_option maxRecDepth 100000
set_option autoImplicit false
set_option maxHeartbeats 4000000
namespace Mine

section
variable {G : Gl} {d : Nat} {hd : Option Addr} {H : AH} {X : Addr → AH → Prop}

noncomputable def newOk (K : Frag) (C fI : Addr) : Bool := makesIn K C && findIn K (.ref C) "__init__" == some (some (.ref fI)) && typeIn K (.ref fI) == some (.type "function")
theorem cc_inst {C fI : Addr} {xs : List AV} {k : AV → AH → Prop} (hc : ∀ P, newOk (G.K P) C fI = true) (h : ∀ a dd, CC G d hd (.ref fI) (.ref a :: xs) ((a, .inst C dd []) :: H) (fun v H' => v = .none ∧ k (.ref a) H') X) : CC G (d + 1) hd (.ref C) xs H k X := by
  refine ⟨?_⟩
  intro Cx A fr s vs ok I V
  have X0 := ok.K.keeps I.base
  have z := hc Cx.w.params
  unfold newOk at z
  simp only [Bool.and_eq_true, beq_iff_eq] at z
  obtain ⟨⟨z1, z2⟩, z3⟩ := z
  obtain ⟨hh, g, dr, t, os⟩ := s
  refine make_core (makes_of X0 z1) (looks_findIn X0 z2) (fun self => bind_fn X0 self z3) (.inl rfl) ?_
  have kp : ∀ b o, hh.get? b = some o → ((hh.push emptyDict).push (instObj C hh.objs.size)).get? b = some o := fun b o e => Heap.get?_push_of_some _ (Heap.get?_push_of_some _ e)
  have hx : ((hh.push emptyDict).push (instObj C hh.objs.size)).get? (hh.objs.size + 1) = some (instObj C hh.objs.size) := by heap_get
  have hdd : ((hh.push emptyDict).push (instObj C hh.objs.size)).get? hh.objs.size = some (dictOf [] 0) := by heap_get
  have S0 : SL ⟨hh, g, dr, t, os⟩ ⟨(hh.push emptyDict).push (instObj C hh.objs.size), g, dr, t, os⟩ := ⟨.of kp, rfl, rfl⟩
  have J : Inv0 Cx fr ((hh.objs.size + 1, .inst C hh.objs.size []) :: H) ((hh.push emptyDict).push (instObj C hh.objs.size)) := I.take kp
    (fun x hx => by
      simp [AObj.foot] at hx
      rcases hx with rfl | rfl
      · exact Heap.get?_none_of_le (Nat.le_succ _)
      · exact Heap.get?_none_of_le (Nat.le_refl _)) (by simp [AObj.foot]) ⟨[], 0, hx, hdd, .nil⟩
  refine codeAny_mono ((h (hh.objs.size + 1) hh.objs.size).run Cx _ fr ⟨(hh.push emptyDict).push (instObj C hh.objs.size), g, dr, t, os⟩ (.ref (hh.objs.size + 1) :: vs) (ok_under ok) J (.cons (.ref _) (V.mono S0.1))) fun r s' z => ?_
  rcases r with e | (_ | _ | _ | v)
  · obtain ⟨a, H', e1, e2, e3, e4, e5⟩ := z; exact ⟨a, H', e1, e2, S0.trans e3, e4, e5⟩
  · exact z
  · exact z
  · exact z
  · obtain ⟨av, H', e2, e3, e4, rfl, e5⟩ := z
    cases e4
    exact ⟨rfl, _, H', e2, S0.trans e3, .ref _, e5⟩

theorem cc_excInit {C N fI a : Addr} {xs : List AV} {dd b es} {k : AV → AH → Prop} (hc : ExcC G C N fI) (hn : xs.length ≤ 1000) (hx : InH a (.exc C dd b es) H) (h : k .none H) : CC G d hd (.builtin "Exception.__init__") (.ref a :: xs) H k X := by
  refine ⟨?_⟩
  intro Cx A fr s vs ok I V
  have X0 := ok.K.keeps I.base
  obtain ⟨nm, q, bs, sn, sub, ab, col, dc, k0, k1, k2, k3, k5, hcl⟩ := hc.cls Cx.w.params
  have hC := X0 _ _ hcl
  have FE := PySem.F.excBase_Exception
  obtain ⟨fs, sl, ho, ht, od⟩ := I.obj _ hx.mem
  have ho : s.heap.get? a = some ⟨.ref C, dd, .fields fs, sl⟩ := ho
  cases V with
  | cons v V =>
    rename_i v0 vs
    have hv := v.val (f := .ref a) rfl
    subst hv
    have hlen : vs.length ≤ sizeLine := by rw [V.length, sizeLine_eq]; omega
    refine codeAny_call_builtin FE.init.plain FE.initEntry ?_
    with_reducible refine wpAny_check_init_sub FE hC ho (by rfl) ?_
    obtain ⟨t₁, et, tb, nn⟩ := ht
    have h1 : 1 < fs.size := (Array.getElem?_eq_some_iff.mp et).1
    show wpAny _ _ (Builtin.«BaseException.__init__» ⟨.ref a :: vs, []⟩) _ _ _
    unfold Builtin.«BaseException.__init__»
    refine wpAny_bind (wpAny_newTuple ?_ hlen)
    have kp : ∀ b o, s.heap.get? b = some o → (s.heap.push { cls := .type "tuple", data := .seq vs.toArray }).get? b = some o := fun b o e => Heap.get?_push_of_some _ e
    have hx' := kp _ _ ho
    unfold Builtin.BaseException.bexcPut
    refine wpAny_bind (wpAny_bind (wpAny_field hx' rfl (i := 0) (x := fs[0]) (by rw [Array.getElem?_eq_getElem (by omega)]) (wpAny_bind (wpAny_setField hx' rfl (by omega) ?_))))
    have I₁ := I.mono kp
    have hs := Heap.SameBut.update (s.heap.push { cls := .type "tuple", data := .seq vs.toArray }) a (Obj.mapFields fun x => x.setIfInBounds 0 (.ref s.heap.objs.size))
    have ge := Heap.get?_update_self (Obj.mapFields fun x => x.setIfInBounds 0 (.ref s.heap.objs.size)) hx' rfl
    have htx : ∀ vs' n, (s.heap.push { cls := .type "tuple", data := .seq vs.toArray }).get? a ≠ some (tupObj vs' n) := fun vs n e => by rw [hx'] at e; cases e
    have hTx : ∀ oT ts, (s.heap.push { cls := .type "tuple", data := .seq vs.toArray }).get? a = some oT → oT.cls = .type "traceback" → oT.data = .fields ts → False := fun oT ts e c _ => by rw [hx'] at e; cases e; cases c
    obtain ⟨R, sel⟩ := sel_of hx.mem
    have TT := TL.turn hs htx
    have had : ∀ q, dd = some q → q ≠ a := fun q eq z => by
      have := (List.nodup_append.mp (I.perm sel.perm).feet).1
      subst z
      rw [eq] at this
      simp [AObj.foot] at this
    have I₂ := (I₁.perm sel.perm).turn (o' := .exc C dd b es) (x := a) (.head _) rfl hs htx hTx
      ⟨_, _, ge, ⟨t₁, by rw [Array.getElem?_setIfInBounds_ne (by omega)]; exact et, (tb.mono kp).turn hs hTx, nn⟩, (od.mono (.of kp) fun _ o _ e => kp _ o e).mono TT fun q o e' e => (hs.2 q (had q e')).trans e⟩
    have fin : ∀ s', s'.heap = ((s.heap.push { cls := .type "tuple", data := .seq vs.toArray }).update a (Obj.mapFields fun x => x.setIfInBounds 0 (.ref s.heap.objs.size))) → s'.gens = s.gens → s'.os = s.os → PCR Cx fr s k X (.ok (.ret .none)) s' := fun s' e1 e2 e3 =>
      ⟨.none, H, by rw [e1]; exact I₂.perm sel.perm.symm, ⟨by rw [e1]; exact (TL.of kp).trans TT, e2, e3⟩, .none, h⟩
    split
    · exact wpAny_letGo (wpAny_pure (fin _ rfl rfl rfl))
    · exact wpAny_pure (wpAny_pure (fin _ rfl rfl rfl))
end

section
variable {G : Gl} {F : Fn} {d : Nat} {hd : Option Addr} {X : Addr → St → Prop} {σ : St}

structure GM0 (G : Gl) (F : Fn) (d : Nat) (name : Str) (x : AV) (f : Value) (σ : St) : Prop where
  run : ∀ C A L fr s v pl A' (Q : Value × List Value → Shared → Prop) E, Ok G C A (F.env L :: fr.map (·.1)) d → InvF C F L fr σ s.heap → VR s.heap v x → (∀ t, Q (f, []) { s with toks := t }) → wpAny (model G.P C.w) A' (getMethod v name pl) Q E s
theorem e_meth0 {o : Expr} {name : Str} {es : List Expr} {apos pos : Pos} {k : AV → St → Prop}
    (h : HE G F d hd o σ (fun x σ₁ => ∃ f, GM0 G F d name x f σ₁ ∧ keepOk G f ∧ HEs G F d hd es σ₁ (fun xs σ₂ => HO G F d hd (fun vs => call f vs) xs σ₂ k X) X) X)
    (hp : ∀ env, (starEach es env).any (·.1) = false := by intros; with_unfolding_all rfl) (hbase : ∀ env, attributeBase o name env (eval o env) = eval o env := by intros; with_unfolding_all rfl) (hline : (apos.endLine == pos.line) = true := by with_unfolding_all rfl) (hn : es.length < 29 := by with_unfolding_all decide) :
    HE G F d hd (.Call (.Attribute o name apos) es [] pos) σ k X := by
  refine ⟨?_⟩
  intro C A L fr s ok I
  rw [arm_eval_Call, hbase]
  refine wpAny_bind (wpAny_mono (h.run C A L fr s ok I) (fun v₁ s₁ p₁ => ?_) fun _ _ e => e)
  obtain ⟨x, σ₁, I₁, S₁, V₁, f, hg, hk, h₁⟩ := p₁
  refine wpAny_bind (wpAny_standAt ?_)
  have hform : methodCallForm (es.length + ([] : List Keyword).length) (backTo pos (starEach es (F.env L))) (backToKw pos (keywordEach [] (F.env L))) = true := by
    have e1 : (backTo pos (starEach es (F.env L))).all (fun x => !x.1) = true := by
      have := (back_any pos (starEach es (F.env L))).trans (hp _)
      rw [List.all_eq_not_any_not]
      simp only [Bool.not_not, this, Bool.not_false]
    unfold methodCallForm
    rw [e1]
    show (true && true && decide (es.length + 0 + 0 < 30)) = true
    have : es.length + 0 + 0 < 30 := by omega
    simp only [this, decide_true, Bool.and_self]
  have hpos : methodCallPos true o (F.env L) apos pos = pure pos := by unfold methodCallPos; simp [hline]
  unfold methodCall
  rw [hform]
  refine wpAny_bind (wpAny_holding (hg.run C A L fr s₁ v₁ _ _ _ _ ok I₁ V₁ fun t => ?_))
  refine wpAny_bind (wpAny_of_eq hpos ?_)
  show wpAny _ _ (callWith pos f [] (backTo pos (starEach es (F.env L))) []) _ _ _
  refine cw (w := C.w) hk (hp _) (wpAny_mono (h₁.run C A L fr { s₁ with toks := t } pos ok I₁) (fun vs s₂ p₂ => ?_) fun _ _ e => PX.trans (S₁.trans (.toks s₁ t)) e)
  obtain ⟨xs, σ₂, I₂, S₂, V₂, h₂⟩ := p₂
  exact ⟨I₂.K ok, wpAny_mono (h₂.run C A L fr s₂ vs ok I₂ V₂) (fun _ _ p => p.trans ((S₁.trans (.toks s₁ t)).trans S₂)) fun _ _ e => e.trans ((S₁.trans (.toks s₁ t)).trans S₂)⟩

noncomputable def clsOk (K : Frag) (C : Addr) (name : Str) (f : Addr) : Bool := readsIn K C (.type "type") && findClsIs K (.ref C) (.type "type") name (.ref f) && specialIn K (.ref C) "__getattribute__" == some (some (.builtin "type.__getattribute__"))
where findClsIs (K : Frag) (c mc : Value) (name : Str) (v : Value) : Bool := match findCls K c mc name with | some (.val v') => v' == v | _ => false
theorem gm0_cls {C f : Addr} {name : Str} (hm : ∀ P, clsOk (G.K P) C name f = true) : GM0 G F d name (.ref C) (.ref f) σ := by
  refine ⟨?_⟩
  intro Cx A L fr s v pl A' Q E ok I V q
  have hv := V.val (f := .ref C) rfl
  subst hv
  have X0 := I.K ok
  have z := hm Cx.w.params
  unfold clsOk at z
  simp only [Bool.and_eq_true, beq_iff_eq] at z
  obtain ⟨⟨z1, z2⟩, z3⟩ := z
  unfold clsOk.findClsIs at z2
  split at z2
  · rename_i v' e
    have := beq_iff_eq.mp z2
    subst this
    exact method_cls X0 z3 (cls_value X0 z1 e rfl (q _))
  · cases z2

theorem excInit_found : ∀ K : Frag, findCls K (.type "Exception") (.type "type") "__init__" = some (.val (.builtin "Exception.__init__")) := fun K => by rfl
theorem gm0_exc : GM0 G F d "__init__" (.typ "Exception") (.builtin "Exception.__init__") σ := by
  refine ⟨?_⟩
  intro Cx A L fr s v pl A' Q E ok I V q
  have hv := V.val (f := .type "Exception") rfl
  subst hv
  have X0 := I.K ok
  have hstub : opaqueClassAbove (.type "Exception") = pure none := by unfold opaqueClassAbove; dsimp only; rw [show Manifest.isStub "Exception" = false by decide +kernel]; rfl
  have L0 : Looks (model G.P Cx.w) s.heap (typeOf (.type "Exception")) (.type "type") := Looks.of_pure (by kernel_rfl)
  have hg : findIn (G.K Cx.w.params) (.type "type") "__getattribute__" = some (some (.builtin "type.__getattribute__")) := type_tga
  unfold getMethod specialOf
  refine wpAny_bind (wpAny_bind (L0.here ((looks_findIn X0 hg).here ?_)))
  dsimp only
  rw [if_pos canon_tga]
  refine wpAny_bind (wpAny_mono (Q := fun v => Q (v, [])) (E := E) ?_ (fun _ _ z => wpAny_pure z) fun _ _ z => z)
  have LO : Looks (model G.P Cx.w) s.heap (opaqueClassAbove (.type "Exception")) none := Looks.of_pure hstub
  have hh : handedIn (.builtin "Exception.__init__") = true := by decide +kernel
  refine cls_open X0 LO L0 hg (looks_hook X0 (r := none) (by rfl)) (by show subIn (G.K Cx.w.params) _ _ = _; rfl) (excInit_found _)
    (wpAny_pure (by show wpAny _ _ (handedOut (.builtin "Exception.__init__")) _ _ _; rw [handedOut_of hh]; exact wpAny_pure (q _)))
end
end Mine
end
section
open PySem PySem.W PySem.Calls PyProof.Rows
set_option maxRecDepth 100000
set_option autoImplicit false
set_option maxHeartbeats 4000000
namespace Mine

section
variable {G : Gl} {F : Fn} {d : Nat} {hd : Option Addr} {X : Addr → St → Prop} {σ : St}

theorem VR.int_inv {h : Heap} {v : Value} {i : Int} (V : VR h v (.int i)) : ∃ t, v = .int i t := by cases V; exact ⟨_, rfl⟩
theorem VR.str_inv {h : Heap} {v : Value} {x : Str} (V : VR h v (.str x)) : ∃ t, v = .str x t := by cases V; exact ⟨_, rfl⟩
theorem VR.bool_inv {h : Heap} {v : Value} {x : Bool} (V : VR h v (.bool x)) : v = .bool x := by cases V; rfl
theorem VR.none_inv {h : Heap} {v : Value} (V : VR h v .none) : v = .none := by cases V; rfl
theorem VR.ref_inv {h : Heap} {v : Value} {a : Addr} (V : VR h v (.ref a)) : v = .ref a := by cases V; rfl
theorem VR.tup_inv {h : Heap} {v : Value} {xs : List AV} (V : VR h v (.tup xs)) : ∃ a vs n, v = .ref a ∧ h.get? a = some (tupObj vs n) ∧ VRs h vs xs := by cases V with | tup e r => exact ⟨_, _, _, rfl, e, r⟩

theorem ho2 {t : Value → Value → Sem Value} {a b : AV} {k : AV → St → Prop} (h : ∀ C A L fr s v w, Ok G C A (F.env L :: fr.map (·.1)) d → InvF C F L fr σ s.heap → VR s.heap v a → VR s.heap w b → wpAny (model G.P C.w) (arnd A hd) (t v w) (PV C F L fr s k) (PX C F L fr s X) s) : HO G F d hd (op2 t) [a, b] σ k X := by
  refine ⟨?_⟩
  intro C A L fr s vs ok I V
  cases V with
  | cons v r =>
    cases r with
    | cons w r =>
      cases r
      exact h C A L fr s _ _ ok I v w
theorem ho1 {t : Value → Sem Value} {a : AV} {k : AV → St → Prop} (h : ∀ C A L fr s v, Ok G C A (F.env L :: fr.map (·.1)) d → InvF C F L fr σ s.heap → VR s.heap v a → wpAny (model G.P C.w) (arnd A hd) (t v) (PV C F L fr s k) (PX C F L fr s X) s) : HO G F d hd (op1 t) [a] σ k X := by
  refine ⟨?_⟩
  intro C A L fr s vs ok I V
  cases V with
  | cons v r =>
    cases r
    exact h C A L fr s _ ok I v

theorem o_add {a b : Int} {k : AV → St → Prop} (h : k (.int (a + b)) σ) : HO G F d hd (op2 (binaryOp .Add)) [.int a, .int b] σ k X := ho2 fun C A L fr s v w ok I V W => by
  obtain ⟨t, rfl⟩ := V.int_inv; obtain ⟨u, rfl⟩ := W.int_inv
  exact PyProof.Rows.add_int ⟨_, _, I, .toks s _, .int _ _, h⟩
theorem o_sub {a b : Int} {k : AV → St → Prop} (h : k (.int (a - b)) σ) : HO G F d hd (op2 (binaryOp .Sub)) [.int a, .int b] σ k X := ho2 fun C A L fr s v w ok I V W => by
  obtain ⟨t, rfl⟩ := V.int_inv; obtain ⟨u, rfl⟩ := W.int_inv
  exact PyProof.Rows.sub_int ⟨_, _, I, .toks s _, .int _ _, h⟩
theorem o_mod {a b : Int} {k : AV → St → Prop} (hb : b ≠ 0) (h : k (.int (a.fmod b)) σ) : HO G F d hd (op2 (binaryOp .Mod)) [.int a, .int b] σ k X := ho2 fun C A L fr s v w ok I V W => by
  obtain ⟨t, rfl⟩ := V.int_inv; obtain ⟨u, rfl⟩ := W.int_inv
  exact PyProof.Rows.mod_int hb ⟨_, _, I, .toks s _, .int _ _, h⟩
theorem o_fdiv {a b : Int} {k : AV → St → Prop} (hb : b ≠ 0) (hp : b.natAbs < 1073741824) (h : k (.int (a.fdiv b)) σ) : HO G F d hd (op2 (binaryOp .FloorDiv)) [.int a, .int b] σ k X := ho2 fun C A L fr s v w ok I V W => by
  obtain ⟨t, rfl⟩ := V.int_inv; obtain ⟨u, rfl⟩ := W.int_inv
  exact PyProof.Rows.floordiv_int hb ⟨_, _, I, .toks s _, .int _ _, h⟩ (.inl (PyProof.noPylong_small hp))
theorem o_lt {a b : Int} {k : AV → St → Prop} (h : k (.bool (decide (a < b))) σ) : HO G F d hd (op2 (compareOp .Lt)) [.int a, .int b] σ k X := ho2 fun C A L fr s v w ok I V W => by
  obtain ⟨t, rfl⟩ := V.int_inv; obtain ⟨u, rfl⟩ := W.int_inv
  exact PyProof.Rows.lt_int ⟨_, _, I, .refl s, .bool _, h⟩
theorem o_gt {a b : Int} {k : AV → St → Prop} (h : k (.bool (decide (b < a))) σ) : HO G F d hd (op2 (compareOp .Gt)) [.int a, .int b] σ k X := ho2 fun C A L fr s v w ok I V W => by
  obtain ⟨t, rfl⟩ := V.int_inv; obtain ⟨u, rfl⟩ := W.int_inv
  exact PyProof.Rows.gt_int ⟨_, _, I, .refl s, .bool _, h⟩
theorem o_ne_int {a b : Int} {k : AV → St → Prop} (h : k (.bool (a != b)) σ) : HO G F d hd (op2 (compareOp .NotEq)) [.int a, .int b] σ k X := ho2 fun C A L fr s v w ok I V W => by
  obtain ⟨t, rfl⟩ := V.int_inv; obtain ⟨u, rfl⟩ := W.int_inv
  exact PyProof.Rows.ne_int ⟨_, _, I, .refl s, .bool _, h⟩

theorem o_adds {a b : Str} {k : AV → St → Prop} (hz : a.length + b.length ≤ 1000) (h : k (.str (a ++ b)) σ) : HO G F d hd (op2 (binaryOp .Add)) [.str a, .str b] σ k X := ho2 fun C A L fr s v w ok I V W => by
  obtain ⟨t, rfl⟩ := V.str_inv; obtain ⟨u, rfl⟩ := W.str_inv
  exact PyProof.Rows.add_str (fun t' tk => ⟨_, _, I, .toks s _, .str _ _, h⟩) (by rw [sizeLine_eq]; omega)
theorem o_eq_str {a b : Str} {k : AV → St → Prop} (h : k (.bool (a == b)) σ) : HO G F d hd (op2 (compareOp .Eq)) [.str a, .str b] σ k X := ho2 fun C A L fr s v w ok I V W => by
  obtain ⟨t, rfl⟩ := V.str_inv; obtain ⟨u, rfl⟩ := W.str_inv
  exact PyProof.Rows.eq_str ⟨_, _, I, .refl s, .bool _, h⟩

noncomputable def AV.isNone : AV → Bool
  | .none => true
  | _ => false
theorem VR.isNone {h : Heap} {v : Value} {x : AV} (V : VR h v x) : (v == .none) = x.isNone := by cases V <;> first | rfl | simp [AV.isNone]
theorem o_is_none {x : AV} {k : AV → St → Prop} (h : k (.bool x.isNone) σ) : HO G F d hd (op2 (compareOp .Is)) [x, .none] σ k X := ho2 fun C A L fr s v w ok I V W => by
  obtain rfl := W.none_inv
  refine PyProof.Rows.is_none_gen ?_
  rw [V.isNone]
  exact ⟨_, _, I, .refl s, .bool _, h⟩
theorem o_isnot_none {x : AV} {k : AV → St → Prop} (h : k (.bool (!x.isNone)) σ) : HO G F d hd (op2 (compareOp .IsNot)) [x, .none] σ k X := ho2 fun C A L fr s v w ok I V W => by
  obtain rfl := W.none_inv
  have e : compareOp .IsNot v .none = pure (.bool (!(v == .none))) := by cases V <;> rfl
  rw [e, V.isNone]
  exact wpAny_pure ⟨_, _, I, .refl s, .bool _, h⟩

theorem b_bool {b : Bool} {k : Bool → St → Prop} (h : k b σ) : HB G F d hd truthy (.bool b) σ k X := by
  refine ⟨?_⟩
  intro C A L fr s v ok I V
  obtain rfl := V.bool_inv
  exact wpAny_truthy_bool ⟨_, I, .refl s, h⟩

noncomputable abbrev kTup (k : AV → St → Prop) : List AV → St → Prop := fun xs σ₁ => xs.length ≤ 1000 ∧ k (.tup xs) σ₁
theorem kTup_i {k : AV → St → Prop} {xs : List AV} (e : Nat.ble xs.length 1000 = true) (h : k (.tup xs) σ) : kTup k xs σ := ⟨Nat.le_of_ble_eq_true e, h⟩
noncomputable abbrev kLst (k : AV → St → Prop) : List AV → St → Prop := fun xs σ₁ => xs.length ≤ 1000 ∧ ∀ a, k (.ref a) ⟨σ₁.loc, (a, .list xs) :: σ₁.H⟩
theorem kLst_i {k : AV → St → Prop} {xs : List AV} (e : Nat.ble xs.length 1000 = true) (h : ∀ a, k (.ref a) ⟨σ.loc, (a, .list xs) :: σ.H⟩) : kLst k xs σ := ⟨Nat.le_of_ble_eq_true e, h⟩
theorem e_tuple {es : List Expr} {n : Nat} {pos : Pos} {k : AV → St → Prop} (h : HEs G F d hd es σ (kTup k) X) : HE G F d hd (.Tuple es n pos) σ k X := by
  refine ⟨?_⟩
  intro C A L fr s ok I
  refine wpAny_Tuple (wpAny_mono (h.run C A L fr s pos ok I) (fun vs s₁ p₁ => ?_) fun _ _ e => e)
  obtain ⟨xs, σ₁, ⟨m, I0, lr⟩, S₁, V₁, hz, h₁⟩ := p₁
  have kp : ∀ b o, s₁.heap.get? b = some o → (s₁.heap.push (tupObj vs 0)).get? b = some o := fun b o e => Heap.get?_push_of_some _ e
  refine ⟨by rw [V₁.length, sizeLine_eq]; omega, .tup xs, σ₁, ⟨m, I0.mono kp, lr.1.mono (.of kp), lr.2⟩, S₁.trans ⟨.of kp, rfl, rfl⟩, ?_, h₁⟩
  exact .tup (n := 0) (Heap.get?_push_size _ rfl) (V₁.mono (.of kp))
theorem e_list {es : List Expr} {pos : Pos} {k : AV → St → Prop} (h : HEs G F d hd es σ (kLst k) X) : HE G F d hd (.List es pos) σ k X := by
  refine ⟨?_⟩
  intro C A L fr s ok I
  refine wpAny_List (wpAny_mono (h.run C A L fr s pos ok I) (fun vs s₁ p₁ => ?_) fun _ _ e => e)
  obtain ⟨xs, σ₁, ⟨m, I0, lr⟩, S₁, V₁, hz, h₁⟩ := p₁
  have kp : ∀ b o, s₁.heap.get? b = some o → (s₁.heap.push (lstObj vs 0)).get? b = some o := fun b o e => Heap.get?_push_of_some _ e
  have J := I0.take kp (a := s₁.heap.objs.size) (o := .list xs) (fun x hx => by simp [AObj.foot] at hx; rw [hx]; exact Heap.get?_none_of_le (Nat.le_refl _)) (by simp [AObj.foot]) ⟨vs, 0, Heap.get?_push_size _ rfl, V₁.mono (.of kp)⟩
  exact ⟨by rw [V₁.length, sizeLine_eq]; omega, .ref _, ⟨σ₁.loc, _⟩, ⟨m, J, lr.1.mono (.of kp), lr.2⟩, S₁.trans ⟨.of kp, rfl, rfl⟩, .ref _, h₁ _⟩

theorem VRs.get {h : Heap} : ∀ {vs : List Value} {xs : List AV} {i : Nat} {x : AV}, VRs h vs xs → xs[i]? = some x → ∃ v, vs[i]? = some v ∧ VR h v x
  | _, _, i, x, .nil, e => by simp at e
  | _, _, 0, x, .cons v r, e => by simp at e; subst e; exact ⟨_, rfl, v⟩
  | _, _, i + 1, x, .cons v r, e => by simpa using r.get (by simpa using e)
theorem VRs.set {h : Heap} : ∀ {vs : List Value} {xs : List AV} (i : Nat) {w : Value} {x : AV}, VRs h vs xs → VR h w x → VRs h (vs.set i w) (xs.set i x)
  | _, _, i, _, _, .nil, _ => .nil
  | _, _, 0, _, _, .cons v r, W => .cons W r
  | _, _, i + 1, _, _, .cons v r, W => .cons v (r.set i W)
theorem VRs.eraseIdx {h : Heap} : ∀ {vs : List Value} {xs : List AV} (i : Nat), VRs h vs xs → VRs h (vs.eraseIdx i) (xs.eraseIdx i)
  | _, _, i, .nil => .nil
  | _, _, 0, .cons v r => r
  | _, _, i + 1, .cons v r => .cons v (r.eraseIdx i)
theorem Inv0.list {C : Cx} {fr : Frs} {H : AH} {h : Heap} {l : Addr} {xs : List AV} (I : Inv0 C fr H h) (e : InH l (.list xs) H) : ∃ vs n, h.get? l = some (lstObj vs n) ∧ VRs h vs xs ∧ h.IsList l vs.toArray := by
  obtain ⟨vs, n, ho, V⟩ := I.obj _ e.mem
  exact ⟨vs, n, ho, V, _, ho, rfl, n, rfl⟩

theorem seqIndex_nn {i : Int} {n : Nat} (h0 : 0 ≤ i) (h1 : i.toNat < n) : seqIndex? i n = some i.toNat := by
  unfold seqIndex?
  have e : (if i < 0 then i + (n : Int) else i) = i := if_neg (by omega)
  simp only [e]
  rw [if_pos]
  simp only [Bool.and_eq_true, decide_eq_true_eq]
  omega
theorem e_sub {value slice : Expr} {pos : Pos} {k : AV → St → Prop} (h : HE G F d hd value σ (kO2 G F d hd X slice (subscriptTail value slice) k) X) : HE G F d hd (.Subscript value slice pos) σ k X := by
  refine ⟨?_⟩
  intro C A L fr s ok I
  refine Subscript_ (wpAny_mono (h.run C A L fr s ok I) (fun v₁ s₁ p₁ => ?_) fun _ _ e => e)
  obtain ⟨a, σ₁, I₁, S₁, V₁, h₁⟩ := p₁
  refine wpAny_mono (h₁.run C A L fr s₁ ok I₁) (fun v₂ s₂ p₂ => ?_) fun _ _ e => e.trans S₁
  obtain ⟨b, σ₂, I₂, S₂, V₂, h₂⟩ := p₂
  exact wpAny_mono (h₂.run C A L fr s₂ [v₁, v₂] ok I₂ (.cons (V₁.mono S₂.1) (.cons V₂ .nil))) (fun _ _ p => p.trans (S₁.trans S₂)) fun _ _ e => e.trans (S₁.trans S₂)
theorem sub_list {value slice : Expr} {l : Addr} {xs : List AV} {i : Int} {x : AV} {k : AV → St → Prop} (hl : InH l (.list xs) σ.H) (h0 : 0 ≤ i) (h1 : i < 1000) (hx : xs[i.toNat]? = some x) (h : k x σ)
    (hs : ∀ o i, subscripted slice false o i = operate [o, i] (getItem o i) := by intros; with_unfolding_all rfl) : HO G F d hd (op2 (subscriptTail value slice)) [.ref l, .int i] σ k X := ho2 fun C A L fr s v w ok I V W => by
  obtain rfl := V.ref_inv; obtain ⟨u, rfl⟩ := W.int_inv
  obtain ⟨m, I0, lr⟩ := I
  obtain ⟨vs, n, ho, Vs, hl⟩ := I0.list hl
  obtain ⟨y, hy, Y⟩ := Vs.get hx
  exact tail_any hl.typeIs slot_list_getitem.lookup (wpAny_getItem_list hl h0 (by omega) (by simpa using hy) ⟨x, σ, ⟨m, I0, lr⟩, .refl s, Y, h⟩) (hs _ _)
theorem sub_tup {value slice : Expr} {xs : List AV} {i : Int} {x : AV} {k : AV → St → Prop} (h0 : 0 ≤ i) (h1 : i < 1000) (hx : xs[i.toNat]? = some x) (h : k x σ)
    (hs : ∀ o i, subscripted slice false o i = operate [o, i] (getItem o i) := by intros; with_unfolding_all rfl) : HO G F d hd (op2 (subscriptTail value slice)) [.tup xs, .int i] σ k X := ho2 fun C A L fr s v w ok I V W => by
  obtain ⟨a, vs, n, rfl, ha, Vs⟩ := V.tup_inv; obtain ⟨u, rfl⟩ := W.int_inv
  obtain ⟨y, hy, Y⟩ := Vs.get hx
  have ht : IsTup s.heap a vs.toArray := ⟨_, ha, rfl, n, rfl⟩
  have hlt : i.toNat < vs.length := by
    have := (List.getElem?_eq_some_iff.mp hy).1; exact this
  exact tail_any (T := "tuple") ⟨_, ha, rfl⟩ slot_tuple_getitem.lookup (PyProof.Rows.getItem_tuple ht (by omega) (by omega) (j := i.toNat) (seqIndex_nn h0 (by simpa using hlt)) (by simpa using hy) ⟨x, σ, I, .refl s, Y, h⟩) (hs _ _)
theorem sub_str {value slice : Expr} {y : Str} {i : Int} {c : Nat} {k : AV → St → Prop} (h0 : 0 ≤ i) (h1 : i < 1000) (hx : y.cps[i.toNat]? = some c) (h : k (.str ⟨#[c]⟩) σ)
    (hs : ∀ o i, subscripted slice false o i = operate [o, i] (getItem o i) := by intros; with_unfolding_all rfl) : HO G F d hd (op2 (subscriptTail value slice)) [.str y, .int i] σ k X := ho2 fun C A L fr s v w ok I V W => by
  obtain ⟨t, rfl⟩ := V.str_inv; obtain ⟨u, rfl⟩ := W.int_inv
  have hlt : i.toNat < y.cps.size := (Array.getElem?_eq_some_iff.mp hx).1
  exact tail_any (T := "str") rfl PySem.F.slot_str_getitem.lookup (PyProof.Rows.getItem_str (c := c) (by simp; omega) (by
    have e : seqIndex? i y.length = some i.toNat := seqIndex_nn h0 hlt
    rw [e]; exact hx) ⟨_, σ, I, .toks s _, .str _ _, h⟩) (hs _ _)

theorem VKs.getE {h : Heap} {x : Str} {av : AV} : ∀ {kvs : List (Str × Value)} {es : List (Str × AV)}, VKs h kvs es → GetE x av es → ∃ v, valueAt kvs x = some v ∧ VR h v av := by
  intro ds es h
  induction h with
  | nil => intro g; cases g
  | cons V _ ih =>
    intro g
    cases g with
    | head => exact ⟨_, by simp [valueAt], V⟩
    | tail n g =>
      obtain ⟨w, e, W⟩ := ih g
      refine ⟨w, ?_, W⟩
      simp only [valueAt, List.find?_cons]
      rw [decide_eq_false n]
      exact e
theorem VKs.noE {h : Heap} {x : Str} : ∀ {kvs : List (Str × Value)} {es : List (Str × AV)}, VKs h kvs es → NoE x es → valueAt kvs x = none := by
  intro ds es h
  induction h with
  | nil => intro _; rfl
  | cons V _ ih =>
    intro g
    cases g with
    | cons n g =>
      simp only [valueAt, List.find?_cons]
      rw [decide_eq_false n]
      exact ih g
theorem VKs.length {h : Heap} : ∀ {kvs : List (Str × Value)} {es : List (Str × AV)}, VKs h kvs es → kvs.length = es.length := by
  intro ds es h
  induction h with
  | nil => rfl
  | cons _ _ ih => exact congrArg (· + 1) ih
theorem VKs.fst {h : Heap} : ∀ {kvs : List (Str × Value)} {es : List (Str × AV)}, VKs h kvs es → kvs.map (·.1) = es.map (·.1) := by
  intro ds es h
  induction h with
  | nil => rfl
  | cons _ _ ih => simp [ih]
theorem NoE.of {x : Str} : ∀ {es : List (Str × AV)}, x ∉ es.map (·.1) → NoE x es
  | [], _ => .nil
  | p :: es, h => by
    simp only [List.map_cons, List.mem_cons, not_or] at h
    exact .cons (Ne.symm h.1) (.of h.2)
theorem stored_new {kvs : List (Str × Value)} {x : Str} {v : Value} (h : x ∉ kvs.map (·.1)) : stored kvs x v = kvs ++ [(x, v)] := by
  unfold stored
  rw [if_neg]
  simp only [List.any_eq_true, decide_eq_true_eq, not_exists, not_and]
  exact fun p hp e => h (List.mem_map.mpr ⟨p, hp, e⟩)
theorem stored_old {x : Str} {v : Value} : ∀ {kvs : List (Str × Value)}, (kvs.map (·.1)).Nodup → x ∈ kvs.map (·.1) → stored kvs x v = kvs.map fun p => if p.1 = x then (p.1, v) else p := by
  intro kvs nd hm
  unfold stored
  rw [if_pos]
  obtain ⟨p, hp, e⟩ := List.mem_map.mp hm
  exact List.any_eq_true.mpr ⟨p, hp, by simp [e]⟩
theorem VKs.map_none {h : Heap} {x : Str} {v : Value} : ∀ {kvs : List (Str × Value)} {es : List (Str × AV)}, VKs h kvs es → x ∉ kvs.map (·.1) → VKs h (kvs.map fun p => if p.1 = x then (p.1, v) else p) es := by
  intro ds es h
  induction h with
  | nil => intro _; exact .nil
  | cons V _ ih =>
    intro n
    simp only [List.map_cons, List.mem_cons, not_or] at n
    rw [List.map_cons, if_neg (Ne.symm n.1)]
    exact .cons V (ih n.2)
theorem VKs.snoc {h : Heap} {x : Str} {v : Value} {av : AV} (W : VR h v av) : ∀ {kvs : List (Str × Value)} {es : List (Str × AV)}, VKs h kvs es → VKs h (kvs ++ [(x, v)]) (es ++ [(x, av)]) := by
  intro ds es h
  induction h with
  | nil => exact .cons W .nil
  | cons V _ ih => exact .cons V ih
theorem PutE.snoc {x : Str} {av : AV} : ∀ {es : List (Str × AV)}, x ∉ es.map (·.1) → ∀ {es'}, PutE x av es es' → es' = es ++ [(x, av)] := by
  intro es n es' h
  induction h with
  | nil => rfl
  | head => simp at n
  | tail _ _ ih =>
    simp only [List.map_cons, List.mem_cons, not_or] at n
    rw [ih n.2]; rfl
theorem VKs.putE {h : Heap} {x : Str} {v : Value} {av : AV} (W : VR h v av) {es es' : List (Str × AV)} (g : PutE x av es es') : ∀ {kvs : List (Str × Value)}, (kvs.map (·.1)).Nodup → VKs h kvs es → VKs h (stored kvs x v) es' := by
  intro kvs nd r
  by_cases hm : x ∈ kvs.map (·.1)
  · rw [stored_old nd hm]
    induction g generalizing kvs with
    | nil => cases r; simp at hm
    | head =>
      cases r with
      | cons V r =>
        simp only [List.map_cons, if_true]
        exact .cons W (r.map_none (List.nodup_cons.mp nd).1)
    | tail n g ih =>
      cases r with
      | cons V r =>
        rw [List.map_cons, if_neg n]
        refine .cons V (ih (List.nodup_cons.mp nd).2 r ?_)
        rcases List.mem_cons.mp hm with q | q
        · exact absurd q.symm n
        · exact q
  · rw [stored_new hm, PutE.snoc (r.fst ▸ hm) g]
    exact r.snoc W
theorem Inv0.dict {C : Cx} {fr : Frs} {H : AH} {h : Heap} {l : Addr} {es : List (Str × AV)} (I : Inv0 C fr H h) (e : InH l (.dict es) H) : ∃ kvs, h.DictOf (strKind C.P C.w) l kvs ∧ VKs h kvs es := I.obj _ e.mem
theorem notSys {C : Cx} {A : Around} {envs : List Env} {fr : Frs} {H : AH} {h : Heap} {l : Addr} {o : AObj} (ok : Ok G C A envs d) (I : Inv0 C fr H h) (e : InH l o H) : (l == sysModules) = false := by
  refine Bool.eq_false_iff.mpr fun q => ?_
  have q := eq_of_beq q
  have := (I.newH l (mem_feet e.mem (by cases o <;> simp [AObj.foot]))).1.1
  have s := ok.sm
  rw [← q, this] at s
  cases s
theorem sub_dict {value slice : Expr} {l : Addr} {es : List (Str × AV)} {y : Str} {x : AV} {k : AV → St → Prop} (hl : InH l (.dict es) σ.H) (hx : GetE y x es) (h : k x σ)
    (hs : ∀ o i, subscripted slice false o i = operate [o, i] (getItem o i) := by intros; with_unfolding_all rfl) : HO G F d hd (op2 (subscriptTail value slice)) [.ref l, .str y] σ k X := ho2 fun C A L fr s v w ok I V W => by
  obtain rfl := V.ref_inv; obtain ⟨u, rfl⟩ := W.str_inv
  obtain ⟨m, I0, lr⟩ := I
  obtain ⟨kvs, D, r⟩ := I0.dict hl
  rw [ok.P] at D
  obtain ⟨z, hz, Z⟩ := r.getE hx
  exact tail_any D.typeIs PySem.F.slot_dict_getitem.lookup (wpAny_getItem_of (strKind_is _ _ _ _) D.mapOf hz ⟨x, σ, ⟨m, I0, lr⟩, .toks s _, Z, h⟩) (hs _ _)
theorem valueAt_isSome {h : Heap} {x : Str} {kvs : List (Str × Value)} {es : List (Str × AV)} (r : VKs h kvs es) : (valueAt kvs x).isSome = es.any fun p => p.1 == x := by
  induction r with
  | nil => rfl
  | cons V r ih =>
    rename_i k v _ _ _
    simp only [valueAt, List.find?_cons, List.any_cons]
    by_cases q : k = x
    · simp [q]
    · rw [decide_eq_false q, beq_eq_false_iff_ne.mpr q, Bool.false_or]; exact ih
theorem o_in_dict {l : Addr} {es : List (Str × AV)} {y : Str} {k : AV → St → Prop} (hl : InH l (.dict es) σ.H) (h : k (.bool (es.any fun p => p.1 == y)) σ) : HO G F d hd (op2 (compareOp .In)) [.str y, .ref l] σ k X := ho2 fun C A L fr s v w ok I V W => by
  obtain rfl := W.ref_inv; obtain ⟨u, rfl⟩ := V.str_inv
  obtain ⟨m, I0, lr⟩ := I
  obtain ⟨kvs, D, r⟩ := I0.dict hl
  rw [ok.P] at D
  refine wpAny_in_of (strKind_is _ _ _ _) (notSys ok I0 hl) D.mapOf ?_
  rw [valueAt_isSome r]
  exact ⟨_, σ, ⟨m, I0, lr⟩, .toks s _, .bool _, h⟩
theorem o_notin_dict {l : Addr} {es : List (Str × AV)} {y : Str} {k : AV → St → Prop} (hl : InH l (.dict es) σ.H) (h : k (.bool (!(es.any fun p => p.1 == y))) σ) : HO G F d hd (op2 (compareOp .NotIn)) [.str y, .ref l] σ k X := ho2 fun C A L fr s v w ok I V W => by
  obtain rfl := W.ref_inv; obtain ⟨u, rfl⟩ := V.str_inv
  obtain ⟨m, I0, lr⟩ := I
  obtain ⟨kvs, D, r⟩ := I0.dict hl
  rw [ok.P] at D
  refine wpAny_notIn_of (strKind_is _ _ _ _) (notSys ok I0 hl) D.mapOf ?_
  rw [valueAt_isSome r]
  exact ⟨_, σ, ⟨m, I0, lr⟩, .toks s _, .bool _, h⟩
end
end Mine
end
section
open PySem PySem.W PySem.Calls PyProof.Rows
set_option maxRecDepth 100000
set_option autoImplicit false
set_option maxHeartbeats 4000000
namespace Mine

section
variable {G : Gl} {F : Fn} {d : Nat} {hd : Option Addr} {X : Addr → St → Prop} {σ : St}

theorem lst_ht {h : Heap} {l : Addr} {vs : List Value} {n : Nat} (ho : h.get? l = some (lstObj vs n)) : (∀ vs' n', h.get? l ≠ some (tupObj vs' n')) ∧ ∀ oT ts, h.get? l = some oT → oT.cls = .type "traceback" → oT.data = .fields ts → False :=
  ⟨fun _ _ e => by rw [ho] at e; simp at e, fun oT ts e _ q => by rw [ho] at e; cases e; cases q⟩
theorem Inv0.setList {C : Cx} {fr : Frs} {H H' : AH} {h : Heap} {l : Addr} {xs xs' : List AV} {f : Array Value → Array Value} (I : Inv0 C fr H h) (e : SetH l (.list xs) (.list xs') H H') (hf : ∀ vs, VRs h vs xs → ∃ vs', f vs.toArray = vs'.toArray ∧ VRs h vs' xs') :
    Inv0 C fr H' (h.update l (Obj.mapSeq f)) ∧ TL h (h.update l (Obj.mapSeq f)) := by
  obtain ⟨vs, n, ho, Vs, _⟩ := I.list e.inH
  obtain ⟨vs', e1, V'⟩ := hf vs Vs
  obtain ⟨h1, h2⟩ := lst_ht ho
  have hs := Heap.SameBut.update h l (Obj.mapSeq f)
  have T : TL h (h.update l (Obj.mapSeq f)) := .turn hs h1
  have q := PySem.IsL.update (show IsL h l vs.toArray n from ho) f
  rw [e1] at q
  exact ⟨I.turnH e (.head _) rfl hs h1 h2 ⟨vs', _, q, V'.mono T⟩, T⟩

theorem s_setitem {o i e : Expr} {sp pos : Pos} {k : Fl → St → Prop}
    (h : HE G F d hd e σ (fun v σ₁ => HE G F d hd o σ₁ (fun ov σ₂ => HE G F d hd i σ₂ (fun iv σ₃ =>
      (∃ l xs H' n, ov = .ref l ∧ iv = .int n ∧ 0 ≤ n ∧ n < 1000 ∧ n < xs.length ∧ SetH l (.list xs) (.list (xs.set n.toNat v)) σ₃.H H' ∧ k .next ⟨σ₃.loc, H'⟩) ∨
      ∃ l es es' H' x, ov = .ref l ∧ iv = .str x ∧ SetH l (.dict es) (.dict es') σ₃.H H' ∧ PutE x v es es' ∧ es.length ≤ 1000 ∧ k .next ⟨σ₃.loc, H'⟩) X) X) X)
    (hs : ∀ env, swapsWith e (some (.Subscript o i sp)) pos.line env = pure false := by intros; with_unfolding_all rfl) : HS G F d hd (.Assign [.Subscript o i sp] e pos) σ k X := by
  refine ⟨?_⟩
  intro C A L fr s ok I
  refine wpAny_Assign_Subscript (wpAny_mono (h.run C A L fr s ok I) (fun v s₁ p₁ => ?_) fun _ _ e => e) (hs _)
  obtain ⟨a, σ₁, I₁, S₁, V₁, h₁⟩ := p₁
  refine wpAny_mono (h₁.run C A L fr s₁ ok I₁) (fun ov s₂ p₂ => ?_) fun _ _ e => e.trans S₁
  obtain ⟨b, σ₂, I₂, S₂, V₂, h₂⟩ := p₂
  refine wpAny_mono (h₂.run C A L fr s₂ ok I₂) (fun iv s₃ p₃ => ?_) fun _ _ e => e.trans (S₁.trans S₂)
  obtain ⟨c, σ₃, I₃, S₃, V₃, h₃⟩ := p₃
  have V₁' := (V₁.mono S₂.1).mono S₃.1
  have V₂' := V₂.mono S₃.1
  have S := (S₁.trans S₂).trans S₃
  obtain ⟨m, I0, lr⟩ := I₃
  rcases h₃ with ⟨l, xs, H', n, rfl, rfl, h0, h9, hn, e, h₄⟩ | ⟨l, es, es', H', x, rfl, rfl, e, hp, hz, h₄⟩
  · obtain rfl := V₂'.ref_inv; obtain ⟨u, rfl⟩ := V₃.int_inv
    obtain ⟨vs, k', ho, Vs, _⟩ := I0.list e.inH
    refine ki_setAt ho h0 (by omega) (by rw [List.size_toArray, Vs.length]; exact hn) ?_
    obtain ⟨I', T⟩ := I0.setList (f := (·.setIfInBounds n.toNat v)) e fun vs Vs => ⟨vs.set n.toNat v, by simp, Vs.set _ V₁'⟩
    exact ⟨.next, ⟨σ₃.loc, H'⟩, ⟨m, I', lr.1.mono T, lr.2⟩, S.trans ⟨T, rfl, rfl⟩, trivial, h₄⟩
  · obtain rfl := V₂'.ref_inv; obtain ⟨u, rfl⟩ := V₃.str_inv
    obtain ⟨kvs, D, r⟩ := I0.dict e.inH
    have D' := D
    rw [ok.P] at D
    obtain ⟨o₀, es₀, ep₀, ho, ex, hdat, _, _, nd⟩ := D'
    refine wpAny_setItem_pairs (strKind_is _ _ _ _) D (fun h' D' hs' => ?_) (by rw [r.length, sizeLine_eq]; omega)
    have h1 : ∀ vs n, s₃.heap.get? l ≠ some (tupObj vs n) := fun vs n e => by rw [ho] at e; cases e; cases hdat
    have h2 : ∀ oT ts, s₃.heap.get? l = some oT → oT.cls = .type "traceback" → oT.data = .fields ts → False := fun oT ts e _ q => by rw [ho] at e; cases e; rw [hdat] at q; cases q
    have T : TL s₃.heap h' := .turn hs' h1
    rw [← ok.P] at D'
    exact ⟨.next, ⟨σ₃.loc, H'⟩, ⟨m, I0.turnH e (x := l) (.head _) rfl hs' h1 h2 ⟨_, D', VKs.putE (V₁'.mono T) hp nd (r.mono T)⟩, lr.1.mono T, lr.2⟩, S.trans ⟨T, rfl, rfl⟩, trivial, h₄⟩

theorem o_len_list {l : Addr} {xs : List AV} {k : AV → St → Prop} (hl : InH l (.list xs) σ.H) (hz : xs.length ≤ 1000) (h : k (.int xs.length) σ) : HO G F d hd (fun vs => call (.builtin "len") vs) [.ref l] σ k X := by
  refine ⟨?_⟩
  intro C A L fr s vs ok I V
  cases V with
  | cons v r =>
    cases r
    obtain rfl := v.ref_inv
    obtain ⟨m, I0, lr⟩ := I
    obtain ⟨vs, n, ho, Vs, il⟩ := I0.list hl
    refine PyProof.Rows.len_list il (by rw [List.size_toArray, Vs.length]; omega) ?_
    rw [List.size_toArray, Vs.length]
    exact ⟨_, σ, ⟨m, I0, lr⟩, .toks s _, .int _ _, h⟩
theorem o_len_str {x : Str} {k : AV → St → Prop} (hz : x.length ≤ 1000) (h : k (.int x.length) σ) : HO G F d hd (fun vs => call (.builtin "len") vs) [.str x] σ k X := by
  refine ⟨?_⟩
  intro C A L fr s vs ok I V
  cases V with
  | cons v r =>
    cases r
    obtain ⟨t, rfl⟩ := v.str_inv
    exact PyProof.Rows.len_str (by omega) ⟨_, σ, I, .toks s _, .int _ _, h⟩

theorem gm_list {l : Addr} {xs : List AV} {name : Str} {id : String} (slot : Slot "list" name id) (ty : typeOf (.builtin id) = pure (.type "method_descriptor")) (hl : InH l (.list xs) σ.H) : GM G F d name (.ref l) (.builtin id) σ := by
  refine ⟨?_⟩
  intro C A L fr s v pl A' Q E ok I V q
  obtain ⟨m, I0, lr⟩ := I
  obtain ⟨vs, n, ho, Vs, il⟩ := I0.list hl
  obtain rfl := V.ref_inv
  exact getMethod_builtin ⟨_, ho, rfl⟩ PySem.F.plainAttrs_list slot ty (fun a e => by cases e; exact ⟨_, ho, rfl⟩) q
theorem gm_dict {l : Addr} {es : List (Str × AV)} {name : Str} {id : String} (slot : Slot "dict" name id) (ty : typeOf (.builtin id) = pure (.type "method_descriptor")) (hl : InH l (.dict es) σ.H) : GM G F d name (.ref l) (.builtin id) σ := by
  refine ⟨?_⟩
  intro C A L fr s v pl A' Q E ok I V q
  obtain ⟨m, I0, lr⟩ := I
  obtain ⟨kvs, D, r⟩ := I0.dict hl
  obtain rfl := V.ref_inv
  exact getMethod_builtin D.typeIs PySem.F.plainAttrs_dict slot ty D.mapOf.noDict q
theorem o_append {l : Addr} {xs : List AV} {x : AV} {H' : AH} {k : AV → St → Prop} (hz : xs.length ≤ 1000) (e : SetH l (.list xs) (.list (xs ++ [x])) σ.H H') (h : k .none ⟨σ.loc, H'⟩) : HO G F d hd (fun vs => call (.builtin "list.append") vs) [.ref l, x] σ k X := by
  refine ⟨?_⟩
  intro C A L fr s vs ok I V
  cases V with
  | cons v r =>
    cases r with
    | cons w r =>
      cases r
      obtain rfl := v.ref_inv
      obtain ⟨m, I0, lr⟩ := I
      obtain ⟨vs, n, ho, Vs, il⟩ := I0.list e.inH
      refine append_at ho (fun h' hs' hg' => ?_) (by rw [List.size_toArray, Vs.length, sizeLine_eq]; omega)
      obtain ⟨h1, h2⟩ := lst_ht ho
      have T : TL s.heap h' := .turn hs' h1
      exact ⟨.none, ⟨σ.loc, H'⟩, ⟨m, I0.turnH e (x := l) (.head _) rfl hs' h1 h2 ⟨vs ++ [_], _, by simpa using hg', (Vs.append (.cons (by assumption) .nil)).mono T⟩, lr.1.mono T, lr.2⟩, ⟨T, rfl, rfl⟩, .none, h⟩
theorem o_pop1 {l : Addr} {x y : AV} {xs : List AV} {H' : AH} {k : AV → St → Prop} (hz : xs.length ≤ 1000) (e : SetH l (.list (x :: y :: xs)) (.list (x :: xs)) σ.H H') (h : k y ⟨σ.loc, H'⟩) : HO G F d hd (fun vs => call (.builtin "list.pop") vs) [.ref l, .int 1] σ k X := by
  refine ⟨?_⟩
  intro C A L fr s vs ok I V
  cases V with
  | cons v r =>
    cases r with
    | cons w r =>
      cases r
      obtain rfl := v.ref_inv; obtain ⟨u, rfl⟩ := (show VR _ _ (.int 1) from w).int_inv
      obtain ⟨m, I0, lr⟩ := I
      obtain ⟨vs, n, ho, Vs, il⟩ := I0.list e.inH
      have hlen : vs.length = xs.length + 2 := by rw [Vs.length]; rfl
      obtain ⟨w1, hw1, W1⟩ := Vs.get (i := 1) (x := y) rfl
      refine call_meets PySem.F.slot_list_pop ⟨_, ho, rfl⟩ PySem.F.entry_list_pop (PySem.F.args_list_pop_2 _ _) (PySem.MeetsSeq.list_pop_at l vs.toArray n 1 u 1 w1 (by decide) (by unfold seqIndex?; simp [hlen]; omega) (by simpa using hw1) (by rw [List.size_toArray, hlen, sizeLine_eq]; omega)) ⟨ho, ?_⟩
      obtain ⟨I', T⟩ := I0.setList (f := fun xs => xs.eraseIdxIfInBounds 1) e fun vs' Vs' => ⟨vs'.eraseIdx 1, by
        have h9 : 1 < vs'.toArray.size := by rw [List.size_toArray, Vs'.length]; simp
        unfold Array.eraseIdxIfInBounds
        rw [dif_pos h9]
        simp, Vs'.eraseIdx 1⟩
      exact ⟨_, ⟨σ.loc, H'⟩, ⟨m, I', lr.1.mono T, lr.2⟩, ⟨T, rfl, rfl⟩, W1.mono T, h⟩
end
end Mine
end
section
open PySem PySem.W PySem.Calls PyProof.Rows
set_option maxRecDepth 100000
set_option autoImplicit false
set_option maxHeartbeats 4000000
namespace Mine

inductive PutsAt (ns : List Str) : List Str → List AV → List (Option AV) → List (Option AV) → Prop
  | nil {l} : PutsAt ns [] [] l l
  | cons {x v xs vs l l1 l2} : PutAt x (some v) ns l l1 → PutsAt ns xs vs l1 l2 → PutsAt ns (x :: xs) (v :: vs) l l2

section
variable {G : Gl} {F : Fn} {d : Nat} {hd : Option Addr} {X : Addr → St → Prop} {σ : St}

theorem assign_in {C : Cx} {L : Addr} {fr : Frs} {A : Around} {E : Value → Shared → Prop} {H : AH} : ∀ (ts : List (Str × (Value → Sem Unit))) (xs : List AV) (vs : List Value) (loc loc' : List (Option AV)) (s : Shared) (Q : Unit → Shared → Prop),
    Ok G C A (F.env L :: fr.map (·.1)) d → (∀ p ∈ ts, ∀ v Q E s, wpAny (model G.P C.w) (arnd A hd) (storeName (F.env L) p.1 v) Q E s → wpAny (model G.P C.w) (arnd A hd) (p.2 v) Q E s) →
    PutsAt F.names (ts.map (·.1)) xs loc loc' → VRs s.heap vs xs → InvF C F L fr ⟨loc, H⟩ s.heap → (∀ s', InvF C F L fr ⟨loc', H⟩ s'.heap → SL s s' → Q () s') → wpAny (model G.P C.w) (arnd A hd) (assignInOrder (ts.map (·.2)) vs) Q E s
  | [], _, _, _, _, s, Q, ok, _, p, V, I, h => by
    cases p
    exact assignInOrder_nil (h s I (.refl s))
  | t :: ts, _, _, _, _, s, Q, ok, ht, p, V, I, h => by
    cases p with
    | cons p ps =>
      cases V with
      | cons v r =>
        have hw := ht t (.head _)
        refine assignInOrder_cons (hw _ _ _ _ ?_)
        refine wpAny_mono ((store_name (hd := hd) (X := fun _ _ => False) (k := fun σ' => σ' = ⟨_, H⟩) p rfl).run C A L fr s _ ok I v) (fun _ s₁ p₁ => ?_) fun _ _ p => ?_
        · obtain ⟨_, I₁, S₁, rfl⟩ := p₁
          exact assign_in ts _ _ _ _ s₁ Q ok (fun q hq => ht q (.tail _ hq)) ps (r.mono S₁.1) I₁ fun s' I' S' => h s' I' (S₁.trans S')
        · obtain ⟨_, _, _, _, _, _, q⟩ := p; exact q.elim

theorem VRs.reverse {h : Heap} : ∀ {vs : List Value} {xs : List AV}, VRs h vs xs → VRs h vs.reverse xs.reverse
  | _, _, .nil => .nil
  | _, _, .cons v r => by
    rw [List.reverse_cons, List.reverse_cons]
    exact r.reverse.append (.cons v .nil)

theorem s_unpack {nps : List (Str × Pos)} {elts : List Expr} {n : Nat} {tpos pos : Pos} {e : Expr} {k : Fl → St → Prop} (he : elts = nps.map fun p => .Name p.1 p.2)
    (h : HE G F d none e σ (fun v σ₁ => ∃ xs loc', v = .tup xs ∧ xs.length = nps.length ∧ PutsAt F.names (nps.map (·.1)) xs σ₁.loc loc' ∧ k .next ⟨loc', σ₁.H⟩) X)
    (hs : ∀ L, swapsWithSole [.Tuple elts n tpos] e pos.line (F.env L) = pure false) (hw : ∀ L, swappedStores [.Tuple elts n tpos] e (F.env L) = pure none) : HS G F d none (.Assign [.Tuple elts n tpos] e pos) σ k X := by
  refine ⟨?_⟩
  intro C A L fr s ok I
  refine Assign_Tuple (wpAny_mono (h.run C A L fr s ok I) (fun v s₁ p₁ => ?_) fun _ _ e => e) (hs _) (hw _)
  obtain ⟨a, σ₁, I₁, S₁, V₁, xs, loc', rfl, hlen, hp, h₁⟩ := p₁
  obtain ⟨t, vs, nn, rfl, ht, Vs⟩ := V₁.tup_inv
  have e1 : assignEach elts (F.env L) = nps.map fun p => (false, fun v => (do standAt p.2; bindName (F.env L) p.1 v)) := by
    rw [he]
    clear he h hs hw hlen hp
    induction nps with
    | nil => rfl
    | cons p r ih => show (false, assign (.Name p.1 p.2) (F.env L)) :: assignEach (r.map _) _ = _; rw [ih]; rfl
  show wpAny _ _ (do standAt tpos; unpack (.ref t) (assignEach elts (F.env L))) _ _ _
  refine wpAny_bind (wpAny_standAt ?_)
  have hst : ∀ (l : List (Str × Pos)), (l.map fun p => (false, fun v => (do standAt p.2; bindName (F.env L) p.1 v))).findIdx? (·.1) = none := fun l => by
    rw [List.findIdx?_eq_none_iff]
    intro x hx
    obtain ⟨p, _, rfl⟩ := List.mem_map.mp hx
    rfl
  refine PyProof.Rows.unpack_tuple (items := vs.toArray) rfl ⟨_, ht, rfl, nn, rfl⟩ (by rw [e1, List.length_map, List.size_toArray, Vs.length, hlen]) (by rw [e1]; exact hst _) fun h' hx => ?_
  have kp : ∀ b o, s₁.heap.get? b = some o → h'.get? b = some o := fun b o e => hx b o (Nat.ne_of_lt (Heap.lt_size e)) e
  obtain ⟨m, I0, lr⟩ := I₁
  have e2 : (assignEach elts (F.env L)).map (·.2) = (nps.map fun p => (p.1, fun v => (do standAt p.2; bindName (F.env L) p.1 v))).map (·.2) := by rw [e1, List.map_map, List.map_map]; rfl
  rw [e2]
  have e3 : nps.map (·.1) = (nps.map fun p => (p.1, fun v => (do standAt p.2; bindName (F.env L) p.1 v))).map (·.1) := by rw [List.map_map]; rfl
  rw [e3] at hp
  refine assign_in (hd := none) (H := σ₁.H) _ xs vs σ₁.loc loc' { s₁ with heap := h' } _ ok (fun p hp => ?_) hp (Vs.mono (.of kp)) ⟨m, I0.mono kp, lr.1.mono (.of kp), lr.2⟩ fun s' I' S' => ⟨.next, _, I', S₁.trans ((show SL s₁ { s₁ with heap := h' } from ⟨.of kp, rfl, rfl⟩).trans S'), trivial, h₁⟩
  obtain ⟨q, hq, rfl⟩ := List.mem_map.mp hp
  exact fun v Q E s h => wpAny_bind (wpAny_standAt (wpAny_bindName h))

theorem s_swap {names : List Str} {elts : List Expr} {n : Nat} {tpos pos : Pos} {e : Expr} {k : Fl → St → Prop}
    (h : HE G F d none e σ (fun v σ₁ => ∃ xs loc', v = .tup xs ∧ xs.length = names.length ∧ PutsAt F.names names.reverse xs.reverse σ₁.loc loc' ∧ k .next ⟨loc', σ₁.H⟩) X)
    (hs : ∀ L, swapsWithSole [.Tuple elts n tpos] e pos.line (F.env L) = pure false) (hw : ∀ L, swappedStores [.Tuple elts n tpos] e (F.env L) = pure (some names)) : HS G F d none (.Assign [.Tuple elts n tpos] e pos) σ k X := by
  refine ⟨?_⟩
  intro C A L fr s ok I
  refine Assign_Tuple_swapped (wpAny_mono (h.run C A L fr s ok I) (fun v s₁ p₁ => ?_) fun _ _ e => e) (hs _) (hw _)
  obtain ⟨a, σ₁, I₁, S₁, V₁, xs, loc', rfl, hlen, hp, h₁⟩ := p₁
  obtain ⟨t, vs, nn, rfl, ht, Vs⟩ := V₁.tup_inv
  have e0 : names.length = vs.toArray.size := by rw [List.size_toArray, Vs.length, hlen]
  rw [e0]
  refine PyProof.Rows.unpackItems_tuple (items := vs.toArray) rfl ⟨_, ht, rfl, nn, rfl⟩ fun h' hx => ?_
  have kp : ∀ b o, s₁.heap.get? b = some o → h'.get? b = some o := fun b o e => hx b o (Nat.ne_of_lt (Heap.lt_size e)) e
  obtain ⟨m, I0, lr⟩ := I₁
  have e2 : (names.reverse.map fun n => bindName (F.env L) n) = (names.reverse.map fun p => (p, fun v => bindName (F.env L) p v)).map (·.2) := by rw [List.map_map]; rfl
  have e3 : names.reverse = (names.reverse.map fun p => (p, fun v => bindName (F.env L) p v)).map (·.1) := by rw [List.map_map]; exact (List.map_id _).symm
  show wpAny _ _ (assignInOrder (names.reverse.map fun n => bindName (F.env L) n) vs.reverse) _ _ _
  rw [e2]
  rw [e3] at hp
  refine assign_in (hd := none) (H := σ₁.H) _ xs.reverse vs.reverse σ₁.loc loc' { s₁ with heap := h' } _ ok (fun p hp => ?_) hp (Vs.reverse.mono (.of kp)) ⟨m, I0.mono kp, lr.1.mono (.of kp), lr.2⟩ fun s' I' S' => ⟨.next, _, I', S₁.trans ((show SL s₁ { s₁ with heap := h' } from ⟨.of kp, rfl, rfl⟩).trans S'), trivial, h₁⟩
  obtain ⟨q, hq, rfl⟩ := List.mem_map.mp hp
  exact fun v Q E s h => wpAny_bindName h

noncomputable def HWhile (G : Gl) (F : Fn) (d : Nat) (hd : Option Addr) (test : Expr) (body : List Stmt) (k : Fl → St → Prop) (X : Addr → St → Prop) : Nat → St → Prop
  | 0, _ => False
  | n + 1, σ => HT G F d hd test σ (fun b σ₁ => if b = true then HSs G F d hd body σ₁ (Fl.on (fun σ₂ => HWhile G F d hd test body k X n σ₂) (fun v σ₂ => k (.ret v) σ₂)) X else k .next σ₁) X
theorem s_while {test : Expr} {body : List Stmt} {pos : Pos} {k : Fl → St → Prop} (n : Nat) (h : HWhile G F d hd test body k X n σ) : HS G F d hd (.While test body [] pos) σ k X := by
  refine ⟨?_⟩
  intro C A L fr s ok I
  refine wpAny_While ?_
  refine codeAny_whileLoop (fun n s' => ∃ σ', InvF C F L fr σ' s'.heap ∧ SL s s' ∧ HWhile G F d hd test body k X n σ') (fun n s₁ q => ?_) n ⟨σ, I, .refl s, h⟩
  obtain ⟨σ₁, I₁, S₁, h₁⟩ := q
  cases n with
  | zero => exact h₁.elim
  | succ n =>
    refine wpAny_mono (h₁.run C A L fr s₁ ok I₁) (fun b s₂ p₂ => ?_) fun v s' p => px_noted ok (p.trans S₁)
    obtain ⟨σ₂, I₂, S₂, h₂⟩ := p₂
    cases b with
    | false =>
      rw [if_neg (by decide)] at h₂ ⊢
      exact wpAny_execs_nil ⟨.next, _, I₂, S₁.trans S₂, trivial, h₂⟩
    | true =>
      rw [if_pos rfl] at h₂ ⊢
      refine wpAny_mono (h₂.run C A L fr s₂ ok I₂) (fun f s₃ p₃ => ?_) fun v s' p => px_noted ok (p.trans (S₁.trans S₂))
      obtain ⟨g, σ₃, I₃, S₃, FR, h₃⟩ := p₃
      cases f <;> cases g <;> first | exact FR.elim | skip
      · exact ⟨n, Nat.lt_succ_self n, σ₃, I₃, (S₁.trans S₂).trans S₃, h₃⟩
      · exact ⟨_, _, I₃, (S₁.trans S₂).trans S₃, FR, h₃⟩
end
end Mine
end
section
open PySem PySem.W PySem.Calls PyProof.Rows
set_option maxRecDepth 100000
set_option autoImplicit false
set_option maxHeartbeats 4000000
namespace Mine

structure Iter (G : Gl) (it : Addr) (P : Nat → Obj → Prop) (items : List AV) (Src : AH → Prop) (St : Heap → Prop) : Prop where
  keep : ∀ h h', St h → TL h h' → St h'
  next : ∀ {C A envs d fr H H' s i x Q E}, Ok G C A envs d → Inv0 C fr H s.heap → St s.heap → Src H → items[i]? = some x → SetH it (.raw (P i)) (.raw (P (i + 1))) H H' →
    (∀ v s', Inv0 C fr H' s'.heap → SL s s' → VR s'.heap v x → Q (some v) s') → wpAny (model G.P C.w) (arnd A none) (pyNext (.ref it)) Q E s
  stop : ∀ {C A envs d fr H R s i Q E}, Ok G C A envs d → Inv0 C fr H s.heap → St s.heap → Src H → items[i]? = none → Sel it (.raw (P i)) H R →
    (∀ s', Inv0 C fr R s'.heap → SL s s' → Q none s') → wpAny (model G.P C.w) (arnd A none) (pyNext (.ref it)) Q E s

section
variable {G : Gl} {F : Fn} {d : Nat} {σ : St} {X : Addr → St → Prop}

noncomputable def HFor (G : Gl) (F : Fn) (d : Nat) (x : Str) (body : List Stmt) (k : Fl → St → Prop) (X : Addr → St → Prop) (it : Addr) (P : Nat → Obj → Prop) (Src : AH → Prop) : List AV → Nat → St → Prop
  | [], i, σ => Src σ.H ∧ ∃ R, Sel it (.raw (P i)) σ.H R ∧ k .next ⟨σ.loc, R⟩
  | v :: vs, i, σ => Src σ.H ∧ ∃ H' loc', SetH it (.raw (P i)) (.raw (P (i + 1))) σ.H H' ∧ PutAt x (some v) F.names σ.loc loc' ∧
      HSs G F d none body ⟨loc', H'⟩ (Fl.on (fun σ₂ => HFor G F d x body k X it P Src vs (i + 1) σ₂) (fun v σ₂ => k (.ret v) σ₂)) X

theorem for_on {x : Str} {np : Pos} {body : List Stmt} {k : Fl → St → Prop} {it : Addr} {P : Nat → Obj → Prop} {items : List AV} {Src : AH → Prop} {S : Heap → Prop} (W : Iter G it P items Src S)
    {C : Cx} {A : Around} {L : Addr} {fr : Frs} {s s₁ : Shared} (ok : Ok G C A (F.env L :: fr.map (·.1)) d) (I : InvF C F L fr σ s₁.heap) (S₁ : SL s s₁) (hS : S s₁.heap) (h : HFor G F d x body k X it P Src items 0 σ) :
    codeAny (model G.P C.w) (arnd A none) (.forLoop (.Name x np) (.ref it) body [] (F.env L)) (fun r s' => match r with | .ok f => PF C F L fr s k f s' | .error e => cameBackBy (model G.P C.w) (arnd A none) (F.env L) (PX C F L fr s X) e s') s₁ := by
  refine codeAny_forLoop (fun n s' => ∃ σ' i, InvF C F L fr σ' s'.heap ∧ SL s s' ∧ S s'.heap ∧ n = items.length - i ∧ i ≤ items.length ∧ HFor G F d x body k X it P Src (items.drop i) i σ') (fun n s₂ q => ?_) items.length ⟨σ, 0, I, S₁, hS, rfl, Nat.zero_le _, h⟩ (fun v => by rfl)
  obtain ⟨σ₂, i, I₂, S₂, hS₂, rfl, hi, h₂⟩ := q
  obtain ⟨m, I0, lr⟩ := I₂
  by_cases hlt : i < items.length
  · rw [List.drop_eq_getElem_cons hlt] at h₂
    obtain ⟨hsrc, H', loc', hset, hput, h₃⟩ := h₂
    refine W.next ok I0 hS₂ hsrc (List.getElem?_eq_getElem hlt) hset fun v s₃ I₃ S₃ V₃ => ?_
    refine wpAny_assign_Name (wpAny_mono ((store_name (hd := none) (X := fun _ _ => False) (σ := ⟨σ₂.loc, H'⟩) (k := fun σ' => σ' = ⟨loc', H'⟩) hput rfl).run C A L fr s₃ v ok ⟨m, I₃, lr.1.mono S₃.1, lr.2⟩ V₃) (fun _ s₄ p₄ => ?_) fun _ _ p => ?_)
    · obtain ⟨_, I₄, S₄, rfl⟩ := p₄
      refine wpAny_mono (h₃.run C A L fr s₄ ok I₄) (fun f s₅ p₅ => ?_) fun v s' p => px_noted ok (p.trans ((S₂.trans S₃).trans S₄))
      obtain ⟨g, σ₅, I₅, S₅, FR, h₅⟩ := p₅
      have SS := ((S₂.trans S₃).trans S₄).trans S₅
      cases f <;> cases g <;> first | exact FR.elim | skip
      · exact ⟨items.length - (i + 1), by omega, σ₅, i + 1, I₅, SS, W.keep _ _ hS₂ ((S₃.trans S₄).trans S₅).1, rfl, hlt, h₅⟩
      · exact ⟨_, _, I₅, SS, FR, h₅⟩
    · obtain ⟨_, _, _, _, _, _, q⟩ := p; exact q.elim
  · rw [List.drop_eq_nil_of_le (by omega)] at h₂
    obtain ⟨hsrc, R, hsel, h₃⟩ := h₂
    refine W.stop ok I0 hS₂ hsrc (List.getElem?_eq_none (by omega)) hsel fun s₃ I₃ S₃ => ?_
    exact wpAny_execs_nil ⟨.next, ⟨σ₂.loc, R⟩, ⟨m, I₃, lr.1.mono S₃.1, lr.2⟩, S₂.trans S₃, trivial, h₃⟩

noncomputable def PL (l : Addr) (i : Nat) (o : Obj) : Prop := o.cls = .type "list_iterator" ∧ o.data = .fields #[.ref l, .int i 0]
theorem iter_list {it l : Addr} {items : List AV} : Iter G it (PL l) items (fun H => InH l (.list items) H) (fun _ => True) where
  keep := fun _ _ _ _ => trivial
  next := by
    intro C A envs d fr H H' s i x Q E ok I _ hsrc hx hset h
    obtain ⟨vs, n, ho, Vs, il⟩ := I.list hsrc
    obtain ⟨o, e, ro, hP⟩ := I.obj _ hset.inH.mem
    obtain ⟨v, hv, V⟩ := Vs.get hx
    refine wpAny_pyNext_list_item (it := it) (l := l) (i := i) (items := vs.toArray) ⟨o, e, hP⟩ il (by simpa using hv) fun h' hit hs => ?_
    have e : s.heap.get? it = some o := e
    have h1 : ∀ vs n, s.heap.get? it ≠ some (tupObj vs n) := fun vs n e' => by rw [e] at e'; cases e'; exact ro.1 rfl
    have h2 : ∀ oT ts, s.heap.get? it = some oT → oT.cls = .type "traceback" → oT.data = .fields ts → False := fun oT ts e' c _ => by rw [e] at e'; cases e'; exact ro.2 c
    have T : TL s.heap h' := .turn hs h1
    obtain ⟨o', e', c', d'⟩ := hit
    exact h v _ (I.turnH hset (x := it) (.head _) rfl hs h1 h2 ⟨o', e', ⟨by rw [c']; decide, by rw [c']; decide⟩, c', d'⟩) ⟨T, rfl, rfl⟩ (V.mono T)
  stop := by
    intro C A envs d fr H R s i Q E ok I _ hsrc hx hsel h
    obtain ⟨vs, n, ho, Vs, il⟩ := I.list hsrc
    obtain ⟨o, e, ro, hP⟩ := I.obj _ hsel.inH.mem
    refine wpAny_pyNext_list_end (it := it) (l := l) (i := i) (items := vs.toArray) rfl ⟨o, e, hP⟩ il (by
      have := List.getElem?_eq_none_iff.mp hx
      rw [List.getElem?_toArray]; exact List.getElem?_eq_none (by rw [Vs.length]; exact this)) fun h' hs => ?_
    obtain ⟨J, T⟩ := (I.perm hsel.perm).lose hs
    exact h _ J ⟨T, rfl, rfl⟩

theorem s_for_list {x : Str} {np : Pos} {iter : Expr} {body : List Stmt} {pos : Pos} {k : Fl → St → Prop}
    (h : HE G F d none iter σ (fun v σ₁ => ∃ l xs, v = .ref l ∧ InH l (.list xs) σ₁.H ∧ ∀ it, HFor G F d x body k X it (PL l) (fun H => InH l (.list xs) H) xs 0 ⟨σ₁.loc, (it, .raw (PL l 0)) :: σ₁.H⟩) X)
    (hs : ∀ env x, foldedSetIterable iter env x = pure x := by intros; with_unfolding_all rfl) : HS G F d none (.For (.Name x np) iter body [] pos) σ k X := by
  refine ⟨?_⟩
  intro C A L fr s ok I
  refine wpAny_For (wpAny_mono (h.run C A L fr s ok I) (fun v s₁ p₁ => ?_) fun _ _ e => e) (hs _)
  obtain ⟨a, σ₁, ⟨m, I0, lr⟩, S₁, V₁, l, xs, rfl, hi, h₁⟩ := p₁
  obtain rfl := V₁.ref_inv
  obtain ⟨vs, n, ho, Vs, il⟩ := I0.list hi
  refine wpAny_pyIter_list il ?_
  have kp : ∀ b o, s₁.heap.get? b = some o → (s₁.heap.push { cls := .type "list_iterator", data := .fields #[.ref l, .int 0 0] }).get? b = some o := fun b o e => Heap.get?_push_of_some _ e
  have J := I0.take kp (a := s₁.heap.objs.size) (o := .raw (PL l 0)) (fun x hx => by simp [AObj.foot] at hx; rw [hx]; exact Heap.get?_none_of_le (Nat.le_refl _)) (by simp [AObj.foot]) ⟨_, Heap.get?_push_size _ rfl, ⟨fun q => absurd (Value.type.inj q) (by decide), fun q => absurd (Value.type.inj q) (by decide)⟩, rfl, rfl⟩
  exact for_on (σ := ⟨σ₁.loc, _⟩) iter_list ok ⟨m, J, lr.1.mono (.of kp), lr.2⟩ (S₁.trans ⟨.of kp, rfl, rfl⟩) trivial (h₁ _)
end
end Mine
end
section
open PySem PySem.W PySem.Calls PyProof.Rows
set_option maxRecDepth 100000
set_option autoImplicit false
set_option maxHeartbeats 4000000
namespace Mine
section
variable {G : Gl} {F : Fn} {d : Nat} {hd : Option Addr} {X : Addr → St → Prop} {σ : St}
theorem hs_perm {sts : List Stmt} {loc : List (Option AV)} {H H' : AH} {k : Fl → St → Prop} (p : H.Perm H') (h : HSs G F d hd sts ⟨loc, H'⟩ k X) : HSs G F d hd sts ⟨loc, H⟩ k X := ⟨fun C A L fr s ok I => h.run C A L fr s ok (I.perm p)⟩
theorem hs_drop {sts : List Stmt} {loc : List (Option AV)} {H R : AH} {a : Addr} {o : AObj} {k : Fl → St → Prop} (p : Sel a o H R) (h : HSs G F d hd sts ⟨loc, R⟩ k X) : HSs G F d hd sts ⟨loc, H⟩ k X := ⟨fun C A L fr s ok I => h.run C A L fr s ok (I.perm p.perm).dropHead⟩
theorem cc_perm {f : Value} {xs : List AV} {H H' : AH} {k : AV → AH → Prop} {Y : Addr → AH → Prop} (p : H.Perm H') (h : CC G d hd f xs H' k Y) : CC G d hd f xs H k Y := ⟨fun C A fr s vs ok I V => h.run C A fr s vs ok (I.perm p) V⟩
end
end Mine
end
section
open PySem PySem.W PySem.Calls PyProof.Rows
set_option maxRecDepth 100000
set_option autoImplicit false
set_option maxHeartbeats 4000000
namespace Mine
section
variable {G : Gl} {F : Fn} {d : Nat} {hd : Option Addr} {X : Addr → St → Prop} {σ : St}
theorem o_ge {a b : Int} {k : AV → St → Prop} (h : k (.bool (decide (a ≥ b))) σ) : HO G F d hd (op2 (compareOp .GtE)) [.int a, .int b] σ k X := ho2 fun C A L fr s v w ok I V W => by
  obtain ⟨t, rfl⟩ := V.int_inv; obtain ⟨u, rfl⟩ := W.int_inv
  exact PySem.P.ge_int ⟨_, _, I, .refl s, .bool _, h⟩
theorem o_iadd {a b : Int} {k : AV → St → Prop} (h : k (.int (a + b)) σ) : HO G F d hd (op2 (inplaceOp .Add)) [.int a, .int b] σ k X := ho2 fun C A L fr s v w ok I V W => by
  obtain ⟨t, rfl⟩ := V.int_inv; obtain ⟨u, rfl⟩ := W.int_inv
  exact PyProof.Rows.iadd_int ⟨_, _, I, .toks s _, .int _ _, h⟩
theorem o_isub {a b : Int} {k : AV → St → Prop} (h : k (.int (a - b)) σ) : HO G F d hd (op2 (inplaceOp .Sub)) [.int a, .int b] σ k X := ho2 fun C A L fr s v w ok I V W => by
  obtain ⟨t, rfl⟩ := V.int_inv; obtain ⟨u, rfl⟩ := W.int_inv
  exact PyProof.Rows.isub_int ⟨_, _, I, .toks s _, .int _ _, h⟩
end
noncomputable def Suf (ws : List Str) (n : Int) (prev : Str) (rs : List Str) : Prop := ∃ pre, ws = pre ++ prev :: rs ∧ n = pre.length + 1
section
variable {ws rs : List Str} {n : Int} {pv t : Str}
theorem Suf.pos (s : Suf ws n pv rs) : 1 ≤ n := by obtain ⟨pre, _, rfl⟩ := s; omega
theorem Suf.len (s : Suf ws n pv rs) : (ws.length : Int) = n + rs.length := by obtain ⟨pre, rfl, rfl⟩ := s; simp; omega
theorem Suf.prev (s : Suf ws n pv rs) : (ws.map AV.str)[(n - 1).toNat]? = some (.str pv) := by
  obtain ⟨pre, rfl, rfl⟩ := s
  have : ((pre.length : Int) + 1 - 1).toNat = pre.length := by omega
  rw [this]
  simp
theorem Suf.get (s : Suf ws n pv (t :: rs)) : (ws.map AV.str)[n.toNat]? = some (.str t) := by
  obtain ⟨pre, rfl, rfl⟩ := s
  have : ((pre.length : Int) + 1).toNat = pre.length + 1 := by omega
  rw [this]
  simp
theorem Suf.step (s : Suf ws n pv (t :: rs)) : Suf ws (n + 1) t rs := by
  obtain ⟨pre, rfl, rfl⟩ := s
  exact ⟨pre ++ [pv], by simp, by simp⟩
end
noncomputable def placeR (prev : Str) : List Str → Except Str (Nat × Str × List Str)
  | [] => .error prev
  | s :: r => if s = "then" then (match r with | [] => .error "then" | s' :: r' => .ok (1, s', r')) else .ok (0, s, r)
noncomputable def noScript (prev : Str) : Str := "wrong # args: " ++ ("no script following \"" ++ prev ++ "\" argument")
noncomputable def WA : AV := .tup [.str "TCL", .str "WRONGARGS"]
end Mine
end
section
open PySem PySem.W PySem.Calls PyProof.Rows
set_option maxRecDepth 100000
set_option autoImplicit false
set_option maxHeartbeats 4000000
namespace Mine
section
variable {G : Gl} {F : Fn} {d : Nat} {hd : Option Addr} {X : Addr → St → Prop} {σ : St}
theorem InvF.mono {C : Cx} {L : Addr} {fr : Frs} {h h' : Heap} (I : InvF C F L fr σ h) (k : ∀ a o, h.get? a = some o → h'.get? a = some o) : InvF C F L fr σ h' := by
  obtain ⟨m, I0, lr, wf⟩ := I
  exact ⟨m, I0.mono k, lr.mono (.of k), wf⟩
theorem gm_str {y : Str} {name : Str} {id : String} (slot : Slot "str" name id) (ty : typeOf (.builtin id) = pure (.type "method_descriptor")) : GM G F d name (.str y) (.builtin id) σ := by
  refine ⟨?_⟩
  intro C A L fr s v pl A' Q E ok I V q
  obtain ⟨t, rfl⟩ := V.str_inv
  exact GM.of _ (typeIs_str _ _ _) slot ty GM.noRef q
theorem o_lower {y : Str} {k : AV → St → Prop} (hz : (Txt.lower y).length ≤ 1000) (h : k (.str (Txt.lower y)) σ) : HO G F d hd (fun vs => call (.builtin "str.lower") vs) [.str y] σ k X := by
  refine ⟨?_⟩
  intro C A L fr s vs ok I V
  cases V with
  | cons v r =>
    cases r
    obtain ⟨t, rfl⟩ := v.str_inv
    exact SC.lower (by unfold Builtin.Str.tooLong; rw [sizeLine_eq]; simp; omega) ⟨_, _, I, .toks s _, .str _ _, h⟩
theorem o_startswith {y z : Str} {k : AV → St → Prop} (h : k (.bool (Txt.startswith y z)) σ) : HO G F d hd (fun vs => call (.builtin "str.startswith") vs) [.str y, .str z] σ k X := by
  refine ⟨?_⟩
  intro C A L fr s vs ok I V
  cases V with
  | cons v r =>
    cases r with
    | cons w r =>
      cases r
      obtain ⟨t, rfl⟩ := v.str_inv
      obtain ⟨u, rfl⟩ := w.str_inv
      exact SC.startswith ⟨_, _, I, .refl s, .bool _, h⟩
theorem o_ord {y : Str} {k : AV → St → Prop} (h1 : y.length = 1) (h : k (.int (y.cps.getD 0 0 : Nat)) σ) : HO G F d hd (fun vs => call (.builtin "ord") vs) [.str y] σ k X := by
  refine ⟨?_⟩
  intro C A L fr s vs ok I V
  cases V with
  | cons v r =>
    cases r
    obtain ⟨t, rfl⟩ := v.str_inv
    exact ord_of_one h1 ⟨_, _, I, .toks s _, .int _ _, h⟩
theorem o_ord1 {c : Nat} {k : AV → St → Prop} (h : k (.int c) σ) : HO G F d hd (fun vs => call (.builtin "ord") vs) [.str ⟨#[c]⟩] σ k X := o_ord rfl h
theorem o_neg {a : Int} {k : AV → St → Prop} (h : k (.int (-a)) σ) : HO G F d hd (op1 (unaryOp .USub)) [.int a] σ k X := ho1 fun C A L fr s v ok I V => by
  obtain ⟨t, rfl⟩ := V.int_inv
  exact PyProof.Rows.neg_int ⟨_, _, I, .toks s _, .int _ _, h⟩
theorem o_mul {a b : Int} {k : AV → St → Prop} (hm : IntMulOk a b) (h : k (.int (a * b)) σ) : HO G F d hd (op2 (binaryOp .Mult)) [.int a, .int b] σ k X := ho2 fun C A L fr s v w ok I V W => by
  obtain ⟨t, rfl⟩ := V.int_inv; obtain ⟨u, rfl⟩ := W.int_inv
  exact PyProof.Rows.mul_int ⟨_, _, I, .toks s _, .int _ _, h⟩ hm
theorem o_le {a b : Int} {k : AV → St → Prop} (h : k (.bool (decide (a ≤ b))) σ) : HO G F d hd (op2 (compareOp .LtE)) [.int a, .int b] σ k X := ho2 fun C A L fr s v w ok I V W => by
  obtain ⟨t, rfl⟩ := V.int_inv; obtain ⟨u, rfl⟩ := W.int_inv
  exact PyProof.Rows.le_int ⟨_, _, I, .refl s, .bool _, h⟩
noncomputable def strIn (y : Str) : Value → Bool
  | .str x _ => x.cps.toList == y.cps.toList
  | _ => false
theorem strIn_any {h : Heap} {y : Str} : ∀ {vs : List Value} {xs : List Str}, VRs h vs (xs.map .str) → (∀ v ∈ vs, ∃ x t, v = .str x t) ∧ vs.any (strIn y) = xs.any fun x => x.cps.toList == y.cps.toList := by
  intro vs xs V
  induction xs generalizing vs with
  | nil => cases V; exact ⟨nofun, rfl⟩
  | cons x xs ih =>
    cases V with
    | cons a r =>
      obtain ⟨t, rfl⟩ := a.str_inv
      obtain ⟨i1, i2⟩ := ih r
      refine ⟨fun v hv => ?_, by simp [strIn, i2]⟩
      rcases List.mem_cons.mp hv with rfl | h
      · exact ⟨_, _, rfl⟩
      · exact i1 v h
theorem o_in_tup {y : Str} {xs : List Str} {k : AV → St → Prop} (h : k (.bool (xs.any fun x => x.cps.toList == y.cps.toList)) σ) : HO G F d hd (op2 (compareOp .In)) [.str y, .tup (xs.map .str)] σ k X := ho2 fun C A L fr s v w ok I V W => by
  obtain ⟨t, rfl⟩ := V.str_inv
  obtain ⟨l, vs, n, rfl, ho, Vs⟩ := W.tup_inv
  obtain ⟨h1, h2⟩ := strIn_any (y := y) Vs
  refine SeqRoads2.in_tuple (strIn y) (fun v hv => ?_) ho ⟨_, _, I, .refl s, .bool _, ?_⟩
  · obtain ⟨x, u, rfl⟩ := h1 v (by simpa using hv)
    exact SeqRoads2.EqGives.str x y u t
  · rw [List.any_toArray, h2]; exact h
theorem o_in_list {y : Str} {l : Addr} {xs : List Str} {k : AV → St → Prop} (hl : InH l (.list (xs.map .str)) σ.H) (h : k (.bool (xs.any fun x => x.cps.toList == y.cps.toList)) σ) : HO G F d hd (op2 (compareOp .In)) [.str y, .ref l] σ k X := ho2 fun C A L fr s v w ok I V W => by
  obtain ⟨t, rfl⟩ := V.str_inv
  obtain rfl := W.ref_inv
  obtain ⟨m, I0, lr⟩ := I
  obtain ⟨vs, n, ho, Vs, il⟩ := I0.list hl
  obtain ⟨h1, h2⟩ := strIn_any (y := y) Vs
  refine SeqRoads2.in_list (strIn y) (fun v hv => ?_) ho ⟨_, _, ⟨m, I0, lr⟩, .refl s, .bool _, ?_⟩
  · obtain ⟨x, u, rfl⟩ := h1 v (by simpa using hv)
    exact SeqRoads2.EqGives.str x y u t
  · rw [List.any_toArray, h2]; exact h
theorem e_slice {value l u : Expr} {p pos : Pos} {k : AV → St → Prop} (h : HE G F d hd value σ (fun o σ₁ => HE G F d hd l σ₁ (fun vl σ₂ => HE G F d hd u σ₂ (fun vu σ₃ => ∃ y i j, o = .str y ∧ vl = .int i ∧ vu = .int j ∧ y.length ≤ 1000 ∧ k (.str (Txt.slice y (some i) (some j))) σ₃) X) X) X)
    (ht : ∀ o r, letTemporaryGo value o r = pure () := by intros; with_unfolding_all rfl) : HE G F d hd (.Subscript value (.Slice (some l) (some u) none p) pos) σ k X := by
  refine ⟨?_⟩
  intro C A L fr s ok I
  refine wpAny_Subscript_str_slice (wpAny_mono (h.run C A L fr s ok I) (fun o s₁ p₁ => ?_) fun _ _ e => e) ht
  obtain ⟨a, σ₁, I₁, S₁, V₁, h₁⟩ := p₁
  rw [evalPart_some]
  refine wpAny_mono (h₁.run C A L fr s₁ ok I₁) (fun vl s₂ p₂ => ?_) fun _ _ e => e.trans S₁
  obtain ⟨b, σ₂, I₂, S₂, V₂, h₂⟩ := p₂
  rw [evalPart_some]
  refine wpAny_mono (h₂.run C A L fr s₂ ok I₂) (fun vu s₃ p₃ => ?_) fun _ _ e => e.trans (S₁.trans S₂)
  obtain ⟨c, σ₃, I₃, S₃, V₃, y, i, j, rfl, rfl, rfl, hz, h₃⟩ := p₃
  obtain ⟨t, rfl⟩ := V₁.str_inv
  obtain ⟨t2, rfl⟩ := V₂.int_inv
  obtain ⟨t3, rfl⟩ := V₃.int_inv
  refine ⟨y, t, some (i, t2), some (j, t3), rfl, rfl, rfl, ?_⟩
  have kp : ∀ b o, s₃.heap.get? b = some o → (s₃.heap.push { cls := .type "slice", data := .fields #[.int i t2, .int j t3, .none] }).get? b = some o := fun b o e => Heap.get?_push_of_some _ e
  exact post_val_or_str ⟨Nat.le_trans (Txt.slice_le y _ _) (by rw [sizeLine_eq]; omega), fun t' k' => ⟨_, σ₃, I₃.mono kp, (S₁.trans (S₂.trans S₃)).trans ⟨.of kp, rfl, rfl⟩, .str _ _, h₃⟩⟩
theorem t_chain2 {l r₁ r₂ : Expr} {op₁ op₂ : CmpOp} {pos : Pos} {k : Bool → St → Prop}
    (h : HE G F d hd l σ (fun a σ₁ => HE G F d hd r₁ σ₁ (fun b σ₂ => HO G F d hd (op2 (compareOp op₁)) [a, b] σ₂ (fun c σ₃ => HB G F d hd truthy c σ₃ (fun t σ₄ => if t = true then
      HE G F d hd r₂ σ₄ (fun b' σ₅ => HO G F d hd (op2 (compareOp op₂)) [b, b'] σ₅ (fun c' σ₆ => HB G F d hd truthy c' σ₆ k X) X) X else k false σ₄) X) X) X) X)
    (hm : lastMarks [op₁, op₂] [r₁, r₂] = false := by with_unfolding_all rfl) : HT G F d hd (.Compare l [op₁, op₂] [r₁, r₂] pos) σ k X := by
  refine ⟨?_⟩
  intro C A L fr s ok I
  refine isTrue_chain (wpAny_mono (h.run C A L fr s ok I) (fun a s₁ p₁ => ?_) fun _ _ e => e) hm
  obtain ⟨a', σ₁, I₁, S₁, V₁, h₁⟩ := p₁
  refine test_link (wpAny_mono (h₁.run C A L fr s₁ ok I₁) (fun b s₂ p₂ => ?_) fun _ _ e => e.trans S₁)
  obtain ⟨b', σ₂, I₂, S₂, V₂, h₂⟩ := p₂
  have S12 := S₁.trans S₂
  refine wpAny_mono (h₂.run C A L fr s₂ [a, b] ok I₂ (.cons (V₁.mono S₂.1) (.cons V₂ .nil))) (fun c s₃ p₃ => ?_) fun _ _ e => e.trans S12
  obtain ⟨c', σ₃, I₃, S₃, V₃, h₃⟩ := p₃
  have S13 := S12.trans S₃
  refine wpAny_mono (h₃.run C A L fr s₃ c ok I₃ V₃) (fun t s₄ p₄ => ?_) fun _ _ e => e.trans S13
  obtain ⟨σ₄, I₄, S₄, h₄⟩ := p₄
  have S14 := S13.trans S₄
  cases t with
  | false => exact ⟨σ₄, I₄, S14, h₄⟩
  | true =>
    rw [if_pos rfl] at h₄ ⊢
    refine test_last (wpAny_mono (h₄.run C A L fr s₄ ok I₄) (fun e s₅ p₅ => ?_) fun _ _ e => e.trans S14)
    obtain ⟨e', σ₅, I₅, S₅, V₅, h₅⟩ := p₅
    have S15 := S14.trans S₅
    refine wpAny_mono (h₅.run C A L fr s₅ [b, e] ok I₅ (.cons (V₂.mono ((S₃.trans S₄).trans S₅).1) (.cons V₅ .nil))) (fun c s₆ p₆ => ?_) fun _ _ e => e.trans S15
    obtain ⟨c', σ₆, I₆, S₆, V₆, h₆⟩ := p₆
    exact wpAny_mono (h₆.run C A L fr s₆ c ok I₆ V₆) (fun _ _ p => p.trans (S15.trans S₆)) fun _ _ e => e.trans (S15.trans S₆)
noncomputable def PS (y : Str) (t : Tok) (i : Nat) (o : Obj) : Prop := o.cls = .type "str_ascii_iterator" ∧ o.data = .fields #[.str y t, .int i 0]
noncomputable def chars (y : Str) : List AV := y.cps.toList.map fun c => .str ⟨#[c]⟩
theorem iter_str {it : Addr} {y : Str} {t : Tok} : Iter G it (PS y t) (chars y) (fun _ => True) (fun _ => True) where
  keep := fun _ _ _ _ => trivial
  next := by
    intro C A envs d fr H H' s i x Q E ok I _ _ hx hset h
    obtain ⟨o, e, ro, hP⟩ := I.obj _ hset.inH.mem
    have e : s.heap.get? it = some o := e
    have h1 : ∀ vs n, s.heap.get? it ≠ some (tupObj vs n) := fun vs n e' => by rw [e] at e'; cases e'; exact ro.1 rfl
    have h2 : ∀ oT ts, s.heap.get? it = some oT → oT.cls = .type "traceback" → oT.data = .fields ts → False := fun oT ts e' c _ => by rw [e] at e'; cases e'; exact ro.2 c
    obtain ⟨c, hc, rfl⟩ : ∃ c, y.cps[i]? = some c ∧ x = .str ⟨#[c]⟩ := by
      unfold chars at hx
      rw [List.getElem?_map] at hx
      cases q : y.cps.toList[i]? with
      | none => rw [q] at hx; cases hx
      | some c => rw [q] at hx; cases hx; exact ⟨c, by simpa using q, rfl⟩
    refine wpAny_pyNext_ascii_item (it := it) ⟨o, e, hP⟩ hc fun h' hit hs => ?_
    have T : TL s.heap h' := .turn hs h1
    obtain ⟨o', e', c', d'⟩ := hit
    exact h _ _ (I.turnH hset (x := it) (.head _) rfl hs h1 h2 ⟨o', e', ⟨by rw [c']; decide, by rw [c']; decide⟩, c', d'⟩) ⟨T, rfl, rfl⟩ (.str _ _)
  stop := by
    intro C A envs d fr H R s i Q E ok I _ _ hx hsel h
    obtain ⟨o, e, ro, hP⟩ := I.obj _ hsel.inH.mem
    refine wpAny_pyNext_ascii_end (it := it) rfl ⟨o, e, hP⟩ (by
      unfold chars at hx
      have := List.getElem?_eq_none_iff.mp hx
      simpa using this) fun h' hs => ?_
    obtain ⟨J, T⟩ := (I.perm hsel.perm).lose hs
    exact h _ J ⟨T, rfl, rfl⟩
theorem s_for_str {x : Str} {np : Pos} {iter : Expr} {body : List Stmt} {pos : Pos} {k : Fl → St → Prop}
    (h : HE G F d none iter σ (fun v σ₁ => ∃ y, v = .str y ∧ y.cps.all (· < 128) = true ∧ ∀ it t, HFor G F d x body k X it (PS y t) (fun _ => True) (chars y) 0 ⟨σ₁.loc, (it, .raw (PS y t 0)) :: σ₁.H⟩) X)
    (hs : ∀ env x, foldedSetIterable iter env x = pure x := by intros; with_unfolding_all rfl) : HS G F d none (.For (.Name x np) iter body [] pos) σ k X := by
  refine ⟨?_⟩
  intro C A L fr s ok I
  refine wpAny_For (wpAny_mono (h.run C A L fr s ok I) (fun v s₁ p₁ => ?_) fun _ _ e => e) (hs _)
  obtain ⟨a, σ₁, ⟨m, I0, lr⟩, S₁, V₁, y, rfl, ha, h₁⟩ := p₁
  obtain ⟨t, rfl⟩ := V₁.str_inv
  refine wpAny_pyIter_ascii ha ?_
  have kp : ∀ b o, s₁.heap.get? b = some o → (s₁.heap.push { cls := .type "str_ascii_iterator", data := .fields #[.str y t, .int 0 0] }).get? b = some o := fun b o e => Heap.get?_push_of_some _ e
  have J := I0.take kp (a := s₁.heap.objs.size) (o := .raw (PS y t 0)) (fun x hx => by simp [AObj.foot] at hx; rw [hx]; exact Heap.get?_none_of_le (Nat.le_refl _)) (by simp [AObj.foot]) ⟨_, Heap.get?_push_size _ rfl, ⟨fun q => absurd (Value.type.inj q) (by decide), fun q => absurd (Value.type.inj q) (by decide)⟩, rfl, rfl⟩
  exact for_on (σ := ⟨σ₁.loc, _⟩) iter_str ok ⟨m, J, lr.1.mono (.of kp), lr.2⟩ (S₁.trans ⟨.of kp, rfl, rfl⟩) trivial (h₁ _ _)
noncomputable def PT (l : Addr) (i : Nat) (o : Obj) : Prop := o.cls = .type "tuple_iterator" ∧ o.data = .fields #[.ref l, .int i 0]
theorem iter_tup {it l : Addr} {items : List AV} : Iter G it (PT l) items (fun _ => True) (fun h => ∃ vs n, h.get? l = some (tupObj vs n) ∧ VRs h vs items) where
  keep := fun h h' ⟨vs, n, e, V⟩ T => ⟨vs, n, T _ _ _ e, V.mono T⟩
  next := by
    intro C A envs d fr H H' s i x Q E ok I hS _ hx hset h
    obtain ⟨vs, n, ho, Vs⟩ := hS
    obtain ⟨o, e, ro, hP⟩ := I.obj _ hset.inH.mem
    obtain ⟨v, hv, V⟩ := Vs.get hx
    refine wpAny_pyNext_tuple_item (it := it) (t := l) (i := i) (items := vs.toArray) ⟨o, e, hP⟩ ⟨_, ho, rfl, n, rfl⟩ (by simpa using hv) fun h' hit hs => ?_
    have e : s.heap.get? it = some o := e
    have h1 : ∀ vs n, s.heap.get? it ≠ some (tupObj vs n) := fun vs n e' => by rw [e] at e'; cases e'; exact ro.1 rfl
    have h2 : ∀ oT ts, s.heap.get? it = some oT → oT.cls = .type "traceback" → oT.data = .fields ts → False := fun oT ts e' c _ => by rw [e] at e'; cases e'; exact ro.2 c
    have T : TL s.heap h' := .turn hs h1
    obtain ⟨o', e', c', d'⟩ := hit
    exact h v _ (I.turnH hset (x := it) (.head _) rfl hs h1 h2 ⟨o', e', ⟨by rw [c']; decide, by rw [c']; decide⟩, c', d'⟩) ⟨T, rfl, rfl⟩ (V.mono T)
  stop := by
    intro C A envs d fr H R s i Q E ok I hS _ hx hsel h
    obtain ⟨vs, n, ho, Vs⟩ := hS
    obtain ⟨o, e, ro, hP⟩ := I.obj _ hsel.inH.mem
    refine wpAny_pyNext_tuple_end (it := it) (t := l) (i := i) (items := vs.toArray) rfl ⟨o, e, hP⟩ ⟨_, ho, rfl, n, rfl⟩ (by
      have := List.getElem?_eq_none_iff.mp hx
      rw [List.getElem?_toArray]; exact List.getElem?_eq_none (by rw [Vs.length]; exact this)) fun h' hs => ?_
    obtain ⟨J, T⟩ := (I.perm hsel.perm).lose hs
    exact h _ J ⟨T, rfl, rfl⟩
theorem s_for_tup {x : Str} {np : Pos} {iter : Expr} {body : List Stmt} {pos : Pos} {k : Fl → St → Prop}
    (h : HE G F d none iter σ (fun v σ₁ => ∃ xs, v = .tup xs ∧ ∀ it l, HFor G F d x body k X it (PT l) (fun _ => True) xs 0 ⟨σ₁.loc, (it, .raw (PT l 0)) :: σ₁.H⟩) X)
    (hs : ∀ env x, foldedSetIterable iter env x = pure x := by intros; with_unfolding_all rfl) : HS G F d none (.For (.Name x np) iter body [] pos) σ k X := by
  refine ⟨?_⟩
  intro C A L fr s ok I
  refine wpAny_For (wpAny_mono (h.run C A L fr s ok I) (fun v s₁ p₁ => ?_) fun _ _ e => e) (hs _)
  obtain ⟨a, σ₁, ⟨m, I0, lr⟩, S₁, V₁, xs, rfl, h₁⟩ := p₁
  obtain ⟨l, vs, n, rfl, ho, Vs⟩ := V₁.tup_inv
  refine wpAny_pyIter_tuple ⟨_, ho, rfl, n, rfl⟩ ?_
  have kp : ∀ b o, s₁.heap.get? b = some o → (s₁.heap.push { cls := .type "tuple_iterator", data := .fields #[.ref l, .int 0 0] }).get? b = some o := fun b o e => Heap.get?_push_of_some _ e
  have J := I0.take kp (a := s₁.heap.objs.size) (o := .raw (PT l 0)) (fun x hx => by simp [AObj.foot] at hx; rw [hx]; exact Heap.get?_none_of_le (Nat.le_refl _)) (by simp [AObj.foot]) ⟨_, Heap.get?_push_size _ rfl, ⟨fun q => absurd (Value.type.inj q) (by decide), fun q => absurd (Value.type.inj q) (by decide)⟩, rfl, rfl⟩
  exact for_on (σ := ⟨σ₁.loc, _⟩) iter_tup ok ⟨m, J, lr.1.mono (.of kp), lr.2⟩ (S₁.trans ⟨.of kp, rfl, rfl⟩) ⟨vs, n, kp _ _ ho, Vs.mono (.of kp)⟩ (h₁ _ _)
theorem s_swap2 {x y : Str} {xp yp : Pos} {n : Nat} {tpos pos : Pos} {e : Expr} {k : Fl → St → Prop}
    (h : HE G F d none e σ (fun v σ₁ => ∃ a b loc', v = .tup [a, b] ∧ PutsAt F.names [y, x] [b, a] σ₁.loc loc' ∧ k .next ⟨loc', σ₁.H⟩) X)
    (hs : ∀ L, swapsWithSole [.Tuple [.Name x xp, .Name y yp] n tpos] e pos.line (F.env L) = pure false := by intros; with_unfolding_all rfl) (hw : ∀ L, swappedStores [.Tuple [.Name x xp, .Name y yp] n tpos] e (F.env L) = pure (some [x, y]) := by intros; with_unfolding_all rfl) : HS G F d none (.Assign [.Tuple [.Name x xp, .Name y yp] n tpos] e pos) σ k X :=
  s_swap (names := [x, y]) (h.mono (fun v σ₁ ⟨a, b, loc', e, p, q⟩ => ⟨[a, b], loc', e, rfl, p, q⟩) fun _ _ e => e) hs hw
theorem s_swap3 {x y z : Str} {xp yp zp : Pos} {n : Nat} {tpos pos : Pos} {e : Expr} {k : Fl → St → Prop}
    (h : HE G F d none e σ (fun v σ₁ => ∃ a b c loc', v = .tup [a, b, c] ∧ PutsAt F.names [z, y, x] [c, b, a] σ₁.loc loc' ∧ k .next ⟨loc', σ₁.H⟩) X)
    (hs : ∀ L, swapsWithSole [.Tuple [.Name x xp, .Name y yp, .Name z zp] n tpos] e pos.line (F.env L) = pure false := by intros; with_unfolding_all rfl) (hw : ∀ L, swappedStores [.Tuple [.Name x xp, .Name y yp, .Name z zp] n tpos] e (F.env L) = pure (some [x, y, z]) := by intros; with_unfolding_all rfl) : HS G F d none (.Assign [.Tuple [.Name x xp, .Name y yp, .Name z zp] n tpos] e pos) σ k X :=
  s_swap (names := [x, y, z]) (h.mono (fun v σ₁ ⟨a, b, c, loc', e, p, q⟩ => ⟨[a, b, c], loc', e, rfl, p, q⟩) fun _ _ e => e) hs hw
theorem s_unpack3 {x y z : Str} {xp yp zp : Pos} {n : Nat} {tpos pos : Pos} {e : Expr} {k : Fl → St → Prop}
    (h : HE G F d none e σ (fun v σ₁ => ∃ a b c loc', v = .tup [a, b, c] ∧ PutsAt F.names [x, y, z] [a, b, c] σ₁.loc loc' ∧ k .next ⟨loc', σ₁.H⟩) X)
    (hs : ∀ L, swapsWithSole [.Tuple [.Name x xp, .Name y yp, .Name z zp] n tpos] e pos.line (F.env L) = pure false := by intros; with_unfolding_all rfl) (hw : ∀ L, swappedStores [.Tuple [.Name x xp, .Name y yp, .Name z zp] n tpos] e (F.env L) = pure none := by intros; with_unfolding_all rfl) : HS G F d none (.Assign [.Tuple [.Name x xp, .Name y yp, .Name z zp] n tpos] e pos) σ k X :=
  s_unpack (nps := [(x, xp), (y, yp), (z, zp)]) rfl (h.mono (fun v σ₁ ⟨a, b, c, loc', e, p, q⟩ => ⟨[a, b, c], loc', e, rfl, p, q⟩) fun _ _ e => e) hs hw
theorem s_unpack4 {x y z w : Str} {xp yp zp wp : Pos} {n : Nat} {tpos pos : Pos} {e : Expr} {k : Fl → St → Prop}
    (h : HE G F d none e σ (fun v σ₁ => ∃ a b c c' loc', v = .tup [a, b, c, c'] ∧ PutsAt F.names [x, y, z, w] [a, b, c, c'] σ₁.loc loc' ∧ k .next ⟨loc', σ₁.H⟩) X)
    (hs : ∀ L, swapsWithSole [.Tuple [.Name x xp, .Name y yp, .Name z zp, .Name w wp] n tpos] e pos.line (F.env L) = pure false := by intros; with_unfolding_all rfl) (hw : ∀ L, swappedStores [.Tuple [.Name x xp, .Name y yp, .Name z zp, .Name w wp] n tpos] e (F.env L) = pure none := by intros; with_unfolding_all rfl) : HS G F d none (.Assign [.Tuple [.Name x xp, .Name y yp, .Name z zp, .Name w wp] n tpos] e pos) σ k X :=
  s_unpack (nps := [(x, xp), (y, yp), (z, zp), (w, wp)]) rfl (h.mono (fun v σ₁ ⟨a, b, c, c', loc', e, p, q⟩ => ⟨[a, b, c, c'], loc', e, rfl, p, q⟩) fun _ _ e => e) hs hw
theorem hfor_inv {x : Str} {body : List Stmt} {k : Fl → St → Prop} {it : Addr} {P : Nat → Obj → Prop} {Src : AH → Prop} (Inv : List AV → List (Option AV) → AH → Prop)
    (src : ∀ vs loc H o, Inv vs loc H → Src ((it, o) :: H))
    (step : ∀ v vs loc H i, Inv (v :: vs) loc H → ∃ loc', PutAt x (some v) F.names loc loc' ∧ HSs G F d none body ⟨loc', (it, .raw (P i)) :: H⟩ (Fl.on (fun σ₂ => ∃ loc2 H2, σ₂ = ⟨loc2, (it, .raw (P i)) :: H2⟩ ∧ Inv vs loc2 H2) (fun v σ₂ => k (.ret v) σ₂)) X)
    (stop : ∀ loc H, Inv [] loc H → k .next ⟨loc, H⟩) : ∀ items i loc H, Inv items loc H → HFor G F d x body k X it P Src items i ⟨loc, (it, .raw (P i)) :: H⟩
  | [], i, loc, H, h => ⟨src _ _ _ _ h, H, .head, stop _ _ h⟩
  | v :: vs, i, loc, H, h => by
    obtain ⟨loc', hp, hb⟩ := step v vs loc H (i + 1) h
    refine ⟨src _ _ _ _ h, _, loc', .head, hp, hb.mono (fun fl σ₂ z => ?_) fun _ _ e => e⟩
    cases fl with
    | next => obtain ⟨loc2, H2, rfl, hi⟩ := z; exact hfor_inv Inv src step stop vs (i + 1) loc2 H2 hi
    | ret v => exact z
end
end Mine
end
section
open PySem PySem.W PySem.Calls PyProof.Rows
set_option maxRecDepth 100000
set_option autoImplicit false
set_option maxHeartbeats 4000000
namespace Mine
section
variable {G : Gl} {F : Fn} {d : Nat} {hd : Option Addr} {X : Addr → St → Prop} {σ : St}
structure HPs (G : Gl) (F : Fn) (d : Nat) (hd : Option Addr) (keys : List (Option Expr)) (vals : List Expr) (σ : St) (k : List (Str × AV) → St → Prop) (X : Addr → St → Prop) : Prop where
  run : ∀ C A L fr s pos, Ok G C A (F.env L :: fr.map (·.1)) d → InvF C F L fr σ s.heap → wpAny (model G.P C.w) (arnd A hd) (evalPairs (pairTrees keys vals (F.env L) pos))
    (fun vs s' => ∃ kvs xs σ', Carries (strKind G.P C.w) vs kvs ∧ VKs s'.heap kvs xs ∧ InvF C F L fr σ' s'.heap ∧ SL s s' ∧ k xs σ') (PX C F L fr s X) s
theorem hp_nil {k : List (Str × AV) → St → Prop} (h : k [] σ) : HPs G F d hd [] [] σ k X := ⟨fun C A L fr s pos ok I => wpAny_pure ⟨[], [], σ, trivial, .nil, I, .refl s, h⟩⟩
theorem hp_cons {y : Str} {n : Nat} {p : Pos} {e : Expr} {ks : List (Option Expr)} {es : List Expr} {k : List (Str × AV) → St → Prop}
    (h : HE G F d hd e σ (fun a σ₁ => HPs G F d hd ks es σ₁ (fun xs σ₂ => k ((y, a) :: xs) σ₂) X) X) : HPs G F d hd (some (.Constant (.str y) n p) :: ks) (e :: es) σ k X := by
  refine ⟨?_⟩
  intro C A L fr s pos ok I
  show wpAny _ _ (do
    let kv ← eval (.Constant (.str y) n p) (F.env L)
    let vv ← holding [kv] (do let x ← eval e (F.env L); standAt pos; pure x)
    return (kv, vv) :: (← holding [kv, vv] (evalPairs (pairTrees ks es (F.env L) pos)))) _ _ s
  have ek : HE G F d hd (.Constant (.str y) n p) σ (fun a σ' => a = .str y ∧ σ' = σ) (fun _ _ => False) := e_str ⟨rfl, rfl⟩
  refine wpAny_bind (wpAny_mono (ek.run C A L fr s ok I) (fun kv s₁ p₁ => ?_) fun _ _ ⟨_, _, _, _, _, _, q⟩ => q.elim)
  obtain ⟨a, σ', I₁, S₁, V₁, rfl, rfl⟩ := p₁
  obtain ⟨u, rfl⟩ := V₁.str_inv
  refine wpAny_bind (wpAny_holding (wpAny_bind (wpAny_mono (h.run C A L fr s₁ ok I₁) (fun vv s₂ p₂ => wpAny_bind (wpAny_standAt (wpAny_pure ?_))) fun _ _ e => e.trans S₁)))
  obtain ⟨a, σ₂, I₂, S₂, V₂, h₂⟩ := p₂
  refine wpAny_bind (wpAny_holding (wpAny_mono (h₂.run C A L fr s₂ pos ok I₂) (fun vs s₃ p₃ => ?_) fun _ _ e => e.trans (S₁.trans S₂)))
  obtain ⟨kvs, xs, σ₃, c₃, W₃, I₃, S₃, h₃⟩ := p₃
  exact wpAny_pure ⟨(y, vv) :: kvs, (y, a) :: xs, σ₃, ⟨strKind_is _ _ _ _, rfl, c₃⟩, .cons (V₂.mono S₃.1) W₃, I₃, (S₁.trans S₂).trans S₃, h₃⟩
theorem merged_new : ∀ {kvs acc : List (Str × Value)}, ((acc ++ kvs).map (·.1)).Nodup → merged acc kvs = acc ++ kvs
  | [], acc, _ => by simp [merged]
  | (y, v) :: kvs, acc, h => by
    have e : (acc ++ (y, v) :: kvs) = (acc ++ [(y, v)]) ++ kvs := by simp
    rw [e] at h
    have hy : y ∉ acc.map (·.1) := by
      have := (List.nodup_append.mp ((List.map_append (f := Prod.fst) ▸ h))).1
      rw [List.map_append] at this
      have := (List.nodup_append.mp this).2.2
      intro q
      exact this y q y (by simp) rfl
    show merged (stored acc y v) kvs = _
    rw [stored_new hy, merged_new h, e]
theorem e_dict {keys : List (Option Expr)} {vals : List Expr} {pos : Pos} {k : AV → St → Prop}
    (h : ∀ a, HPs G F d hd keys vals ⟨σ.loc, (a, .dict []) :: σ.H⟩ (fun xs σ₁ => (xs.map (·.1)).Nodup ∧ ∃ H', SetH a (.dict []) (.dict xs) σ₁.H H' ∧ k (.ref a) ⟨σ₁.loc, H'⟩) X)
    (hall : keys.all (·.isSome) = true := by with_unfolding_all rfl) (hl : keys.length = vals.length := by with_unfolding_all rfl) (h0 : keys ≠ [] := by with_unfolding_all nofun) (hlen : keys.length ≤ 15 := by with_unfolding_all decide) : HE G F d hd (.Dict keys vals pos) σ k X := by
  refine ⟨?_⟩
  intro C A L fr s ok I
  refine wpAny_Dict_walk (knd := strKind G.P C.w) hall hl h0 hlen ?_
  have kp : ∀ b o, s.heap.get? b = some o → (s.heap.push { cls := .type "dict", data := .dict #[] }).get? b = some o := fun b o e => Heap.get?_push_of_some _ e
  obtain ⟨m, I0, lr⟩ := I
  have D0 : (s.heap.push { cls := .type "dict", data := .dict #[] }).DictOf (strKind C.P C.w) s.heap.objs.size [] := Heap.DictOf.new _
  have J := I0.take kp (a := s.heap.objs.size) (o := .dict []) (fun x hx => by simp [AObj.foot] at hx; rw [hx]; exact Heap.get?_none_of_le (Nat.le_refl _)) (by simp [AObj.foot]) ⟨_, D0, .nil⟩
  refine wpAny_mono ((h s.heap.objs.size).run C A L fr { s with heap := s.heap.push { cls := .type "dict", data := .dict #[] } } pos ok ⟨m, J, lr.1.mono (.of kp), lr.2⟩) (fun vs s₁ p₁ => ?_) fun _ _ e => e.trans (show SL s { s with heap := s.heap.push { cls := .type "dict", data := .dict #[] } } from ⟨.of kp, rfl, rfl⟩)
  obtain ⟨kvs, xs, σ₁, cr, W, ⟨m₁, I₁, lr₁⟩, S₁, nd, H', e, hk⟩ := p₁
  obtain ⟨kvs0, D, r0⟩ := I₁.dict e.inH
  cases r0
  have D1 := D
  rw [ok.P] at D
  refine ⟨kvs, cr, D, fun h' D' hs => ?_⟩
  obtain ⟨o₀, es₀, ep₀, ho, ex, hdat, _, _, _⟩ := D1
  have h1 : ∀ vs n, s₁.heap.get? s.heap.objs.size ≠ some (tupObj vs n) := fun vs n e => by rw [ho] at e; cases e; cases hdat
  have h2 : ∀ oT ts, s₁.heap.get? s.heap.objs.size = some oT → oT.cls = .type "traceback" → oT.data = .fields ts → False := fun oT ts e _ q => by rw [ho] at e; cases e; rw [hdat] at q; cases q
  have T : TL s₁.heap h' := .turn hs h1
  rw [merged_new (acc := []) (by rw [List.nil_append, W.fst]; exact nd), List.nil_append, ← ok.P] at D'
  have SS : SL s { s₁ with heap := h', toks := s₁.toks + vs.length } := ⟨(TL.of kp).trans (S₁.1.trans T), S₁.2.1, S₁.2.2⟩
  exact ⟨.ref s.heap.objs.size, ⟨σ₁.loc, H'⟩, ⟨m₁, I₁.turnH e (x := s.heap.objs.size) (.head _) rfl hs h1 h2 ⟨_, D', W.mono T⟩, lr₁.1.mono T, lr₁.2⟩, SS, .ref _, hk⟩
theorem e_dict0 {pos : Pos} {k : AV → St → Prop} (h : ∀ a, k (.ref a) ⟨σ.loc, (a, .dict []) :: σ.H⟩) : HE G F d hd (.Dict [] [] pos) σ k X := by
  refine ⟨?_⟩
  intro C A L fr s ok I
  refine wpAny_Dict_empty ?_
  have kp : ∀ b o, s.heap.get? b = some o → (s.heap.push { cls := .type "dict", data := .dict #[] }).get? b = some o := fun b o e => Heap.get?_push_of_some _ e
  obtain ⟨m, I0, lr⟩ := I
  have D0 : (s.heap.push { cls := .type "dict", data := .dict #[] }).DictOf (strKind C.P C.w) s.heap.objs.size [] := Heap.DictOf.new _
  have J := I0.take kp (a := s.heap.objs.size) (o := .dict []) (fun x hx => by simp [AObj.foot] at hx; rw [hx]; exact Heap.get?_none_of_le (Nat.le_refl _)) (by simp [AObj.foot]) ⟨_, D0, .nil⟩
  exact ⟨.ref s.heap.objs.size, ⟨σ.loc, (s.heap.objs.size, .dict []) :: σ.H⟩, ⟨m, J, lr.1.mono (.of kp), lr.2⟩, ⟨.of kp, rfl, rfl⟩, .ref _, h _⟩
theorem cc_gc {f : Value} {xs : List AV} {H : AH} {k : AV → AH → Prop} {Y : Addr → AH → Prop} (h : CC G d hd f xs H (fun v H' => ∃ a o R, Sel a o H' R ∧ k v R) Y) : CC G d hd f xs H k Y := by
  refine ⟨?_⟩
  intro C A fr s vs ok I V
  refine codeAny_mono (h.run C A fr s vs ok I V) fun r s' z => ?_
  rcases r with e | (_ | _ | _ | v)
  · exact z
  · exact z
  · exact z
  · exact z
  · obtain ⟨av, H', e2, e3, e4, a, o, R, e5, e6⟩ := z; exact ⟨av, R, (e2.perm e5.perm).dropHead, e3, e4, e6⟩
theorem o_not {x : AV} {k : AV → St → Prop} (h : HB G F d hd truthy x σ (fun c σ' => k (.bool (!c)) σ') X) : HO G F d hd (op1 (unaryOp .Not)) [x] σ k X := ho1 fun C A L fr s v ok I V =>
  not_of (wpAny_mono (h.run C A L fr s v ok I V) (fun c s' ⟨σ', I', S', h'⟩ => ⟨.bool (!c), σ', I', S', .bool _, h'⟩) fun _ _ e => e)
theorem q_he {e : Expr} {k : AV → St → Prop} (h : HE G F d hd e σ k X) : HE G F d hd e σ k X := h
theorem q_call {f : Expr} {es : List Expr} {kw : List Keyword} {p : Pos} {k : AV → St → Prop} (h : HE G F d hd (.Call f es kw p) σ k X) : HE G F d hd (.Call f es kw p) σ k X := h
theorem q_name {x : Str} {p : Pos} {k : AV → St → Prop} (h : HE G F d hd (.Name x p) σ k X) : HE G F d hd (.Name x p) σ k X := h
theorem q_ht {e : Expr} {k : Bool → St → Prop} (h : HT G F d hd e σ k X) : HT G F d hd e σ k X := h
theorem q_hs {e : Stmt} {k : Fl → St → Prop} (h : HS G F d hd e σ k X) : HS G F d hd e σ k X := h
theorem q_ho {t : List Value → Sem Value} {xs : List AV} {k : AV → St → Prop} (h : HO G F d hd t xs σ k X) : HO G F d hd t xs σ k X := h
theorem q_ho1 {t : Value → Sem Value} {xs : List AV} {k : AV → St → Prop} (h : HO G F d hd (op1 t) xs σ k X) : HO G F d hd (op1 t) xs σ k X := h
theorem q_ho2 {t : Value → Value → Sem Value} {xs : List AV} {k : AV → St → Prop} (h : HO G F d hd (op2 t) xs σ k X) : HO G F d hd (op2 t) xs σ k X := h
theorem q_len {xs : List AV} {k : AV → St → Prop} (h : HO G F d hd (fun vs => call (.builtin "len") vs) xs σ k X) : HO G F d hd (fun vs => call (.builtin "len") vs) xs σ k X := h
theorem q_ex {α : Type} {p : α → Prop} (h : ∃ a, p a) : ∃ a, p a := h
end
end Mine
end
section
open PySem PySem.W PySem.Calls PyProof.Rows
set_option maxRecDepth 100000
set_option autoImplicit false
set_option maxHeartbeats 4000000
namespace Mine
section
variable {G : Gl} {F : Fn} {d : Nat} {σ : St} {X : Addr → St → Prop}
theorem s_unpack2 {x y : Str} {xp yp : Pos} {n : Nat} {tpos pos : Pos} {e : Expr} {k : Fl → St → Prop}
    (h : HE G F d none e σ (fun v σ₁ => ∃ a b loc', v = .tup [a, b] ∧ PutsAt F.names [x, y] [a, b] σ₁.loc loc' ∧ k .next ⟨loc', σ₁.H⟩) X)
    (hs : ∀ L, swapsWithSole [.Tuple [.Name x xp, .Name y yp] n tpos] e pos.line (F.env L) = pure false := by intros; with_unfolding_all rfl) (hw : ∀ L, swappedStores [.Tuple [.Name x xp, .Name y yp] n tpos] e (F.env L) = pure none := by intros; with_unfolding_all rfl) : HS G F d none (.Assign [.Tuple [.Name x xp, .Name y yp] n tpos] e pos) σ k X :=
  s_unpack (nps := [(x, xp), (y, yp)]) rfl (h.mono (fun v σ₁ ⟨a, b, loc', e, p, q⟩ => ⟨[a, b], loc', e, rfl, p, q⟩) fun _ _ e => e) hs hw
end
section
variable {G : Gl} {F : Fn} {d : Nat} {hd : Option Addr} {X : Addr → St → Prop} {σ : St}
theorem GetE.any {y : Str} {v : AV} {es : List (Str × AV)} (g : GetE y v es) : (es.any fun p => p.1 == y) = true := by
  induction g with
  | head => simp
  | tail _ _ ih => simp [ih]
theorem NoE.any {y : Str} {es : List (Str × AV)} (g : NoE y es) : (es.any fun p => p.1 == y) = false := by
  induction g with
  | nil => rfl
  | cons h _ ih => simp only [List.any_cons, ih, Bool.or_false]; exact beq_eq_false_iff_ne.mpr h
theorem o_in_t {l : Addr} {es : List (Str × AV)} {y : Str} {v : AV} {k : AV → St → Prop} (hl : InH l (.dict es) σ.H) (g : GetE y v es) (h : k (.bool true) σ) : HO G F d hd (op2 (compareOp .In)) [.str y, .ref l] σ k X := o_in_dict hl (by rw [g.any]; exact h)
theorem o_in_f {l : Addr} {es : List (Str × AV)} {y : Str} {k : AV → St → Prop} (hl : InH l (.dict es) σ.H) (g : NoE y es) (h : k (.bool false) σ) : HO G F d hd (op2 (compareOp .In)) [.str y, .ref l] σ k X := o_in_dict hl (by rw [g.any]; exact h)
theorem o_notin_t {l : Addr} {es : List (Str × AV)} {y : Str} {v : AV} {k : AV → St → Prop} (hl : InH l (.dict es) σ.H) (g : GetE y v es) (h : k (.bool false) σ) : HO G F d hd (op2 (compareOp .NotIn)) [.str y, .ref l] σ k X := o_notin_dict hl (by rw [g.any]; exact h)
theorem o_append' {l : Addr} {xs : List AV} {x : AV} {H' : AH} {k : AV → St → Prop} (e : SetH l (.list xs) (.list (xs ++ [x])) σ.H H') (hz : xs.length ≤ 1000) (h : k .none ⟨σ.loc, H'⟩) : HO G F d hd (fun vs => call (.builtin "list.append") vs) [.ref l, x] σ k X := o_append hz e h
end
theorem Inv0.newList {C : Cx} {fr : Frs} {H : AH} {h : Heap} {vs : List Value} {xs : List AV} (I : Inv0 C fr H h) (V : VRs h vs xs) : Inv0 C fr ((h.objs.size, .list xs) :: H) (h.push (lstObj vs 0)) ∧ ∀ b o, h.get? b = some o → (h.push (lstObj vs 0)).get? b = some o := by
  have kp : ∀ b o, h.get? b = some o → (h.push (lstObj vs 0)).get? b = some o := fun b o e => Heap.get?_push_of_some _ e
  exact ⟨I.take kp (a := h.objs.size) (o := .list xs) (fun x hx => by simp [AObj.foot] at hx; rw [hx]; exact Heap.get?_none_of_le (Nat.le_refl _)) (by simp [AObj.foot]) ⟨vs, 0, Heap.get?_push_size _ rfl, V.mono (.of kp)⟩, kp⟩
section
variable {G : Gl} {F : Fn} {d : Nat} {hd : Option Addr} {X : Addr → St → Prop} {σ : St}
theorem ho_one {t : List Value → Sem Value} {a : AV} {k : AV → St → Prop} (h : ∀ C A L fr s v, Ok G C A (F.env L :: fr.map (·.1)) d → InvF C F L fr σ s.heap → VR s.heap v a → wpAny (model G.P C.w) (arnd A hd) (t [v]) (PV C F L fr s k) (PX C F L fr s X) s) : HO G F d hd t [a] σ k X := by
  refine ⟨?_⟩
  intro C A L fr s vs ok I V
  cases V with
  | cons v r => cases r; exact h C A L fr s _ ok I v
theorem ho_two {t : List Value → Sem Value} {a b : AV} {k : AV → St → Prop} (h : ∀ C A L fr s v w, Ok G C A (F.env L :: fr.map (·.1)) d → InvF C F L fr σ s.heap → VR s.heap v a → VR s.heap w b → wpAny (model G.P C.w) (arnd A hd) (t [v, w]) (PV C F L fr s k) (PX C F L fr s X) s) : HO G F d hd t [a, b] σ k X := by
  refine ⟨?_⟩
  intro C A L fr s vs ok I V
  cases V with
  | cons v r =>
    cases r with
    | cons w r => cases r; exact h C A L fr s _ _ ok I v w
theorem ho_three {t : List Value → Sem Value} {a b c : AV} {k : AV → St → Prop} (h : ∀ C A L fr s v w u, Ok G C A (F.env L :: fr.map (·.1)) d → InvF C F L fr σ s.heap → VR s.heap v a → VR s.heap w b → VR s.heap u c → wpAny (model G.P C.w) (arnd A hd) (t [v, w, u]) (PV C F L fr s k) (PX C F L fr s X) s) : HO G F d hd t [a, b, c] σ k X := by
  refine ⟨?_⟩
  intro C A L fr s vs ok I V
  cases V with
  | cons v r =>
    cases r with
    | cons w r =>
      cases r with
      | cons u r => cases r; exact h C A L fr s _ _ _ ok I v w u
theorem o_addl {l b : Addr} {xs ys : List AV} {k : AV → St → Prop} (hl : InH l (.list xs) σ.H) (hb : InH b (.list ys) σ.H) (hz : xs.length + ys.length ≤ 1000) (h : ∀ a, k (.ref a) ⟨σ.loc, (a, .list (xs ++ ys)) :: σ.H⟩) : HO G F d hd (op2 (binaryOp .Add)) [.ref l, .ref b] σ k X := ho2 fun C A L fr s v w ok I V W => by
  obtain rfl := V.ref_inv; obtain rfl := W.ref_inv
  obtain ⟨m, I0, lr⟩ := I
  obtain ⟨vs, n, ho, Vs, il⟩ := I0.list hl
  obtain ⟨us, n', ho', Us, il'⟩ := I0.list hb
  obtain ⟨J, kp⟩ := I0.newList (Vs.append Us)
  refine PySem.P.add_list (n := n) (n2 := n') ho ho' ?_ (by rw [List.size_toArray, List.size_toArray, Vs.length, Us.length, sizeLine_eq]; omega)
  have e : vs.toArray ++ us.toArray = (vs ++ us).toArray := by simp
  rw [e]
  exact ⟨_, ⟨σ.loc, _⟩, ⟨m, J, lr.1.mono (.of kp), lr.2⟩, ⟨.of kp, rfl, rfl⟩, .ref _, h _⟩
theorem o_addt {xs ys : List AV} {k : AV → St → Prop} (hx : xs ≠ []) (hy : ys ≠ []) (hz : xs.length + ys.length ≤ 1000) (h : k (.tup (xs ++ ys)) σ) : HO G F d hd (op2 (binaryOp .Add)) [.tup xs, .tup ys] σ k X := ho2 fun C A L fr s v w ok I V W => by
  obtain ⟨a, vs, n, rfl, ho, Vs⟩ := V.tup_inv
  obtain ⟨b, us, n', rfl, ho', Us⟩ := W.tup_inv
  have kp : ∀ b o, s.heap.get? b = some o → (s.heap.push (tupObj (vs ++ us) 0)).get? b = some o := fun b o e => Heap.get?_push_of_some _ e
  refine PySem.P.add_tuple (n := n) (n2 := n') ho ho' (fun q => hx ?_) (fun q => hy ?_) ?_ (by rw [List.size_toArray, List.size_toArray, Vs.length, Us.length, sizeLine_eq]; omega)
  · cases Vs with
    | nil => rfl
    | cons _ _ => simp at q
  · cases Us with
    | nil => rfl
    | cons _ _ => simp at q
  have e : vs.toArray ++ us.toArray = (vs ++ us).toArray := by simp
  rw [e]
  exact ⟨_, σ, I.mono kp, ⟨.of kp, rfl, rfl⟩, .tup (n := 0) (Heap.get?_push_size _ rfl) ((Vs.append Us).mono (.of kp)), h⟩
theorem o_pop_miss {l : Addr} {es : List (Str × AV)} {y : Str} {x : AV} {k : AV → St → Prop} (hl : InH l (.dict es) σ.H) (hx : NoE y es) (h : k x σ) : HO G F d hd (fun vs => call (.builtin "dict.pop") vs) [.ref l, .str y, x] σ k X := ho_three fun C A L fr s v w u ok I V W U => by
  obtain rfl := V.ref_inv
  obtain ⟨t, rfl⟩ := W.str_inv
  have I' := I
  obtain ⟨m, I0, lr⟩ := I
  obtain ⟨kvs, D, r⟩ := I0.dict hl
  have hty : s.TypeIs (.ref l) "dict" := D.typeIs
  rw [ok.P] at D
  have ns := notSys ok I0 hl
  refine call_meetsIn _root_.PySem.F.slot_dict_pop D.typeIs _root_.PySem.F.entry_dict_pop (_root_.PySem.F.args_dict_pop_3 _ _ _) (meets_dict_pop_default (strKind G.P C.w) l (strKind_is _ _ _ _) ns rfl u) ?_
  exact ⟨kvs, D, r.noE hx, _, σ, I', .toks s _, U, h⟩
theorem o_sum {l : Addr} {ns : List Int} {k : AV → St → Prop} (hl : InH l (.list (ns.map .int)) σ.H) (h : k (.int ns.sum) σ) : HO G F d none (fun vs => call (.builtin "sum") vs) [.ref l] σ k X := ho_one fun C A L fr s v ok I V => by
  obtain rfl := V.ref_inv
  have I' := I
  obtain ⟨m, I0, lr⟩ := I
  obtain ⟨vs, n, ho, Vs, il⟩ := I0.list hl
  obtain ⟨xs, rfl, rfl⟩ : ∃ xs : List (Int × Tok), vs = xs.map (fun p => .int p.1 p.2) ∧ ns = xs.map (·.1) := by
    clear hl il ho h lr I0
    induction ns generalizing vs with
    | nil => cases Vs; exact ⟨[], rfl, rfl⟩
    | cons n ns ih =>
      cases Vs with
      | cons v r =>
        obtain ⟨t, rfl⟩ := v.int_inv
        obtain ⟨xs, rfl, rfl⟩ := ih _ r
        exact ⟨(n, t) :: xs, rfl, rfl⟩
  have il' : s.heap.IsList l (intItems xs.toArray) := by
    have e : intItems xs.toArray = (xs.map fun p => Value.int p.1 p.2).toArray := by simp [intItems]
    rw [e]; exact il
  refine sum_intListG rfl il' fun h' tk t' hk => ?_
  rw [preSum_eq, List.take_of_length_le (by simp)]
  exact ⟨_, σ, I'.mono hk, ⟨.of hk, rfl, rfl⟩, .int _ _, h⟩
theorem o_str_int {n : Int} {k : AV → St → Prop} (hn : n.natAbs.log2 < 1920) (h : k (.str (toString n)) σ) : HO G F d hd (fun vs => call (.type "str") vs) [.int n] σ k X := ho_one fun C A L fr s v ok I V => by
  obtain ⟨t, rfl⟩ := V.int_inv
  exact PySem.P.str_of_int hn ⟨_, σ, I, .toks s _, .str _ _, h⟩
theorem o_pow {a b : Int} {k : AV → St → Prop} (hb : b > 0) (ha : (a == 0 || a == 1) = false) (ha' : (a == -1) = false) (hz : Builtin.Int.intTooBig (((Builtin.Int.intBits a : Nat) : Int) * b) = false) (h : k (.int (a ^ b.toNat)) σ) : HO G F d hd (op2 (binaryOp .Pow)) [.int a, .int b] σ k X := ho2 fun C A L fr s v w ok I V W => by
  obtain ⟨t, rfl⟩ := V.int_inv; obtain ⟨u, rfl⟩ := W.int_inv
  refine PySem.AutoIntOps.pow_4 (by omega) (by simp; omega) (by rw [ha]; decide) (by rw [ha']; decide) (by rw [hz]; decide) ?_
  exact ⟨_, σ, I, .toks s _, .int _ _, h⟩
end
end Mine
end
section
open PySem PySem.W PySem.Calls PyProof.Rows
set_option maxRecDepth 100000
set_option autoImplicit false
namespace Mine
section
variable {G : Gl} {F : Fn} {d : Nat} {hd : Option Addr} {X : Addr → St → Prop} {σ : St}
theorem handler_as {x n : Str} {np : Pos} {b₀ : Stmt} {suite : List Stmt} {hpos : Pos} {k : Fl → St → Prop} {cl N fI : Addr}
    (eg : ∀ P, nsIn (G.K P) mainGlobals x = some (some (.ref cl))) (hc : ExcC G cl N fI) (hg : HasN x F.globs) {C : Cx} {A : Around} {L : Addr} {fr : Frs} {s s₁ : Shared} {v : Value} (ok : Ok G C A (F.env L :: fr.map (·.1)) d)
    (p₁ : PX C F L fr s (fun a σ₁ => ∃ dd b es loc₁, InH a (.exc cl dd b es) σ₁.H ∧ PutAt n (some (.ref a)) F.names σ₁.loc loc₁ ∧
      HSs G F d (some a) (b₀ :: suite) ⟨loc₁, σ₁.H⟩ (fun fl σ₂ => ∃ loc₂, PutAt n none F.names σ₂.loc loc₂ ∧ k fl ⟨loc₂, σ₂.H⟩) (fun b σ₂ => ∃ loc₂, PutAt n none F.names σ₂.loc loc₂ ∧ X b ⟨loc₂, σ₂.H⟩)) v s₁) :
    wpAny (model G.P C.w) (arnd A hd) (noteFrame v (F.env L)) (fun _ s₂ => wpAny (model G.P C.w) (arnd A hd) (setFlight v none) (fun _ s₃ => wpAny (model G.P C.w) (arnd A hd) (handleBy v (F.env L) [.ExceptHandler (some (.Name x np)) (some n) (b₀ :: suite) hpos]) (PF C F L fr s k) (PX C F L fr s X) s₃) (PX C F L fr s X) s₂) (PX C F L fr s X) s₁ := by
  refine px_note ok p₁ fun s₂ p₂ => px_flight p₂ fun s₃ p₃ => ?_
  obtain ⟨a, σ₁, rfl, I₃, S₃, n₃, dd, b, es, loc₁, hi, hp, h₁⟩ := p₃
  refine wpAny_handleBy_cons (codeAny_handlers_test (wpAny_mono ((e_glob (hd := some a) (k := fun v σ => v = .ref cl ∧ σ₁ = σ) (X := fun _ _ => False) eg rfl ⟨rfl, rfl⟩ hg).run C A L fr s₃ ok I₃) (fun c s₄ p₄ => ?_) fun _ _ p => ?_)) (by intro q; cases q)
  · obtain ⟨_, _, I₄, S₄, V₄, rfl, rfl⟩ := p₄
    have hv := V₄.val (f := .ref cl) rfl
    subst hv
    have K := I₄.K ok
    obtain ⟨nm, q, bs, sn, sub, ab, col, dc, k0, k1, k2, k3, k5, hcl⟩ := hc.cls C.w.params
    have hC := K _ _ hcl
    obtain ⟨m, I0, lr⟩ := I₄
    obtain ⟨vs, sl, ho, ht, hdd⟩ := I0.obj _ hi.mem
    refine wpAny_excMatches_sub_self hC ho rfl (by rfl) (codeAny_handlers_suite_as ?_)
    refine flight I0 ⟨_, _, _, _, hi.mem⟩ fun h' I' T nn => ?_
    refine wpAny_mono ((store_name (hd := some a) (X := fun _ _ => False) (k := fun σ' => σ' = ⟨loc₁, σ₁.H⟩) hp rfl).run C A L fr _ (.ref a) ok ⟨m, I', lr.1.mono T, lr.2⟩ (.ref a)) (fun _ s₅ p₅ => ?_) fun _ _ p => ?_
    · obtain ⟨_, I₅, S₅, rfl⟩ := p₅
      have S05 := (S₃.trans S₄).trans (SL.trans (s' := { s₄ with heap := h' }) ⟨T, rfl, rfl⟩ S₅)
      refine wpAny_mono (h₁.run C A L fr s₅ ok I₅) (fun f s₆ p₆ => ?_) fun v s₆ p₆ => ?_
      · obtain ⟨g, σ₆, I₆, S₆, FR, loc₂, hp₂, h₆⟩ := p₆
        refine name_goes I₆ hp₂ fun s₇ I₇ S₇ => ?_
        exact ⟨g, _, I₇, (S05.trans S₆).trans S₇, FR.mono S₇.1, h₆⟩
      · refine px_note (A := A) (hd' := some a) ok p₆ fun s₇ p₇ => ?_
        obtain ⟨y, σ₇, rfl, I₇, S₇, n₇, loc₂, hp₂, h₇⟩ := p₇
        have I₇' := I₇
        have n₇' := n₇
        obtain ⟨c', d', b', es', vs', sl', T', q1, q2, q3⟩ := n₇
        have fl : ∃ H', InvF C F L fr ⟨σ₇.loc, H'⟩ s₇.heap ∧ SetH y (.exc c' d' b' es') (.exc c' d' true es') σ₇.H H' := by
          obtain ⟨H', e⟩ := setH_of (o' := .exc c' d' true es') q1
          exact ⟨H', flagged I₇ n₇' e, e⟩
        obtain ⟨H', I₈, e₈⟩ := fl
        refine name_goes I₈ hp₂ fun s₉ I₉ S₉ => ?_
        have n₉ := isN_of I₉ e₈.there
        have I₉' : InvF C F L fr ⟨loc₂, σ₇.H⟩ s₉.heap := by
          obtain ⟨m, J, lr⟩ := I₉
          exact ⟨m, J.unflag e₈, lr⟩
        have n₉' : IsN σ₇.H s₉.heap y := by
          obtain ⟨c₂, d₂, b₂, es₂, vs₂, sl₂, T₂, z1, z2, z3⟩ := n₉
          obtain ⟨m, J, lr⟩ := I₉'
          obtain ⟨vs, sl, ho, ht, hdd⟩ := J.obj _ q1
          have ho' : s₉.heap.get? y = _ := ho
          rw [ho'] at z2
          cases z2
          exact ⟨_, _, _, _, _, _, _, q1, ho, z3⟩
        have p₉ : PXN C F L fr s X (.ref y) s₉ := ⟨y, _, rfl, I₉', (S05.trans S₇).trans S₉, n₉', h₇⟩
        exact px_pass p₉ fun s' p => px_noted (A := A) (hd' := some a) ok p.x
    · obtain ⟨_, _, _, _, _, _, q⟩ := p; exact q.elim
  · obtain ⟨_, _, _, _, _, _, q⟩ := p; exact q.elim

theorem s_try_as {body : List Stmt} {x n : Str} {np : Pos} {b₀ : Stmt} {suite : List Stmt} {hpos pos : Pos} {k : Fl → St → Prop} {cl N fI : Addr}
    (eg : ∀ P, nsIn (G.K P) mainGlobals x = some (some (.ref cl))) (hc : ExcC G cl N fI)
    (h : HSs G F d hd body σ k (fun a σ₁ => ∃ dd b es loc₁, InH a (.exc cl dd b es) σ₁.H ∧ PutAt n (some (.ref a)) F.names σ₁.loc loc₁ ∧
      HSs G F d (some a) (b₀ :: suite) ⟨loc₁, σ₁.H⟩ (fun fl σ₂ => ∃ loc₂, PutAt n none F.names σ₂.loc loc₂ ∧ k fl ⟨loc₂, σ₂.H⟩) (fun b σ₂ => ∃ loc₂, PutAt n none F.names σ₂.loc loc₂ ∧ X b ⟨loc₂, σ₂.H⟩)))
    (hg : HasN x F.globs := by with_reducible (repeat (first | exact HasN.head | apply HasN.tail))) :
    HS G F d hd (.Try body [.ExceptHandler (some (.Name x np)) (some n) (b₀ :: suite) hpos] [] [] pos) σ k X := by
  refine ⟨?_⟩
  intro C A L fr s ok I
  refine wpAny_Try_except (wpAny_mono (h.run C A L fr s ok I) (fun f s₁ p₁ => ?_) (fun v s₁ p₁ => ?_))
  · obtain ⟨g, σ₁, I₁, S₁, FR, h₁⟩ := p₁
    cases f <;> cases g <;> first | exact FR.elim | skip
    · exact wpAny_execs_nil ⟨.next, _, I₁, S₁, trivial, h₁⟩
    · exact ⟨_, _, I₁, S₁, FR, h₁⟩
  · exact handler_as eg hc hg ok p₁

theorem fin_raised {f₀ : Stmt} {fs : List Stmt} {k : Fl → St → Prop} {C : Cx} {A : Around} {L : Addr} {fr : Frs} {s : Shared} (ok : Ok G C A (F.env L :: fr.map (·.1)) d) {v : Value} {s₁ : Shared} (p₁ : PX C F L fr s (fun a σ₁ => ∃ cl dd b es H', SetH a (.exc cl dd b es) (.exc cl dd true es) σ₁.H H' ∧
        HSs G F d (some a) (f₀ :: fs) ⟨σ₁.loc, H'⟩ (fun g σ₂ => g = .next ∧ ∃ cl dd es, InH a (.exc cl dd true es) σ₂.H ∧ X a σ₂) X) v s₁) :
    FinallyRaised G.P C.w (arnd A hd) (PX C F L fr s X) (F.env L) (f₀ :: fs) (PF C F L fr s k) v s₁ := by
  refine ⟨by (obtain ⟨a, _, rfl, _⟩ := p₁; intro q; cases q), ?_⟩
  refine px_note ok p₁ fun s₂ p₂ => px_flight p₂ fun s₃ p₃ => ?_
  obtain ⟨a, σ₁, rfl, I₃, S₃, n₃, cl, dd, b, es, H', e, h₁⟩ := p₃
  have I₃' := flagged (loc := σ₁.loc) I₃ n₃ e
  refine wpAny_mono (h₁.run C A L fr s₃ ok I₃') (fun f s₄ p₄ => ?_) fun v s₄ p₄ => px_noted (A := A) (hd' := some a) ok (p₄.trans S₃)
  obtain ⟨g, σ₄, I₄, S₄, FR, rfl, cl, dd, es, hi, h₄⟩ := p₄
  cases f <;> first | exact FR.elim | skip
  have p : PXN C F L fr s X (.ref a) s₄ := ⟨a, σ₄, rfl, I₄, S₃.trans S₄, isN_of I₄ hi, h₄⟩
  exact px_pass p fun s' p => p.x

theorem s_try_fin {body : List Stmt} {x n : Str} {np : Pos} {b₀ f₀ : Stmt} {suite fs : List Stmt} {hpos pos : Pos} {k : Fl → St → Prop} {cl N fI : Addr}
    (eg : ∀ P, nsIn (G.K P) mainGlobals x = some (some (.ref cl))) (hc : ExcC G cl N fI) (kM : Fl → St → Prop) (XM : Addr → St → Prop)
    (h : HSs G F d hd body σ kM (fun a σ₁ => ∃ dd b es loc₁, InH a (.exc cl dd b es) σ₁.H ∧ PutAt n (some (.ref a)) F.names σ₁.loc loc₁ ∧
      HSs G F d (some a) (b₀ :: suite) ⟨loc₁, σ₁.H⟩ (fun fl σ₂ => ∃ loc₂, PutAt n none F.names σ₂.loc loc₂ ∧ kM fl ⟨loc₂, σ₂.H⟩) (fun b σ₂ => ∃ loc₂, PutAt n none F.names σ₂.loc loc₂ ∧ XM b ⟨loc₂, σ₂.H⟩)))
    (hk : ∀ fl σ₁, kM fl σ₁ → HSs G F d hd (f₀ :: fs) σ₁ (Fl.on (fun σ₂ => k fl σ₂) (fun v σ₂ => k (.ret v) σ₂)) X)
    (hX : ∀ a σ₁, XM a σ₁ → ∃ cl dd b es H', SetH a (.exc cl dd b es) (.exc cl dd true es) σ₁.H H' ∧
        HSs G F d (some a) (f₀ :: fs) ⟨σ₁.loc, H'⟩ (fun g σ₂ => g = .next ∧ ∃ cl dd es, InH a (.exc cl dd true es) σ₂.H ∧ X a σ₂) X)
    (hg : HasN x F.globs := by with_reducible (repeat (first | exact HasN.head | apply HasN.tail))) :
    HS G F d hd (.Try body [.ExceptHandler (some (.Name x np)) (some n) (b₀ :: suite) hpos] [] (f₀ :: fs) pos) σ k X := by
  refine ⟨?_⟩
  intro C A L fr s ok I
  have fr1 : ∀ v s₁, PX C F L fr s XM v s₁ → FinallyRaised G.P C.w (arnd A hd) (PX C F L fr s X) (F.env L) (f₀ :: fs) (PF C F L fr s k) v s₁ := fun v s₁ p => fin_raised ok (p.mono' hX)
  have fk : ∀ (f : Flow) (s₁ : Shared) (g : Fl) (σ₁ : St), InvF C F L fr σ₁ s₁.heap → SL s s₁ → FlR s₁.heap f g → kM g σ₁ → wpAny (model G.P C.w) (arnd A hd) (execs (f₀ :: fs) (F.env L)) (fun g s' => match g with | .next => PF C F L fr s k f s' | g => PF C F L fr s k g s') (notedBy (model G.P C.w) (arnd A hd) (F.env L) (cameBackBy (model G.P C.w) (arnd A hd) (F.env L) (PX C F L fr s X))) s₁ := by
    intro f s₁ g σ₁ I₁ S₁ FR h₁
    refine wpAny_mono ((hk _ _ h₁).run C A L fr s₁ ok I₁) (fun f' s₂ p₂ => ?_) fun v s₂ p₂ => px_noted ok (p₂.trans S₁)
    obtain ⟨g', σ₂, I₂, S₂, FR₂, h₂⟩ := p₂
    cases f' <;> cases g' <;> first | exact FR₂.elim | skip
    · exact ⟨_, _, I₂, S₁.trans S₂, FR.mono S₂.1, h₂⟩
    · exact ⟨_, _, I₂, S₁.trans S₂, FR₂, h₂⟩
  refine wpAny_Try_except_finally (wpAny_mono (h.run C A L fr s ok I) (fun f s₁ p₁ => ?_) (fun v s₁ p₁ => ?_))
  · obtain ⟨g, σ₁, I₁, S₁, FR, h₁⟩ := p₁
    cases f <;> cases g <;> first | exact FR.elim | skip
    · exact wpAny_execs_nil (fk .next s₁ .next σ₁ I₁ S₁ trivial h₁)
    · exact fk (.ret _) s₁ (.ret _) σ₁ I₁ S₁ FR h₁
  · refine wpAny_mono (handler_as (hd := hd) (X := XM) eg hc hg ok p₁) (fun _ s₂ q => wpAny_mono q (fun _ s₃ q => wpAny_mono q (fun f s₄ p => ?_) fr1) fr1) fr1
    obtain ⟨g, σ₁, I₁, S₁, FR, h₁⟩ := p
    exact fk f s₄ g σ₁ I₁ S₁ FR h₁
end
end Mine
end
section
open PySem PySem.W PySem.Calls PyProof.Rows
set_option maxRecDepth 100000
set_option autoImplicit false
set_option maxHeartbeats 4000000
namespace Mine
theorem Inv0.turnE {C : Cx} {fr : Frs} {H H' : AH} {h h' : Heap} {a : Addr} {P Q : Obj → Prop} (I : Inv0 C fr H h) (e : SetH a (.raw P) (.raw Q) H H') (hs : Heap.ExtBut a h h') (ho : ∃ o, h'.get? a = some o ∧ rawOk o ∧ Q o) : Inv0 C fr H' h' ∧ TL h h' := by
  obtain ⟨R, s, s'⟩ := e.sel
  obtain ⟨J, T⟩ := Inv0.change (E := [(a, .raw P)]) (E' := [(a, .raw Q)]) (I.perm s.perm) (fun p hp => by simp at hp; subst hp; exact ⟨P, rfl⟩) (fun b o hb e => hs b o (fun q => hb (by simp [Mine.feet, AObj.foot, q])) e) (fun x hx => hx) (by simp [Mine.feet, AObj.foot]) (fun p hp => by simp at hp; subst hp; exact ho)
  exact ⟨J.perm s'.perm.symm, T⟩
theorem Inv0.raw {C : Cx} {fr : Frs} {H : AH} {h : Heap} {a : Addr} {P : Obj → Prop} (I : Inv0 C fr H h) (e : InH a (.raw P) H) : ∃ o, h.get? a = some o ∧ rawOk o ∧ P o := I.obj _ e.mem
theorem Inv0.newRaw {C : Cx} {fr : Frs} {H : AH} {h : Heap} {o : Obj} {P : Obj → Prop} (I : Inv0 C fr H h) (hf : o.isFreed = false) (hr : rawOk o) (hP : P o) : Inv0 C fr ((h.objs.size, .raw P) :: H) (h.push o) ∧ ∀ b ob, h.get? b = some ob → (h.push o).get? b = some ob := by
  have kp : ∀ b ob, h.get? b = some ob → (h.push o).get? b = some ob := fun b ob e => Heap.get?_push_of_some _ e
  exact ⟨I.take kp (a := h.objs.size) (o := .raw P) (fun x hx => by simp [AObj.foot] at hx; rw [hx]; exact Heap.get?_none_of_le (Nat.le_refl _)) (by simp [AObj.foot]) ⟨o, Heap.get?_push_size _ hf, hr, hP⟩, kp⟩
section
variable {G : Gl} {F : Fn} {d : Nat} {hd : Option Addr} {X : Addr → St → Prop} {σ : St}
noncomputable def RG (a b c : Int) (o : Obj) : Prop := ∃ t u v, o = { cls := .type "range", dict := none, data := .fields #[.int a t, .int b u, .int c v], slots := #[] }
noncomputable def PR (a c : Int) (n : Nat) (i : Nat) (o : Obj) : Prop := o = { cls := .type "range_iterator", dict := none, data := .fields #[rawInt (a + (i : Nat) * c), rawInt ((n : Int) - (i : Nat)), rawInt c], slots := #[] }
theorem o_range1 {b : Int} {k : AV → St → Prop} (h : ∀ r, k (.ref r) ⟨σ.loc, (r, .raw (RG 0 b 1)) :: σ.H⟩) : HO G F d hd (fun vs => call (.type "range") vs) [.int b] σ k X := ho_one fun C A L fr s v ok I V => by
  obtain ⟨t, rfl⟩ := V.int_inv
  obtain ⟨m, I0, lr⟩ := I
  refine call_range_1 ?_
  obtain ⟨J, kp⟩ := I0.newRaw (o := { cls := .type "range", data := .fields #[.int 0 s.toks, .int b t, .int 1 (s.toks + 1)] }) (P := RG 0 b 1) rfl ⟨fun q => absurd (Value.type.inj q) (by decide), fun q => absurd (Value.type.inj q) (by decide)⟩ ⟨_, _, _, rfl⟩
  exact ⟨_, ⟨σ.loc, _⟩, ⟨m, J, lr.1.mono (.of kp), lr.2⟩, ⟨.of kp, rfl, rfl⟩, .ref _, h _⟩
theorem o_range3 {a b c : Int} {k : AV → St → Prop} (hc : c ≠ 0) (hp : Builtin.divisionGoesByPylong (b - a) c = false) (h : ∀ r, k (.ref r) ⟨σ.loc, (r, .raw (RG a b c)) :: σ.H⟩) : HO G F d hd (fun vs => call (.type "range") vs) [.int a, .int b, .int c] σ k X := ho_three fun C A L fr s v w u ok I V W U => by
  obtain ⟨t, rfl⟩ := V.int_inv
  obtain ⟨t', rfl⟩ := W.int_inv
  obtain ⟨t'', rfl⟩ := U.int_inv
  obtain ⟨m, I0, lr⟩ := I
  refine call_range_3 hc ?_ (.inl hp)
  obtain ⟨J, kp⟩ := I0.newRaw (o := { cls := .type "range", data := .fields #[.int a t, .int b t', .int c t''] }) (P := RG a b c) rfl ⟨fun q => absurd (Value.type.inj q) (by decide), fun q => absurd (Value.type.inj q) (by decide)⟩ ⟨_, _, _, rfl⟩
  exact ⟨_, ⟨σ.loc, _⟩, ⟨m, J, lr.1.mono (.of kp), lr.2⟩, ⟨.of kp, rfl, rfl⟩, .ref _, h _⟩
noncomputable def rangeAV (a c : Int) (n : Nat) : List AV := (List.range n).map fun i => .int (a + (i : Nat) * c)
theorem iter_range {it : Addr} {a c : Int} {n : Nat} : Iter G it (PR a c n) (rangeAV a c n) (fun _ => True) (fun _ => True) where
  keep := fun _ _ _ _ => trivial
  next := by
    intro C A envs d fr H H' s i x Q E ok I _ hsrc hx hset h
    obtain ⟨o, e, ro, rfl⟩ := I.raw hset.inH
    have hi : i < n ∧ x = .int (a + (i : Nat) * c) := by
      unfold rangeAV at hx
      rw [List.getElem?_map] at hx
      obtain ⟨j, hj, rfl⟩ := Option.map_eq_some_iff.mp hx
      have := List.getElem?_eq_some_iff.mp hj
      obtain ⟨h1, h2⟩ := this
      rw [List.getElem_range] at h2
      subst h2
      exact ⟨by simpa using h1, rfl⟩
    obtain ⟨hi, rfl⟩ := hi
    refine wpAny_pyNext_range_item (it := it) (x := a + (i : Nat) * c) (left := (n : Int) - (i : Nat)) (step := c) e (by omega) fun h' hit hs => ?_
    obtain ⟨J, T⟩ := I.turnE hset hs.extBut ⟨_, hit, ⟨fun q => absurd (Value.type.inj q) (by decide), fun q => absurd (Value.type.inj q) (by decide)⟩, by
      have e1 : a + ((i : Nat) : Int) * c + c = a + ((i + 1 : Nat) : Int) * c := by rw [Int.natCast_add, Int.add_mul]; omega
      have e2 : (n : Int) - ((i : Nat) : Int) - 1 = (n : Int) - ((i + 1 : Nat) : Int) := by omega
      unfold PR
      rw [e1, e2]⟩
    exact h _ _ J ⟨T, rfl, rfl⟩ (.int _ _)
  stop := by
    intro C A envs d fr H R s i Q E ok I _ hsrc hx hsel h
    obtain ⟨o, e, ro, rfl⟩ := I.raw hsel.inH
    have hi : n ≤ i := by
      have := List.getElem?_eq_none_iff.mp hx
      simpa [rangeAV] using this
    refine wpAny_pyNext_range_end (it := it) (x := a + (i : Nat) * c) (left := (n : Int) - (i : Nat)) (step := c) rfl e (by omega) fun h' hs => ?_
    obtain ⟨J, T⟩ := (I.perm hsel.perm).lose hs
    exact h _ J ⟨T, rfl, rfl⟩
theorem s_for_range {x : Str} {np : Pos} {iter : Expr} {body : List Stmt} {pos : Pos} {k : Fl → St → Prop}
    (h : HE G F d none iter σ (fun v σ₁ => ∃ r a b c n, v = .ref r ∧ InH r (.raw (RG a b c)) σ₁.H ∧ Builtin.Range.small a b c = true ∧ Builtin.Range.rangeSize a b c = (n : Nat) ∧ ∀ it, HFor G F d x body k X it (PR a c n) (fun _ => True) (rangeAV a c n) 0 ⟨σ₁.loc, (it, .raw (PR a c n 0)) :: σ₁.H⟩) X)
    (hs : ∀ env x, foldedSetIterable iter env x = pure x := by intros; with_unfolding_all rfl) : HS G F d none (.For (.Name x np) iter body [] pos) σ k X := by
  refine ⟨?_⟩
  intro C A L fr s ok I
  refine wpAny_For (wpAny_mono (h.run C A L fr s ok I) (fun v s₁ p₁ => ?_) fun _ _ e => e) (hs _)
  obtain ⟨_, σ₁, ⟨m, I0, lr⟩, S₁, V₁, r, a, b, c, n, rfl, hi, hsm, hn, h₁⟩ := p₁
  obtain rfl := V₁.ref_inv
  obtain ⟨o, e, ro, t, u, v, rfl⟩ := I0.raw hi
  refine wpAny_pyIter_range (r := r) (a := a) (b := b) (c := c) e hsm ?_
  rw [hn]
  obtain ⟨J, kp⟩ := I0.newRaw (o := { cls := .type "range_iterator", data := .fields #[rawInt a, rawInt (n : Nat), rawInt c] }) (P := PR a c n 0) rfl ⟨fun q => absurd (Value.type.inj q) (by decide), fun q => absurd (Value.type.inj q) (by decide)⟩ (by unfold PR; simp)
  exact for_on (σ := ⟨σ₁.loc, _⟩) iter_range ok ⟨m, J, lr.1.mono (.of kp), lr.2⟩ (S₁.trans ⟨.of kp, rfl, rfl⟩) trivial (h₁ _)
theorem hs_freeze {sts : List Stmt} {loc : List (Option AV)} {g : Addr} {es : List (Str × AV)} {H R : AH} {k : Fl → St → Prop} (p : Sel g (.dict es) H R) (h : ∀ ep, HSs G F d hd sts ⟨loc, (g, .fdict es ep) :: R⟩ k X) : HSs G F d hd sts ⟨loc, H⟩ k X := by
  refine ⟨?_⟩
  intro C A L fr s ok I
  obtain ⟨m, I0, lr⟩ := I
  have J := I0.perm p.perm
  obtain ⟨kvs, D, r⟩ := J.obj (g, .dict es) (.head _)
  obtain ⟨ep, D'⟩ := D.dictAt
  refine (h ep).run C A L fr s ok ⟨m, ⟨J.base, J.kp, J.frames, fun q hq => ?_, J.newH, J.newF, J.nodup, J.feet, J.frok⟩, lr⟩
  rcases List.mem_cons.mp hq with rfl | hq
  · exact ⟨kvs, D', r⟩
  · exact J.obj q (.tail _ hq)
theorem Inv0.fdict {C : Cx} {fr : Frs} {H : AH} {h : Heap} {l : Addr} {es : List (Str × AV)} {ep : Nat} (I : Inv0 C fr H h) (e : InH l (.fdict es ep) H) : ∃ kvs, h.DictAt (strKind C.P C.w) l kvs ep ∧ VKs h kvs es := I.obj _ e.mem
theorem sub_fdict {value slice : Expr} {l : Addr} {es : List (Str × AV)} {ep : Nat} {y : Str} {x : AV} {k : AV → St → Prop} (hl : InH l (.fdict es ep) σ.H) (hx : GetE y x es) (h : k x σ) (hs : ∀ o i, subscripted slice false o i = operate [o, i] (getItem o i) := by intros; with_unfolding_all rfl) : HO G F d hd (op2 (subscriptTail value slice)) [.ref l, .str y] σ k X := ho2 fun C A L fr s v w ok I V W => by
  obtain rfl := V.ref_inv; obtain ⟨u, rfl⟩ := W.str_inv
  obtain ⟨m, I0, lr⟩ := I
  obtain ⟨kvs, D, r⟩ := I0.fdict hl
  have D := D.dictOf
  rw [ok.P] at D
  obtain ⟨z, hz, Z⟩ := r.getE hx
  exact tail_any D.typeIs _root_.PySem.F.slot_dict_getitem.lookup (wpAny_getItem_of (strKind_is _ _ _ _) D.mapOf hz ⟨x, σ, ⟨m, I0, lr⟩, .toks s _, Z, h⟩) (hs _ _)
noncomputable def PK (l : Addr) (n ep : Nat) (i : Nat) (o : Obj) : Prop := o.cls = .type "dict_keyiterator" ∧ o.data = .fields #[.ref l, .int i 0, .int n 0, .int ep 0]
theorem iter_keys {it l : Addr} {es : List (Str × AV)} {ep : Nat} : Iter G it (PK l es.length ep) (es.map fun p => .str p.1) (fun H => InH l (.fdict es ep) H) (fun _ => True) where
  keep := fun _ _ _ _ => trivial
  next := by
    intro C A envs d fr H H' s i x Q E ok I _ hsrc hx hset h
    obtain ⟨kvs, D, r⟩ := I.fdict hsrc
    obtain ⟨o, e, ro, hP⟩ := I.raw hset.inH
    rw [List.getElem?_map] at hx
    obtain ⟨p, hp, rfl⟩ := Option.map_eq_some_iff.mp hx
    obtain ⟨v, hv⟩ : ∃ v, kvs[i]? = some (p.1, v) := by
      have e1 : (kvs.map (·.1))[i]? = (es.map (·.1))[i]? := by rw [r.fst]
      rw [List.getElem?_map, List.getElem?_map, hp] at e1
      obtain ⟨q, hq, e2⟩ := Option.map_eq_some_iff.mp e1
      exact ⟨q.2, hq.trans (congrArg some (Prod.ext e2 rfl))⟩
    rw [← r.length] at hP
    rw [ok.P] at D
    refine wpAny_pyNext_dict_item (it := it) (d := l) (i := i) (ep := ep) ⟨o, e, hP⟩ D hv fun key h' hk hit hs => ?_
    obtain ⟨t, rfl⟩ : ∃ t, key = .str p.1 t := Value.isStrOf_shape hk
    obtain ⟨o', e', c', d'⟩ := hit
    obtain ⟨J, T⟩ := I.turnE hset hs.extBut ⟨o', e', ⟨by rw [c']; exact fun q => absurd (Value.type.inj q) (by decide), by rw [c']; exact fun q => absurd (Value.type.inj q) (by decide)⟩, by rw [← r.length]; exact ⟨c', d'⟩⟩
    exact h _ _ J ⟨T, rfl, rfl⟩ (.str _ _)
  stop := by
    intro C A envs d fr H R s i Q E ok I _ hsrc hx hsel h
    obtain ⟨kvs, D, r⟩ := I.fdict hsrc
    obtain ⟨o, e, ro, hP⟩ := I.raw hsel.inH
    have hx' : kvs[i]? = none := by
      have := List.getElem?_eq_none_iff.mp hx
      rw [List.length_map, ← r.length] at this
      exact List.getElem?_eq_none this
    rw [← r.length] at hP
    rw [ok.P] at D
    refine wpAny_pyNext_dict_end (it := it) (d := l) (i := i) (ep := ep) rfl ⟨o, e, hP⟩ D hx' fun h' hs => ?_
    obtain ⟨J, T⟩ := (I.perm hsel.perm).lose hs
    exact h _ J ⟨T, rfl, rfl⟩
theorem s_for_keys {x : Str} {np : Pos} {iter : Expr} {body : List Stmt} {pos : Pos} {k : Fl → St → Prop}
    (h : HE G F d none iter σ (fun v σ₁ => ∃ l es ep, v = .ref l ∧ InH l (.fdict es ep) σ₁.H ∧ ∀ it, HFor G F d x body k X it (PK l es.length ep) (fun H => InH l (.fdict es ep) H) (es.map fun p => .str p.1) 0 ⟨σ₁.loc, (it, .raw (PK l es.length ep 0)) :: σ₁.H⟩) X)
    (hs : ∀ env x, foldedSetIterable iter env x = pure x := by intros; with_unfolding_all rfl) : HS G F d none (.For (.Name x np) iter body [] pos) σ k X := by
  refine ⟨?_⟩
  intro C A L fr s ok I
  refine wpAny_For (wpAny_mono (h.run C A L fr s ok I) (fun v s₁ p₁ => ?_) fun _ _ e => e) (hs _)
  obtain ⟨_, σ₁, ⟨m, I0, lr⟩, S₁, V₁, l, es, ep, rfl, hi, h₁⟩ := p₁
  obtain rfl := V₁.ref_inv
  obtain ⟨kvs, D, r⟩ := I0.fdict hi
  have ns := notSys ok I0 hi
  rw [ok.P] at D
  refine wpAny_pyIter_dict (ep := ep) ns D ?_
  rw [r.length]
  obtain ⟨J, kp⟩ := I0.newRaw (o := { cls := .type "dict_keyiterator", data := .fields #[.ref l, .int 0 0, .int es.length 0, .int ep 0] }) (P := PK l es.length ep 0) rfl ⟨fun q => absurd (Value.type.inj q) (by decide), fun q => absurd (Value.type.inj q) (by decide)⟩ ⟨rfl, rfl⟩
  exact for_on (σ := ⟨σ₁.loc, _⟩) iter_keys ok ⟨m, J, lr.1.mono (.of kp), lr.2⟩ (S₁.trans ⟨.of kp, rfl, rfl⟩) trivial (h₁ _)
noncomputable def PEn (it : Addr) (i : Nat) (o : Obj) : Prop := ∃ old, o = { cls := .type "enumerate", dict := none, data := .fields #[.none, .bool false, .ref it, rawInt (i : Nat), .none, old], slots := #[] }
theorem o_enum {l : Addr} {xs : List AV} {k : AV → St → Prop} (hl : InH l (.list xs) σ.H) (h : ∀ it e, k (.ref e) ⟨σ.loc, (e, .raw (PEn it 0)) :: (it, .raw (PL l 0)) :: σ.H⟩) : HO G F d hd (fun vs => call (.type "enumerate") vs) [.ref l] σ k X := ho_one fun C A L fr s v ok I V => by
  obtain rfl := V.ref_inv
  obtain ⟨m, I0, lr⟩ := I
  obtain ⟨vs, n, ho, Vs, il⟩ := I0.list hl
  refine call_enumerate_list il fun h' he hit hz kp => ?_
  obtain ⟨o, ho', hc, hdt⟩ := hit
  have nn : ∀ x, s.heap.objs.size ≤ x → s.heap.get? x = none := fun x hx => Heap.get?_none_of_le hx
  have J : Inv0 C ((F.env L, m) :: fr) ((s.heap.objs.size, .raw (PL l 0)) :: σ.H) h' := I0.take kp (a := s.heap.objs.size) (o := .raw (PL l 0)) (fun x hx => by simp [AObj.foot] at hx; rw [hx]; exact nn _ (Nat.le_refl _)) (by simp [AObj.foot]) ⟨o, ho', ⟨by rw [hc]; exact fun q => absurd (Value.type.inj q) (by decide), by rw [hc]; exact fun q => absurd (Value.type.inj q) (by decide)⟩, hc, hdt⟩
  have J2 : Inv0 C ((F.env L, m) :: fr) ((s.heap.objs.size + 1, .raw (PEn s.heap.objs.size 0)) :: (s.heap.objs.size, .raw (PL l 0)) :: σ.H) h' := by
    have z := I0.size_new (nn (s.heap.objs.size + 1) (Nat.le_succ _))
    refine ⟨J.base, J.kp, J.frames, fun p hp => ?_, fun x hx => ?_, J.newF, J.nodup, ?_, J.frok⟩
    · rcases List.mem_cons.mp hp with rfl | hp
      · exact ⟨_, he, ⟨fun q => absurd (Value.type.inj q) (by decide), fun q => absurd (Value.type.inj q) (by decide)⟩, .none, rfl⟩
      · exact J.obj p hp
    · rcases List.mem_cons.mp hx with rfl | hx
      · exact ⟨z.1, z.2.1⟩
      · exact J.newH x hx
    · refine List.nodup_cons.mpr ⟨fun hm => ?_, J.feet⟩
      rcases List.mem_cons.mp hm with q | hm
      · exact absurd q (Nat.succ_ne_self _)
      · exact z.2.2 hm
  exact ⟨_, ⟨σ.loc, _⟩, ⟨m, J2, lr.1.mono (.of kp), lr.2⟩, ⟨.of kp, rfl, rfl⟩, .ref _, h _ _⟩
noncomputable def HForE (G : Gl) (F : Fn) (d : Nat) (x y : Str) (body : List Stmt) (k : Fl → St → Prop) (X : Addr → St → Prop) (e it l : Addr) (all : List AV) : List AV → Nat → St → Prop
  | [], i, σ => InH l (.list all) σ.H ∧ ∃ R R2, Sel e (.raw (PEn it i)) σ.H R ∧ Sel it (.raw (PL l i)) R R2 ∧ k .next ⟨σ.loc, R2⟩
  | v :: vs, i, σ => InH l (.list all) σ.H ∧ ∃ R R2 loc1 loc2, Sel e (.raw (PEn it i)) σ.H R ∧ Sel it (.raw (PL l i)) R R2 ∧ PutAt x (some (.int i)) F.names σ.loc loc1 ∧ PutAt y (some v) F.names loc1 loc2 ∧
      HSs G F d none body ⟨loc2, (e, .raw (PEn it (i + 1))) :: (it, .raw (PL l (i + 1))) :: R2⟩ (Fl.on (fun σ₂ => HForE G F d x y body k X e it l all vs (i + 1) σ₂) (fun v σ₂ => k (.ret v) σ₂)) X
theorem s_for_enum {x y : Str} {xp yp tp : Pos} {n : Nat} {iter : Expr} {body : List Stmt} {pos : Pos} {k : Fl → St → Prop}
    (h : HE G F d none iter σ (fun v σ₁ => ∃ e it l xs, v = .ref e ∧ HForE G F d x y body k X e it l xs xs 0 σ₁) X)
    (hs : ∀ env x, foldedSetIterable iter env x = pure x := by intros; with_unfolding_all rfl) : HS G F d none (.For (.Tuple [.Name x xp, .Name y yp] n tp) iter body [] pos) σ k X := by
  refine ⟨?_⟩
  intro C A L fr s ok I
  refine wpAny_For (wpAny_mono (h.run C A L fr s ok I) (fun v s₁ p₁ => ?_) fun _ _ e => e) (hs _)
  obtain ⟨_, σ₁, I₁, S₁, V₁, e, it, l, xs, rfl, h₁⟩ := p₁
  obtain rfl := V₁.ref_inv
  have he : ∃ old, IsEnum s₁.heap e it (0 : Nat) old := by
    have hsel : ∃ R, Sel e (.raw (PEn it 0)) σ₁.H R := by
      cases xs with
      | nil => obtain ⟨_, R, _, q, _⟩ := h₁; exact ⟨R, q⟩
      | cons _ _ => obtain ⟨_, R, _, _, _, q, _⟩ := h₁; exact ⟨R, q⟩
    obtain ⟨R, q⟩ := hsel
    obtain ⟨m, I0, lr⟩ := I₁
    obtain ⟨o, ho, _, old, rfl⟩ := I0.raw q.inH
    exact ⟨old, ho⟩
  obtain ⟨old, he⟩ := he
  refine wpAny_pyIter_enum he ?_
  refine codeAny_forLoop_any (fun n s' => ∃ σ' i, InvF C F L fr σ' s'.heap ∧ SL s s' ∧ n = xs.length - i ∧ i ≤ xs.length ∧ HForE G F d x y body k X e it l xs (xs.drop i) i σ') (fun n s₂ q => ?_) xs.length ⟨σ₁, 0, I₁, S₁, rfl, Nat.zero_le _, h₁⟩
  obtain ⟨σ₂, i, I₂, S₂, rfl, hi, h₂⟩ := q
  obtain ⟨m, I0, lr⟩ := I₂
  by_cases hlt : i < xs.length
  · rw [List.drop_eq_getElem_cons hlt] at h₂
    obtain ⟨hsrc, R, R2, loc1, loc2, hs1, hs2, hp1, hp2, h₃⟩ := h₂
    have J := I0.perm hs1.perm
    have J := J.perm (hs2.perm.cons (e, .raw (PEn it i)))
    obtain ⟨vs, nn, ho, Vs, il⟩ := I0.list hsrc
    obtain ⟨oe, hoe, roe, old, rfl⟩ := J.raw .head
    obtain ⟨oi, hoi, roi, hPi⟩ := J.raw (.tail .head)
    obtain ⟨v, hv, V⟩ := Vs.get (List.getElem?_eq_getElem hlt)
    have hne : e ≠ it := fun q => by
      subst q
      have := J.feet
      simp [Mine.feet, AObj.foot] at this
    refine wpAny_pyNext_enum_item (e := e) (it := it) (l := l) (i := i) (items := vs.toArray) (old := old) hoe ⟨oi, hoi, hPi⟩ il (by simpa using hv) hne fun h₁' heo hit₁ ht₁ hz₁ hk₁ => ?_
    refine wpAny_letOwnedTupleGo_enum heo fun h₂' he₂ hs₂ => ?_
    have heL : e < s₂.heap.objs.size := Heap.lt_size hoe
    have hiL : it < s₂.heap.objs.size := Heap.lt_size hoi
    have hs₂' : Heap.SameBut e h₁' h₂' := hs₂
    have ht₂ : h₂'.IsTuple s₂.heap.objs.size #[.int i s₂.toks, v] := ⟨_, (hs₂'.2 _ (Nat.ne_of_gt heL)).trans ht₁, rfl, _, rfl⟩
    have hz₂ : h₂'.objs.size = s₂.heap.objs.size + 1 := hs₂'.1.trans hz₁
    refine wpAny_assign_Tuple rfl ht₂ rfl rfl fun h₃' hx₃ => ?_
    have hx₃' : Heap.ExtBut h₂'.objs.size h₂' h₃' := hx₃
    have old₃ : ∀ b o, b < s₂.heap.objs.size → h₂'.get? b = some o → h₃'.get? b = some o := fun b o hb x => hx₃' b o (by rw [hz₂]; exact Nat.ne_of_lt (Nat.lt_succ_of_lt hb)) x
    have kp : ∀ b o, b ≠ e → b ≠ it → s₂.heap.get? b = some o → h₃'.get? b = some o := fun b o h1 h2 x => old₃ b o (Heap.lt_size x) (hs₂'.extBut b o h1 (hk₁ b o h1 h2 x))
    obtain ⟨oi', hoi', hci', hdi'⟩ := hit₁
    obtain ⟨J', T⟩ := Inv0.change (E := [(e, .raw (PEn it i)), (it, .raw (PL l i))]) (E' := [(e, .raw (PEn it (i + 1))), (it, .raw (PL l (i + 1)))]) (R := R2) (h' := h₃') J
      (fun p hp => by simp at hp; rcases hp with rfl | rfl <;> exact ⟨_, rfl⟩) (fun b o hb x => by
        simp [Mine.feet, AObj.foot] at hb
        exact kp b o hb.1 hb.2 x) (fun x hx => hx) (by simp [Mine.feet, AObj.foot]; exact hne) (fun p hp => by
        simp at hp
        rcases hp with rfl | rfl
        · exact ⟨_, old₃ e _ heL he₂, ⟨fun q => absurd (Value.type.inj q) (by decide), fun q => absurd (Value.type.inj q) (by decide)⟩, v, by
            have : ((i + 1 : Nat) : Int) = (i : Int) + 1 := by push_cast; rfl
            rw [this]⟩
        · exact ⟨oi', old₃ it _ hiL (hs₂'.extBut it _ (Ne.symm hne) hoi'), ⟨by rw [hci']; exact fun q => absurd (Value.type.inj q) (by decide), by rw [hci']; exact fun q => absurd (Value.type.inj q) (by decide)⟩, hci', hdi'⟩)
    show wpAny _ _ (do holding [v] (assign (.Name x xp) (F.env L) (.int i s₂.toks)); do holding [] (assign (.Name y yp) (F.env L) v); pure ()) _ _ _
    have S3 : SL s₂ { s₂ with heap := h₃', toks := s₂.toks + 1 } := ⟨T, rfl, rfl⟩
    refine wpAny_bind (wpAny_holding (wpAny_assign_Name (wpAny_mono ((store_name (hd := none) (X := fun _ _ => False) (σ := ⟨σ₂.loc, (e, .raw (PEn it (i + 1))) :: (it, .raw (PL l (i + 1))) :: R2⟩) (k := fun σ' => σ' = ⟨loc1, (e, .raw (PEn it (i + 1))) :: (it, .raw (PL l (i + 1))) :: R2⟩) hp1 rfl).run C A L fr _ _ ok ⟨m, J', lr.1.mono T, lr.2⟩ (.int i s₂.toks)) (fun _ s₄ p₄ => ?_) fun _ _ p => ?_)))
    · obtain ⟨_, I₄, S₄, rfl⟩ := p₄
      refine wpAny_bind (wpAny_holding (wpAny_assign_Name (wpAny_mono ((store_name (hd := none) (X := fun _ _ => False) (σ := ⟨loc1, (e, .raw (PEn it (i + 1))) :: (it, .raw (PL l (i + 1))) :: R2⟩) (k := fun σ' => σ' = ⟨loc2, (e, .raw (PEn it (i + 1))) :: (it, .raw (PL l (i + 1))) :: R2⟩) hp2 rfl).run C A L fr _ _ ok I₄ ((V.mono T).mono S₄.1)) (fun _ s₅ p₅ => wpAny_pure ?_) fun _ _ p => ?_)))
      · obtain ⟨_, I₅, S₅, rfl⟩ := p₅
        have S25 := ((S₂.trans S3).trans S₄).trans S₅
        refine wpAny_mono (h₃.run C A L fr s₅ ok I₅) (fun f s₆ p₆ => ?_) fun v s' p => px_noted ok (p.trans S25)
        obtain ⟨g, σ₆, I₆, S₆, FR, h₆⟩ := p₆
        cases f <;> cases g <;> first | exact FR.elim | skip
        · exact ⟨xs.length - (i + 1), by omega, σ₆, i + 1, I₆, S25.trans S₆, rfl, hlt, h₆⟩
        · exact ⟨_, _, I₆, S25.trans S₆, FR, h₆⟩
      · obtain ⟨_, _, _, _, _, _, q⟩ := p; exact q.elim
    · obtain ⟨_, _, _, _, _, _, q⟩ := p; exact q.elim
  · rw [List.drop_eq_nil_of_le (by omega)] at h₂
    obtain ⟨hsrc, R, R2, hs1, hs2, h₃⟩ := h₂
    have J := I0.perm hs1.perm
    have J := J.perm (hs2.perm.cons (e, .raw (PEn it i)))
    obtain ⟨vs, nn, ho, Vs, il⟩ := I0.list hsrc
    obtain ⟨oe, hoe, roe, old, rfl⟩ := J.raw .head
    obtain ⟨oi, hoi, roi, hPi⟩ := J.raw (.tail .head)
    refine wpAny_pyNext_enum_end (e := e) (it := it) (l := l) (i := i) (items := vs.toArray) (old := old) rfl hoe ⟨oi, hoi, hPi⟩ il (by
      rw [List.getElem?_toArray]; exact List.getElem?_eq_none (by rw [Vs.length]; omega)) fun h' hx => ?_
    obtain ⟨J', T⟩ := Inv0.change (E := [(e, .raw (PEn it i)), (it, .raw (PL l i))]) (E' := []) (R := R2) (h' := h') J
      (fun p hp => by simp at hp; rcases hp with rfl | rfl <;> exact ⟨_, rfl⟩) (fun b o hb x => by
        simp [Mine.feet, AObj.foot] at hb
        exact hx b o hb.2 x) (fun x hx => by simp [Mine.feet] at hx) (by simp [Mine.feet]) (fun p hp => by simp at hp)
    exact wpAny_execs_nil ⟨.next, ⟨σ₂.loc, R2⟩, ⟨m, J', lr.1.mono T, lr.2⟩, S₂.trans ⟨T, rfl, rfl⟩, trivial, h₃⟩
end
end Mine
end
section
open PySem PySem.W PySem.Calls PyProof.Rows
set_option maxRecDepth 100000
set_option autoImplicit false
set_option maxHeartbeats 4000000
namespace Mine
theorem Inv0.store2 {C : Cx} {e1 env : Env} {m1 m m' : Str → Option Value} {fr : Frs} {H : AH} {h h' : Heap} (I : Inv0 C ((e1, m1) :: (env, m) :: fr) H h) (hn : h'.Ns env.locals m') (hs : Heap.SameBut env.locals h h') : Inv0 C ((e1, m1) :: (env, m') :: fr) H h' ∧ TL h h' := by
  have F := I.frames _ (.tail _ (.head _))
  obtain ⟨oL, es, ep, hL, hd, _⟩ := F.2.2
  have ht : ∀ vs n, h.get? env.locals ≠ some (tupObj vs n) := fun vs n e => by rw [hL] at e; cases e; cases hd
  have hT : ∀ oT ts, h.get? env.locals = some oT → oT.cls = .type "traceback" → oT.data = .fields ts → False := fun oT ts e _ d => by rw [hL] at e; cases e; rw [hd] at d; cases d
  have nl := I.newF _ (.tail _ (.head _))
  have nd : ((e1, m1) :: (env, m) :: fr : Frs).map (·.1.locals) |>.Nodup := I.nodup
  have nd1 := List.nodup_cons.mp nd
  have nd2 := List.nodup_cons.mp nd1.2
  refine ⟨⟨fun b ob eb => ?_, fun p hp => ?_, fun p hp => ?_, fun p hp => ?_, fun x hx => ⟨(I.newH x hx).1, fun p hp => ?_⟩, fun p hp => ?_, ?_, I.feet, I.frok⟩, .turn hs ht⟩
  · refine (hs.2 b fun q => ?_).trans (I.base b ob eb)
    subst q; rw [nl.1] at eb; cases eb
  · exact (hs.2 _ (nl.2 p hp)).trans (I.kp p hp)
  · rcases List.mem_cons.mp hp with rfl | hp
    · have F1 := I.frames _ (.head _)
      exact ⟨F1.1, F1.2.1, F1.2.2.sameBut hs fun q => nd1.1 (by rw [List.map_cons]; exact q ▸ .head _)⟩
    · rcases List.mem_cons.mp hp with rfl | hp
      · exact ⟨F.1, F.2.1, hn⟩
      · have F1 := I.frames p (.tail _ (.tail _ hp))
        exact ⟨F1.1, F1.2.1, F1.2.2.sameBut hs fun q => nd2.1 (List.mem_map.mpr ⟨p, hp, q⟩)⟩
  · exact (I.obj p hp).turn hs ht hT fun m => (I.newH _ (mem_feet hp m)).2 _ (.tail _ (.head _)) rfl
  · rcases List.mem_cons.mp hp with rfl | hp
    · exact (I.newH x hx).2 (e1, m1) (.head _)
    · rcases List.mem_cons.mp hp with rfl | hp
      · exact (I.newH x hx).2 (env, m) (.tail _ (.head _))
      · exact (I.newH x hx).2 p (.tail _ (.tail _ hp))
  · rcases List.mem_cons.mp hp with rfl | hp
    · exact I.newF (e1, m1) (.head _)
    · rcases List.mem_cons.mp hp with rfl | hp
      · exact nl
      · exact I.newF p (.tail _ (.tail _ hp))
  · exact nd
theorem Inv0.leaveBut {C : Cx} {e1 : Env} {m1 : Str → Option Value} {fr : Frs} {H : AH} {h h' : Heap} (I : Inv0 C ((e1, m1) :: fr) H h) (hs : Heap.SameBut e1.locals h h') : Inv0 C fr H h' ∧ TL h h' := by
  obtain ⟨oL, es, ep, hL, hd, _⟩ := (I.frames _ (.head _)).2.2
  have ht : ∀ vs n, h.get? e1.locals ≠ some (tupObj vs n) := fun vs n e => by
    have hL : h.get? e1.locals = some oL := hL
    rw [hL] at e; cases e; cases hd
  have hT : ∀ oT ts, h.get? e1.locals = some oT → oT.cls = .type "traceback" → oT.data = .fields ts → False := fun oT ts e _ d => by
    have hL : h.get? e1.locals = some oL := hL
    rw [hL] at e; cases e; rw [hd] at d; cases d
  have nl := I.newF _ (.head _)
  have nd := List.nodup_cons.mp I.nodup
  refine ⟨⟨fun b ob eb => ?_, fun p hp => ?_, fun p hp => ?_, fun p hp => ?_, fun x hx => ⟨(I.newH x hx).1, fun p hp => (I.newH x hx).2 p (.tail _ hp)⟩, fun p hp => I.newF p (.tail _ hp), nd.2, I.feet, I.frok.2⟩, .turn hs ht⟩
  · refine (hs.2 b fun q => ?_).trans (I.base b ob eb)
    subst q; rw [nl.1] at eb; cases eb
  · exact (hs.2 _ (nl.2 p hp)).trans (I.kp p hp)
  · have F1 := I.frames p (.tail _ hp)
    exact ⟨F1.1, F1.2.1, F1.2.2.sameBut hs fun q => nd.1 (List.mem_map.mpr ⟨p, hp, q⟩)⟩
  · exact (I.obj p hp).turn hs ht hT fun m => (I.newH _ (mem_feet hp m)).2 _ (.head _) rfl
noncomputable abbrev Fn.comp (F : Fn) (scope : Scope) (cl : List (Str × Addr)) (x : Str) (globs : List Str) (L : Addr) : Fn := ⟨F.name, relabel scope (F.env 0), none, F.cd, [x], globs, cl, some L⟩
structure PyIt (G : Gl) (v : AV) (H : AH) (P : Nat → Obj → Prop) : Prop where
  run : ∀ {C A envs d fr s w Q E}, Ok G C A envs d → Inv0 C fr H s.heap → VR s.heap w v → (∀ it s', Inv0 C fr ((it, .raw (P 0)) :: H) s'.heap → SL s s' → Q (.ref it) s') → wpAny (model G.P C.w) (arnd A none) (pyIter w) Q E s
  self : ∀ {C A fr H' s i it Q E}, InH it (.raw (P i)) H' → Inv0 C fr H' s.heap → Q (.ref it) s → wpAny (model G.P C.w) (arnd A none) (pyIter (.ref it)) Q E s
theorem pyit_list {G : Gl} {l : Addr} {xs : List AV} {H : AH} (hl : InH l (.list xs) H) : PyIt G (.ref l) H (PL l) where
  run := by
    intro C A envs d fr s w Q E ok I V h
    obtain rfl := V.ref_inv
    obtain ⟨vs, n, ho, Vs, il⟩ := I.list hl
    refine wpAny_pyIter_list il ?_
    obtain ⟨J, kp⟩ := I.newRaw (o := { cls := .type "list_iterator", data := .fields #[.ref l, .int 0 0] }) (P := PL l 0) rfl ⟨fun q => absurd (Value.type.inj q) (by decide), fun q => absurd (Value.type.inj q) (by decide)⟩ ⟨rfl, rfl⟩
    exact h _ _ J ⟨.of kp, rfl, rfl⟩
  self := by
    intro C A fr H' s i it Q E e I h
    obtain ⟨o, ho, _, hP⟩ := I.raw e
    exact wpAny_pyIter_listiter (l := l) (i := i) ⟨o, ho, hP⟩ h
theorem pyit_range {G : Gl} {r : Addr} {a b c : Int} {n : Nat} {H : AH} (hr : InH r (.raw (RG a b c)) H) (hsm : Builtin.Range.small a b c = true) (hn : Builtin.Range.rangeSize a b c = (n : Nat)) : PyIt G (.ref r) H (PR a c n) where
  run := by
    intro C A envs d fr s w Q E ok I V h
    obtain rfl := V.ref_inv
    obtain ⟨o, e, ro, t, u, v, rfl⟩ := I.raw hr
    refine wpAny_pyIter_range (r := r) (a := a) (b := b) (c := c) e hsm ?_
    rw [hn]
    obtain ⟨J, kp⟩ := I.newRaw (o := { cls := .type "range_iterator", data := .fields #[rawInt a, rawInt (n : Nat), rawInt c] }) (P := PR a c n 0) rfl ⟨fun q => absurd (Value.type.inj q) (by decide), fun q => absurd (Value.type.inj q) (by decide)⟩ (by unfold PR; simp)
    exact h _ _ J ⟨.of kp, rfl, rfl⟩
  self := by
    intro C A fr H' s i it Q E e I h
    obtain ⟨o, ho, _, hP⟩ := I.raw e
    subst hP
    exact wpAny_pyIter_rangeiter ho h
section
variable {G : Gl} {F : Fn} {d : Nat} {σ : St} {X : Addr → St → Prop}
noncomputable def HLC (G : Gl) (Fc : Fn) (d : Nat) (elt : Expr) (k : AH → Prop) (acc it : Addr) (P : Nat → Obj → Prop) (Src : AH → Prop) : List AV → Nat → List AV → AH → Prop
  | [], i, _, H => Src H ∧ ∃ R, Sel it (.raw (P i)) H R ∧ k R
  | v :: vs, i, ys, H => Src H ∧ ys.length ≤ 1000 ∧ ∃ H', SetH it (.raw (P i)) (.raw (P (i + 1))) H H' ∧
      HE G Fc d none elt ⟨[some v], H'⟩ (fun y σ => ∃ H'', SetH acc (.list ys) (.list (ys ++ [y])) σ.H H'' ∧ HLC G Fc d elt k acc it P Src vs (i + 1) (ys ++ [y]) H'') (fun _ _ => False)
theorem comp_scope {scope : Scope} {cl : List (Str × Addr)} {x : Str} {globs : List Str} (L C0 : Addr) (hfr : F.fr = none) : (F.comp scope cl x globs L).env C0 = compEnvC scope cl C0 (F.env L) := by
  obtain ⟨n, sc, fn, cd, ns, gl, cs, fr⟩ := F
  cases hfr
  rfl
theorem s_assign_lc {y x : Str} {py px spos pos : Pos} {iter elt : Expr} {scope : Scope} {cl : List (Str × Addr)} {globs : List Str} {k : Fl → St → Prop} (hfr : F.fr = none)
    (hsw : ∀ L, swapsWith (.ListComp elt [⟨.Name x px, iter, [], 0⟩] scope pos) (some (.Name y py)) spos.line (F.env L) = pure true) (hclos : ∀ L, closureFor scope (F.env L) = pure cl)
    (hcell : ∀ z ∈ scope.names, z.2 ≠ .cell) (hkind : scope.kind = .function) (hnames : ∀ z ∈ scope.names, z.2 = .local → scope.names.lookup z.1 = some .local) (hwf : (F.comp scope cl x globs 0).WF)
    (h : HE G F d none iter σ (fun v σ₁ => ∃ P items Src, ∃ loc' : Addr → List (Option AV), PyIt G v σ₁.H P ∧ (∀ it, Iter G it P items Src (fun _ => True)) ∧ ∀ it acc, PutAt y (some (.ref acc)) F.names σ₁.loc (loc' acc) ∧ ∀ L, HLC G (F.comp scope cl x globs L) d elt (fun R => k .next ⟨loc' acc, R⟩) acc it P Src items 0 [] ((acc, .list []) :: (it, .raw (P 0)) :: σ₁.H)) X)
    (hs : ∀ L x, foldedSetIterable iter (F.env L) x = pure x) : HS G F d none (.Assign [.Name y py] (.ListComp elt [⟨.Name x px, iter, [], 0⟩] scope pos) spos) σ k X := by
  refine ⟨?_⟩
  intro C A L fr s ok I
  rw [exec_Assign_Name_used _ _ _ _ (hsw L)]
  refine wpAny_bind (wpAny_standAt (wpAny_bind ?_))
  show wpAny _ _ (do let _ ← comprehension (.ListComp elt [⟨.Name x px, iter, [], 0⟩] scope pos) scope (F.env L) _ (newList []) false (eval iter (F.env L)) (some (assign (.Name y py) (F.env L)))) _ _ s
  refine wpAny_bind (wpAny_mono (wpAny_comprehension_free (use := some (assign (.Name y py) (F.env L))) (Q := fun _ s' => PF C F L fr s k .next s') rfl (hs L) (hclos L) hkind hnames
    (wpAny_mono (h.run C A L fr s ok I) (fun xv s₁ p₁ => ?_) fun _ _ e => e)) (fun _ s' hq => wpAny_pure (wpAny_pure hq)) fun _ _ e => e)
  obtain ⟨v, σ₁, ⟨m, I0, lr, wf⟩, S₁, V₁, P, items, Src, loc', hit, W, hk⟩ := p₁
  refine hit.run ok I0 V₁ fun it s₂ I₂ S₂ => ?_
  have hk := fun it => hk it s₂.heap.objs.size
  generalize loc' s₂.heap.objs.size = loc' at hk
  obtain ⟨J₂, kp₂⟩ := I₂.newList (vs := []) .nil
  refine wpAny_newObj_type (wpAny_newFunctionEnv hcell (by intro y hy; simp at hy) (fun h₁ hns₁ hsb₁ => ?_) hkind)
  dsimp only at hns₁ hsb₁ ⊢
  have kp₃ : ∀ b o, (s₂.heap.push (lstObj [] 0)).get? b = some o → h₁.get? b = some o := fun b o e => hsb₁.extBut b o (Nat.ne_of_lt (Heap.lt_size e)) (Heap.get?_push_of_some _ e)
  generalize hC0 : (s₂.heap.push (lstObj [] 0)).objs.size = C0 at hns₁ hsb₁
  have J₃ : Inv0 C (((F.comp scope cl x globs L).env C0, fun y => ([] : List (Str × Value)).reverse.lookup y) :: (F.env L, m) :: fr) ((s₂.heap.objs.size, .list []) :: (it, .raw (P 0)) :: σ₁.H) h₁ :=
    J₂.enter kp₃ (by show (s₂.heap.push (lstObj [] 0)).get? C0 = none; rw [← hC0]; exact Heap.get?_none_of_le (Nat.le_refl _)) hkind
      (by
        have q := J₂.newF _ (.head _)
        have e1 : (F.env L).frame = some (F.env L).locals := by show some (F.fr.getD L) = some L; rw [hfr]; rfl
        refine ⟨F.env L, own (fr.map (·.1)), ?_, rfl⟩
        have hne : ¬ (((F.comp scope cl x globs L).env C0).frame == some ((F.comp scope cl x globs L).env C0).locals) = true := by
          intro q'
          have q' := beq_iff_eq.mp q'
          have q' : L = C0 := Option.some.inj q'
          obtain ⟨oL, _, _, hL, _⟩ := (I₂.frames _ (.head _)).2.2
          have h1 : L < s₂.heap.objs.size := Heap.lt_size hL
          rw [q', ← hC0, Heap.size_push] at h1
          exact absurd h1 (Nat.not_lt.mpr (Nat.le_succ _))
        show own (_ :: F.env L :: fr.map (·.1)) = _
        unfold own
        rw [List.filter_cons, if_neg hne]
        exact own_cons e1) hns₁
  have hwf' : (F.comp scope cl x globs L).WF := ⟨hwf.nodup, hwf.loc, hwf.glob⟩
  have ok' : Ok G C A ((F.comp scope cl x globs L).env C0 :: F.env L :: fr.map (·.1)) d := by
    refine ⟨ok.P, ok.K, ?_, ok.depth, ok.units, ok.nolimit, ok.sm⟩
    obtain ⟨⟨e1, outer, hown, hf⟩, _⟩ := J₃.frok
    rw [ok.frames]
    have hne : ¬ (((F.comp scope cl x globs L).env C0).frame == some ((F.comp scope cl x globs L).env C0).locals) = true := by
      intro q'
      have q' := beq_iff_eq.mp q'
      have q' : L = C0 := Option.some.inj q'
      have nd := List.nodup_cons.mp J₃.nodup
      exact nd.1 (q' ▸ .head _)
    show some (own (F.env L :: fr.map (·.1))) = some (own (_ :: F.env L :: fr.map (·.1)))
    unfold own
    rw [List.filter_cons (x := (F.comp scope cl x globs L).env C0), if_neg hne]
  have kp : ∀ b o, s₂.heap.get? b = some o → h₁.get? b = some o := fun b o e => kp₃ b o (kp₂ b o e)
  have T₁ : TL s₁.heap h₁ := S₂.1.trans (.of kp)
  have fin : ∀ (s' : Shared) (H : AH) (o : Option AV), InvF C (F.comp scope cl x globs L) C0 ((F.env L, m) :: fr) ⟨[o], H⟩ s'.heap → SL s₁ s' → PutAt y (some (.ref s₂.heap.objs.size)) F.names σ₁.loc loc' → k .next ⟨loc', H⟩ →
      wpAny (model G.P C.w) (arnd A none) (assign (.Name y py) (F.env L) (.ref s₂.heap.objs.size)) (fun _ s'' => ∃ m, s''.heap.Ns C0 m ∧ ∀ h', Heap.SameBut C0 s''.heap h' → PF C F L fr s k .next { s'' with heap := h' }) (PX C F L fr s X) s' := by
    intro s' H o I' S' hp hk'
    obtain ⟨mc, Ic, _, _⟩ := I'
    have q := Ic.frames _ (.tail _ (.head _))
    refine wpAny_assign_Name (wpAny_storeName_local (m := m) (wf.loc _ hp.mem).1 q.2.2 (fun h' hn hs' => ?_) ?_)
    · obtain ⟨J, T⟩ := Ic.store2 hn hs'
      refine ⟨mc, (J.frames _ (.head _)).2.2, fun h'' hs'' => ?_⟩
      obtain ⟨J', T'⟩ := J.leaveBut (h' := h'') hs''
      have TT := (S'.1.trans T).trans T'
      exact ⟨.next, ⟨loc', H⟩, ⟨_, J', (lr.mono TT).put wf.nodup hp (.ref _), wf⟩, S₁.trans ⟨TT, S'.2.1, S'.2.2⟩, trivial, hk'⟩
    · show (F.scope.kind == .class || (F.scope.kind == .module && L != mainGlobals)) = false
      rw [show F.scope.kind = .function from q.1]; rfl
  have loop : ∀ s₃ : Shared, s₃ = { s₂ with heap := h₁, toks := s₂.toks + ([] : List (Str × Value)).length } →
      codeAny (model G.P C.w) (arnd A none) (.compLoop (.ListComp elt [⟨.Name x px, iter, [], 0⟩] scope pos) 0 (.ref it) (.ref s₂.heap.objs.size) ((F.comp scope cl x globs L).env C0))
        (compPost (model G.P C.w) (arnd A none) (PX C F L fr s X) (some (assign (.Name y py) (F.env L))) (fun _ s' => PF C F L fr s k .next s') (.ref s₂.heap.objs.size) C0) s₃ := by
    rintro s₃ rfl
    refine codeAny_compLoop_list (fun n s' => ∃ i ys H o, InvF C (F.comp scope cl x globs L) C0 ((F.env L, m) :: fr) ⟨[o], H⟩ s'.heap ∧ SL s₁ s' ∧ n = items.length - i ∧ i ≤ items.length ∧
      HLC G (F.comp scope cl x globs L) d elt (fun R => k .next ⟨loc', R⟩) s₂.heap.objs.size it P Src (items.drop i) i ys H) (fun n s₄ q => ?_) items.length
      ⟨0, [], _, none, ⟨_, J₃, fun z av e => (by cases e; rename_i e; cases e), hwf'⟩, ⟨T₁, S₂.2.1, S₂.2.2⟩, rfl, Nat.zero_le _, (hk it).2 L⟩ (fun v => by rfl)
    obtain ⟨i, ys, H, o, I₄, S₄, rfl, hi, h₄⟩ := q
    have I₄' := I₄
    obtain ⟨mc, Ic, lrc, _⟩ := I₄
    by_cases hlt : i < items.length
    · rw [List.drop_eq_getElem_cons hlt] at h₄
      obtain ⟨hsrc, hz, H', hset, h₅⟩ := h₄
      refine (W it).next ok' Ic trivial hsrc (List.getElem?_eq_getElem hlt) hset fun v s₅ I₅ S₅ V₅ => ?_
      refine wpAny_assign_Name (wpAny_mono ((store_name (F := F.comp scope cl x globs L) (hd := none) (X := fun _ _ => False) (σ := ⟨[o], H'⟩) (k := fun σ' => σ' = ⟨[some items[i]], H'⟩) .head rfl).run C A C0 ((F.env L, m) :: fr) s₅ v ok' ⟨mc, I₅, lrc.mono S₅.1, hwf'⟩ V₅) (fun _ s₆ p₆ => ?_) fun _ _ p => ?_)
      · obtain ⟨_, I₆, S₆, rfl⟩ := p₆
        refine wpAny_mono (h₅.run C A C0 ((F.env L, m) :: fr) s₆ ok' I₆) (fun w s₇ p₇ => ?_) fun _ _ p => ?_
        · obtain ⟨yv, σ₇, I₇, S₇, V₇, H'', hset', h₇⟩ := p₇
          have ap : HO G (F.comp scope cl x globs L) d none (fun vs => call (.builtin "list.append") vs) [.ref s₂.heap.objs.size, yv] σ₇ (fun _ σ' => σ' = ⟨σ₇.loc, H''⟩) (fun _ _ => False) := o_append hz hset' rfl
          refine wpAny_mono (ap.run C A C0 ((F.env L, m) :: fr) s₇ [.ref s₂.heap.objs.size, w] ok' I₇ (.cons (.ref _) (.cons V₇ .nil))) (fun _ s₈ p₈ => ?_) fun _ _ p => ?_
          · obtain ⟨_, _, I₈, S₈, _, rfl⟩ := p₈
            have SS := (((S₄.trans S₅).trans S₆).trans S₇).trans S₈
            have hl1 : ∃ o', InvF C (F.comp scope cl x globs L) C0 ((F.env L, m) :: fr) ⟨[o'], H''⟩ s₈.heap := by
              obtain ⟨mm, I9, _, _⟩ := I₈
              exact ⟨none, mm, I9, fun z av e => (by cases e; rename_i e; cases e), hwf'⟩
            obtain ⟨o', I₈'⟩ := hl1
            exact ⟨items.length - (i + 1), by omega, i + 1, ys ++ [yv], H'', o', I₈', SS, rfl, hlt, h₇⟩
          · obtain ⟨_, _, _, _, _, _, q⟩ := p; exact q.elim
        · obtain ⟨_, _, _, _, _, _, q⟩ := p; exact q.elim
      · obtain ⟨_, _, _, _, _, _, q⟩ := p; exact q.elim
    · rw [List.drop_eq_nil_of_le (by omega)] at h₄
      obtain ⟨hsrc, R, hsel, h₅⟩ := h₄
      refine (W it).stop ok' Ic trivial hsrc (List.getElem?_eq_none (by omega)) hsel fun s₅ I₅ S₅ => ?_
      exact fin s₅ R o ⟨mc, I₅, lrc.mono S₅.1, hwf'⟩ (S₄.trans S₅) (hk it).1 h₅
  have start := codeAny_compStart_list (loop _ rfl) (hit.self (A := A) (.tail .head) J₃ (loop _ rfl))
  rw [comp_scope _ _ hfr] at start
  exact start
noncomputable abbrev dict0 : Obj := { cls := .type "dict", data := .dict #[] }
noncomputable def HDC (G : Gl) (Fc : Fn) (d : Nat) (kx vx : Expr) (k : AH → Prop) (acc it : Addr) (P : Nat → Obj → Prop) (Src : AH → Prop) : List AV → Nat → List (Str × AV) → AH → Prop
  | [], i, _, H => Src H ∧ ∃ R, Sel it (.raw (P i)) H R ∧ k R
  | v :: vs, i, es, H => Src H ∧ es.length ≤ 1000 ∧ ∃ H', SetH it (.raw (P i)) (.raw (P (i + 1))) H H' ∧
      HE G Fc d none kx ⟨[some v], H'⟩ (fun kv σ₁ => ∃ key, kv = .str key ∧ HE G Fc d none vx σ₁ (fun y σ => ∃ es' H'', PutE key y es es' ∧ SetH acc (.dict es) (.dict es') σ.H H'' ∧ HDC G Fc d kx vx k acc it P Src vs (i + 1) es' H'') (fun _ _ => False)) (fun _ _ => False)
theorem s_assign_dc {y x : Str} {py px spos pos : Pos} {iter kx vx : Expr} {scope : Scope} {cl : List (Str × Addr)} {globs : List Str} {k : Fl → St → Prop} (hfr : F.fr = none)
    (hsw : ∀ L, swapsWith (.DictComp kx vx [⟨.Name x px, iter, [], 0⟩] scope pos) (some (.Name y py)) spos.line (F.env L) = pure true) (hclos : ∀ L, closureFor scope (F.env L) = pure cl)
    (hcell : ∀ z ∈ scope.names, z.2 ≠ .cell) (hkind : scope.kind = .function) (hnames : ∀ z ∈ scope.names, z.2 = .local → scope.names.lookup z.1 = some .local) (hwf : (F.comp scope cl x globs 0).WF)
    (h : HE G F d none iter σ (fun v σ₁ => ∃ P items Src, ∃ loc' : Addr → List (Option AV), PyIt G v σ₁.H P ∧ (∀ it, Iter G it P items Src (fun _ => True)) ∧ ∀ it acc, PutAt y (some (.ref acc)) F.names σ₁.loc (loc' acc) ∧ ∀ L, HDC G (F.comp scope cl x globs L) d kx vx (fun R => k .next ⟨loc' acc, R⟩) acc it P Src items 0 [] ((acc, .dict []) :: (it, .raw (P 0)) :: σ₁.H)) X)
    (hs : ∀ L x, foldedSetIterable iter (F.env L) x = pure x) : HS G F d none (.Assign [.Name y py] (.DictComp kx vx [⟨.Name x px, iter, [], 0⟩] scope pos) spos) σ k X := by
  refine ⟨?_⟩
  intro C A L fr s ok I
  rw [exec_Assign_Name_used _ _ _ _ (hsw L)]
  refine wpAny_bind (wpAny_standAt (wpAny_bind ?_))
  show wpAny _ _ (do let _ ← comprehension (.DictComp kx vx [⟨.Name x px, iter, [], 0⟩] scope pos) scope (F.env L) _ newDict false (eval iter (F.env L)) (some (assign (.Name y py) (F.env L)))) _ _ s
  refine wpAny_bind (wpAny_mono (wpAny_comprehension_free (use := some (assign (.Name y py) (F.env L))) (Q := fun _ s' => PF C F L fr s k .next s') rfl (hs L) (hclos L) hkind hnames
    (wpAny_mono (h.run C A L fr s ok I) (fun xv s₁ p₁ => ?_) fun _ _ e => e)) (fun _ s' hq => wpAny_pure (wpAny_pure hq)) fun _ _ e => e)
  obtain ⟨v, σ₁, ⟨m, I0, lr, wf⟩, S₁, V₁, P, items, Src, loc', hit, W, hk⟩ := p₁
  refine hit.run ok I0 V₁ fun it s₂ I₂ S₂ => ?_
  have hk := fun it => hk it s₂.heap.objs.size
  generalize loc' s₂.heap.objs.size = loc' at hk
  have kp₂ : ∀ b o, s₂.heap.get? b = some o → (s₂.heap.push dict0).get? b = some o := fun b o e => Heap.get?_push_of_some _ e
  have D0 : (s₂.heap.push dict0).DictOf (strKind C.P C.w) s₂.heap.objs.size [] := Heap.DictOf.new _
  have J₂ := I₂.take kp₂ (a := s₂.heap.objs.size) (o := .dict []) (fun x hx => by simp [AObj.foot] at hx; rw [hx]; exact Heap.get?_none_of_le (Nat.le_refl _)) (by simp [AObj.foot]) ⟨_, D0, .nil⟩
  refine wpAny_newObj_type (wpAny_newFunctionEnv hcell (by intro y hy; simp at hy) (fun h₁ hns₁ hsb₁ => ?_) hkind)
  dsimp only at hns₁ hsb₁ ⊢
  have kp₃ : ∀ b o, (s₂.heap.push (dict0)).get? b = some o → h₁.get? b = some o := fun b o e => hsb₁.extBut b o (Nat.ne_of_lt (Heap.lt_size e)) (Heap.get?_push_of_some _ e)
  generalize hC0 : (s₂.heap.push (dict0)).objs.size = C0 at hns₁ hsb₁
  have J₃ : Inv0 C (((F.comp scope cl x globs L).env C0, fun y => ([] : List (Str × Value)).reverse.lookup y) :: (F.env L, m) :: fr) ((s₂.heap.objs.size, .dict []) :: (it, .raw (P 0)) :: σ₁.H) h₁ :=
    J₂.enter kp₃ (by show (s₂.heap.push (dict0)).get? C0 = none; rw [← hC0]; exact Heap.get?_none_of_le (Nat.le_refl _)) hkind
      (by
        have q := J₂.newF _ (.head _)
        have e1 : (F.env L).frame = some (F.env L).locals := by show some (F.fr.getD L) = some L; rw [hfr]; rfl
        refine ⟨F.env L, own (fr.map (·.1)), ?_, rfl⟩
        have hne : ¬ (((F.comp scope cl x globs L).env C0).frame == some ((F.comp scope cl x globs L).env C0).locals) = true := by
          intro q'
          have q' := beq_iff_eq.mp q'
          have q' : L = C0 := Option.some.inj q'
          obtain ⟨oL, _, _, hL, _⟩ := (I₂.frames _ (.head _)).2.2
          have h1 : L < s₂.heap.objs.size := Heap.lt_size hL
          rw [q', ← hC0, Heap.size_push] at h1
          exact absurd h1 (Nat.not_lt.mpr (Nat.le_succ _))
        show own (_ :: F.env L :: fr.map (·.1)) = _
        unfold own
        rw [List.filter_cons, if_neg hne]
        exact own_cons e1) hns₁
  have hwf' : (F.comp scope cl x globs L).WF := ⟨hwf.nodup, hwf.loc, hwf.glob⟩
  have ok' : Ok G C A ((F.comp scope cl x globs L).env C0 :: F.env L :: fr.map (·.1)) d := by
    refine ⟨ok.P, ok.K, ?_, ok.depth, ok.units, ok.nolimit, ok.sm⟩
    obtain ⟨⟨e1, outer, hown, hf⟩, _⟩ := J₃.frok
    rw [ok.frames]
    have hne : ¬ (((F.comp scope cl x globs L).env C0).frame == some ((F.comp scope cl x globs L).env C0).locals) = true := by
      intro q'
      have q' := beq_iff_eq.mp q'
      have q' : L = C0 := Option.some.inj q'
      have nd := List.nodup_cons.mp J₃.nodup
      exact nd.1 (q' ▸ .head _)
    show some (own (F.env L :: fr.map (·.1))) = some (own (_ :: F.env L :: fr.map (·.1)))
    unfold own
    rw [List.filter_cons (x := (F.comp scope cl x globs L).env C0), if_neg hne]
  have kp : ∀ b o, s₂.heap.get? b = some o → h₁.get? b = some o := fun b o e => kp₃ b o (kp₂ b o e)
  have T₁ : TL s₁.heap h₁ := S₂.1.trans (.of kp)
  have fin : ∀ (s' : Shared) (H : AH) (o : Option AV), InvF C (F.comp scope cl x globs L) C0 ((F.env L, m) :: fr) ⟨[o], H⟩ s'.heap → SL s₁ s' → PutAt y (some (.ref s₂.heap.objs.size)) F.names σ₁.loc loc' → k .next ⟨loc', H⟩ →
      wpAny (model G.P C.w) (arnd A none) (assign (.Name y py) (F.env L) (.ref s₂.heap.objs.size)) (fun _ s'' => ∃ m, s''.heap.Ns C0 m ∧ ∀ h', Heap.SameBut C0 s''.heap h' → PF C F L fr s k .next { s'' with heap := h' }) (PX C F L fr s X) s' := by
    intro s' H o I' S' hp hk'
    obtain ⟨mc, Ic, _, _⟩ := I'
    have q := Ic.frames _ (.tail _ (.head _))
    refine wpAny_assign_Name (wpAny_storeName_local (m := m) (wf.loc _ hp.mem).1 q.2.2 (fun h' hn hs' => ?_) ?_)
    · obtain ⟨J, T⟩ := Ic.store2 hn hs'
      refine ⟨mc, (J.frames _ (.head _)).2.2, fun h'' hs'' => ?_⟩
      obtain ⟨J', T'⟩ := J.leaveBut (h' := h'') hs''
      have TT := (S'.1.trans T).trans T'
      exact ⟨.next, ⟨loc', H⟩, ⟨_, J', (lr.mono TT).put wf.nodup hp (.ref _), wf⟩, S₁.trans ⟨TT, S'.2.1, S'.2.2⟩, trivial, hk'⟩
    · show (F.scope.kind == .class || (F.scope.kind == .module && L != mainGlobals)) = false
      rw [show F.scope.kind = .function from q.1]; rfl
  have loop : ∀ s₃ : Shared, s₃ = { s₂ with heap := h₁, toks := s₂.toks + ([] : List (Str × Value)).length } →
      codeAny (model G.P C.w) (arnd A none) (.compLoop (.DictComp kx vx [⟨.Name x px, iter, [], 0⟩] scope pos) 0 (.ref it) (.ref s₂.heap.objs.size) ((F.comp scope cl x globs L).env C0))
        (compPost (model G.P C.w) (arnd A none) (PX C F L fr s X) (some (assign (.Name y py) (F.env L))) (fun _ s' => PF C F L fr s k .next s') (.ref s₂.heap.objs.size) C0) s₃ := by
    rintro s₃ rfl
    refine codeAny_compLoop_testsD (fun n s' => ∃ i ys H o, InvF C (F.comp scope cl x globs L) C0 ((F.env L, m) :: fr) ⟨[o], H⟩ s'.heap ∧ SL s₁ s' ∧ n = items.length - i ∧ i ≤ items.length ∧
      HDC G (F.comp scope cl x globs L) d kx vx (fun R => k .next ⟨loc', R⟩) s₂.heap.objs.size it P Src (items.drop i) i ys H) (fun n s₄ q => ?_) items.length
      ⟨0, [], _, none, ⟨_, J₃, fun z av e => (by cases e; rename_i e; cases e), hwf'⟩, ⟨T₁, S₂.2.1, S₂.2.2⟩, rfl, Nat.zero_le _, (hk it).2 L⟩ (fun v => by rfl)
    obtain ⟨i, ys, H, o, I₄, S₄, rfl, hi, h₄⟩ := q
    have I₄' := I₄
    obtain ⟨mc, Ic, lrc, _⟩ := I₄
    by_cases hlt : i < items.length
    · rw [List.drop_eq_getElem_cons hlt] at h₄
      obtain ⟨hsrc, hz, H', hset, h₅⟩ := h₄
      refine (W it).next ok' Ic trivial hsrc (List.getElem?_eq_getElem hlt) hset fun v s₅ I₅ S₅ V₅ => ?_
      refine wpAny_assign_Name (wpAny_mono ((store_name (F := F.comp scope cl x globs L) (hd := none) (X := fun _ _ => False) (σ := ⟨[o], H'⟩) (k := fun σ' => σ' = ⟨[some items[i]], H'⟩) .head rfl).run C A C0 ((F.env L, m) :: fr) s₅ v ok' ⟨mc, I₅, lrc.mono S₅.1, hwf'⟩ V₅) (fun _ s₆ p₆ => ?_) fun _ _ p => ?_)
      · obtain ⟨_, I₆, S₆, rfl⟩ := p₆
        refine wpAny_pure ?_
        rw [if_pos rfl]
        refine wpAny_mono (h₅.run C A C0 ((F.env L, m) :: fr) s₆ ok' I₆) (fun kv s₇ p₇ => ?_) fun _ _ p => ?_
        · obtain ⟨_, σ₇, I₇, S₇, V₇, key, rfl, h₇⟩ := p₇
          refine wpAny_mono (h₇.run C A C0 ((F.env L, m) :: fr) s₇ ok' I₇) (fun w s₈ p₈ => ?_) fun _ _ p => ?_
          · obtain ⟨yv, σ₈, I₈, S₈, V₈, es', H'', hp', hset', h₈⟩ := p₈
            obtain ⟨u, rfl⟩ := V₇.str_inv
            obtain ⟨mm, I9, lr9, _⟩ := I₈
            obtain ⟨kvs, D, r⟩ := I9.dict hset'.inH
            have D' := D
            rw [ok.P] at D
            obtain ⟨o₀, es₀, ep₀, ho, ex, hdat, _, _, nd⟩ := D'
            refine wpAny_dictSet_pairs (strKind_is _ _ _ _) D (fun h' D' hs' => ?_) (by rw [r.length, sizeLine_eq]; omega)
            have h1 : ∀ vs n, s₈.heap.get? s₂.heap.objs.size ≠ some (tupObj vs n) := fun vs n e => by rw [ho] at e; cases e; cases hdat
            have h2 : ∀ oT ts, s₈.heap.get? s₂.heap.objs.size = some oT → oT.cls = .type "traceback" → oT.data = .fields ts → False := fun oT ts e _ q => by rw [ho] at e; cases e; rw [hdat] at q; cases q
            have T : TL s₈.heap h' := .turn hs' h1
            rw [← ok.P] at D'
            have J9 := I9.turnH hset' (x := s₂.heap.objs.size) (.head _) rfl hs' h1 h2 ⟨_, D', VKs.putE (V₈.mono T) hp' nd (r.mono T)⟩
            have SS := ((((S₄.trans S₅).trans S₆).trans S₇).trans S₈).trans (s'' := { s₈ with heap := h', toks := s₈.toks + 1 }) ⟨T, rfl, rfl⟩
            exact ⟨items.length - (i + 1), by omega, i + 1, es', H'', none, ⟨mm, J9, fun z av e => (by cases e; rename_i e; cases e), hwf'⟩, SS, rfl, hlt, h₈⟩
          · obtain ⟨_, _, _, _, _, _, q⟩ := p; exact q.elim
        · obtain ⟨_, _, _, _, _, _, q⟩ := p; exact q.elim
      · obtain ⟨_, _, _, _, _, _, q⟩ := p; exact q.elim
    · rw [List.drop_eq_nil_of_le (by omega)] at h₄
      obtain ⟨hsrc, R, hsel, h₅⟩ := h₄
      refine (W it).stop ok' Ic trivial hsrc (List.getElem?_eq_none (by omega)) hsel fun s₅ I₅ S₅ => ?_
      exact fin s₅ R o ⟨mc, I₅, lrc.mono S₅.1, hwf'⟩ (S₄.trans S₅) (hk it).1 h₅
  have start := codeAny_compStart_dict (loop _ rfl) (hit.self (A := A) (.tail .head) J₃ (loop _ rfl))
  rw [comp_scope _ _ hfr] at start
  exact start
theorem e_cell {x : Str} {pos : Pos} {c a : Addr} {hd : Option Addr} {k : AV → St → Prop} (hc : F.cells.lookup x = some c) (hl : F.scope.names.lookup x = some .cell) (hd' : (x == ("__debug__" : Str)) = false) (hi : InH c (.cell (some a)) σ.H) (h : k (.ref a) σ) : HE G F d hd (.Name x pos) σ k X := by
  refine ⟨?_⟩
  intro C A L fr s ok I
  have I' := I
  obtain ⟨m, I0, lr, wf⟩ := I
  obtain ⟨o, ho, hP⟩ := I0.obj _ hi.mem
  exact wpAny_Name (wpAny_loadName_cell (c := c) (v := .ref a) (I0.frames _ (.head _)).1 hl hc ⟨o, ho, hP⟩ ⟨_, _, I', .refl s, .ref a, h⟩) hd'
theorem s_assign_cell {x : Str} {np pos : Pos} {e : Expr} {c : Addr} {hd : Option Addr} {z : Option Addr} {k : Fl → St → Prop} (hc : F.cells.lookup x = some c) (hl : F.scope.names.lookup x = some .cell)
    (h : HE G F d hd e σ (fun v σ₁ => ∃ a H', v = .ref a ∧ SetH c (.cell z) (.cell (some a)) σ₁.H H' ∧ k .next ⟨σ₁.loc, H'⟩) X)
    (hs : ∀ env, swapsWith e (some (.Name x np)) pos.line env = pure false := by intros; with_unfolding_all rfl) : HS G F d hd (.Assign [.Name x np] e pos) σ k X := by
  refine ⟨?_⟩
  intro C A L fr s ok I
  refine wpAny_Assign_Name (wpAny_mono (h.run C A L fr s ok I) (fun v s₁ p₁ => ?_) fun _ _ e => e) (hs _)
  obtain ⟨_, σ₁, ⟨m, I0, lr, wf⟩, S₁, V₁, a, H', rfl, hset, h₁⟩ := p₁
  obtain rfl := V₁.ref_inv
  obtain ⟨o, ho, hP⟩ := I0.obj _ hset.inH.mem
  have hk : (F.env L).scope.kind = .function := (I0.frames _ (.head _)).1
  have hl' : (F.env L).kindOf x = some .cell := hl
  have hs' := Heap.SameBut.update s₁.heap c (fun o => { o with data := .cell (some (.ref a)) })
  have ho : s₁.heap.get? c = some o := ho
  have ge := Heap.get?_update_self (fun o => { o with data := .cell (some (.ref a)) }) ho rfl
  have go : wpAny (model G.P C.w) (arnd A hd) (storeName (F.env L) x (.ref a)) (fun _ s' => s' = { s₁ with heap := s₁.heap.update c (fun o => { o with data := .cell (some (.ref a)) }) }) (PX C F L fr s X) s₁ := by
    unfold storeName
    simp only [hl', hk]
    refine wpAny_bind (wpAny_cellOf (c := c) hc ?_)
    unfold cellSet
    refine wpAny_bind (wpAny_load ho ?_)
    have hd' : o.data = .cell (z.map Value.ref) := hP
    rw [hd']
    exact wpAny_update ho rfl
  have hd' : o.data = .cell (z.map Value.ref) := hP
  refine wpAny_mono go (fun _ s₂ q => ?_) fun _ _ e => e
  subst q
  have h1 : ∀ vs n, s₁.heap.get? c ≠ some (tupObj vs n) := fun vs n e => by rw [ho] at e; cases e; cases hd'
  have h2 : ∀ oT ts, s₁.heap.get? c = some oT → oT.cls = .type "traceback" → oT.data = .fields ts → False := fun oT ts e _ q => by rw [ho] at e; cases e; rw [hd'] at q; cases q
  have T := TL.turn hs' h1
  exact ⟨.next, ⟨σ₁.loc, H'⟩, ⟨m, I0.turnH hset (x := c) (.head _) rfl hs' h1 h2 ⟨_, ge, rfl⟩, lr.mono T, wf⟩, S₁.trans ⟨T, rfl, rfl⟩, trivial, h₁⟩
end
end Mine
end
section
open PySem PySem.W PySem.Calls PyProof.Rows
set_option maxRecDepth 100000
set_option autoImplicit false
set_option maxHeartbeats 4000000
namespace Mine
mutual
inductive EqT (H : AH) : Nat → AV → AV → Prop
  | none {n} : EqT H n .none .none
  | bool {n} (b : Bool) : EqT H n (.bool b) (.bool b)
  | int {n} (i : Int) : EqT H n (.int i) (.int i)
  | str {n} (x : Str) : EqT H n (.str x) (.str x)
  | ref {n} (a : Addr) : EqT H n (.ref a) (.ref a)
  | list {n a b xs ys} : InH a (.list xs) H → InH b (.list ys) H → EqTs H n xs ys → EqT H (n + 1) (.ref a) (.ref b)
  | tup {n xs ys} : EqTs H n xs ys → EqT H (n + 1) (.tup xs) (.tup ys)
inductive EqTs (H : AH) : Nat → List AV → List AV → Prop
  | nil {n} : EqTs H n [] []
  | cons {n x y xs ys} : EqT H n x y → EqTs H n xs ys → EqTs H n (x :: xs) (y :: ys)
end
theorem EqTs.map {α : Type} {H : AH} {n : Nat} {f : α → AV} (h : ∀ a, EqT H n (f a) (f a)) : ∀ xs : List α, EqTs H n (xs.map f) (xs.map f)
  | [] => .nil
  | a :: xs => .cons (h a) (EqTs.map h xs)
theorem EqTs.append {H : AH} {n : Nat} : ∀ {xs ys us vs : List AV}, EqTs H n xs ys → EqTs H n us vs → EqTs H n (xs ++ us) (ys ++ vs) := by
  intro xs ys us vs h r
  induction xs generalizing ys with
  | nil => cases h; exact r
  | cons x xs ih =>
    cases h with
    | cons h t => exact .cons h (ih t)
theorem EqTs.length {H : AH} {n : Nat} : ∀ {xs ys : List AV}, EqTs H n xs ys → xs.length = ys.length := by
  intro xs ys h
  induction xs generalizing ys with
  | nil => cases h; rfl
  | cons x xs ih =>
    cases h with
    | cons h t => exact congrArg (· + 1) (ih t)
section
open PySem.SeqAt
theorem in1_units (A : Around) : A.in1.units = A.units + 1 := rfl
theorem eqAt_int {A : Around} {s : Shared} {v w : Value} {i : Int} (V : VR s.heap v (.int i)) (W : VR s.heap w (.int i)) : EqAt A s v w true := by
  obtain ⟨t, rfl⟩ := V.int_inv; obtain ⟨u, rfl⟩ := W.int_inv
  have := EqAt.int_int (A := A) (s := s) i t i u
  rwa [beq_self_eq_true] at this
theorem eqAt_str {A : Around} {s : Shared} {v w : Value} {x : Str} (V : VR s.heap v (.str x)) (W : VR s.heap w (.str x)) : EqAt A s v w true := by
  obtain ⟨t, rfl⟩ := V.str_inv; obtain ⟨u, rfl⟩ := W.str_inv
  have := EqAt.str_str (A := A) (s := s) x t x u
  rwa [beq_self_eq_true] at this
theorem eqTs_of {C : Cx} {fr : Frs} {H : AH} {s : Shared} {n : Nat} (P : ∀ {x y : AV}, EqT H n x y → ∀ {A : Around} {v w : Value}, VR s.heap v x → VR s.heap w y → A.units + n < cLine → EqAt A s v w true) {xs ys : List AV} (e : EqTs H n xs ys) {A : Around} {vs ws : List Value} (V : VRs s.heap vs xs) (W : VRs s.heap ws ys) (hu : A.units + n < cLine) :
    ∀ j (h1 : j < vs.toArray.size) (h2 : j < ws.toArray.size), EqAt A s vs.toArray[j] ws.toArray[j] true := by
  induction xs generalizing ys vs ws with
  | nil => cases V; exact fun j h1 _ => absurd h1 (Nat.not_lt_zero j)
  | cons x xs ih =>
    cases e with
    | cons h t =>
      cases V with
      | cons V r =>
        cases W with
        | cons W r' =>
          intro j h1 h2
          cases j with
          | zero => exact P h V W hu
          | succ j =>
            have := ih t r r' j (by simpa using h1) (by simpa using h2)
            simpa using this
theorem EqT.at {C : Cx} {fr : Frs} {H : AH} {s : Shared} (I : Inv0 C fr H s.heap) {n : Nat} : ∀ {x y : AV}, EqT H n x y → ∀ {A : Around} {v w : Value}, VR s.heap v x → VR s.heap w y → A.units + n < cLine → EqAt A s v w true := by
  induction n with
  | zero =>
    intro x y e A v w V W _
    cases e with
    | none => rw [V.none_inv, W.none_inv]; exact EqAt.same _
    | bool b => rw [V.bool_inv, W.bool_inv]; exact EqAt.same _
    | int i => exact eqAt_int V W
    | str x => exact eqAt_str V W
    | ref a => rw [V.ref_inv, W.ref_inv]; exact EqAt.same _
  | succ n ih =>
    intro x y e A v w V W hu
    cases e with
    | none => rw [V.none_inv, W.none_inv]; exact EqAt.same _
    | bool b => rw [V.bool_inv, W.bool_inv]; exact EqAt.same _
    | int i => exact eqAt_int V W
    | str x => exact eqAt_str V W
    | ref a => rw [V.ref_inv, W.ref_inv]; exact EqAt.same _
    | list ha hb t =>
      rename_i a b xs ys
      obtain rfl := V.ref_inv; obtain rfl := W.ref_inv
      by_cases hab : a = b
      · subst hab; exact EqAt.same _
      obtain ⟨vs, k, ho, Vs, il⟩ := I.list ha
      obtain ⟨us, k', ho', Us, il'⟩ := I.list hb
      have hl := t.length
      have hz : vs.toArray.size = us.toArray.size := by rw [List.size_toArray, List.size_toArray, Vs.length, Us.length, hl]
      have := EqAt.of_refs hab (RcAt.lists (e := fun _ => true) il il' hz (by omega) fun j h1 h2 => eqTs_of (C := C) (fr := fr) ih t (A := A.in1) Vs Us (by rw [in1_units]; omega) j h1 h2)
      rwa [show (List.range vs.toArray.size).all (fun _ => true) = true from List.all_eq_true.mpr fun _ _ => rfl] at this
    | tup t =>
      rename_i xs ys
      obtain ⟨a, vs, k, rfl, ho, Vs⟩ := V.tup_inv
      obtain ⟨b, us, k', rfl, ho', Us⟩ := W.tup_inv
      by_cases hab : a = b
      · subst hab; exact EqAt.same _
      have hl := t.length
      have hz : vs.toArray.size = us.toArray.size := by rw [List.size_toArray, List.size_toArray, Vs.length, Us.length, hl]
      have := EqAt.of_refs hab (RcAt.tuples (e := fun _ => true) (A := A) (s := s) ⟨_, ho, rfl, k, rfl⟩ ⟨_, ho', rfl, k', rfl⟩ (by omega) fun j h1 h2 => eqTs_of (C := C) (fr := fr) ih t (A := A.in1) Vs Us (by rw [in1_units]; omega) j h1 h2)
      rwa [show (List.range (min vs.toArray.size us.toArray.size)).all (fun _ => true) = true from List.all_eq_true.mpr fun _ _ => rfl, hz, beq_self_eq_true] at this
theorem EqTs.at {C : Cx} {fr : Frs} {H : AH} {s : Shared} (I : Inv0 C fr H s.heap) {n : Nat} {xs ys : List AV} (e : EqTs H n xs ys) {A : Around} {vs ws : List Value} (V : VRs s.heap vs xs) (W : VRs s.heap ws ys) (hu : A.units + n < cLine) : ∀ j (h1 : j < vs.toArray.size) (h2 : j < ws.toArray.size), EqAt A s vs.toArray[j] ws.toArray[j] true :=
  eqTs_of (C := C) (fr := fr) (EqT.at I) e V W hu
end
section
variable {G : Gl} {F : Fn} {d : Nat} {hd : Option Addr} {X : Addr → St → Prop} {σ : St}
theorem ok_units {G : Gl} {C : Cx} {A : Around} {envs : List Env} {d : Nat} {hd : Option Addr} (ok : Ok G C A envs d) : (arnd A hd).units ≤ 9800 := by
  have := ok.units
  show A.units ≤ 9800
  omega
open PySem.SeqAt in
theorem o_eq_tup {xs ys : List AV} {k : AV → St → Prop} (e : EqTs σ.H 20 xs ys) (h : k (.bool true) σ) : HO G F d hd (op2 (compareOp .Eq)) [.tup xs, .tup ys] σ k X := ho2 fun C A L fr s v w ok I V W => by
  obtain ⟨a, vs, n, rfl, ho, Vs⟩ := V.tup_inv
  obtain ⟨b, us, n', rfl, ho', Us⟩ := W.tup_inv
  have I' := I
  obtain ⟨m, I0, lr⟩ := I
  have hu := ok_units (hd := hd) ok
  have hl := e.length
  have hz : vs.toArray.size = us.toArray.size := by rw [List.size_toArray, List.size_toArray, Vs.length, Us.length, hl]
  refine RcAt.tuples (e := fun _ => true) (A := arnd A hd) (s := s) ⟨_, ho, rfl, n, rfl⟩ ⟨_, ho', rfl, n', rfl⟩ (by unfold cLine; omega) (fun j h1 h2 => EqTs.at I0 e Vs Us (by rw [in1_units]; unfold cLine; omega) j h1 h2) _ _ _ _ ?_
  rw [show (List.range (min vs.toArray.size us.toArray.size)).all (fun _ => true) = true from List.all_eq_true.mpr fun _ _ => rfl, hz, beq_self_eq_true]
  exact ⟨_, σ, I', .refl s, .bool _, h⟩
open PySem.SeqAt in
theorem o_ne_tup {xs ys : List AV} {k : AV → St → Prop} (e : EqTs σ.H 20 xs ys) (h : k (.bool false) σ) : HO G F d hd (op2 (compareOp .NotEq)) [.tup xs, .tup ys] σ k X := ho2 fun C A L fr s v w ok I V W => by
  obtain ⟨a, vs, n, rfl, ho, Vs⟩ := V.tup_inv
  obtain ⟨b, us, n', rfl, ho', Us⟩ := W.tup_inv
  have I' := I
  obtain ⟨m, I0, lr⟩ := I
  have hu := ok_units (hd := hd) ok
  have hl := e.length
  have hz : vs.toArray.size = us.toArray.size := by rw [List.size_toArray, List.size_toArray, Vs.length, Us.length, hl]
  refine RcNeAt.tuples (e := fun _ => true) (A := arnd A hd) (s := s) ⟨_, ho, rfl, n, rfl⟩ ⟨_, ho', rfl, n', rfl⟩ (by unfold cLine; omega) (fun j h1 h2 => EqTs.at I0 e Vs Us (by rw [in1_units]; unfold cLine; omega) j h1 h2) _ _ _ _ ?_
  rw [show (List.range (min vs.toArray.size us.toArray.size)).all (fun _ => true) = true from List.all_eq_true.mpr fun _ _ => rfl, hz, beq_self_eq_true]
  exact ⟨_, σ, I', .refl s, .bool _, h⟩
open PySem.SeqAt in
theorem o_ne_list {a b : Addr} {xs ys : List AV} {k : AV → St → Prop} (ha : InH a (.list xs) σ.H) (hb : InH b (.list ys) σ.H) (e : EqTs σ.H 20 xs ys) (h : k (.bool false) σ) : HO G F d hd (op2 (compareOp .NotEq)) [.ref a, .ref b] σ k X := ho2 fun C A L fr s v w ok I V W => by
  obtain rfl := V.ref_inv; obtain rfl := W.ref_inv
  have I' := I
  obtain ⟨m, I0, lr⟩ := I
  obtain ⟨vs, n, ho, Vs, il⟩ := I0.list ha
  obtain ⟨us, n', ho', Us, il'⟩ := I0.list hb
  have hu := ok_units (hd := hd) ok
  have hl := e.length
  have hz : vs.toArray.size = us.toArray.size := by rw [List.size_toArray, List.size_toArray, Vs.length, Us.length, hl]
  refine RcNeAt.lists (e := fun _ => true) (A := arnd A hd) (s := s) il il' hz (by unfold cLine; omega) (fun j h1 h2 => EqTs.at I0 e Vs Us (by rw [in1_units]; unfold cLine; omega) j h1 h2) _ _ _ _ ?_
  rw [show (List.range vs.toArray.size).all (fun _ => true) = true from List.all_eq_true.mpr fun _ _ => rfl]
  exact ⟨_, σ, I', .refl s, .bool _, h⟩
theorem ints_pick {h : Heap} {vs : List Value} {ns : List Int} (V : VRs h vs (ns.map .int)) (is : List Nat) : ∃ ms : List Int, VRs h (is.filterMap (vs.toArray[·]?)) (ms.map .int) := by
  induction is with
  | nil => exact ⟨[], .nil⟩
  | cons i is ih =>
    obtain ⟨ms, r⟩ := ih
    rw [List.filterMap_cons]
    cases e : vs.toArray[i]? with
    | none => exact ⟨ms, r⟩
    | some v =>
      have hi : i < ns.length := by
        have h1 : i < vs.toArray.size := (Array.getElem?_eq_some_iff.mp e).1
        have := V.length
        simp at h1 this
        omega
      obtain ⟨w, hw, W⟩ := V.get (i := i) (x := .int ns[i]) (by rw [List.getElem?_map, List.getElem?_eq_getElem hi]; rfl)
      have : some v = some w := by rw [← e, ← hw]; simp
      cases this
      exact ⟨ns[i] :: ms, .cons W r⟩
end
end Mine
end
section
open PySem PySem.W PySem.Calls PyProof.Rows
set_option maxRecDepth 100000
set_option autoImplicit false
set_option maxHeartbeats 4000000
namespace Mine
theorem slot_fn_ga : Slot "function" "__getattribute__" "object.__getattribute__" :=
  .of (owner := "object") (n := "__getattribute__") (by rw [typeLookup_type, builtinLookup_eq_fast]; kernel_rfl) (by decide +kernel) (by decide +kernel) (by decide +kernel)
    (by first | exact .inl (by decide +kernel) | exact .inr (by decide +kernel)) (by rw [isSubtype_type]; kernel_rfl)
theorem lk_fn_class : typeLookup (.type "function") "__class__" = pure (some (.builtin "object.__class__")) := by rw [typeLookup_type, builtinLookup_eq_fast]; kernel_rfl
theorem sub_fn_class_owner : isSubtype (.type "function") (.type (".".intercalate ("object.__class__".cutAt '.').dropLast)) = pure true := by
  rw [_root_.PySem.F.owner_object_class, isSubtype_type]; kernel_rfl
theorem entry_obj_ga : entryFor table "object.__getattribute__" = some Builtin.«object.__getattribute__» := entryFor_of_tree (by kernel_rfl)
theorem args_obj_ga (a b : Value) : argsOk "object.__getattribute__" ⟨[a, b], []⟩ := by unfold argsOk; kernel_rfl
section
variable {prog : Program} {w : World} {A : Around} {E : Value → Shared → Prop} {h : Heap} {g : Array GenState} {d : Drawn} {t : Nat} {os : OsState} {a : Addr} {o : Obj}
theorem class_get_fn {R : Result → Shared → Prop} (hx : h.get? a = some o) (hc : o.cls = .type "function") (hq : R (.ok (.ret (.type "function"))) ⟨h, g, d, t, os⟩) :
    codeAny (model prog w) A (.call (.builtin "getset_descriptor.__get__") ⟨[.builtin "object.__class__", .ref a, .type "function"], []⟩) R ⟨h, g, d, t, os⟩ := by
  have hT : (⟨h, g, d, t, os⟩ : Shared).TypeIs (.ref a) "function" := ⟨_, hx, hc⟩
  have hT5 : (⟨h, g, d, t, os⟩ : Shared).TypeIs (.builtin "object.__class__") "getset_descriptor" := _root_.PySem.F.typeOf_object_class
  have f8 := sub_fn_class_owner
  refine codeAny_call_builtin _root_.PySem.F.slot_gs_get.plain _root_.PySem.F.entry_gs_get (_root_.PySem.F.slot_gs_get.check _ _ _ _ _ _ _ _ hT5 (_root_.PySem.F.args_gs_get _ _ _) ?_)
  repeat (any_goals (first | assumption | wp_step))
  refine ⟨Code.quiet_builtin _ (by decide +kernel), codeAny_builtin _root_.PySem.F.entry_object_class ?_⟩
  repeat (any_goals (first | assumption | wp_step))
theorem class_entry_fn {tk : Tok} {Q : Fin → Shared → Prop} (hx : h.get? a = some o) (hc : o.cls = .type "function") (hq : Q (.done (.ret (.type "function"))) ⟨h, g, d, t, os⟩) :
    wpAny (model prog w) A (Builtin.«object.__getattribute__» ⟨[.ref a, .str "__class__" tk], []⟩) Q E ⟨h, g, d, t, os⟩ := by
  have hT : (⟨h, g, d, t, os⟩ : Shared).TypeIs (.ref a) "function" := ⟨_, hx, hc⟩
  have hT5 : (⟨h, g, d, t, os⟩ : Shared).TypeIs (.builtin "object.__class__") "getset_descriptor" := _root_.PySem.F.typeOf_object_class
  have f4 := lk_fn_class
  have f5 := _root_.PySem.F.typeOf_object_class
  have f6 := _root_.PySem.F.slot_gs_get.lookup
  have f7 := _root_.PySem.F.slot_gs_set.lookup
  repeat (any_goals (first | assumption | wp_step))
  refine class_get_fn hx hc ?_
  repeat (any_goals (first | assumption | wp_step))
theorem class_call_fn {tk : Tok} {R : Result → Shared → Prop} (hx : h.get? a = some o) (hc : o.cls = .type "function") (hq : R (.ok (.ret (.type "function"))) ⟨h, g, d, t, os⟩) :
    codeAny (model prog w) A (.call (.builtin "object.__getattribute__") ⟨[.ref a, .str "__class__" tk], []⟩) R ⟨h, g, d, t, os⟩ :=
  codeAny_call_builtin slot_fn_ga.plain entry_obj_ga (slot_fn_ga.check _ _ _ _ _ _ _ _ (show (⟨h, g, d, t, os⟩ : Shared).TypeIs (.ref a) "function" from ⟨_, hx, hc⟩) (args_obj_ga _ _) (class_entry_fn hx hc hq))
theorem class_by_fn {tk : Tok} {Q : Value → Shared → Prop} (hx : h.get? a = some o) (hc : o.cls = .type "function") (hq : Q (.type "function") ⟨h, g, d, t, os⟩) : wpAny (model prog w) A (getAttrBy (.ref a) (.str "__class__" tk) false) Q E ⟨h, g, d, t, os⟩ := by
  have hT : (⟨h, g, d, t, os⟩ : Shared).TypeIs (.ref a) "function" := ⟨_, hx, hc⟩
  have f2 := slot_fn_ga.lookup
  have f3 := slot_fn_ga.bind (.ref a)
  repeat (any_goals (first | assumption | wp_step))
  refine class_call_fn hx hc ?_
  repeat (any_goals (first | assumption | wp_step))
theorem class_attr_fn {Q : Option Value → Shared → Prop} (hx : h.get? a = some o) (hc : o.cls = .type "function") (hq : Q (some (.type "function")) ⟨h, g, d, t + 1, os⟩) : wpAny (model prog w) A (getAttr? (.ref a) "__class__") Q E ⟨h, g, d, t, os⟩ := by
  unfold getAttr? getAttrBy?
  repeat (any_goals (first | assumption | with_reducible apply class_by_fn hx hc | wp_step))
end
theorem kitx_fn {K : Frag} {a : Addr} : KitX K (.ref a) (.type "function") (KitAt a "function") := kitx_of kitAt_ty (fun {_ _ _ _ _ s} p k => by obtain ⟨h, g, d, t, os⟩ := s; obtain ⟨o, h1, h2⟩ := p; exact class_attr_fn h1 h2 k)
section
variable {G : Gl} {F : Fn} {d : Nat} {hd : Option Addr} {X : Addr → St → Prop} {σ : St}
theorem o_isi_fn {f : Addr} {T : Value} {av : AV} {b : Bool} {k : AV → St → Prop} (hv : val? av = some T) (hf : ∀ P, (match (G.K P).lookup f with | some o => o.cls == .type "function" | none => false) = true) (hk : ∀ P, kitOne (G.K P) (.type "function") T = some b) (h : k (.bool b) σ) : HO G F d hd (fun vs => call (.builtin "isinstance") vs) [.ref f, av] σ k X := ho_two fun C A L fr s v w ok I V W => by
  obtain rfl := V.ref_inv
  have hw := W.val hv
  subst hw
  have X0 := I.K ok
  have hl := hf C.w.params
  cases e : (G.K C.w.params).lookup f with
  | none => rw [e] at hl; cases hl
  | some o =>
    rw [e] at hl
    refine kia_one (Q := PV C F L fr s k) (kitx_fn (K := G.K C.w.params)) X0 (kitAt_K X0 e (beq_iff_eq.mp hl)) (hk _) (by intro q; cases q) fun tk => ?_
    exact ⟨_, σ, I, .toks s tk, .bool _, h⟩
theorem o_isi_str {y : Str} {T : Value} {av : AV} {b : Bool} {k : AV → St → Prop} (hv : val? av = some T) (hk : ∀ P, kitOne (G.K P) (.type "str") T = some b) (h : k (.bool b) σ) : HO G F d hd (fun vs => call (.builtin "isinstance") vs) [.str y, av] σ k X := ho_two fun C A L fr s v w ok I V W => by
  obtain ⟨t, rfl⟩ := V.str_inv
  have hw := W.val hv
  subst hw
  refine kia_one (Q := PV C F L fr s k) (kitx_str (K := G.K C.w.params)) (I.K ok) trivial (hk _) (by intro q; cases q) fun tk => ?_
  exact ⟨_, σ, I, .toks s tk, .bool _, h⟩
noncomputable def isiOk (K : Frag) (D : Addr) : Bool := plainGet K D "__class__" && hasDictIn K D && findIn K (.ref D) "__class__" == some (some (.builtin "object.__class__")) && specialIn K (.builtin "object.__class__") "__get__" == some (some (.builtin "getset_descriptor.__get__")) && takesIn K (.builtin "object.__class__") == some true && mroIn K D (.type "object") == some true
theorem o_isi_inst {x D dd : Addr} {es : List (Str × AV)} {T : Value} {av : AV} {b : Bool} {k : AV → St → Prop} (hv : val? av = some T) (hi : InH x (.inst D dd es) σ.H) (hD : ∀ P, isiOk (G.K P) D = true) (hk : ∀ P, kitOne (G.K P) (.ref D) T = some b) (h : k (.bool b) σ) : HO G F d hd (fun vs => call (.builtin "isinstance") vs) [.ref x, av] σ k X := ho_two fun C A L fr s v w ok I V W => by
  obtain rfl := V.ref_inv
  have hw := W.val hv
  subst hw
  have X0 := I.K ok
  have I' := I
  obtain ⟨m, I0, lr⟩ := I
  obtain ⟨ds, n, ia, _, _⟩ := instAt I0 hi.mem
  have q := hD C.w.params
  unfold isiOk at q
  simp only [Bool.and_eq_true, beq_iff_eq] at q
  obtain ⟨⟨⟨⟨⟨q1, q2⟩, q3⟩, q4⟩, q5⟩, q6⟩ := q
  refine kia_one (Q := PV C F L fr s k) (kitx_own (K := G.K C.w.params) (x := x) (D := D) q1 q2 q3 q4 q5 q6) X0 ia (hk _) (by intro q; cases q) fun tk => ?_
  exact ⟨_, σ, I', .toks s tk, .bool _, h⟩
end
end Mine
end
section
open PySem PySem.W PySem.W.X PySem.Calls PyProof.Rows
set_option maxRecDepth 100000
set_option autoImplicit false
set_option maxHeartbeats 4000000
namespace Mine
noncomputable abbrev G : Gl := ⟨Challenge.pw_oj0064_01, Head.Kf⟩
noncomputable def noP : Params := { strHash := fun _ => 0, shareClass := fun _ => 0, mergeTok := fun t => t, idOf := fun _ => 0, idOfShared := fun _ _ => 0, followText := fun _ => false, idOfImm := fun _ => 0 }
noncomputable def objAt (a : Addr) : Obj := ((G.K noP).lookup a).getD { cls := .none, data := .plain }
noncomputable def fdOf (a : Addr) : FuncData := match objAt a with
  | ⟨_, _, .func fd, _⟩ => fd
  | _ => { name := "", qualname := "", params := { posonlyargs := [], args := [], vararg := none, kwonlyargs := [], kw_defaults := [], kwarg := none, defaults := [] }, body := .stmts [], scope := { kind := .function, names := [], isGenerator := false, isCoroutine := false }, globals := 0, closure := [], defaults := .none, kwdefaults := .none }
noncomputable def bodyOf (a : Addr) : List Stmt := match (fdOf a).body with
  | .stmts b => b
  | _ => []

theorem g_Raised (P : Params) : nsIn (G.K P) mainGlobals "Raised" = some (some (.ref 84)) := by kernel_rfl
theorem k_run_if : keepOk G (.ref 286) := .inr (.inr fun P => by kernel_rfl)
theorem k_law_expr : keepOk G (.ref 637) := .inr (.inr fun P => by kernel_rfl)
theorem k_law_run : keepOk G (.ref 644) := .inr (.inr fun P => by kernel_rfl)
theorem k_Host_init : keepOk G (.ref 336) := .inr (.inr fun P => by kernel_rfl)
theorem k_Host_tool : keepOk G (.ref 343) := .inr (.inr fun P => by kernel_rfl)
theorem k_Host_spend : keepOk G (.ref 350) := .inr (.inr fun P => by kernel_rfl)
theorem k_Host_run : keepOk G (.ref 364) := .inr (.inr fun P => by kernel_rfl)
theorem k_Host_call : keepOk G (.ref 378) := .inr (.inr fun P => by kernel_rfl)
theorem k_Host_finish : keepOk G (.ref 385) := .inr (.inr fun P => by kernel_rfl)
theorem k_Host_leave : keepOk G (.ref 392) := .inr (.inr fun P => by kernel_rfl)
theorem k_SmallHost_put : keepOk G (.ref 534) := .inr (.inr fun P => by kernel_rfl)
theorem k_SmallHost_remove : keepOk G (.ref 541) := .inr (.inr fun P => by kernel_rfl)
theorem k_SmallHost_add : keepOk G (.ref 548) := .inr (.inr fun P => by kernel_rfl)
theorem k_SmallHost_begin : keepOk G (.ref 562) := .inr (.inr fun P => by kernel_rfl)
theorem len1 {α : Type} {l : List α} (h : l.length = 1) : ∃ a, l = [a] := List.length_eq_one_iff.mp h
theorem len2 {α : Type} {l : List α} (h : l.length = 2) : ∃ a b, l = [a, b] := by match l, h with | [a, b], _ => exact ⟨a, b, rfl⟩
theorem len3 {α : Type} {l : List α} (h : l.length = 3) : ∃ a b c, l = [a, b, c] := by match l, h with | [a, b, c], _ => exact ⟨a, b, c, rfl⟩
theorem len4 {α : Type} {l : List α} (h : l.length = 4) : ∃ a b c e, l = [a, b, c, e] := by match l, h with | [a, b, c, e], _ => exact ⟨a, b, c, e, rfl⟩
theorem vr73 (P : Params) (h : Heap) (X : (G.K P).In h) : VR h (.ref 73) (.tup [.str "NONE"]) := .tup (vs := [.str "NONE" 269]) (n := 0) (X 73 _ (by kernel_rfl)) (.cons (.str _ _) .nil)
noncomputable abbrev F_error : Fn := ⟨(fdOf 139).qualname, (fdOf 139).scope, some 139, (fdOf 139).code, ["text", "errorcode"], ["Raised"], [], none⟩
theorem cd_error {d : Nat} {hd : Option Addr} {H : AH} {k : AV → AH → Prop} {X : Addr → AH → Prop} {v0 v1 : AV} (h : HSs G F_error d hd (bodyOf 139) ⟨[some v0, some v1], H⟩ (fun fl σ => k fl.val σ.H) (fun a σ => X a σ.H)) : CC G (d + 1) hd (.ref 139) [v0, v1] H k X :=
  call_def (fd := fdOf 139) (F := F_error) (names := (["text", "errorcode"] : List Str)) (dvs := []) (dxs := []) (fun P => ⟨.type "function", none, #[], by kernel_rfl⟩) (fun P => by kernel_rfl) (fun L => by kernel_rfl) (by kernel_rfl) (fun P S vs hv => by obtain ⟨a, b, rfl⟩ := len2 hv; kernel_rfl) (fun P h X => .nil) (by kernel_rfl) (more := []) rfl rfl (by kernel_rfl) (by kernel_rfl) (by kernel_rfl) (by kernel_rfl) rfl h
noncomputable abbrev F_is_blank : Fn := ⟨(fdOf 181).qualname, (fdOf 181).scope, some 181, (fdOf 181).code, ["c"], [], [], none⟩
theorem cd_is_blank {d : Nat} {hd : Option Addr} {H : AH} {k : AV → AH → Prop} {X : Addr → AH → Prop} {v0 : AV} (h : HSs G F_is_blank d hd (bodyOf 181) ⟨[some v0], H⟩ (fun fl σ => k fl.val σ.H) (fun a σ => X a σ.H)) : CC G (d + 1) hd (.ref 181) [v0] H k X :=
  call_def (fd := fdOf 181) (F := F_is_blank) (names := (["c"] : List Str)) (dvs := []) (dxs := []) (fun P => ⟨.type "function", none, #[], by kernel_rfl⟩) (fun P => by kernel_rfl) (fun L => by kernel_rfl) (by kernel_rfl) (fun P S vs hv => by obtain ⟨a, rfl⟩ := len1 hv; kernel_rfl) (fun P h X => .nil) (by kernel_rfl) (more := []) rfl rfl (by kernel_rfl) (by kernel_rfl) (by kernel_rfl) (by kernel_rfl) rfl h
noncomputable abbrev F_digit : Fn := ⟨(fdOf 188).qualname, (fdOf 188).scope, some 188, (fdOf 188).code, ["c", "n"], ["len", "ord"], [], none⟩
theorem cd_digit {d : Nat} {hd : Option Addr} {H : AH} {k : AV → AH → Prop} {X : Addr → AH → Prop} {v0 : AV} (h : HSs G F_digit d hd (bodyOf 188) ⟨[some v0, none], H⟩ (fun fl σ => k fl.val σ.H) (fun a σ => X a σ.H)) : CC G (d + 1) hd (.ref 188) [v0] H k X :=
  call_def (fd := fdOf 188) (F := F_digit) (names := (["c"] : List Str)) (dvs := []) (dxs := []) (fun P => ⟨.type "function", none, #[], by kernel_rfl⟩) (fun P => by kernel_rfl) (fun L => by kernel_rfl) (by kernel_rfl) (fun P S vs hv => by obtain ⟨a, rfl⟩ := len1 hv; kernel_rfl) (fun P h X => .nil) (by kernel_rfl) (more := ["n"]) rfl rfl (by kernel_rfl) (by kernel_rfl) (by kernel_rfl) (by kernel_rfl) rfl h
noncomputable abbrev F_digits_value : Fn := ⟨(fdOf 195).qualname, (fdOf 195).scope, some 195, (fdOf 195).code, ["text", "base", "value", "c", "n"], ["digit"], [], none⟩
theorem cd_digits_value {d : Nat} {hd : Option Addr} {H : AH} {k : AV → AH → Prop} {X : Addr → AH → Prop} {v0 v1 : AV} (h : HSs G F_digits_value d hd (bodyOf 195) ⟨[some v0, some v1, none, none, none], H⟩ (fun fl σ => k fl.val σ.H) (fun a σ => X a σ.H)) : CC G (d + 1) hd (.ref 195) [v0, v1] H k X :=
  call_def (fd := fdOf 195) (F := F_digits_value) (names := (["text", "base"] : List Str)) (dvs := []) (dxs := []) (fun P => ⟨.type "function", none, #[], by kernel_rfl⟩) (fun P => by kernel_rfl) (fun L => by kernel_rfl) (by kernel_rfl) (fun P S vs hv => by obtain ⟨a, b, rfl⟩ := len2 hv; kernel_rfl) (fun P h X => .nil) (by kernel_rfl) (more := ["value", "c", "n"]) rfl rfl (by kernel_rfl) (by kernel_rfl) (by kernel_rfl) (by kernel_rfl) rfl h
noncomputable abbrev F_base_of : Fn := ⟨(fdOf 202).qualname, (fdOf 202).scope, some 202, (fdOf 202).code, ["mark"], [], [], none⟩
noncomputable abbrev F_whole_of : Fn := ⟨(fdOf 209).qualname, (fdOf 209).scope, some 209, (fdOf 209).code, ["text", "first", "behind", "is_minus", "base", "value"], ["len", "is_blank", "base_of", "digits_value"], [], none⟩
theorem cd_whole_of {d : Nat} {hd : Option Addr} {H : AH} {k : AV → AH → Prop} {X : Addr → AH → Prop} {v0 : AV} (h : HSs G F_whole_of d hd (bodyOf 209) ⟨[some v0, none, none, none, none, none], H⟩ (fun fl σ => k fl.val σ.H) (fun a σ => X a σ.H)) : CC G (d + 1) hd (.ref 209) [v0] H k X :=
  call_def (fd := fdOf 209) (F := F_whole_of) (names := (["text"] : List Str)) (dvs := []) (dxs := []) (fun P => ⟨.type "function", none, #[], by kernel_rfl⟩) (fun P => by kernel_rfl) (fun L => by kernel_rfl) (by kernel_rfl) (fun P S vs hv => by obtain ⟨a, rfl⟩ := len1 hv; kernel_rfl) (fun P h X => .nil) (by kernel_rfl) (more := ["first", "behind", "is_minus", "base", "value"]) rfl rfl (by kernel_rfl) (by kernel_rfl) (by kernel_rfl) (by kernel_rfl) rfl h
noncomputable abbrev F_bool_of : Fn := ⟨(fdOf 216).qualname, (fdOf 216).scope, some 216, (fdOf 216).code, ["text", "value", "low", "word"], ["whole_of"], [], none⟩
theorem cd_bool_of {d : Nat} {hd : Option Addr} {H : AH} {k : AV → AH → Prop} {X : Addr → AH → Prop} {v0 : AV} (h : HSs G F_bool_of d hd (bodyOf 216) ⟨[some v0, none, none, none], H⟩ (fun fl σ => k fl.val σ.H) (fun a σ => X a σ.H)) : CC G (d + 1) hd (.ref 216) [v0] H k X :=
  call_def (fd := fdOf 216) (F := F_bool_of) (names := (["text"] : List Str)) (dvs := []) (dxs := []) (fun P => ⟨.type "function", none, #[], by kernel_rfl⟩) (fun P => by kernel_rfl) (fun L => by kernel_rfl) (by kernel_rfl) (fun P S vs hv => by obtain ⟨a, rfl⟩ := len1 hv; kernel_rfl) (fun P h X => .nil) (by kernel_rfl) (more := ["value", "low", "word"]) rfl rfl (by kernel_rfl) (by kernel_rfl) (by kernel_rfl) (by kernel_rfl) rfl h
noncomputable abbrev F_need_bool : Fn := ⟨(fdOf 223).qualname, (fdOf 223).scope, some 223, (fdOf 223).code, ["text", "value"], ["bool_of", "error"], [], none⟩
theorem cd_need_bool {d : Nat} {hd : Option Addr} {H : AH} {k : AV → AH → Prop} {X : Addr → AH → Prop} {v0 : AV} (h : HSs G F_need_bool d hd (bodyOf 223) ⟨[some v0, none], H⟩ (fun fl σ => k fl.val σ.H) (fun a σ => X a σ.H)) : CC G (d + 1) hd (.ref 223) [v0] H k X :=
  call_def (fd := fdOf 223) (F := F_need_bool) (names := (["text"] : List Str)) (dvs := []) (dxs := []) (fun P => ⟨.type "function", none, #[], by kernel_rfl⟩) (fun P => by kernel_rfl) (fun L => by kernel_rfl) (by kernel_rfl) (fun P S vs hv => by obtain ⟨a, rfl⟩ := len1 hv; kernel_rfl) (fun P h X => .nil) (by kernel_rfl) (more := ["value"]) rfl rfl (by kernel_rfl) (by kernel_rfl) (by kernel_rfl) (by kernel_rfl) rfl h
noncomputable abbrev F_truth : Fn := ⟨(fdOf 230).qualname, (fdOf 230).scope, some 230, (fdOf 230).code, ["host", "text", "run"], ["need_bool"], [], none⟩
theorem cd_truth {d : Nat} {hd : Option Addr} {H : AH} {k : AV → AH → Prop} {X : Addr → AH → Prop} {v0 v1 : AV} (h : HSs G F_truth d hd (bodyOf 230) ⟨[some v0, some v1, none], H⟩ (fun fl σ => k fl.val σ.H) (fun a σ => X a σ.H)) : CC G (d + 1) hd (.ref 230) [v0, v1] H k X :=
  call_def (fd := fdOf 230) (F := F_truth) (names := (["host", "text"] : List Str)) (dvs := []) (dxs := []) (fun P => ⟨.type "function", none, #[], by kernel_rfl⟩) (fun P => by kernel_rfl) (fun L => by kernel_rfl) (by kernel_rfl) (fun P S vs hv => by obtain ⟨a, b, rfl⟩ := len2 hv; kernel_rfl) (fun P h X => .nil) (by kernel_rfl) (more := ["run"]) rfl rfl (by kernel_rfl) (by kernel_rfl) (by kernel_rfl) (by kernel_rfl) rfl h
noncomputable abbrev F_bad_if : Fn := ⟨(fdOf 258).qualname, (fdOf 258).scope, some 258, (fdOf 258).code, ["text"], ["error"], [], none⟩
theorem cd_bad_if {d : Nat} {hd : Option Addr} {H : AH} {k : AV → AH → Prop} {X : Addr → AH → Prop} {v0 : AV} (h : HSs G F_bad_if d hd (bodyOf 258) ⟨[some v0], H⟩ (fun fl σ => k fl.val σ.H) (fun a σ => X a σ.H)) : CC G (d + 1) hd (.ref 258) [v0] H k X :=
  call_def (fd := fdOf 258) (F := F_bad_if) (names := (["text"] : List Str)) (dvs := []) (dxs := []) (fun P => ⟨.type "function", none, #[], by kernel_rfl⟩) (fun P => by kernel_rfl) (fun L => by kernel_rfl) (by kernel_rfl) (fun P S vs hv => by obtain ⟨a, rfl⟩ := len1 hv; kernel_rfl) (fun P h X => .nil) (by kernel_rfl) (more := []) rfl rfl (by kernel_rfl) (by kernel_rfl) (by kernel_rfl) (by kernel_rfl) rfl h
noncomputable abbrev F_script_place : Fn := ⟨(fdOf 265).qualname, (fdOf 265).scope, some 265, (fdOf 265).code, ["words", "at"], ["len", "bad_if"], [], none⟩
theorem cd_script_place {d : Nat} {hd : Option Addr} {H : AH} {k : AV → AH → Prop} {X : Addr → AH → Prop} {v0 v1 : AV} (h : HSs G F_script_place d hd (bodyOf 265) ⟨[some v0, some v1], H⟩ (fun fl σ => k fl.val σ.H) (fun a σ => X a σ.H)) : CC G (d + 1) hd (.ref 265) [v0, v1] H k X :=
  call_def (fd := fdOf 265) (F := F_script_place) (names := (["words", "at"] : List Str)) (dvs := []) (dxs := []) (fun P => ⟨.type "function", none, #[], by kernel_rfl⟩) (fun P => by kernel_rfl) (fun L => by kernel_rfl) (by kernel_rfl) (fun P S vs hv => by obtain ⟨a, b, rfl⟩ := len2 hv; kernel_rfl) (fun P h X => .nil) (by kernel_rfl) (more := []) rfl rfl (by kernel_rfl) (by kernel_rfl) (by kernel_rfl) (by kernel_rfl) rfl h
noncomputable abbrev F_else_script : Fn := ⟨(fdOf 272).qualname, (fdOf 272).scope, some 272, (fdOf 272).code, ["words", "at"], ["len", "bad_if"], [], none⟩
theorem cd_else_script {d : Nat} {hd : Option Addr} {H : AH} {k : AV → AH → Prop} {X : Addr → AH → Prop} {v0 v1 : AV} (h : HSs G F_else_script d hd (bodyOf 272) ⟨[some v0, some v1], H⟩ (fun fl σ => k fl.val σ.H) (fun a σ => X a σ.H)) : CC G (d + 1) hd (.ref 272) [v0, v1] H k X :=
  call_def (fd := fdOf 272) (F := F_else_script) (names := (["words", "at"] : List Str)) (dvs := []) (dxs := []) (fun P => ⟨.type "function", none, #[], by kernel_rfl⟩) (fun P => by kernel_rfl) (fun L => by kernel_rfl) (by kernel_rfl) (fun P S vs hv => by obtain ⟨a, b, rfl⟩ := len2 hv; kernel_rfl) (fun P h X => .nil) (by kernel_rfl) (more := []) rfl rfl (by kernel_rfl) (by kernel_rfl) (by kernel_rfl) (by kernel_rfl) rfl h
noncomputable abbrev F_branch_of : Fn := ⟨(fdOf 279).qualname, (fdOf 279).scope, some 279, (fdOf 279).code, ["host", "words", "chosen", "at", "is_clause", "is_so", "other"], ["len", "bad_if", "truth", "script_place", "else_script"], [], none⟩
theorem cd_branch_of {d : Nat} {hd : Option Addr} {H : AH} {k : AV → AH → Prop} {X : Addr → AH → Prop} {v0 v1 : AV} (h : HSs G F_branch_of d hd (bodyOf 279) ⟨[some v0, some v1, none, none, none, none, none], H⟩ (fun fl σ => k fl.val σ.H) (fun a σ => X a σ.H)) : CC G (d + 1) hd (.ref 279) [v0, v1] H k X :=
  call_def (fd := fdOf 279) (F := F_branch_of) (names := (["host", "words"] : List Str)) (dvs := []) (dxs := []) (fun P => ⟨.type "function", none, #[], by kernel_rfl⟩) (fun P => by kernel_rfl) (fun L => by kernel_rfl) (by kernel_rfl) (fun P S vs hv => by obtain ⟨a, b, rfl⟩ := len2 hv; kernel_rfl) (fun P h X => .nil) (by kernel_rfl) (more := ["chosen", "at", "is_clause", "is_so", "other"]) rfl rfl (by kernel_rfl) (by kernel_rfl) (by kernel_rfl) (by kernel_rfl) rfl h
noncomputable abbrev F_run_if : Fn := ⟨(fdOf 286).qualname, (fdOf 286).scope, some 286, (fdOf 286).code, ["host", "words", "script"], ["branch_of", "Nest"], [], none⟩
theorem cd_run_if {d : Nat} {hd : Option Addr} {H : AH} {k : AV → AH → Prop} {X : Addr → AH → Prop} {v0 v1 : AV} (h : HSs G F_run_if d hd (bodyOf 286) ⟨[some v0, some v1, none], H⟩ (fun fl σ => k fl.val σ.H) (fun a σ => X a σ.H)) : CC G (d + 1) hd (.ref 286) [v0, v1] H k X :=
  call_def (fd := fdOf 286) (F := F_run_if) (names := (["host", "words"] : List Str)) (dvs := []) (dxs := []) (fun P => ⟨.type "function", none, #[], by kernel_rfl⟩) (fun P => by kernel_rfl) (fun L => by kernel_rfl) (by kernel_rfl) (fun P S vs hv => by obtain ⟨a, b, rfl⟩ := len2 hv; kernel_rfl) (fun P h X => .nil) (by kernel_rfl) (more := ["script"]) rfl rfl (by kernel_rfl) (by kernel_rfl) (by kernel_rfl) (by kernel_rfl) rfl h
noncomputable abbrev F_if_commands : Fn := ⟨(fdOf 300).qualname, (fdOf 300).scope, some 300, (fdOf 300).code, [], ["run_if", "run_eval"], [], none⟩
theorem cd_if_commands {d : Nat} {hd : Option Addr} {H : AH} {k : AV → AH → Prop} {X : Addr → AH → Prop} (h : HSs G F_if_commands d hd (bodyOf 300) ⟨[], H⟩ (fun fl σ => k fl.val σ.H) (fun a σ => X a σ.H)) : CC G (d + 1) hd (.ref 300) [] H k X :=
  call_def (fd := fdOf 300) (F := F_if_commands) (names := ([] : List Str)) (dvs := []) (dxs := []) (fun P => ⟨.type "function", none, #[], by kernel_rfl⟩) (fun P => by kernel_rfl) (fun L => by kernel_rfl) (by kernel_rfl) (fun P S vs hv => by obtain rfl := List.length_eq_zero_iff.mp hv; kernel_rfl) (fun P h X => .nil) (by kernel_rfl) (more := []) rfl rfl (by kernel_rfl) (by kernel_rfl) (by kernel_rfl) (by kernel_rfl) rfl h
noncomputable abbrev F_pair_of : Fn := ⟨(fdOf 441).qualname, (fdOf 441).scope, some 441, (fdOf 441).code, ["entry"], ["isinstance", "tuple"], [], none⟩
theorem cd_pair_of {d : Nat} {hd : Option Addr} {H : AH} {k : AV → AH → Prop} {X : Addr → AH → Prop} {v0 : AV} (h : HSs G F_pair_of d hd (bodyOf 441) ⟨[some v0], H⟩ (fun fl σ => k fl.val σ.H) (fun a σ => X a σ.H)) : CC G (d + 1) hd (.ref 441) [v0] H k X :=
  call_def (fd := fdOf 441) (F := F_pair_of) (names := (["entry"] : List Str)) (dvs := []) (dxs := []) (fun P => ⟨.type "function", none, #[], by kernel_rfl⟩) (fun P => by kernel_rfl) (fun L => by kernel_rfl) (by kernel_rfl) (fun P S vs hv => by obtain ⟨a, rfl⟩ := len1 hv; kernel_rfl) (fun P h X => .nil) (by kernel_rfl) (more := []) rfl rfl (by kernel_rfl) (by kernel_rfl) (by kernel_rfl) (by kernel_rfl) rfl h
noncomputable abbrev F_act : Fn := ⟨(fdOf 448).qualname, (fdOf 448).scope, some 448, (fdOf 448).code, ["host", "words", "action", "data"], [], [], none⟩
theorem cd_act {d : Nat} {hd : Option Addr} {H : AH} {k : AV → AH → Prop} {X : Addr → AH → Prop} {v0 v1 v2 v3 : AV} (h : HSs G F_act d hd (bodyOf 448) ⟨[some v0, some v1, some v2, some v3], H⟩ (fun fl σ => k fl.val σ.H) (fun a σ => X a σ.H)) : CC G (d + 1) hd (.ref 448) [v0, v1, v2, v3] H k X :=
  call_def (fd := fdOf 448) (F := F_act) (names := (["host", "words", "action", "data"] : List Str)) (dvs := []) (dxs := []) (fun P => ⟨.type "function", none, #[], by kernel_rfl⟩) (fun P => by kernel_rfl) (fun L => by kernel_rfl) (by kernel_rfl) (fun P S vs hv => by obtain ⟨a, b, c, e, rfl⟩ := len4 hv; kernel_rfl) (fun P h X => .nil) (by kernel_rfl) (more := []) rfl rfl (by kernel_rfl) (by kernel_rfl) (by kernel_rfl) (by kernel_rfl) rfl h
noncomputable abbrev F_law_take : Fn := ⟨(fdOf 574).qualname, (fdOf 574).scope, some 574, (fdOf 574).code, ["pen", "many", "base", "drawn"], ["len"], [], none⟩
theorem cd_law_take {d : Nat} {hd : Option Addr} {H : AH} {k : AV → AH → Prop} {X : Addr → AH → Prop} {v0 v1 : AV} (h : HSs G F_law_take d hd (bodyOf 574) ⟨[some v0, some v1, none, none], H⟩ (fun fl σ => k fl.val σ.H) (fun a σ => X a σ.H)) : CC G (d + 1) hd (.ref 574) [v0, v1] H k X :=
  call_def (fd := fdOf 574) (F := F_law_take) (names := (["pen", "many"] : List Str)) (dvs := []) (dxs := []) (fun P => ⟨.type "function", none, #[], by kernel_rfl⟩) (fun P => by kernel_rfl) (fun L => by kernel_rfl) (by kernel_rfl) (fun P S vs hv => by obtain ⟨a, b, rfl⟩ := len2 hv; kernel_rfl) (fun P h X => .nil) (by kernel_rfl) (more := ["base", "drawn"]) rfl rfl (by kernel_rfl) (by kernel_rfl) (by kernel_rfl) (by kernel_rfl) rfl h
noncomputable abbrev F_law_words : Fn := ⟨(fdOf 581).qualname, (fdOf 581).scope, some 581, (fdOf 581).code, [], [], [], none⟩
theorem cd_law_words {d : Nat} {hd : Option Addr} {H : AH} {k : AV → AH → Prop} {X : Addr → AH → Prop} (h : HSs G F_law_words d hd (bodyOf 581) ⟨[], H⟩ (fun fl σ => k fl.val σ.H) (fun a σ => X a σ.H)) : CC G (d + 1) hd (.ref 581) [] H k X :=
  call_def (fd := fdOf 581) (F := F_law_words) (names := ([] : List Str)) (dvs := []) (dxs := []) (fun P => ⟨.type "function", none, #[], by kernel_rfl⟩) (fun P => by kernel_rfl) (fun L => by kernel_rfl) (by kernel_rfl) (fun P S vs hv => by obtain rfl := List.length_eq_zero_iff.mp hv; kernel_rfl) (fun P h X => .nil) (by kernel_rfl) (more := []) rfl rfl (by kernel_rfl) (by kernel_rfl) (by kernel_rfl) (by kernel_rfl) rfl h
noncomputable abbrev F_law_chains : Fn := ⟨(fdOf 588).qualname, (fdOf 588).scope, some 588, (fdOf 588).code, [], [], [], none⟩
theorem cd_law_chains {d : Nat} {hd : Option Addr} {H : AH} {k : AV → AH → Prop} {X : Addr → AH → Prop} (h : HSs G F_law_chains d hd (bodyOf 588) ⟨[], H⟩ (fun fl σ => k fl.val σ.H) (fun a σ => X a σ.H)) : CC G (d + 1) hd (.ref 588) [] H k X :=
  call_def (fd := fdOf 588) (F := F_law_chains) (names := ([] : List Str)) (dvs := []) (dxs := []) (fun P => ⟨.type "function", none, #[], by kernel_rfl⟩) (fun P => by kernel_rfl) (fun L => by kernel_rfl) (by kernel_rfl) (fun P S vs hv => by obtain rfl := List.length_eq_zero_iff.mp hv; kernel_rfl) (fun P h X => .nil) (by kernel_rfl) (more := []) rfl rfl (by kernel_rfl) (by kernel_rfl) (by kernel_rfl) (by kernel_rfl) rfl h
noncomputable abbrev F_law_tests : Fn := ⟨(fdOf 595).qualname, (fdOf 595).scope, some 595, (fdOf 595).code, [], [], [], none⟩
theorem cd_law_tests {d : Nat} {hd : Option Addr} {H : AH} {k : AV → AH → Prop} {X : Addr → AH → Prop} (h : HSs G F_law_tests d hd (bodyOf 595) ⟨[], H⟩ (fun fl σ => k fl.val σ.H) (fun a σ => X a σ.H)) : CC G (d + 1) hd (.ref 595) [] H k X :=
  call_def (fd := fdOf 595) (F := F_law_tests) (names := ([] : List Str)) (dvs := []) (dxs := []) (fun P => ⟨.type "function", none, #[], by kernel_rfl⟩) (fun P => by kernel_rfl) (fun L => by kernel_rfl) (by kernel_rfl) (fun P S vs hv => by obtain rfl := List.length_eq_zero_iff.mp hv; kernel_rfl) (fun P h X => .nil) (by kernel_rfl) (more := []) rfl rfl (by kernel_rfl) (by kernel_rfl) (by kernel_rfl) (by kernel_rfl) rfl h
noncomputable abbrev F_law_scripts : Fn := ⟨(fdOf 602).qualname, (fdOf 602).scope, some 602, (fdOf 602).code, [], [], [], none⟩
theorem cd_law_scripts {d : Nat} {hd : Option Addr} {H : AH} {k : AV → AH → Prop} {X : Addr → AH → Prop} (h : HSs G F_law_scripts d hd (bodyOf 602) ⟨[], H⟩ (fun fl σ => k fl.val σ.H) (fun a σ => X a σ.H)) : CC G (d + 1) hd (.ref 602) [] H k X :=
  call_def (fd := fdOf 602) (F := F_law_scripts) (names := ([] : List Str)) (dvs := []) (dxs := []) (fun P => ⟨.type "function", none, #[], by kernel_rfl⟩) (fun P => by kernel_rfl) (fun L => by kernel_rfl) (by kernel_rfl) (fun P S vs hv => by obtain rfl := List.length_eq_zero_iff.mp hv; kernel_rfl) (fun P h X => .nil) (by kernel_rfl) (more := []) rfl rfl (by kernel_rfl) (by kernel_rfl) (by kernel_rfl) (by kernel_rfl) rfl h
noncomputable abbrev F_law_truth : Fn := ⟨(fdOf 609).qualname, (fdOf 609).scope, some 609, (fdOf 609).code, ["value", "known"], [], [], none⟩
theorem cd_law_truth {d : Nat} {hd : Option Addr} {H : AH} {k : AV → AH → Prop} {X : Addr → AH → Prop} {v0 : AV} (h : HSs G F_law_truth d hd (bodyOf 609) ⟨[some v0, none], H⟩ (fun fl σ => k fl.val σ.H) (fun a σ => X a σ.H)) : CC G (d + 1) hd (.ref 609) [v0] H k X :=
  call_def (fd := fdOf 609) (F := F_law_truth) (names := (["value"] : List Str)) (dvs := []) (dxs := []) (fun P => ⟨.type "function", none, #[], by kernel_rfl⟩) (fun P => by kernel_rfl) (fun L => by kernel_rfl) (by kernel_rfl) (fun P S vs hv => by obtain ⟨a, rfl⟩ := len1 hv; kernel_rfl) (fun P h X => .nil) (by kernel_rfl) (more := ["known"]) rfl rfl (by kernel_rfl) (by kernel_rfl) (by kernel_rfl) (by kernel_rfl) rfl h
noncomputable abbrev F_law_due : Fn := ⟨(fdOf 616).qualname, (fdOf 616).scope, some 616, (fdOf 616).code, ["words", "tests", "asked", "script", "state", "ahead", "is_found", "one", "code", "value", "why", "is_now", "last"], ["_law_truth", "_law_wrong"], [], none⟩
theorem cd_law_due {d : Nat} {hd : Option Addr} {H : AH} {k : AV → AH → Prop} {X : Addr → AH → Prop} {v0 v1 : AV} (h : HSs G F_law_due d hd (bodyOf 616) ⟨[some v0, some v1, none, none, none, none, none, none, none, none, none, none, none], H⟩ (fun fl σ => k fl.val σ.H) (fun a σ => X a σ.H)) : CC G (d + 1) hd (.ref 616) [v0, v1] H k X :=
  call_def (fd := fdOf 616) (F := F_law_due) (names := (["words", "tests"] : List Str)) (dvs := []) (dxs := []) (fun P => ⟨.type "function", none, #[], by kernel_rfl⟩) (fun P => by kernel_rfl) (fun L => by kernel_rfl) (by kernel_rfl) (fun P S vs hv => by obtain ⟨a, b, rfl⟩ := len2 hv; kernel_rfl) (fun P h X => .nil) (by kernel_rfl) (more := ["asked", "script", "state", "ahead", "is_found", "one", "code", "value", "why", "is_now", "last"]) rfl rfl (by kernel_rfl) (by kernel_rfl) (by kernel_rfl) (by kernel_rfl) rfl h
noncomputable abbrev F_law_wrong : Fn := ⟨(fdOf 623).qualname, (fdOf 623).scope, some 623, (fdOf 623).code, ["why"], [], [], none⟩
theorem cd_law_wrong {d : Nat} {hd : Option Addr} {H : AH} {k : AV → AH → Prop} {X : Addr → AH → Prop} {v0 : AV} (h : HSs G F_law_wrong d hd (bodyOf 623) ⟨[some v0], H⟩ (fun fl σ => k fl.val σ.H) (fun a σ => X a σ.H)) : CC G (d + 1) hd (.ref 623) [v0] H k X :=
  call_def (fd := fdOf 623) (F := F_law_wrong) (names := (["why"] : List Str)) (dvs := []) (dxs := []) (fun P => ⟨.type "function", none, #[], by kernel_rfl⟩) (fun P => by kernel_rfl) (fun L => by kernel_rfl) (by kernel_rfl) (fun P S vs hv => by obtain ⟨a, rfl⟩ := len1 hv; kernel_rfl) (fun P h X => .nil) (by kernel_rfl) (more := []) rfl rfl (by kernel_rfl) (by kernel_rfl) (by kernel_rfl) (by kernel_rfl) rfl h
noncomputable abbrev F_law_clauses : Fn := ⟨(fdOf 630).qualname, (fdOf 630).scope, some 630, (fdOf 630).code, ["words", "clauses", "at", "last", "behind"], ["len"], [], none⟩
theorem cd_law_clauses {d : Nat} {hd : Option Addr} {H : AH} {k : AV → AH → Prop} {X : Addr → AH → Prop} {v0 : AV} (h : HSs G F_law_clauses d hd (bodyOf 630) ⟨[some v0, none, none, none, none], H⟩ (fun fl σ => k fl.val σ.H) (fun a σ => X a σ.H)) : CC G (d + 1) hd (.ref 630) [v0] H k X :=
  call_def (fd := fdOf 630) (F := F_law_clauses) (names := (["words"] : List Str)) (dvs := []) (dxs := []) (fun P => ⟨.type "function", none, #[], by kernel_rfl⟩) (fun P => by kernel_rfl) (fun L => by kernel_rfl) (by kernel_rfl) (fun P S vs hv => by obtain ⟨a, rfl⟩ := len1 hv; kernel_rfl) (fun P h X => .nil) (by kernel_rfl) (more := ["clauses", "at", "last", "behind"]) rfl rfl (by kernel_rfl) (by kernel_rfl) (by kernel_rfl) (by kernel_rfl) rfl h
noncomputable abbrev F_law_expr : Fn := ⟨(fdOf 637).qualname, (fdOf 637).scope, some 637, (fdOf 637).code, ["host", "text", "code", "value"], ["Raised"], [], none⟩
theorem cd_law_expr {d : Nat} {hd : Option Addr} {H : AH} {k : AV → AH → Prop} {X : Addr → AH → Prop} {v0 v1 : AV} (h : HSs G F_law_expr d hd (bodyOf 637) ⟨[some v0, some v1, none, none], H⟩ (fun fl σ => k fl.val σ.H) (fun a σ => X a σ.H)) : CC G (d + 1) hd (.ref 637) [v0, v1] H k X :=
  call_def (fd := fdOf 637) (F := F_law_expr) (names := (["host", "text"] : List Str)) (dvs := []) (dxs := []) (fun P => ⟨.type "function", none, #[], by kernel_rfl⟩) (fun P => by kernel_rfl) (fun L => by kernel_rfl) (by kernel_rfl) (fun P S vs hv => by obtain ⟨a, b, rfl⟩ := len2 hv; kernel_rfl) (fun P h X => .nil) (by kernel_rfl) (more := ["code", "value"]) rfl rfl (by kernel_rfl) (by kernel_rfl) (by kernel_rfl) (by kernel_rfl) rfl h
noncomputable abbrev F_law_run : Fn := ⟨(fdOf 644).qualname, (fdOf 644).scope, some 644, (fdOf 644).code, ["host", "script", "code", "value"], ["Raised"], [], none⟩
theorem cd_law_run {d : Nat} {hd : Option Addr} {H : AH} {k : AV → AH → Prop} {X : Addr → AH → Prop} {v0 v1 : AV} (h : HSs G F_law_run d hd (bodyOf 644) ⟨[some v0, some v1, none, none], H⟩ (fun fl σ => k fl.val σ.H) (fun a σ => X a σ.H)) : CC G (d + 1) hd (.ref 644) [v0, v1] H k X :=
  call_def (fd := fdOf 644) (F := F_law_run) (names := (["host", "script"] : List Str)) (dvs := []) (dxs := []) (fun P => ⟨.type "function", none, #[], by kernel_rfl⟩) (fun P => by kernel_rfl) (fun L => by kernel_rfl) (by kernel_rfl) (fun P S vs hv => by obtain ⟨a, b, rfl⟩ := len2 hv; kernel_rfl) (fun P h X => .nil) (by kernel_rfl) (more := ["code", "value"]) rfl rfl (by kernel_rfl) (by kernel_rfl) (by kernel_rfl) (by kernel_rfl) rfl h
noncomputable abbrev F_law_host : Fn := ⟨(fdOf 651).qualname, (fdOf 651).scope, some 651, (fdOf 651).code, ["tests", "ends", "host"], ["SmallHost", "_law_run", "_law_expr", "if_commands"], [], none⟩
theorem cd_law_host {d : Nat} {hd : Option Addr} {H : AH} {k : AV → AH → Prop} {X : Addr → AH → Prop} {v0 v1 : AV} (h : HSs G F_law_host d hd (bodyOf 651) ⟨[some v0, some v1, none], H⟩ (fun fl σ => k fl.val σ.H) (fun a σ => X a σ.H)) : CC G (d + 1) hd (.ref 651) [v0, v1] H k X :=
  call_def (fd := fdOf 651) (F := F_law_host) (names := (["tests", "ends"] : List Str)) (dvs := []) (dxs := []) (fun P => ⟨.type "function", none, #[], by kernel_rfl⟩) (fun P => by kernel_rfl) (fun L => by kernel_rfl) (by kernel_rfl) (fun P S vs hv => by obtain ⟨a, b, rfl⟩ := len2 hv; kernel_rfl) (fun P h X => .nil) (by kernel_rfl) (more := ["host"]) rfl rfl (by kernel_rfl) (by kernel_rfl) (by kernel_rfl) (by kernel_rfl) rfl h
noncomputable abbrev F_law_called : Fn := ⟨(fdOf 658).qualname, (fdOf 658).scope, some 658, (fdOf 658).code, ["host", "words", "fault"], ["Raised"], [], none⟩
theorem cd_law_called {d : Nat} {hd : Option Addr} {H : AH} {k : AV → AH → Prop} {X : Addr → AH → Prop} {v0 v1 : AV} (h : HSs G F_law_called d hd (bodyOf 658) ⟨[some v0, some v1, none], H⟩ (fun fl σ => k fl.val σ.H) (fun a σ => X a σ.H)) : CC G (d + 1) hd (.ref 658) [v0, v1] H k X :=
  call_def (fd := fdOf 658) (F := F_law_called) (names := (["host", "words"] : List Str)) (dvs := []) (dxs := []) (fun P => ⟨.type "function", none, #[], by kernel_rfl⟩) (fun P => by kernel_rfl) (fun L => by kernel_rfl) (by kernel_rfl) (fun P S vs hv => by obtain ⟨a, b, rfl⟩ := len2 hv; kernel_rfl) (fun P h X => .nil) (by kernel_rfl) (more := ["fault"]) rfl rfl (by kernel_rfl) (by kernel_rfl) (by kernel_rfl) (by kernel_rfl) rfl h
noncomputable abbrev F_law_nested : Fn := ⟨(fdOf 665).qualname, (fdOf 665).scope, some 665, (fdOf 665).code, ["host", "clauses", "last", "nest", "inner", "k"], ["range", "len", "str"], [], none⟩
theorem cd_law_nested {d : Nat} {hd : Option Addr} {H : AH} {k : AV → AH → Prop} {X : Addr → AH → Prop} {v0 v1 v2 : AV} (h : HSs G F_law_nested d hd (bodyOf 665) ⟨[some v0, some v1, some v2, none, none, none], H⟩ (fun fl σ => k fl.val σ.H) (fun a σ => X a σ.H)) : CC G (d + 1) hd (.ref 665) [v0, v1, v2] H k X :=
  call_def (fd := fdOf 665) (F := F_law_nested) (names := (["host", "clauses", "last"] : List Str)) (dvs := []) (dxs := []) (fun P => ⟨.type "function", none, #[], by kernel_rfl⟩) (fun P => by kernel_rfl) (fun L => by kernel_rfl) (by kernel_rfl) (fun P S vs hv => by obtain ⟨a, b, c, rfl⟩ := len3 hv; kernel_rfl) (fun P h X => .nil) (by kernel_rfl) (more := ["nest", "inner", "k"]) rfl rfl (by kernel_rfl) (by kernel_rfl) (by kernel_rfl) (by kernel_rfl) rfl h
noncomputable abbrev F_law_case_is_right : Fn := ⟨(fdOf 670).qualname, (fdOf 670).scope, some 670, (fdOf 670).code, ["words", "tests", "ends", "asked", "script", "fault", "log", "host", "got", "raised", "due", "clauses", "last"], ["_law_due", "_law_host", "branch_of", "Raised", "_law_called", "_law_clauses", "_law_nested"], [], none⟩
theorem cd_law_case_is_right {d : Nat} {hd : Option Addr} {H : AH} {k : AV → AH → Prop} {X : Addr → AH → Prop} {v0 v1 v2 : AV} (h : HSs G F_law_case_is_right d hd (bodyOf 670) ⟨[some v0, some v1, some v2, none, none, none, none, none, none, none, none, none, none], H⟩ (fun fl σ => k fl.val σ.H) (fun a σ => X a σ.H)) : CC G (d + 1) hd (.ref 670) [v0, v1, v2] H k X :=
  call_def (fd := fdOf 670) (F := F_law_case_is_right) (names := (["words", "tests", "ends"] : List Str)) (dvs := []) (dxs := []) (fun P => ⟨.type "function", none, #[], by kernel_rfl⟩) (fun P => by kernel_rfl) (fun L => by kernel_rfl) (by kernel_rfl) (fun P S vs hv => by obtain ⟨a, b, c, rfl⟩ := len3 hv; kernel_rfl) (fun P h X => .nil) (by kernel_rfl) (more := ["asked", "script", "fault", "log", "host", "got", "raised", "due", "clauses", "last"]) rfl rfl (by kernel_rfl) (by kernel_rfl) (by kernel_rfl) (by kernel_rfl) rfl h
noncomputable abbrev F_Raised_init : Fn := ⟨(fdOf 81).qualname, (fdOf 81).scope, some 81, (fdOf 81).code, ["self", "code", "value", "errorcode", "level", "ret"], ["Exception"], [], none⟩
theorem cd_Raised_init2 {d : Nat} {hd : Option Addr} {H : AH} {k : AV → AH → Prop} {X : Addr → AH → Prop} {v0 v1 v2 : AV} (h : HSs G F_Raised_init d hd (bodyOf 81) ⟨[some v0, some v1, some v2, some (.tup [.str "NONE"]), some (.int 0), some (.int 0)], H⟩ (fun fl σ => k fl.val σ.H) (fun a σ => X a σ.H)) : CC G (d + 1) hd (.ref 81) [v0, v1, v2] H k X :=
  call_def (fd := fdOf 81) (F := F_Raised_init) (names := (["self", "code", "value", "errorcode", "level", "ret"] : List Str)) (dvs := [.ref 73, .int 0 270, .int 0 271]) (dxs := [(.tup [.str "NONE"]), .int 0, .int 0]) (fun P => ⟨.type "function", none, #[], by kernel_rfl⟩) (fun P => by kernel_rfl) (fun L => by kernel_rfl) (by kernel_rfl) (fun P S vs hv => by obtain ⟨a, b, c, rfl⟩ := len3 hv; kernel_rfl) (fun P h X => .cons (vr73 P h X) (.cons (.int _ _) (.cons (.int _ _) .nil))) (by kernel_rfl) (more := []) rfl rfl (by kernel_rfl) (by kernel_rfl) (by kernel_rfl) (by kernel_rfl) rfl h
theorem cd_Raised_init3 {d : Nat} {hd : Option Addr} {H : AH} {k : AV → AH → Prop} {X : Addr → AH → Prop} {v0 v1 v2 v3 : AV} (h : HSs G F_Raised_init d hd (bodyOf 81) ⟨[some v0, some v1, some v2, some v3, some (.int 0), some (.int 0)], H⟩ (fun fl σ => k fl.val σ.H) (fun a σ => X a σ.H)) : CC G (d + 1) hd (.ref 81) [v0, v1, v2, v3] H k X :=
  call_def (fd := fdOf 81) (F := F_Raised_init) (names := (["self", "code", "value", "errorcode", "level", "ret"] : List Str)) (dvs := [.int 0 270, .int 0 271]) (dxs := [.int 0, .int 0]) (fun P => ⟨.type "function", none, #[], by kernel_rfl⟩) (fun P => by kernel_rfl) (fun L => by kernel_rfl) (by kernel_rfl) (fun P S vs hv => by obtain ⟨a, b, c, e, rfl⟩ := len4 hv; kernel_rfl) (fun P h X => .cons (.int _ _) (.cons (.int _ _) .nil)) (by kernel_rfl) (more := []) rfl rfl (by kernel_rfl) (by kernel_rfl) (by kernel_rfl) (by kernel_rfl) rfl h
noncomputable abbrev F_Nest_init : Fn := ⟨(fdOf 102).qualname, (fdOf 102).scope, some 102, (fdOf 102).code, ["self", "script", "back", "is_proc", "label"], [], [], none⟩
theorem cd_Nest_init {d : Nat} {hd : Option Addr} {H : AH} {k : AV → AH → Prop} {X : Addr → AH → Prop} {v0 v1 : AV} (h : HSs G F_Nest_init d hd (bodyOf 102) ⟨[some v0, some v1, some (.none), some (.bool false), some (.str "")], H⟩ (fun fl σ => k fl.val σ.H) (fun a σ => X a σ.H)) : CC G (d + 1) hd (.ref 102) [v0, v1] H k X :=
  call_def (fd := fdOf 102) (F := F_Nest_init) (names := (["self", "script", "back", "is_proc", "label"] : List Str)) (dvs := [.none, .bool false, .str "" 313]) (dxs := [.none, .bool false, .str ""]) (fun P => ⟨.type "function", none, #[], by kernel_rfl⟩) (fun P => by kernel_rfl) (fun L => by kernel_rfl) (by kernel_rfl) (fun P S vs hv => by obtain ⟨a, b, rfl⟩ := len2 hv; kernel_rfl) (fun P h X => .cons .none (.cons (.bool _) (.cons (.str _ _) .nil))) (by kernel_rfl) (more := []) rfl rfl (by kernel_rfl) (by kernel_rfl) (by kernel_rfl) (by kernel_rfl) rfl h
noncomputable abbrev F_Host_init : Fn := ⟨(fdOf 336).qualname, (fdOf 336).scope, some 336, (fdOf 336).code, ["self", "limit", "fuel"], [], [], none⟩
theorem cd_Host_init {d : Nat} {hd : Option Addr} {H : AH} {k : AV → AH → Prop} {X : Addr → AH → Prop} {v0 v1 v2 : AV} (h : HSs G F_Host_init d hd (bodyOf 336) ⟨[some v0, some v1, some v2], H⟩ (fun fl σ => k fl.val σ.H) (fun a σ => X a σ.H)) : CC G (d + 1) hd (.ref 336) [v0, v1, v2] H k X :=
  call_def (fd := fdOf 336) (F := F_Host_init) (names := (["self", "limit", "fuel"] : List Str)) (dvs := []) (dxs := []) (fun P => ⟨.type "function", none, #[], by kernel_rfl⟩) (fun P => by kernel_rfl) (fun L => by kernel_rfl) (by kernel_rfl) (fun P S vs hv => by obtain ⟨a, b, c, rfl⟩ := len3 hv; kernel_rfl) (fun P h X => .nil) (by kernel_rfl) (more := []) rfl rfl (by kernel_rfl) (by kernel_rfl) (by kernel_rfl) (by kernel_rfl) rfl h
noncomputable abbrev F_SmallHost_init : Fn := ⟨(fdOf 463).qualname, (fdOf 463).scope, some 463, (fdOf 463).code, ["self", "limit", "fuel"], ["Host"], [], none⟩
theorem cd_SmallHost_init {d : Nat} {hd : Option Addr} {H : AH} {k : AV → AH → Prop} {X : Addr → AH → Prop} {v0 : AV} (h : HSs G F_SmallHost_init d hd (bodyOf 463) ⟨[some v0, some (.int 40), some (.none)], H⟩ (fun fl σ => k fl.val σ.H) (fun a σ => X a σ.H)) : CC G (d + 1) hd (.ref 463) [v0] H k X :=
  call_def (fd := fdOf 463) (F := F_SmallHost_init) (names := (["self", "limit", "fuel"] : List Str)) (dvs := [.int 40 798, .none]) (dxs := [.int 40, .none]) (fun P => ⟨.type "function", none, #[], by kernel_rfl⟩) (fun P => by kernel_rfl) (fun L => by kernel_rfl) (by kernel_rfl) (fun P S vs hv => by obtain ⟨a, rfl⟩ := len1 hv; kernel_rfl) (fun P h X => .cons (.int _ _) (.cons .none .nil)) (by kernel_rfl) (more := []) rfl rfl (by kernel_rfl) (by kernel_rfl) (by kernel_rfl) (by kernel_rfl) rfl h
noncomputable abbrev F_Host_tool : Fn := ⟨(fdOf 343).qualname, (fdOf 343).scope, some 343, (fdOf 343).code, ["self", "name"], ["Misused"], [], none⟩
theorem cd_Host_tool {d : Nat} {hd : Option Addr} {H : AH} {k : AV → AH → Prop} {X : Addr → AH → Prop} {v0 v1 : AV} (h : HSs G F_Host_tool d hd (bodyOf 343) ⟨[some v0, some v1], H⟩ (fun fl σ => k fl.val σ.H) (fun a σ => X a σ.H)) : CC G (d + 1) hd (.ref 343) [v0, v1] H k X :=
  call_def (fd := fdOf 343) (F := F_Host_tool) (names := (["self", "name"] : List Str)) (dvs := []) (dxs := []) (fun P => ⟨.type "function", none, #[], by kernel_rfl⟩) (fun P => by kernel_rfl) (fun L => by kernel_rfl) (by kernel_rfl) (fun P S vs hv => by obtain ⟨a, b, rfl⟩ := len2 hv; kernel_rfl) (fun P h X => .nil) (by kernel_rfl) (more := []) rfl rfl (by kernel_rfl) (by kernel_rfl) (by kernel_rfl) (by kernel_rfl) rfl h
noncomputable abbrev F_Host_spend : Fn := ⟨(fdOf 350).qualname, (fdOf 350).scope, some 350, (fdOf 350).code, ["self"], ["OutOfFuel"], [], none⟩
theorem cd_Host_spend {d : Nat} {hd : Option Addr} {H : AH} {k : AV → AH → Prop} {X : Addr → AH → Prop} {v0 : AV} (h : HSs G F_Host_spend d hd (bodyOf 350) ⟨[some v0], H⟩ (fun fl σ => k fl.val σ.H) (fun a σ => X a σ.H)) : CC G (d + 1) hd (.ref 350) [v0] H k X :=
  call_def (fd := fdOf 350) (F := F_Host_spend) (names := (["self"] : List Str)) (dvs := []) (dxs := []) (fun P => ⟨.type "function", none, #[], by kernel_rfl⟩) (fun P => by kernel_rfl) (fun L => by kernel_rfl) (by kernel_rfl) (fun P S vs hv => by obtain ⟨a, rfl⟩ := len1 hv; kernel_rfl) (fun P h X => .nil) (by kernel_rfl) (more := []) rfl rfl (by kernel_rfl) (by kernel_rfl) (by kernel_rfl) (by kernel_rfl) rfl h
noncomputable abbrev F_Host_run : Fn := ⟨(fdOf 364).qualname, (fdOf 364).scope, some 364, (fdOf 364).code, ["self", "script", "runner"], ["error"], [], none⟩
theorem cd_Host_run {d : Nat} {hd : Option Addr} {H : AH} {k : AV → AH → Prop} {X : Addr → AH → Prop} {v0 v1 : AV} (h : HSs G F_Host_run d hd (bodyOf 364) ⟨[some v0, some v1, none], H⟩ (fun fl σ => k fl.val σ.H) (fun a σ => X a σ.H)) : CC G (d + 1) hd (.ref 364) [v0, v1] H k X :=
  call_def (fd := fdOf 364) (F := F_Host_run) (names := (["self", "script"] : List Str)) (dvs := []) (dxs := []) (fun P => ⟨.type "function", none, #[], by kernel_rfl⟩) (fun P => by kernel_rfl) (fun L => by kernel_rfl) (by kernel_rfl) (fun P S vs hv => by obtain ⟨a, b, rfl⟩ := len2 hv; kernel_rfl) (fun P h X => .nil) (by kernel_rfl) (more := ["runner"]) rfl rfl (by kernel_rfl) (by kernel_rfl) (by kernel_rfl) (by kernel_rfl) rfl h
noncomputable abbrev F_Host_call : Fn := ⟨(fdOf 378).qualname, (fdOf 378).scope, some 378, (fdOf 378).code, ["self", "words", "got"], ["isinstance", "Nest", "Pause", "error"], [], none⟩
theorem cd_Host_call {d : Nat} {hd : Option Addr} {H : AH} {k : AV → AH → Prop} {X : Addr → AH → Prop} {v0 v1 : AV} (h : HSs G F_Host_call d hd (bodyOf 378) ⟨[some v0, some v1, none], H⟩ (fun fl σ => k fl.val σ.H) (fun a σ => X a σ.H)) : CC G (d + 1) hd (.ref 378) [v0, v1] H k X :=
  call_def (fd := fdOf 378) (F := F_Host_call) (names := (["self", "words"] : List Str)) (dvs := []) (dxs := []) (fun P => ⟨.type "function", none, #[], by kernel_rfl⟩) (fun P => by kernel_rfl) (fun L => by kernel_rfl) (by kernel_rfl) (fun P S vs hv => by obtain ⟨a, b, rfl⟩ := len2 hv; kernel_rfl) (fun P h X => .nil) (by kernel_rfl) (more := ["got"]) rfl rfl (by kernel_rfl) (by kernel_rfl) (by kernel_rfl) (by kernel_rfl) rfl h
noncomputable abbrev F_Host_finish : Fn := ⟨(fdOf 385).qualname, (fdOf 385).scope, some 385, (fdOf 385).code, ["self", "nest", "raised"], ["Raised", "end_proc"], [], none⟩
theorem cd_Host_finish {d : Nat} {hd : Option Addr} {H : AH} {k : AV → AH → Prop} {X : Addr → AH → Prop} {v0 v1 : AV} (h : HSs G F_Host_finish d hd (bodyOf 385) ⟨[some v0, some v1, none], H⟩ (fun fl σ => k fl.val σ.H) (fun a σ => X a σ.H)) : CC G (d + 1) hd (.ref 385) [v0, v1] H k X :=
  call_def (fd := fdOf 385) (F := F_Host_finish) (names := (["self", "nest"] : List Str)) (dvs := []) (dxs := []) (fun P => ⟨.type "function", none, #[], by kernel_rfl⟩) (fun P => by kernel_rfl) (fun L => by kernel_rfl) (by kernel_rfl) (fun P S vs hv => by obtain ⟨a, b, rfl⟩ := len2 hv; kernel_rfl) (fun P h X => .nil) (by kernel_rfl) (more := ["raised"]) rfl rfl (by kernel_rfl) (by kernel_rfl) (by kernel_rfl) (by kernel_rfl) rfl h
noncomputable abbrev F_Host_leave : Fn := ⟨(fdOf 392).qualname, (fdOf 392).scope, some 392, (fdOf 392).code, ["self", "nest"], [], [], none⟩
theorem cd_Host_leave {d : Nat} {hd : Option Addr} {H : AH} {k : AV → AH → Prop} {X : Addr → AH → Prop} {v0 v1 : AV} (h : HSs G F_Host_leave d hd (bodyOf 392) ⟨[some v0, some v1], H⟩ (fun fl σ => k fl.val σ.H) (fun a σ => X a σ.H)) : CC G (d + 1) hd (.ref 392) [v0, v1] H k X :=
  call_def (fd := fdOf 392) (F := F_Host_leave) (names := (["self", "nest"] : List Str)) (dvs := []) (dxs := []) (fun P => ⟨.type "function", none, #[], by kernel_rfl⟩) (fun P => by kernel_rfl) (fun L => by kernel_rfl) (by kernel_rfl) (fun P S vs hv => by obtain ⟨a, b, rfl⟩ := len2 hv; kernel_rfl) (fun P h X => .nil) (by kernel_rfl) (more := []) rfl rfl (by kernel_rfl) (by kernel_rfl) (by kernel_rfl) (by kernel_rfl) rfl h
noncomputable abbrev F_SmallHost_put : Fn := ⟨(fdOf 534).qualname, (fdOf 534).scope, some 534, (fdOf 534).code, ["self", "name", "action", "data"], [], [], none⟩
theorem cd_SmallHost_put {d : Nat} {hd : Option Addr} {H : AH} {k : AV → AH → Prop} {X : Addr → AH → Prop} {v0 v1 v2 v3 : AV} (h : HSs G F_SmallHost_put d hd (bodyOf 534) ⟨[some v0, some v1, some v2, some v3], H⟩ (fun fl σ => k fl.val σ.H) (fun a σ => X a σ.H)) : CC G (d + 1) hd (.ref 534) [v0, v1, v2, v3] H k X :=
  call_def (fd := fdOf 534) (F := F_SmallHost_put) (names := (["self", "name", "action", "data"] : List Str)) (dvs := []) (dxs := []) (fun P => ⟨.type "function", none, #[], by kernel_rfl⟩) (fun P => by kernel_rfl) (fun L => by kernel_rfl) (by kernel_rfl) (fun P S vs hv => by obtain ⟨a, b, c, e, rfl⟩ := len4 hv; kernel_rfl) (fun P h X => .nil) (by kernel_rfl) (more := []) rfl rfl (by kernel_rfl) (by kernel_rfl) (by kernel_rfl) (by kernel_rfl) rfl h
noncomputable abbrev F_SmallHost_remove : Fn := ⟨(fdOf 541).qualname, (fdOf 541).scope, some 541, (fdOf 541).code, ["self", "name"], [], [], none⟩
theorem cd_SmallHost_remove {d : Nat} {hd : Option Addr} {H : AH} {k : AV → AH → Prop} {X : Addr → AH → Prop} {v0 v1 : AV} (h : HSs G F_SmallHost_remove d hd (bodyOf 541) ⟨[some v0, some v1], H⟩ (fun fl σ => k fl.val σ.H) (fun a σ => X a σ.H)) : CC G (d + 1) hd (.ref 541) [v0, v1] H k X :=
  call_def (fd := fdOf 541) (F := F_SmallHost_remove) (names := (["self", "name"] : List Str)) (dvs := []) (dxs := []) (fun P => ⟨.type "function", none, #[], by kernel_rfl⟩) (fun P => by kernel_rfl) (fun L => by kernel_rfl) (by kernel_rfl) (fun P S vs hv => by obtain ⟨a, b, rfl⟩ := len2 hv; kernel_rfl) (fun P h X => .nil) (by kernel_rfl) (more := []) rfl rfl (by kernel_rfl) (by kernel_rfl) (by kernel_rfl) (by kernel_rfl) rfl h
noncomputable abbrev F_SmallHost_add : Fn := ⟨(fdOf 548).qualname, (fdOf 548).scope, some 548, (fdOf 548).code, ["self", "group", "name", "action", "data"], ["pair_of"], [], none⟩
theorem cd_SmallHost_add {d : Nat} {hd : Option Addr} {H : AH} {k : AV → AH → Prop} {X : Addr → AH → Prop} {v0 v1 : AV} (h : HSs G F_SmallHost_add d hd (bodyOf 548) ⟨[some v0, some v1, none, none, none], H⟩ (fun fl σ => k fl.val σ.H) (fun a σ => X a σ.H)) : CC G (d + 1) hd (.ref 548) [v0, v1] H k X :=
  call_def (fd := fdOf 548) (F := F_SmallHost_add) (names := (["self", "group"] : List Str)) (dvs := []) (dxs := []) (fun P => ⟨.type "function", none, #[], by kernel_rfl⟩) (fun P => by kernel_rfl) (fun L => by kernel_rfl) (by kernel_rfl) (fun P S vs hv => by obtain ⟨a, b, rfl⟩ := len2 hv; kernel_rfl) (fun P h X => .nil) (by kernel_rfl) (more := ["name", "action", "data"]) rfl rfl (by kernel_rfl) (by kernel_rfl) (by kernel_rfl) (by kernel_rfl) rfl h
noncomputable abbrev F_SmallHost_begin : Fn := ⟨(fdOf 562).qualname, (fdOf 562).scope, some 562, (fdOf 562).code, ["self", "words", "action", "data"], ["error", "act"], [], none⟩
theorem cd_SmallHost_begin {d : Nat} {hd : Option Addr} {H : AH} {k : AV → AH → Prop} {X : Addr → AH → Prop} {v0 v1 : AV} (h : HSs G F_SmallHost_begin d hd (bodyOf 562) ⟨[some v0, some v1, none, none], H⟩ (fun fl σ => k fl.val σ.H) (fun a σ => X a σ.H)) : CC G (d + 1) hd (.ref 562) [v0, v1] H k X :=
  call_def (fd := fdOf 562) (F := F_SmallHost_begin) (names := (["self", "words"] : List Str)) (dvs := []) (dxs := []) (fun P => ⟨.type "function", none, #[], by kernel_rfl⟩) (fun P => by kernel_rfl) (fun L => by kernel_rfl) (by kernel_rfl) (fun P S vs hv => by obtain ⟨a, b, rfl⟩ := len2 hv; kernel_rfl) (fun P h X => .nil) (by kernel_rfl) (more := ["action", "data"]) rfl rfl (by kernel_rfl) (by kernel_rfl) (by kernel_rfl) (by kernel_rfl) rfl h
theorem excC : ExcC G 84 83 81 where
  cls := fun P => ⟨_, _, _, _, _, _, _, _, _, _, _, _, _, rfl⟩
  ns := fun P => by kernel_rfl
  init := fun P => by kernel_rfl
  fn := fun P => by kernel_rfl
theorem es_sa (P : Params) : findIn (G.K P) (.ref 84) "__setattr__" = some (some (.builtin "object.__setattr__")) := by kernel_rfl
theorem es_code : ExcSet G 84 "code" := ⟨es_sa, fun P => by kernel_rfl⟩
theorem es_value : ExcSet G 84 "value" := ⟨es_sa, fun P => by kernel_rfl⟩
theorem es_errorcode : ExcSet G 84 "errorcode" := ⟨es_sa, fun P => by kernel_rfl⟩
theorem es_level : ExcSet G 84 "level" := ⟨es_sa, fun P => by kernel_rfl⟩
theorem es_ret : ExcSet G 84 "ret" := ⟨es_sa, fun P => by kernel_rfl⟩
theorem es_info : ExcSet G 84 "info" := ⟨es_sa, fun P => by kernel_rfl⟩
theorem es_noted : ExcSet G 84 "is_noted" := ⟨es_sa, fun P => by kernel_rfl⟩
theorem es_line : ExcSet G 84 "line" := ⟨es_sa, fun P => by kernel_rfl⟩
theorem es_extra : ExcSet G 84 "extra" := ⟨es_sa, fun P => by kernel_rfl⟩
noncomputable def rEs (c v ec x : AV) : List (Str × AV) := [("code", c), ("value", v), ("errorcode", ec), ("level", .int 0), ("ret", .int 0), ("info", .str ""), ("is_noted", .bool false), ("line", .int 0), ("extra", x)]



section
variable {F : Fn} {d : Nat} {hd : Option Addr} {X : Addr → St → Prop} {σ : St}
theorem e_callg {x : Str} {np pos : Pos} {f : Addr} {es : List Expr} {k : AV → St → Prop} (e : ∀ P, nsIn (G.K P) mainGlobals x = some (some (.ref f))) (hk : keepOk G (.ref f)) (h : HEs G F d hd es σ (kCa G F d hd X (.ref f) k) X)
    (hg : HasN x F.globs := by with_reducible (repeat (first | exact HasN.head | apply HasN.tail)))
    (hp : ∀ env, (starEach es env).any (·.1) = false := by intros; with_unfolding_all rfl)
    (hf : ∀ env, eval (.Call (.Name x np) es [] pos) env = (do callWith pos (← eval (.Name x np) env) [] (backTo pos (starEach es env)) (backToKw pos (keywordEach [] env))) := by intros; with_unfolding_all rfl) : HE G F d hd (.Call (.Name x np) es [] pos) σ k X :=
  e_call (e_glob e rfl ⟨_, rfl, hk, h⟩ hg) hp hf
theorem e_callb {x : Str} {np pos : Pos} {f : Value} {av : AV} {es : List Expr} {k : AV → St → Prop} (e : ∀ P, nsIn (G.K P) mainGlobals x = some none) (e' : ∀ P, nsIn (G.K P) builtinsNs x = some (some f)) (hv : av? f = some av) (hv' : val? av = some f) (hk : keepOk G f) (h : HEs G F d hd es σ (kCa G F d hd X f k) X)
    (hg : HasN x F.globs := by with_reducible (repeat (first | exact HasN.head | apply HasN.tail)))
    (hp : ∀ env, (starEach es env).any (·.1) = false := by intros; with_unfolding_all rfl)
    (hf : ∀ env, eval (.Call (.Name x np) es [] pos) env = (do callWith pos (← eval (.Name x np) env) [] (backTo pos (starEach es env)) (backToKw pos (keywordEach [] env))) := by intros; with_unfolding_all rfl) : HE G F d hd (.Call (.Name x np) es [] pos) σ k X :=
  e_call (e_blt e e' hv ⟨_, hv', hk, h⟩ hg) hp hf
end

theorem at_565_depth (P : Params) : attrOk (G.K P) 565 "depth" = true := by kernel_rfl
theorem at_565_spent (P : Params) : attrOk (G.K P) 565 "spent" = true := by kernel_rfl
theorem st_565_tools (P : Params) : setOk (G.K P) 565 "tools" = true := by kernel_rfl
theorem st_565_inline (P : Params) : setOk (G.K P) 565 "inline" = true := by kernel_rfl
theorem st_565_limit (P : Params) : setOk (G.K P) 565 "limit" = true := by kernel_rfl
theorem st_565_fuel (P : Params) : setOk (G.K P) 565 "fuel" = true := by kernel_rfl
theorem st_565_depth (P : Params) : setOk (G.K P) 565 "depth" = true := by kernel_rfl
theorem st_565_spent (P : Params) : setOk (G.K P) 565 "spent" = true := by kernel_rfl
theorem st_565_epoch (P : Params) : setOk (G.K P) 565 "epoch" = true := by kernel_rfl
theorem st_565_frame (P : Params) : setOk (G.K P) 565 "frame" = true := by kernel_rfl
theorem st_565_coroutine (P : Params) : setOk (G.K P) 565 "coroutine" = true := by kernel_rfl
theorem st_565_vars (P : Params) : setOk (G.K P) 565 "vars" = true := by kernel_rfl
theorem st_565_commands (P : Params) : setOk (G.K P) 565 "commands" = true := by kernel_rfl
theorem st_565_firsts (P : Params) : setOk (G.K P) 565 "firsts" = true := by kernel_rfl
theorem st_105_script (P : Params) : setOk (G.K P) 105 "script" = true := by kernel_rfl
theorem st_105_back (P : Params) : setOk (G.K P) 105 "back" = true := by kernel_rfl
theorem st_105_is_proc (P : Params) : setOk (G.K P) 105 "is_proc" = true := by kernel_rfl
theorem st_105_label (P : Params) : setOk (G.K P) 105 "label" = true := by kernel_rfl
theorem me_565_tool (P : Params) : methOk (G.K P) 565 "tool" 343 = true := by kernel_rfl
theorem me_565_spend (P : Params) : methOk (G.K P) 565 "spend" 350 = true := by kernel_rfl
theorem me_565_run (P : Params) : methOk (G.K P) 565 "run" 364 = true := by kernel_rfl
theorem me_565_call (P : Params) : methOk (G.K P) 565 "call" 378 = true := by kernel_rfl
theorem me_565_finish (P : Params) : methOk (G.K P) 565 "finish" 385 = true := by kernel_rfl
theorem me_565_leave (P : Params) : methOk (G.K P) 565 "leave" 392 = true := by kernel_rfl
theorem me_565_put (P : Params) : methOk (G.K P) 565 "put" 534 = true := by kernel_rfl
theorem me_565_remove (P : Params) : methOk (G.K P) 565 "remove" 541 = true := by kernel_rfl
theorem me_565_add (P : Params) : methOk (G.K P) 565 "add" 548 = true := by kernel_rfl
theorem me_565_begin (P : Params) : methOk (G.K P) 565 "begin" 562 = true := by kernel_rfl

inductive InL {α : Type} : α → List α → Prop
  | head {x : α} {l : List α} : InL x (x :: l)
  | tail {y : α} {l : List α} {x : α} : InL x l → InL x (y :: l)
theorem InL.mem {α : Type} {x : α} {l : List α} (h : InL x l) : x ∈ l := by
  induction h with
  | head => exact .head _
  | tail _ ih => exact .tail _ ih
theorem InL.eq {α β : Type} {f g : α → β} {x : α} {l : List α} (h : InL x l) (e : l.map f = l.map g) : f x = g x := List.map_inj_left.mp e x h.mem
noncomputable abbrev glT : List (Str × Value) := ("error", .ref 139) :: ("is_blank", .ref 181) :: ("digit", .ref 188) :: ("digits_value", .ref 195) :: ("base_of", .ref 202) :: ("whole_of", .ref 209) :: ("bool_of", .ref 216) :: ("need_bool", .ref 223) :: ("truth", .ref 230) :: ("bad_if", .ref 258) :: ("script_place", .ref 265) :: ("else_script", .ref 272) :: ("branch_of", .ref 279) :: ("run_if", .ref 286) :: ("if_commands", .ref 300) :: ("pair_of", .ref 441) :: ("act", .ref 448) :: ("_law_take", .ref 574) :: ("_law_words", .ref 581) :: ("_law_chains", .ref 588) :: ("_law_tests", .ref 595) :: ("_law_scripts", .ref 602) :: ("_law_truth", .ref 609) :: ("_law_due", .ref 616) :: ("_law_wrong", .ref 623) :: ("_law_clauses", .ref 630) :: ("_law_expr", .ref 637) :: ("_law_run", .ref 644) :: ("_law_host", .ref 651) :: ("_law_called", .ref 658) :: ("_law_nested", .ref 665) :: ("_law_case_is_right", .ref 670) :: ("run_eval", .ref 293) :: ("end_proc", .ref 174) :: ("Raised", .ref 84) :: ("Nest", .ref 105) :: ("Pause", .ref 126) :: ("Host", .ref 402) :: ("SmallHost", .ref 565) :: []
noncomputable abbrev blT : List (Str × Value) := ("len", .builtin "len") :: ("sum", .builtin "sum") :: ("isinstance", .builtin "isinstance") :: ("ord", .builtin "ord") :: ("range", .type "range") :: ("enumerate", .type "enumerate") :: ("str", .type "str") :: ("tuple", .type "tuple") :: ("Exception", .type "Exception") :: []
noncomputable abbrev atT : List (Addr × Str) := (565, "tools") :: (565, "inline") :: (565, "limit") :: (565, "fuel") :: (565, "depth") :: (565, "spent") :: (565, "epoch") :: (565, "frame") :: (565, "commands") :: (565, "firsts") :: (565, "vars") :: (105, "script") :: (105, "back") :: (105, "is_proc") :: []
noncomputable abbrev stT : List (Addr × Str) := (565, "tools") :: (565, "inline") :: (565, "limit") :: (565, "fuel") :: (565, "depth") :: (565, "spent") :: (565, "epoch") :: (565, "frame") :: (565, "coroutine") :: (565, "vars") :: (565, "commands") :: (565, "firsts") :: (105, "script") :: (105, "back") :: (105, "is_proc") :: (105, "label") :: []
noncomputable abbrev meT : List ((Addr × Str) × Addr) := ((565, "tool"), 343) :: ((565, "spend"), 350) :: ((565, "run"), 364) :: ((565, "call"), 378) :: ((565, "finish"), 385) :: ((565, "leave"), 392) :: ((565, "put"), 534) :: ((565, "remove"), 541) :: ((565, "add"), 548) :: ((565, "begin"), 562) :: []
theorem g_in {x : Str} {v : Value} (h : InL (x, v) glT) (P : Params) : nsIn (G.K P) mainGlobals x = some (some v) := h.eq (f := fun p => nsIn (G.K P) mainGlobals p.1) (g := fun p => some (some p.2)) (by kernel_rfl)
theorem k_in {x : Str} {v : Value} (h : InL (x, v) glT) : keepOk G v := .inr (.inr fun P => h.eq (f := fun p => keepIn (G.K P) p.2) (g := fun _ => true) (by kernel_rfl))
theorem n_in {x : Str} {v : Value} (h : InL (x, v) blT) (P : Params) : nsIn (G.K P) mainGlobals x = some none := h.eq (f := fun p => nsIn (G.K P) mainGlobals p.1) (g := fun _ => some none) (by kernel_rfl)
theorem b_in {x : Str} {v : Value} (h : InL (x, v) blT) (P : Params) : nsIn (G.K P) builtinsNs x = some (some v) := h.eq (f := fun p => nsIn (G.K P) builtinsNs p.1) (g := fun p => some (some p.2)) (by kernel_rfl)
noncomputable def isBT : Value → Bool
  | .builtin _ => true
  | .type _ => true
  | _ => false
theorem bt_in {x : Str} {v : Value} (h : InL (x, v) blT) : (∃ i, v = .builtin i) ∨ ∃ i, v = .type i := by
  have e : isBT v = true := h.eq (f := fun p => isBT p.2) (g := fun _ => true) rfl
  cases v <;> first | exact .inl ⟨_, rfl⟩ | exact .inr ⟨_, rfl⟩ | cases e
theorem at_in {D : Addr} {x : Str} (h : InL (D, x) atT) (P : Params) : attrOk (G.K P) D x = true := h.eq (f := fun p => attrOk (G.K P) p.1 p.2) (g := fun _ => true) (by kernel_rfl)
theorem me_in {D : Addr} {x : Str} {f : Addr} (h : InL ((D, x), f) meT) (P : Params) : methOk (G.K P) D x f = true := h.eq (f := fun p => methOk (G.K P) p.1.1 p.1.2 p.2) (g := fun _ => true) (by kernel_rfl)
theorem mk_in {y : Addr × Str} {f : Addr} (h : InL (y, f) meT) : keepOk G (.ref f) := .inr (.inr fun P => h.eq (f := fun p => keepIn (G.K P) (Value.ref p.2)) (g := fun _ => true) (by kernel_rfl))
section
variable {F : Fn} {d : Nat} {hd : Option Addr} {X : Addr → St → Prop} {σ : St}
theorem e_callG {x : Str} {np pos : Pos} {f : Addr} {es : List Expr} {k : AV → St → Prop} (m : InL (x, Value.ref f) glT) (h : HEs G F d hd es σ (kCa G F d hd X (.ref f) k) X)
    (hg : HasN x F.globs := by with_reducible (repeat (first | exact HasN.head | apply HasN.tail)))
    (hp : ∀ env, (starEach es env).any (·.1) = false := by intros; with_unfolding_all rfl)
    (hf : ∀ env, eval (.Call (.Name x np) es [] pos) env = (do callWith pos (← eval (.Name x np) env) [] (backTo pos (starEach es env)) (backToKw pos (keywordEach [] env))) := by intros; with_unfolding_all rfl) : HE G F d hd (.Call (.Name x np) es [] pos) σ k X := e_callg (g_in m) (k_in m) h hg hp hf
theorem e_callB {x : Str} {np pos : Pos} {f : Value} {es : List Expr} {k : AV → St → Prop} (m : InL (x, f) blT) (h : HEs G F d hd es σ (kCa G F d hd X f k) X)
    (hg : HasN x F.globs := by with_reducible (repeat (first | exact HasN.head | apply HasN.tail)))
    (hp : ∀ env, (starEach es env).any (·.1) = false := by intros; with_unfolding_all rfl)
    (hf : ∀ env, eval (.Call (.Name x np) es [] pos) env = (do callWith pos (← eval (.Name x np) env) [] (backTo pos (starEach es env)) (backToKw pos (keywordEach [] env))) := by intros; with_unfolding_all rfl) : HE G F d hd (.Call (.Name x np) es [] pos) σ k X := by
  rcases bt_in m with ⟨i, rfl⟩ | ⟨i, rfl⟩
  · exact e_callb (n_in m) (b_in m) rfl rfl (.inl ⟨_, rfl⟩) h hg hp hf
  · exact e_callb (n_in m) (b_in m) rfl rfl (.inr (.inl ⟨_, rfl⟩)) h hg hp hf
theorem e_globG {x : Str} {pos : Pos} {f : Addr} {k : AV → St → Prop} (m : InL (x, Value.ref f) glT) (h : k (.ref f) σ) (hg : HasN x F.globs := by with_reducible (repeat (first | exact HasN.head | apply HasN.tail))) :
    HE G F d hd (.Name x pos) σ k X := e_glob (g_in m) rfl h hg
theorem e_bltG {x : Str} {pos : Pos} {v : Value} {av : AV} {k : AV → St → Prop} (m : InL (x, v) blT) (hv : av? v = some av) (h : k av σ) (hg : HasN x F.globs := by with_reducible (repeat (first | exact HasN.head | apply HasN.tail))) :
    HE G F d hd (.Name x pos) σ k X := e_blt (n_in m) (b_in m) hv h hg
theorem kMe_i {x cl dd f : Addr} {es : List (Str × AV)} {name : Str} {as : List Expr} {k : AV → St → Prop} (hx : InH x (.inst cl dd es) σ.H) (he : NoE name es) (m : InL ((cl, name), f) meT) (h : HEs G F d hd as σ (kCm G F d hd X (.ref f) (.ref x) k) X) : kMe G F d hd X name as k (.ref x) σ :=
  ⟨_, gm_inst hx he (me_in m), mk_in m, h⟩
end

theorem dpos {n d : Nat} (h : n + 1 ≤ d) : ∃ e, d = e + 1 := ⟨d - 1, (Nat.sub_add_cancel (Nat.le_trans (Nat.le_add_left 1 n) h)).symm⟩
theorem dp {c N e : Nat} (h : N ≤ e + 1) (k : Nat.ble (c + 1) N = true) : c ≤ e := Nat.le_of_succ_le_succ (Nat.le_trans (Nat.le_of_ble_eq_true k) h)

end Mine
end
section
open PySem PySem.W PySem.W.X PySem.Calls PyProof.Rows
set_option maxRecDepth 100000
set_option autoImplicit false
set_option maxHeartbeats 4000000
namespace Mine
local macro_rules | `(tactic| omega) => `(tactic| first | exact dp (by assumption) (by rfl) | omega (config := {}))
local macro_rules | `(tactic| walk_at "inL") => `(tactic| with_reducible (repeat (first | exact InL.head | apply InL.tail)))
local macro_rules | `(tactic| walk_at "hc") => `(tactic| with_reducible (first | refine e_callG (by walk_at "inL") ?_ | refine e_callB (by walk_at "inL") ?_))
local macro_rules | `(tactic| walk_at "hput") => `(tactic| with_reducible first | refine kAsg_i (by repeat (first | exact PutAt.head | apply PutAt.tail)) ?_ | refine ⟨_, (by repeat (first | exact PutAt.head | apply PutAt.tail)), ?_⟩)
local macro_rules | `(tactic| walk_at "inH") => `(tactic| with_reducible (repeat (first | exact InH.head | assumption | apply InH.tail)))
local macro_rules | `(tactic| walk_at "setH") => `(tactic| with_reducible (repeat (first | exact SetH.head | apply SetH.tail)))
local macro_rules | `(tactic| walk_at "sel") => `(tactic| with_reducible (repeat (first | exact Sel.head | apply Sel.tail)))
local macro_rules | `(tactic| walk_at "getE") => `(tactic| (repeat (first | with_reducible exact GetE.head | (apply GetE.tail; (with_unfolding_all decide)))))
local macro_rules | `(tactic| walk_at "noE") => `(tactic| (repeat (first | with_reducible exact NoE.nil | (apply NoE.cons; (with_unfolding_all decide)))))
local macro_rules | `(tactic| walk_at "putE") => `(tactic| (repeat (first | with_reducible exact PutE.head | with_reducible exact PutE.nil | (apply PutE.tail; (with_unfolding_all decide)))))
local macro_rules | `(tactic| walk_at "sx") => `(tactic| (with_reducible refine s_cons ?_; with_reducible (first | refine s_setattr_exc excC es_code ?_ | refine s_setattr_exc excC es_value ?_ | refine s_setattr_exc excC es_errorcode ?_ | refine s_setattr_exc excC es_level ?_ | refine s_setattr_exc excC es_ret ?_ | refine s_setattr_exc excC es_info ?_ | refine s_setattr_exc excC es_noted ?_ | refine s_setattr_exc excC es_line ?_ | refine s_setattr_exc excC es_extra ?_)))
local macro_rules | `(tactic| walk_at "sxe") => `(tactic| (refine ⟨_, _, _, _, _, rfl, (by walk_at "inH"), (by walk_at "putE"), Nat.le_of_ble_eq_true rfl, fun d' => ⟨_, (by walk_at "setH"), ?_⟩⟩; with_reducible first | refine kSs_next ?_ | refine on_next ?_))
local macro_rules | `(tactic| walk_at "oc") => `(tactic| with_reducible refine o_call ?_)
local macro_rules | `(tactic| walk_at "hl") => `(tactic| first | with_reducible refine kTup_i rfl ?_ | with_reducible refine kLst_i rfl ?_ | refine ⟨Nat.le_of_ble_eq_true rfl, ?_⟩)
local macro_rules | `(tactic| walk_at "put1") => `(tactic| with_reducible (repeat (first | exact PutAt.head | apply PutAt.tail)))
local macro_rules | `(tactic| walk_at "hx") => `(tactic| (first
  | with_reducible (first | refine s_cons ?_ | refine s_nil ?_ | refine es_cons ?_ | refine es_nil ?_ | refine b_bool ?_ | refine kSs_next ?_ | refine kSs_ret ?_ | refine on_next ?_ | refine on_ret ?_)
  | ((with_reducible refine q_he ?_; first | with_reducible (first | refine e_loc ?_ | refine e_str ?_ | refine e_int ?_ | refine e_bool ?_ | refine e_none ?_ | refine e_cmp ?_ | refine e_bin ?_ | refine e_slice ?_ | refine e_sub ?_ | refine e_attr ?_ | refine e_unary ?_ | refine e_ifexp ?_ | refine e_and2 ?_ | refine e_tuple ?_ | refine e_list ?_ | refine e_dict0 ?_) | (with_reducible refine q_call ?_; walk_at "hc") | (with_reducible refine q_name ?_; (with_reducible (first | refine e_globG (by walk_at "inL") ?_ | refine e_bltG (by walk_at "inL") (by with_unfolding_all rfl) ?_))))) | ((with_reducible refine q_ho ?_; first | (with_reducible refine q_ho2 ?_; first | with_reducible (first | refine o_eq_str ?_ | refine o_is_none ?_ | refine o_isnot_none ?_ | refine o_lt ?_ | refine o_add ?_ | refine o_sub ?_ | refine o_iadd ?_ | refine o_gt ?_ | refine o_ge ?_ | refine o_le ?_ | refine o_ne_int ?_ | refine o_isub ?_) | (with_reducible refine sub_dict (by walk_at "inH") (by (first | assumption | walk_at "getE")) ?_)) | (with_reducible refine q_ho1 ?_; first | with_reducible (first | refine o_not ?_ | refine o_neg ?_) | (with_reducible refine o_attr (by walk_at "inH") (by walk_at "getE") (at_in (by walk_at "inL")) (by with_unfolding_all (intro i h; cases h)) ?_)) | (with_reducible refine q_len ?_; (with_reducible refine o_len_list (by walk_at "inH") (by first | (simp only [List.length_map]; omega) | (simp; omega)) ?_)))) | (first | (with_reducible refine kAsg_i (by repeat (first | exact PutAt.head | apply PutAt.tail)) ?_) | (with_reducible refine q_ex ?_; first | walk_at "hput" | (with_reducible refine ⟨_, _, _, rfl, .cons (by walk_at "put1") (.cons (by walk_at "put1") .nil), ?_⟩) | (with_reducible refine ⟨_, _, _, _, rfl, .cons (by walk_at "put1") (.cons (by walk_at "put1") (.cons (by walk_at "put1") .nil)), ?_⟩) | (with_reducible refine ⟨_, _, _, _, _, rfl, .cons (by walk_at "put1") (.cons (by walk_at "put1") (.cons (by walk_at "put1") (.cons (by walk_at "put1") .nil))), ?_⟩))) | ((with_reducible refine q_hs ?_; with_reducible (first | refine s_if ?_ | refine s_ret ?_ | refine s_assign ?_ | refine s_aug ?_ | refine s_expr ?_ | refine s_swap2 ?_ | refine s_swap3 ?_ | refine s_unpack2 ?_ | refine s_unpack3 ?_ | refine s_unpack4 ?_))) | ((with_reducible refine q_ht ?_; with_reducible (first | refine t_cmp ?_ | refine t_not ?_ | refine t_and ?_ | refine t_chain2 ?_ | refine t_val ?_))) | with_reducible (first | refine all_and ?_ | refine all_and_nil ?_ | refine all_or ?_ | refine all_or_nil ?_) | walk_at "hl"))
local macro_rules | `(tactic| walk_at "hv") => `(tactic| repeat walk_at "hx")
section
section
variable {d : Nat} {hd : Option Addr} {H : AH} {k : AV → AH → Prop} {X : Addr → AH → Prop}
theorem body_raised {a : Addr} {c v ec : AV} (h : ∀ dd x, k .none ((a, .exc 84 (some dd) false (rEs c v ec (.ref x))) :: H)) :
    HSs G F_Raised_init d hd (bodyOf 81) ⟨[some (.ref a), some c, some v, some ec, some (.int 0), some (.int 0)], (a, .exc 84 none false []) :: H⟩ (fun fl σ => k fl.val σ.H) (fun a σ => X a σ.H) := by
  refine s_cons ?_
  with_reducible refine s_expr (e_meth0 ?_)
  walk_at "hx"
  refine ⟨_, gm0_exc, (.inl ⟨_, rfl⟩), ?_⟩
  repeat walk_at "hx"
  walk_at "oc"
  refine cc_excInit excC (by simp) (by walk_at "inH") ?_
  walk_at "hx"
  iterate 5 (walk_at "sx"; walk_at "hx"; walk_at "hx"; walk_at "sxe")
  iterate 3 (walk_at "sx"; walk_at "hx"; walk_at "hx"; walk_at "sxe")
  walk_at "sx"
  walk_at "hx"
  walk_at "hx"
  refine ⟨by simp, fun x => ?_⟩
  walk_at "hx"
  walk_at "sxe"
  refine hs_drop (by walk_at "sel") (s_nil ?_)
  exact h _ _

noncomputable abbrev rObj (dd : Addr) (b : Bool) (c v ec : AV) (x : Addr) : AObj := .exc 84 (some dd) b (rEs c v ec (.ref x))
noncomputable abbrev T73 : AV := .tup [.str "NONE"]
theorem cc_raised3 {c v ec : AV} (hn : 2 ≤ d) (h : ∀ a dd x, k (.ref a) ((a, rObj dd false c v ec x) :: H)) : CC G d hd (.ref 84) [c, v, ec] H k X := by
  obtain ⟨e, rfl⟩ : ∃ e, d = e + 2 := ⟨d - 2, by omega⟩
  exact cc_exc excC (by simp) fun a => cd_Raised_init3 (body_raised (k := fun v H' => v = .none ∧ k (.ref a) H') (X := X) fun dd x => ⟨rfl, h a dd x⟩)
theorem cc_raised2 {c v : AV} (hn : 2 ≤ d) (h : ∀ a dd x, k (.ref a) ((a, rObj dd false c v T73 x) :: H)) : CC G d hd (.ref 84) [c, v] H k X := by
  obtain ⟨e, rfl⟩ : ∃ e, d = e + 2 := ⟨d - 2, by omega⟩
  exact cc_exc excC (by simp) fun a => cd_Raised_init2 (body_raised (k := fun v H' => v = .none ∧ k (.ref a) H') (X := X) fun dd x => ⟨rfl, h a dd x⟩)
theorem cc_error {t ec : AV} (hn : 3 ≤ d) (h : ∀ a dd x, k (.ref a) ((a, rObj dd false (.int 1) t ec x) :: H)) : CC G d hd (.ref 139) [t, ec] H k X := by
  obtain ⟨e, rfl⟩ := dpos hn
  refine cd_error ?_
  refine s_cons ?_
  repeat walk_at "hx"
  walk_at "oc"
  refine cc_raised3 (by omega) fun a dd x => ?_
  walk_at "hx"
  exact h a dd x
theorem cc_bad_if {t : Str} (hn : 4 ≤ d) (hz : t.length ≤ 900) (h : ∀ a dd x, k (.ref a) ((a, rObj dd false (.int 1) (.str ("wrong # args: " ++ t)) (.tup [.str "TCL", .str "WRONGARGS"]) x) :: H)) : CC G d hd (.ref 258) [.str t] H k X := by
  obtain ⟨e, rfl⟩ := dpos hn
  refine cd_bad_if ?_
  refine s_cons ?_
  repeat walk_at "hx"
  refine o_adds (by have : (Str.ofString "wrong # args: ").length = 14 := by decide +kernel
                    omega) ?_
  repeat walk_at "hx"
  repeat (first | walk_at "hx" | walk_at "hl")
  walk_at "oc"
  refine cc_error (by omega) fun a dd x => ?_
  walk_at "hx"
  exact h a dd x
end
end
section
section
variable {d : Nat} {hd : Option Addr} {H : AH} {k : AV → AH → Prop} {X : Addr → AH → Prop}
theorem noScript_len {p : Str} (h : p.length ≤ 100) : ("no script following \"" ++ p).length + (Str.ofString "\" argument").length ≤ 900 ∧ (Str.ofString "no script following \"").length + p.length ≤ 1000 ∧ (("no script following \"" ++ p : Str) ++ Str.ofString "\" argument").length ≤ 900 := by
  have e1 : (Str.ofString "no script following \"").length = 21 := by decide +kernel
  have e2 : (Str.ofString "\" argument").length = 10 := by decide +kernel
  simp only [Str.length_append]
  omega
theorem suf_mem {ws rs : List Str} {n : Int} {pv : Str} (s : Suf ws n pv rs) : pv ∈ ws := by obtain ⟨pre, rfl, _⟩ := s; simp
theorem cc_script_place {w : Addr} {ws rs : List Str} {n : Int} {pv : Str} (hn : 6 ≤ d) (hw : InH w (.list (ws.map .str)) H) (s : Suf ws n pv rs) (hz : ws.length ≤ 50) (hl : ∀ x ∈ ws, x.length ≤ 100)
    (hk : ∀ m t r, placeR pv rs = .ok (m, t, r) → k (.int (n + m)) H) (hX : ∀ p, placeR pv rs = .error p → ∀ a dd x, X a ((a, rObj dd false (.int 1) (.str (noScript p)) WA x) :: H)) : CC G d none (.ref 265) [.ref w, .int n] H k X := by
  obtain ⟨e, rfl⟩ := dpos hn
  refine cd_script_place ?_
  refine s_cons ?_
  have L := s.len
  have P := s.pos
  walk_at "hv"
  cases rs with
  | nil =>
    refine if_f (by simp at L ⊢; omega) (if_f rfl ?_)
    walk_at "hv"
    refine if_t (by simp at L ⊢; omega) ?_
    refine s_cons ?_
    with_reducible refine s_raise ?_
    walk_at "hv"
    refine sub_list (by walk_at "inH") (by omega) (by omega) s.prev ?_
    have q := noScript_len (hl _ (suf_mem s))
    refine o_adds q.2.1 ?_
    walk_at "hv"
    refine o_adds (by omega) ?_
    walk_at "hv"
    walk_at "oc"
    refine cc_bad_if (by omega) q.2.2 fun a dd x => ?_
    exact ⟨_, _, _, _, _, _, _, rfl, .head, excC, .inl rfl, hX _ rfl a dd x⟩
  | cons t r =>
    refine if_t (by simp at L ⊢; omega) ?_
    walk_at "hv"
    refine sub_list (by walk_at "inH") (by omega) (by simp at L; omega) s.get ?_
    walk_at "hv"
    by_cases ht : t = "then"
    · refine if_t (beq_iff_eq.mpr ht) ?_
      walk_at "hv"
      refine if_t rfl ?_
      refine s_cons ?_
      walk_at "hv"
      have s := s.step
      have L := s.len
      have P := s.pos
      cases r with
      | nil =>
        walk_at "hv"
        refine if_t (by simp at L ⊢; omega) ?_
        refine s_cons ?_
        with_reducible refine s_raise ?_
        walk_at "hv"
        refine sub_list (by walk_at "inH") (by omega) (by omega) s.prev ?_
        have q := noScript_len (hl _ (suf_mem s))
        refine o_adds q.2.1 ?_
        walk_at "hv"
        refine o_adds (by omega) ?_
        walk_at "hv"
        walk_at "oc"
        refine cc_bad_if (by omega) q.2.2 fun a dd x => ?_
        exact ⟨_, _, _, _, _, _, _, rfl, .head, excC, .inl rfl, hX _ (by simp [placeR, ht]) a dd x⟩
      | cons t' r =>
        walk_at "hv"
        refine if_f (by simp at L ⊢; omega) ?_
        walk_at "hv"
        exact hk 1 t' r (by simp [placeR, ht])
    · refine if_f (beq_eq_false_iff_ne.mpr ht) ?_
      walk_at "hv"
      refine if_f rfl ?_
      walk_at "hv"
      refine if_f (by simp at L ⊢; omega) ?_
      walk_at "hv"
      have := hk 0 t r (by simp [placeR, ht])
      rw [show n + ((0 : Nat) : Int) = n by simp] at this
      exact this
noncomputable def elseR (t : Str) (r : List Str) : Except Str Str :=
  if t = "else" then (match r with | [] => .error "no script following \"else\" argument" | [s] => .ok s | _ => .error "extra words after \"else\" clause in \"if\" command")
  else (match r with | [] => .ok t | _ => .error "extra words after \"else\" clause in \"if\" command")
theorem cc_else_script {w : Addr} {ws r : List Str} {t pv : Str} {n : Int} (hn : 6 ≤ d) (hw : InH w (.list (ws.map .str)) H) (s : Suf ws n pv (t :: r)) (hz : ws.length ≤ 50)
    (hk : ∀ o, elseR t r = .ok o → k (.str o) H) (hX : ∀ p, elseR t r = .error p → ∀ a dd x, X a ((a, rObj dd false (.int 1) (.str ("wrong # args: " ++ p)) WA x) :: H)) : CC G d none (.ref 272) [.ref w, .int n] H k X := by
  obtain ⟨e, rfl⟩ := dpos hn
  refine cd_else_script ?_
  refine s_cons ?_
  have L := s.len
  have P := s.pos
  walk_at "hv"
  refine sub_list (by walk_at "inH") (by omega) (by simp at L; omega) s.get ?_
  walk_at "hv"
  by_cases ht : t = "else"
  · refine if_t (beq_iff_eq.mpr ht) ?_
    walk_at "hv"
    have s := s.step
    have L := s.len
    have P := s.pos
    cases r with
    | nil =>
      refine if_t (by simp at L ⊢; omega) ?_
      refine s_cons ?_
      with_reducible refine s_raise ?_
      walk_at "hv"
      walk_at "oc"
      refine cc_bad_if (by omega) (by decide +kernel) fun a dd x => ?_
      exact ⟨_, _, _, _, _, _, _, rfl, .head, excC, .inl rfl, hX _ (by unfold elseR; exact if_pos ht) a dd x⟩
    | cons t' r =>
      refine if_f (by simp at L ⊢; omega) ?_
      walk_at "hv"
      cases r with
      | nil =>
        refine if_f (by simp at L ⊢; omega) ?_
        walk_at "hv"
        refine sub_list (by walk_at "inH") (by omega) (by simp at L; omega) s.get ?_
        walk_at "hv"
        exact hk _ (by unfold elseR; exact if_pos ht)
      | cons t'' r =>
        refine if_t (by simp at L ⊢; omega) ?_
        refine s_cons ?_
        with_reducible refine s_raise ?_
        walk_at "hv"
        walk_at "oc"
        refine cc_bad_if (by omega) (by decide +kernel) fun a dd x => ?_
        exact ⟨_, _, _, _, _, _, _, rfl, .head, excC, .inl rfl, hX _ (by unfold elseR; exact if_pos ht) a dd x⟩
  · refine if_f (beq_eq_false_iff_ne.mpr ht) ?_
    walk_at "hv"
    cases r with
    | nil =>
      refine if_f (by simp at L ⊢; omega) ?_
      walk_at "hv"
      refine sub_list (by walk_at "inH") (by omega) (by simp at L; omega) s.get ?_
      walk_at "hv"
      exact hk _ (by unfold elseR; exact if_neg ht)
    | cons t'' r =>
      refine if_t (by simp at L ⊢; omega) ?_
      refine s_cons ?_
      with_reducible refine s_raise ?_
      walk_at "hv"
      walk_at "oc"
      refine cc_bad_if (by omega) (by decide +kernel) fun a dd x => ?_
      exact ⟨_, _, _, _, _, _, _, rfl, .head, excC, .inl rfl, hX _ (by unfold elseR; exact if_neg ht) a dd x⟩
end
end
section
noncomputable abbrev hostEs (hA tA iA vA cA fA : Addr) (D S : Int) : List (Str × AV) := [("tools", .ref tA), ("inline", .ref iA), ("limit", .int 40), ("fuel", .none), ("depth", .int D), ("spent", .int S), ("epoch", .int 0), ("frame", .none), ("coroutine", .none), ("vars", .ref vA), ("commands", .ref cA), ("firsts", .ref fA)]
noncomputable abbrev toolsEs (T E lA nA : Addr) : List (Str × AV) := [("run", .ref 644), ("expr", .ref 637), ("tests", .ref T), ("ends", .ref E), ("log", .ref lA), ("nest", .ref nA)]
structure HA where
  (h dd t i v c f T E l n : Addr)
noncomputable abbrev hostH (x : HA) (D S : Int) (log : List AV) (R : AH) : AH := (x.h, .inst 565 x.dd (hostEs x.h x.t x.i x.v x.c x.f D S)) :: (x.t, .dict (toolsEs x.T x.E x.l x.n)) :: (x.l, .list log) :: R
noncomputable abbrev tst (t : Str) : AV := .tup [.str "test", .str t]
noncomputable abbrev scr (t : Str) : AV := .tup [.str "script", .str t]
section
variable {d : Nat} {x : HA} {D S : Int} {log : List AV} {R : AH} {k : AV → AH → Prop} {X : Addr → AH → Prop} {TE EE : List (Str × AV)}
theorem cc_tool_expr (hn : 1 ≤ d) (hk : k (.ref 637) (hostH x D S log R)) : CC G d none (.ref 343) [.ref x.h, .str "expr"] (hostH x D S log R) k X := by
  obtain ⟨e, rfl⟩ := dpos hn
  refine cd_Host_tool ?_
  refine s_cons ?_
  walk_at "hv"
  refine o_notin_t (by walk_at "inH") (by walk_at "getE") ?_
  walk_at "hv"
  refine if_f rfl ?_
  walk_at "hv"
  walk_at "hv"
  exact hk
theorem cc_tool_run (hn : 1 ≤ d) (hk : k (.ref 644) (hostH x D S log R)) : CC G d none (.ref 343) [.ref x.h, .str "run"] (hostH x D S log R) k X := by
  obtain ⟨e, rfl⟩ := dpos hn
  refine cd_Host_tool ?_
  refine s_cons ?_
  walk_at "hv"
  refine o_notin_t (by walk_at "inH") (by walk_at "getE") ?_
  walk_at "hv"
  refine if_f rfl ?_
  walk_at "hv"
  walk_at "hv"
  exact hk
theorem cc_law_expr {t v : Str} {c : Int} (hn : 4 ≤ d) (hT : InH x.T (.dict TE) R) (ht : GetE t (.tup [.int c, .str v]) TE) (hl : log.length ≤ 900)
    (hk : c = 0 → k (.str v) (hostH x D S (log ++ [tst t]) R)) (hX : c ≠ 0 → ∀ a dd y, X a ((a, rObj dd false (.int c) (.str v) T73 y) :: hostH x D S (log ++ [tst t]) R)) : CC G d none (.ref 637) [.ref x.h, .str t] (hostH x D S log R) k X := by
  obtain ⟨e, rfl⟩ := dpos hn
  refine cd_law_expr ?_
  refine s_cons ?_
  with_reducible refine s_expr (e_meth ?_)
  walk_at "hv"
  refine ⟨_, gm_list slot_list_append rfl (by walk_at "inH"), (.inl ⟨_, rfl⟩), ?_⟩
  walk_at "hv"
  walk_at "hv"
  refine o_append' (by walk_at "setH") (by omega) ?_
  walk_at "hv"
  by_cases hc : c = 0
  · refine if_f (by simp [hc]) ?_
    walk_at "hv"
    exact hk hc
  · refine if_t (by simp [hc]) ?_
    refine s_cons ?_
    with_reducible refine s_raise ?_
    walk_at "hv"
    walk_at "oc"
    refine cc_raised2 (by omega) fun a dd y => ?_
    exact ⟨_, _, _, _, _, _, _, rfl, .head, excC, .inl rfl, hX hc a dd y⟩
end
end
section
section
variable {G : Gl} {F : Fn} {d : Nat} {hd : Option Addr} {X : Addr → St → Prop} {σ : St}
theorem s_while_inv {test : Expr} {body : List Stmt} {pos : Pos} {k : Fl → St → Prop} (Inv : Nat → St → Prop) (n : Nat) (h0 : Inv n σ)
    (step : ∀ n σ, Inv n σ → HT G F d hd test σ (fun b σ₁ => if b = true then HSs G F d hd body σ₁ (Fl.on (fun σ₂ => ∃ m, m < n ∧ Inv m σ₂) (fun v σ₂ => k (.ret v) σ₂)) X else k .next σ₁) X) : HS G F d hd (.While test body [] pos) σ k X := by
  refine s_while (n + 1) ?_
  suffices H : ∀ n σ, Inv n σ → ∀ f, n < f → HWhile G F d hd test body k X f σ from H n σ h0 _ (Nat.lt_succ_self n)
  intro n
  induction n using Nat.strongRecOn with
  | _ n ih =>
    intro σ hi f hf
    obtain ⟨f, rfl⟩ : ∃ g, f = g + 1 := ⟨f - 1, by omega⟩
    show HT G F d hd test σ _ X
    refine ⟨fun C A L fr s ok I => wpAny_mono ((step n σ hi).run C A L fr s ok I) (fun b s' p => p.mono fun b σ₁ q => ?_) fun _ _ e => e⟩
    cases b with
    | false => exact q
    | true =>
      rw [if_pos rfl] at q ⊢
      refine q.mono (fun fl σ₂ z => ?_) fun _ _ e => e
      cases fl with
      | next => obtain ⟨m, hm, hi'⟩ := z; exact ih m hm σ₂ hi' f (by omega)
      | ret v => exact z
end
noncomputable abbrev Flt := Int × Str × AV
noncomputable def TVB : AV := .tup [.str "TCL", .str "VALUE", .str "BOOLEAN"]
noncomputable def boolWhy (v : Str) : Str := "expected boolean value but got \"" ++ v ++ "\""
noncomputable def truR (v : Str) : Option Bool := if v = "0" then some false else if v = "1" then some true else if v = "off" then some false else if v = " 7 " then some true else if v = "fals" then some false else if v = "TRUE" then some true else if v = "y" then some true else none
noncomputable def truVals : List Str := ["0", "1", "off", " 7 ", "fals", "TRUE", "maybe", "", "y"]
noncomputable def askR (cv : Int × Str) : Except Flt Bool := if cv.1 = 0 then (match truR cv.2 with | some b => .ok b | none => .error (1, boolWhy cv.2, TVB)) else .error (cv.1, cv.2, T73)
noncomputable def noExpr (p : Str) : Str := "wrong # args: " ++ ("no expression after \"" ++ p ++ "\" argument")
noncomputable def finB (ch : Option Str) : List Str → Except Flt (Option Str)
  | [] => .ok ch
  | x :: r => match elseR x r with | .error p => .error (1, "wrong # args: " ++ p, WA) | .ok o => .ok (if ch.isNone then some o else ch)
noncomputable def goB (tf : Str → Int × Str) : Nat → Str → Option Str → List Str → List Str × Except Flt (Option Str)
  | 0, _, _, _ => ([], .ok none)
  | _ + 1, pv, _, [] => ([], .error (1, noExpr pv, WA))
  | f + 1, _, ch, t :: r =>
    match (if ch.isNone then askR (tf t) else .ok false) with
    | .error e => ([t], .error e)
    | .ok b =>
      match placeR t r with
      | .error p => (if ch.isNone then [t] else [], .error (1, noScript p, WA))
      | .ok (_, s, r') =>
        match r' with
        | [] => (if ch.isNone then [t] else [], finB (if b then some s else ch) [])
        | x :: r'' => if x = "elseif" then ((if ch.isNone then [t] else []) ++ (goB tf f x (if b then some s else ch) r'').1, (goB tf f x (if b then some s else ch) r'').2) else (if ch.isNone then [t] else [], finB (if b then some s else ch) (x :: r''))
noncomputable def NeedBool : Prop := ∀ {d : Nat} {H : AH} {k : AV → AH → Prop} {X : Addr → AH → Prop} {v : Str}, 12 ≤ d → v ∈ truVals → (∀ b, truR v = some b → k (.bool b) H) → (truR v = none → ∀ a dd y, X a ((a, rObj dd false (.int 1) (.str (boolWhy v)) TVB y) :: H)) → CC G d none (.ref 223) [.str v] H k X
theorem placeR_suf {ws rs r' : List Str} {n : Int} {pv s : Str} {m : Nat} (h : Suf ws n pv rs) (e : placeR pv rs = .ok (m, s, r')) : (ws.map AV.str)[(n + m).toNat]? = some (.str s) ∧ Suf ws (n + m + 1) s r' ∧ r'.length < rs.length := by
  cases rs with
  | nil => cases e
  | cons t r =>
    by_cases ht : t = "then"
    · cases r with
      | nil => rw [show placeR pv [t] = .error "then" from if_pos ht] at e; cases e
      | cons t' r => rw [show placeR pv (t :: t' :: r) = .ok (1, t', r) from if_pos ht] at e; cases e; exact ⟨h.step.get, h.step.step, by simp; omega⟩
    · have q : placeR pv (t :: r) = .ok (0, t, r) := if_neg ht
      rw [q] at e
      cases e
      refine ⟨?_, ?_, by simp⟩
      · rw [show n + ((0 : Nat) : Int) = n by simp]; exact h.get
      · rw [show n + ((0 : Nat) : Int) = n by simp]; exact h.step
noncomputable def chV : Option Str → AV
  | none => .none
  | some s => .str s
theorem noExpr_len {p : Str} (h : p.length ≤ 100) : (Str.ofString "no expression after \"").length + p.length ≤ 1000 ∧ ("no expression after \"" ++ p : Str).length + (Str.ofString "\" argument").length ≤ 1000 ∧ (("no expression after \"" ++ p : Str) ++ Str.ofString "\" argument").length ≤ 900 := by
  have e1 : (Str.ofString "no expression after \"").length = 21 := by decide +kernel
  have e2 : (Str.ofString "\" argument").length = 10 := by decide +kernel
  simp only [Str.length_append]
  omega
section
variable {d : Nat} {x : HA} {D S : Int} {log : List AV} {R : AH} {k : AV → AH → Prop} {X : Addr → AH → Prop} {TE EE : List (Str × AV)}
noncomputable abbrev cvV (cv : Int × Str) : AV := .tup [.int cv.1, .str cv.2]
theorem cc_truth (NB : NeedBool) {t : Str} {cv : Int × Str} (hn : 16 ≤ d) (hT : InH x.T (.dict TE) R) (ht : GetE t (cvV cv) TE) (hl : log.length ≤ 900) (hv : cv.1 = 0 → cv.2 ∈ truVals)
    (hk : ∀ b, askR cv = .ok b → k (.bool b) (hostH x D S (log ++ [tst t]) R)) (hX : ∀ f, askR cv = .error f → ∀ a dd y, X a ((a, rObj dd false (.int f.1) (.str f.2.1) f.2.2 y) :: hostH x D S (log ++ [tst t]) R)) : CC G d none (.ref 230) [.ref x.h, .str t] (hostH x D S log R) k X := by
  obtain ⟨e, rfl⟩ := dpos hn
  refine cd_truth ?_
  refine s_cons ?_
  with_reducible refine s_assign (e_meth ?_)
  walk_at "hv"
  with_reducible refine kMe_i (by walk_at "inH") (by walk_at "noE") (by walk_at "inL") ?_
  walk_at "hv"
  walk_at "oc"
  refine cc_tool_expr (by omega) ?_
  walk_at "hv"
  with_reducible refine e_call (e_loc ?_)
  refine ⟨_, rfl, k_law_expr, ?_⟩
  walk_at "hv"
  walk_at "oc"
  refine cc_law_expr (by omega) hT ht hl (fun hc => ?_) (fun hc a dd y => ?_)
  · walk_at "hv"
    walk_at "oc"
    refine NB (by omega) (hv hc) (fun b hb => ?_) fun hb a dd y => ?_
    · walk_at "hv"
      exact hk b (by unfold askR; rw [if_pos hc, hb])
    · exact hX (1, boolWhy cv.2, TVB) (by unfold askR; rw [if_pos hc, hb]) a dd y
  · exact hX (cv.1, cv.2, T73) (by unfold askR; rw [if_neg hc]) a dd y
end
end
section
section
variable {d : Nat} {x : HA} {D S : Int} {log : List AV} {R : AH} {k : AV → AH → Prop} {X : Addr → AH → Prop} {TE EE : List (Str × AV)} {tf : Str → Int × Str}
theorem he_join {F : Fn} {d : Nat} {hd : Option Addr} {X : Addr → St → Prop} {σ : St} {e : Expr} {k : AV → St → Prop} (M : AV → St → Prop) (h : HE G F d hd e σ M X) (h2 : ∀ v σ, M v σ → k v σ) : HE G F d hd e σ k X := h.mono h2 fun _ _ e => e
theorem hs_join {F : Fn} {d : Nat} {hd : Option Addr} {X : Addr → St → Prop} {σ : St} {e : Stmt} {k : Fl → St → Prop} (M : Fl → St → Prop) (h : HS G F d hd e σ M X) (h2 : ∀ v σ, M v σ → k v σ) : HS G F d hd e σ k X := h.mono h2 fun _ _ e => e
structure TOk (tf : Str → Int × Str) (TE : List (Str × AV)) (ws : List Str) : Prop where
  get : ∀ t ∈ ws, GetE t (cvV (tf t)) TE
  val : ∀ t ∈ ws, (tf t).1 = 0 → (tf t).2 ∈ truVals
theorem finB_ok {ch : Option Str} {t o : Str} {r : List Str} (h : elseR t r = .ok o) : finB ch (t :: r) = .ok (if ch.isNone then some o else ch) := by
  show (match elseR t r with | .error p => _ | .ok o => _) = _
  rw [h]
theorem finB_error {ch : Option Str} {t p : Str} {r : List Str} (h : elseR t r = .error p) : finB ch (t :: r) = .error (1, "wrong # args: " ++ p, WA) := by
  show (match elseR t r with | .error p => _ | .ok o => _) = _
  rw [h]
theorem goB_err {f : Nat} {pv t : Str} {ch : Option Str} {r : List Str} {e : Flt} (h : (if ch.isNone then askR (tf t) else .ok false) = .error e) : goB tf (f + 1) pv ch (t :: r) = ([t], .error e) := by
  show (match (if ch.isNone then askR (tf t) else .ok false) with | .error e => _ | .ok b => _) = _
  rw [h]
theorem goB_ok {f : Nat} {pv t : Str} {ch : Option Str} {r : List Str} {b : Bool} (h : (if ch.isNone then askR (tf t) else .ok false) = .ok b) : goB tf (f + 1) pv ch (t :: r) = (match placeR t r with
          | .error p => (if ch.isNone then [t] else [], .error (1, noScript p, WA))
          | .ok (_, s, r') =>
            match r' with
            | [] => (if ch.isNone then [t] else [], finB (if b then some s else ch) [])
            | x :: r'' => if x = "elseif" then ((if ch.isNone then [t] else []) ++ (goB tf f x (if b then some s else ch) r'').1, (goB tf f x (if b then some s else ch) r'').2) else (if ch.isNone then [t] else [], finB (if b then some s else ch) (x :: r''))) := by
  show (match (if ch.isNone then askR (tf t) else .ok false) with | .error e => _ | .ok b => _) = _
  rw [h] <;> rfl
theorem goB_noscript {f : Nat} {pv t p : Str} {ch : Option Str} {r : List Str} {b : Bool} (h : (if ch.isNone then askR (tf t) else .ok false) = .ok b) (hp : placeR t r = .error p) : goB tf (f + 1) pv ch (t :: r) = (if ch.isNone then [t] else [], .error (1, noScript p, WA)) := by rw [goB_ok h, hp]
theorem goB_end {f m : Nat} {pv t s : Str} {ch : Option Str} {r : List Str} {b : Bool} (h : (if ch.isNone then askR (tf t) else .ok false) = .ok b) (hp : placeR t r = .ok (m, s, [])) : goB tf (f + 1) pv ch (t :: r) = (if ch.isNone then [t] else [], finB (if b then some s else ch) []) := by rw [goB_ok h, hp]
theorem goB_elseif {f m : Nat} {pv t s : Str} {ch : Option Str} {r r' : List Str} {b : Bool} (h : (if ch.isNone then askR (tf t) else .ok false) = .ok b) (hp : placeR t r = .ok (m, s, "elseif" :: r')) : goB tf (f + 1) pv ch (t :: r) = ((if ch.isNone then [t] else []) ++ (goB tf f "elseif" (if b then some s else ch) r').1, (goB tf f "elseif" (if b then some s else ch) r').2) := by rw [goB_ok h, hp]; exact if_pos rfl
theorem goB_else {f m : Nat} {pv t s x : Str} {ch : Option Str} {r r' : List Str} {b : Bool} (h : (if ch.isNone then askR (tf t) else .ok false) = .ok b) (hp : placeR t r = .ok (m, s, x :: r')) (hx : x ≠ "elseif") : goB tf (f + 1) pv ch (t :: r) = (if ch.isNone then [t] else [], finB (if b then some s else ch) (x :: r')) := by rw [goB_ok h, hp]; exact if_neg hx
theorem placeR_mem {pv s : Str} {m : Nat} {rs r' : List Str} (e : placeR pv rs = .ok (m, s, r')) : ∀ x ∈ r', x ∈ rs := by
  cases rs with
  | nil => cases e
  | cons t r =>
    by_cases ht : t = "then"
    · cases r with
      | nil => rw [show placeR pv [t] = .error "then" from if_pos ht] at e; cases e
      | cons t' r => rw [show placeR pv (t :: t' :: r) = .ok (1, t', r) from if_pos ht] at e; cases e; intro x hx; exact .tail _ (.tail _ hx)
    · rw [show placeR pv (t :: r) = .ok (0, t, r) from if_neg ht] at e; cases e; intro x hx; exact .tail _ hx
theorem goB_asks (f : Nat) (pv t : Str) (r : List Str) : t ∈ (goB tf (f + 1) pv none (t :: r)).1 := by
  cases ha : askR (tf t) with
  | error e => rw [goB_err (ch := none) (e := e) ha]; exact .head _
  | ok b =>
    have hb : (if (none : Option Str).isNone then askR (tf t) else .ok false) = .ok b := ha
    cases hp : placeR t r with
    | error p => rw [goB_noscript hb hp]; exact .head _
    | ok q =>
      obtain ⟨m, s, r'⟩ := q
      cases r' with
      | nil => rw [goB_end hb hp]; exact .head _
      | cons x r'' =>
        by_cases hx : x = "elseif"
        · subst hx; rw [goB_elseif hb hp]; exact .head _
        · rw [goB_else hb hp hx]; exact .head _
theorem cc_branch_of (NB : NeedBool) {w : Addr} {rest : List Str} (hn : 18 ≤ d) (hT : InH x.T (.dict TE) R) (hw : InH w (.list (((("if" : Str) :: rest)).map .str)) R) (ht : TOk tf TE (goB tf 50 "if" none rest).1) (hz : rest.length ≤ 40) (hlen : ∀ t ∈ rest, t.length ≤ 100) (hl : log.length ≤ 800)
    (hk : ∀ o, (goB tf 50 "if" none rest).2 = .ok o → k (chV o) (hostH x D S (log ++ (goB tf 50 "if" none rest).1.map tst) R))
    (hX : ∀ f, (goB tf 50 "if" none rest).2 = .error f → ∀ a dd y, X a ((a, rObj dd false (.int f.1) (.str f.2.1) f.2.2 y) :: hostH x D S (log ++ (goB tf 50 "if" none rest).1.map tst) R)) : CC G d none (.ref 279) [.ref x.h, .ref w] (hostH x D S log R) k X := by
  obtain ⟨e, rfl⟩ := dpos hn
  refine cd_branch_of ?_
  refine s_cons ?_
  walk_at "hv"
  generalize hgo : goB tf 50 "if" none rest = tot at hk hX ht
  have hlw : ∀ t ∈ (("if" : Str) :: rest), t.length ≤ 100 := by
    intro t ht
    rcases List.mem_cons.mp ht with rfl | h
    · decide +kernel
    · exact hlen t h
  have hws : (("if" : Str) :: rest).length ≤ 50 := by simp; omega
  refine s_while_inv (fun n σ => ∃ (rs : List Str) (pv : Str) (at_ : Int) (ch : Option Str) (asked : List Str) (iso oth : Option AV) (cl : Bool),
      σ = ⟨[some (.ref x.h), some (.ref w), some (chV ch), some (.int at_), some (.bool cl), iso, oth], hostH x D S (log ++ asked.map tst) R⟩ ∧ asked.length + rs.length ≤ 45 ∧ n = rs.length ∧
      (if cl then Suf (("if" : Str) :: rest) (at_ + 1) pv rs ∧ (∀ t ∈ rs, t ∈ rest) ∧ ∃ f, rs.length < f ∧ (asked ++ (goB tf f pv ch rs).1, (goB tf f pv ch rs).2) = tot else Suf (("if" : Str) :: rest) at_ pv rs ∧ (∀ t r, rs = t :: r → t ≠ "elseif") ∧ (asked, finB ch rs) = tot)) rest.length
    ⟨rest, "if", 0, none, [], none, none, true, by simp; rfl, by simp; omega, rfl, ⟨[], rfl, rfl⟩, fun _ h => h, 50, by omega, by simpa using hgo⟩ ?_
  rintro n σ ⟨rs, pv, at_, ch, asked, iso, oth, cl, rfl, hle, rfl, hI⟩
  walk_at "hv"
  cases cl with
  | false =>
    refine if_f rfl ?_
    obtain ⟨su, hne, htot⟩ := hI
    have L := su.len
    have P := su.pos
    subst htot
    walk_at "hv"
    cases rs with
    | nil =>
      refine if_f (by simp at L ⊢; omega) ?_
      walk_at "hv"
      exact hk ch rfl
    | cons t r =>
      refine if_t (by simp at L ⊢; omega) ?_
      refine s_cons ?_
      walk_at "hv"
      walk_at "oc"
      refine cc_else_script (by omega) (by walk_at "inH") su hws (fun o ho => ?_) fun p hp a dd y => ?_
      · walk_at "hv"
        cases ch with
        | none =>
          refine if_t rfl ?_
          walk_at "hv"
          exact hk (some o) (finB_ok ho)
        | some c =>
          refine if_f rfl ?_
          walk_at "hv"
          exact hk (some c) (finB_ok ho)
      · exact hX (1, _, WA) (finB_error hp) a dd y
  | true =>
    refine if_t rfl ?_
    obtain ⟨su, hsub, f, hf, htot⟩ := hI
    have L := su.len
    have P := su.pos
    obtain ⟨f, rfl⟩ : ∃ g, f = g + 1 := ⟨f - 1, by omega⟩
    refine s_cons ?_
    walk_at "hv"
    cases rs with
    | nil =>
      refine if_t (by simp at L ⊢; omega) ?_
      refine s_cons ?_
      with_reducible refine s_raise ?_
      walk_at "hv"
      refine sub_list (by walk_at "inH") (by omega) (by omega) su.prev ?_
      have q := noExpr_len (hlw _ (suf_mem su))
      walk_at "hv"
      refine o_adds q.1 ?_
      walk_at "hv"
      refine o_adds q.2.1 ?_
      walk_at "hv"
      walk_at "oc"
      refine cc_bad_if (by omega) q.2.2 fun a dd y => ?_
      subst htot
      refine ⟨_, _, _, _, _, _, _, rfl, .head, excC, .inl rfl, ?_⟩
      have := hX (1, noExpr pv, WA) rfl a dd y
      rw [show (goB tf (f + 1) pv ch []).1 = [] from rfl, List.append_nil] at this
      exact this
    | cons t r =>
      refine if_f (by simp at L ⊢; omega) ?_
      with_reducible refine s_nil ?_
      with_reducible refine on_next ?_
      with_reducible refine s_cons ?_
      with_reducible refine s_assign (he_join (fun v σ => ∃ b, v = .bool b ∧ (if ch.isNone then askR (tf t) else .ok false) = .ok b ∧
        σ = ⟨[some (.ref x.h), some (.ref w), some (chV ch), some (.int (at_ + 1)), some (.bool true), iso, oth], hostH x D S (log ++ (asked ++ (if ch.isNone then [t] else [])).map tst) R⟩) ?_ ?_)
      · walk_at "hv"
        cases ch with
        | some c =>
          refine if_f rfl ?_
          exact ⟨false, rfl, rfl, by simp⟩
        | none =>
          refine if_t rfl ?_
          walk_at "hv"
          refine sub_list (by walk_at "inH") (by omega) (by simp at L; omega) su.get ?_
          walk_at "hv"
          walk_at "oc"
          have hmem : t ∈ tot.1 := by
            subst htot
            exact List.mem_append_right _ (goB_asks f pv t r)
          refine cc_truth NB (by omega) hT (ht.get t hmem) (by simp at hle ⊢; omega) (ht.val t hmem) (fun b hb => ?_) fun fl hb a dd y => ?_
          · exact ⟨b, rfl, hb, by simp⟩
          · subst htot
            have q : (goB tf (f + 1) pv none (t :: r)) = ([t], .error fl) := goB_err hb
            have := hX fl (by rw [q]) a dd y
            rw [q, List.map_append, ← List.append_assoc] at this
            exact this
      · rintro v σ ⟨b, rfl, hb, rfl⟩
        walk_at "hv"
        walk_at "oc"
        refine cc_script_place (by omega) (by walk_at "inH") su.step hws hlw (fun m s r' hp => ?_) fun p hp a dd y => ?_
        · obtain ⟨q1, q2, q3⟩ := placeR_suf su.step hp
          have L2 := q2.len
          walk_at "hput"
          with_reducible refine on_next ?_
          with_reducible refine s_cons (hs_join (fun fl σ => fl = .next ∧ σ = ⟨[some (.ref x.h), some (.ref w), some (chV (if b then some s else ch)), some (.int (at_ + 1 + 1 + m)), some (.bool true), some (.bool b), oth], hostH x D S (log ++ (asked ++ (if ch.isNone then [t] else [])).map tst) R⟩) ?_ ?_)
          · walk_at "hv"
            cases b with
            | false => refine if_f rfl ?_; walk_at "hv"; exact ⟨rfl, rfl⟩
            | true =>
              refine if_t rfl ?_
              walk_at "hv"
              refine sub_list (by walk_at "inH") (by omega) (by simp at L L2; omega) q1 ?_
              walk_at "hv"
              exact ⟨rfl, rfl⟩
          · rintro fl σ ⟨rfl, rfl⟩
            walk_at "hv"
            have hal : (if ch.isNone then [t] else [] : List Str).length ≤ 1 := by split <;> simp
            cases r' with
            | nil =>
              rw [goB_end hb hp] at htot
              refine if_f (by simp at L2 ⊢; omega) ?_
              walk_at "hv"
              refine ⟨0, by simp, [], s, _, (if b then some s else ch), asked ++ (if ch.isNone then [t] else []), some (.bool b), oth, false, ?_, by simp only [List.length_append, List.length_nil, List.length_cons] at hle ⊢; omega, rfl, q2, by simp, htot⟩
              rw [decide_eq_false (by simp at L2 ⊢; omega)]
            | cons y r'' =>
              refine if_t (by simp at L2 ⊢; omega) ?_
              walk_at "hv"
              refine sub_list (by walk_at "inH") (by omega) (by simp at L L2; omega) q2.get ?_
              walk_at "hv"
              by_cases hy : y = "elseif"
              · subst hy
                rw [goB_elseif hb hp] at htot
                refine ⟨r''.length, by simp at q3 ⊢; omega, r'', "elseif", _, (if b then some s else ch), asked ++ (if ch.isNone then [t] else []), some (.bool b), oth, true, rfl, by simp only [List.length_append, List.length_nil, List.length_cons] at hle q3 ⊢; omega, rfl, q2.step, fun z hz => hsub z (.tail _ (placeR_mem hp z (.tail _ hz))), f, by simp at hf q3; omega, ?_⟩
                rw [List.append_assoc]
                exact htot
              · rw [goB_else hb hp hy] at htot
                refine ⟨(y :: r'').length, by simp at q3 ⊢; omega, y :: r'', s, _, (if b then some s else ch), asked ++ (if ch.isNone then [t] else []), some (.bool b), oth, false, ?_, by simp only [List.length_append, List.length_nil, List.length_cons] at hle q3 ⊢; omega, rfl, q2, fun z r e => by cases e; exact hy, htot⟩
                rw [beq_eq_false_iff_ne.mpr hy]
        · rw [goB_noscript hb hp] at htot
          subst htot
          exact hX (1, noScript p, WA) rfl a dd y
end
end
section
section
variable {d : Nat} {hd : Option Addr} {H : AH} {k : AV → AH → Prop} {X : Addr → AH → Prop}
noncomputable def blanks : List Str := [" ", "\t", "\n", "\x0b", "\x0c", "\r"]
noncomputable def isBlank (c : Str) : Bool := blanks.any fun x => x.cps.toList == c.cps.toList
theorem cc_is_blank {c : Str} (hn : 1 ≤ d) (hk : k (.bool (isBlank c)) H) : CC G d hd (.ref 181) [.str c] H k X := by
  obtain ⟨e, rfl⟩ := dpos hn
  refine cd_is_blank ?_
  refine s_cons ?_
  walk_at "hv"
  refine o_in_tup (xs := blanks) ?_
  walk_at "hv"
  exact hk
noncomputable def dig (c : Nat) : Int := if 48 ≤ c ∧ c ≤ 57 then c - 48 else if 97 ≤ c ∧ c ≤ 122 then c - 87 else if 65 ≤ c ∧ c ≤ 90 then c - 55 else -1
theorem cc_digit {c : Nat} (hn : 1 ≤ d) (hk : k (.int (dig c)) H) : CC G d hd (.ref 188) [.str ⟨#[c]⟩] H k X := by
  obtain ⟨e, rfl⟩ := dpos hn
  refine cd_digit ?_
  refine s_cons ?_
  walk_at "hv"
  refine o_len_str (Nat.le_of_ble_eq_true rfl) ?_
  walk_at "hv"
  refine if_f rfl ?_
  walk_at "hv"
  refine o_ord1 ?_
  walk_at "hv"
  have hs : ∀ v, dig c = v → k (.int v) H := fun v e => e ▸ hk
  unfold dig at hs
  rcases (by omega : c < 48 ∨ (48 ≤ c ∧ c ≤ 57) ∨ (57 < c ∧ c < 65) ∨ (65 ≤ c ∧ c ≤ 90) ∨ (90 < c ∧ c < 97) ∨ (97 ≤ c ∧ c ≤ 122) ∨ 122 < c) with h | h | h | h | h | h | h <;>
  (repeat (first | refine if_t (decide_eq_true (by omega)) ?_ | refine if_f (decide_eq_false (by omega)) ?_ | refine if_f rfl ?_); walk_at "hv") <;>
  exact hs _ (by (repeat' split) <;> omega)
noncomputable def dv : List Nat → Int → Option Int
  | [], v => some v
  | c :: cs, v => if dig c < 0 ∨ dig c ≥ 10 then none else dv cs (v * 10 + dig c)
noncomputable def dvT (t : Str) : Option Int := if t = "" then none else dv t.cps.toList 0
noncomputable def optV : Option Int → AV
  | none => .none
  | some i => .int i
theorem cc_digits_value {t : Str} (hn : 3 ≤ d) (ha : t.cps.all (· < 128) = true) (hk : k (optV (dvT t)) H) : CC G d none (.ref 195) [.str t, .int 10] H k X := by
  obtain ⟨e, rfl⟩ := dpos hn
  refine cd_digits_value ?_
  refine s_cons ?_
  walk_at "hv"
  unfold dvT at hk
  by_cases ht : t = ""
  · refine if_t (beq_iff_eq.mpr ht) ?_
    rw [if_pos ht] at hk
    walk_at "hv"
    exact hk
  · refine if_f (beq_eq_false_iff_ne.mpr ht) ?_
    rw [if_neg ht] at hk
    walk_at "hv"
    with_reducible refine s_for_str ?_
    walk_at "hv"
    refine ⟨t, rfl, ha, fun it tk => ?_⟩
    refine hfor_inv (fun vs loc H' => ∃ cs v c0 n0, vs = cs.map (fun c => .str ⟨#[c]⟩) ∧ loc = [some (.str t), some (.int 10), some (.int v), c0, n0] ∧ H' = H ∧ dv cs v = dv t.cps.toList 0) (fun _ _ _ _ _ => trivial) ?_ ?_ _ _ _ _ ⟨t.cps.toList, 0, none, none, rfl, rfl, rfl, rfl⟩
    · rintro v vs loc H' i ⟨cs, v', c0, n0, hv, rfl, rfl, hd⟩
      cases cs with
      | nil => cases hv
      | cons c cs =>
        cases hv
        refine ⟨_, by walk_at "put1", ?_⟩
        refine s_cons ?_
        walk_at "hv"
        walk_at "oc"
        refine cc_digit (by omega) ?_
        walk_at "hv"
        by_cases h1 : dig c < 0
        · refine if_t (decide_eq_true h1) (if_t rfl ?_)
          refine hs_drop .head ?_
          walk_at "hv"
          rw [← hd, show dv (c :: cs) v' = none from if_pos (.inl h1)] at hk
          exact hk
        · refine if_f (decide_eq_false h1) ?_
          walk_at "hv"
          by_cases h2 : dig c ≥ 10
          · refine if_t (decide_eq_true h2) (if_t rfl ?_)
            refine hs_drop .head ?_
            walk_at "hv"
            rw [← hd, show dv (c :: cs) v' = none from if_pos (.inr h2)] at hk
            exact hk
          · refine if_f (decide_eq_false h2) ?_
            walk_at "hv"
            refine if_f rfl ?_
            walk_at "hv"
            refine o_mul (.of_right (by decide +kernel)) ?_
            walk_at "hv"
            refine ⟨_, _, rfl, cs, v' * 10 + dig c, _, _, rfl, rfl, rfl, ?_⟩
            rw [← hd]
            exact (if_neg (by omega)).symm
    · rintro loc H' ⟨cs, v', c0, n0, hv, rfl, rfl, hd⟩
      cases cs with
      | cons c cs => cases hv
      | nil =>
        walk_at "hv"
        rw [← hd] at hk
        exact hk
noncomputable def chAt (t : Str) (i : Nat) : Str := ⟨#[t.cps.getD i 0]⟩
structure Trim (t : Str) (f b : Nat) : Prop where
  fb : f ≤ b
  bl : b ≤ t.length
  lead : ∀ i < f, isBlank (chAt t i) = true
  first : f < b → isBlank (chAt t f) = false
  trail : ∀ i, b ≤ i → i < t.length → f < b → isBlank (chAt t i) = true
  last : f < b → isBlank (chAt t (b - 1)) = false
  sign : f < b → (["+", "-"] : List Str).any (fun x => x.cps.toList == (chAt t f).cps.toList) = false
  zero : 2 < b - f → chAt t f ≠ "0"
  all : f = b → b = t.length
theorem chAt_get {t : Str} {i : Nat} (h : i < t.length) : t.cps[i]? = some (t.cps.getD i 0) := by
  rw [Array.getD_eq_getD_getElem?, Array.getElem?_eq_getElem (show i < t.cps.size from h)]; rfl
theorem cc_whole_of {t : Str} {f b : Nat} (hn : 5 ≤ d) (hz : t.length ≤ 100) (T : Trim t f b) {u : Str} (hu : Txt.slice t (some f) (some b) = u) (ha : u.cps.all (· < 128) = true) (hk : k (optV (dvT u)) H) : CC G d none (.ref 209) [.str t] H k X := by
  obtain ⟨e, rfl⟩ := dpos hn
  refine cd_whole_of ?_
  refine s_cons ?_
  walk_at "hv"
  refine o_len_str (by omega) ?_
  walk_at "hv"
  have hfb := T.fb
  have hbl := T.bl
  have hsub : ∀ {i : Nat} {z : Int}, z = i → i < t.length → t.cps[z.toNat]? = some (t.cps.getD i 0) := fun e h => by rw [e, Int.toNat_natCast]; exact chAt_get h
  refine hs_join (fun fl σ => fl = .next ∧ σ = ⟨[some (.str t), some (.int f), some (.int t.length), none, none, none], H⟩) (s_while_inv (fun n σ => ∃ i : Nat, i ≤ f ∧ n = f - i ∧ σ = ⟨[some (.str t), some (.int i), some (.int t.length), none, none, none], H⟩) f ⟨0, by omega, by omega, rfl⟩ ?_) ?_
  · rintro n σ ⟨i, hi, rfl, rfl⟩
    walk_at "hv"
    by_cases h1 : i < t.length
    · refine if_t (decide_eq_true (by omega)) ?_
      walk_at "hv"
      refine sub_str (by omega) (by omega) (hsub rfl h1) ?_
      walk_at "hv"
      walk_at "oc"
      refine cc_is_blank (by omega) ?_
      walk_at "hv"
      by_cases h2 : i < f
      · refine if_t (T.lead i h2) ?_
        walk_at "hv"
        refine if_t rfl ?_
        walk_at "hv"
        refine ⟨f - (i + 1), by omega, i + 1, by omega, rfl, rfl⟩
      · obtain rfl : i = f := by omega
        have h3 : i < b := by
          rcases Nat.lt_or_ge i b with h | h
          · exact h
          · have := T.all (by omega); omega
        refine if_f (T.first h3) ?_
        walk_at "hv"
        refine if_f rfl ?_
        exact ⟨rfl, rfl⟩
    · refine if_f (decide_eq_false (by omega)) ?_
      walk_at "hv"
      refine if_f rfl ?_
      obtain rfl : i = f := by omega
      exact ⟨rfl, rfl⟩
  rintro fl σ ⟨rfl, rfl⟩
  walk_at "hv"
  refine hs_join (fun fl σ => fl = .next ∧ σ = ⟨[some (.str t), some (.int f), some (.int b), none, none, none], H⟩) (s_while_inv (fun n σ => ∃ j : Nat, b ≤ j ∧ j ≤ t.length ∧ n = j ∧ σ = ⟨[some (.str t), some (.int f), some (.int j), none, none, none], H⟩) t.length ⟨t.length, by omega, by omega, rfl, rfl⟩ ?_) ?_
  · rintro n σ ⟨j, hj, hj2, rfl, rfl⟩
    walk_at "hv"
    by_cases h1 : f < n
    · have h3 : f < b := by
        rcases Nat.lt_or_ge f b with h | h
        · exact h
        · have := T.all (by omega); omega
      refine if_t (decide_eq_true (by omega)) ?_
      walk_at "hv"
      refine sub_str (by omega) (by omega) (hsub (i := n - 1) (by omega) (by omega)) ?_
      walk_at "hv"
      walk_at "oc"
      refine cc_is_blank (by omega) ?_
      walk_at "hv"
      by_cases h2 : b < n
      · refine if_t (T.trail (n - 1) (by omega) (by omega) h3) ?_
        walk_at "hv"
        refine if_t rfl ?_
        walk_at "hv"
        refine ⟨n - 1, by omega, n - 1, by omega, by omega, rfl, ?_⟩
        rw [show ((n - 1 : Nat) : Int) = (n : Int) - 1 by omega]
      · obtain rfl : n = b := by omega
        refine if_f (T.last h3) ?_
        walk_at "hv"
        refine if_f rfl ?_
        exact ⟨rfl, rfl⟩
    · refine if_f (decide_eq_false (by omega)) ?_
      walk_at "hv"
      refine if_f rfl ?_
      obtain rfl : n = b := by omega
      exact ⟨rfl, rfl⟩
  rintro fl σ ⟨rfl, rfl⟩
  iterate 6 walk_at "hx"
  with_reducible refine s_cons (hs_join (fun fl σ => fl = .next ∧ σ = ⟨[some (.str t), some (.int f), some (.int b), some (.bool false), none, none], H⟩) ?_ ?_)
  · walk_at "hv"
    by_cases h1 : f < b
    · refine if_t (decide_eq_true (by omega)) ?_
      walk_at "hv"
      refine sub_str (by omega) (by omega) (hsub rfl (by omega)) ?_
      walk_at "hv"
      refine o_in_tup (xs := ["+", "-"]) ?_
      walk_at "hv"
      refine if_f (T.sign h1) ?_
      walk_at "hv"
      refine if_f rfl ?_
      walk_at "hv"
      exact ⟨rfl, rfl⟩
    · refine if_f (decide_eq_false (by omega)) ?_
      walk_at "hv"
      refine if_f rfl ?_
      walk_at "hv"
      exact ⟨rfl, rfl⟩
  rintro fl σ ⟨rfl, rfl⟩
  iterate 6 walk_at "hx"
  with_reducible refine s_cons (hs_join (fun fl σ => fl = .next ∧ σ = ⟨[some (.str t), some (.int f), some (.int b), some (.bool false), some (.int 0), none], H⟩) ?_ ?_)
  · walk_at "hv"
    by_cases h1 : 2 < b - f
    · refine if_t (decide_eq_true (by omega)) ?_
      walk_at "hv"
      refine sub_str (by omega) (by omega) (hsub rfl (by omega)) ?_
      walk_at "hv"
      refine if_f (beq_eq_false_iff_ne.mpr (T.zero h1)) ?_
      walk_at "hv"
      refine if_f rfl ?_
      walk_at "hv"
      exact ⟨rfl, rfl⟩
    · refine if_f (decide_eq_false (by omega)) ?_
      walk_at "hv"
      refine if_f rfl ?_
      walk_at "hv"
      exact ⟨rfl, rfl⟩
  rintro fl σ ⟨rfl, rfl⟩
  walk_at "hv"
  refine if_f rfl ?_
  walk_at "hv"
  refine ⟨t, f, b, rfl, rfl, rfl, by omega, ?_⟩
  walk_at "hv"
  walk_at "oc"
  rw [hu]
  refine cc_digits_value (by omega) ha ?_
  walk_at "hv"
  cases hr : dvT u with
  | none =>
    refine if_t rfl ?_
    walk_at "hv"
    rw [hr] at hk
    exact hk
  | some v =>
    refine if_f rfl ?_
    walk_at "hv"
    refine if_f rfl ?_
    walk_at "hv"
    rw [hr] at hk
    exact hk
end
end
section
section
variable {d : Nat} {hd : Option Addr} {H : AH} {k : AV → AH → Prop} {X : Addr → AH → Prop}
noncomputable def boolR (t : Str) (u : Option Int) : Option Bool := match u with
  | some v => some (v != 0)
  | none => if (["", "o"] : List Str).any (fun x => x.cps.toList == (Txt.lower t).cps.toList) then none else if (["true", "yes", "on"] : List Str).any (fun w => Txt.startswith w (Txt.lower t)) then some true else if (["false", "no", "off"] : List Str).any (fun w => Txt.startswith w (Txt.lower t)) then some false else none
noncomputable def boolV : Option Bool → AV
  | none => .none
  | some b => .bool b
theorem cc_bool_of {t u : Str} {f b : Nat} (hn : 7 ≤ d) (hz : t.length ≤ 100) (T : Trim t f b) (hu : Txt.slice t (some f) (some b) = u) (ha : u.cps.all (· < 128) = true) (hlo : (Txt.lower t).length ≤ 1000) (hk : k (boolV (boolR t (dvT u))) H) : CC G d none (.ref 216) [.str t] H k X := by
  obtain ⟨e, rfl⟩ := dpos hn
  refine cd_bool_of ?_
  refine s_cons ?_
  walk_at "hv"
  walk_at "oc"
  refine cc_whole_of (by omega) hz T hu ha ?_
  walk_at "hv"
  unfold boolR at hk
  cases hr : dvT u with
  | some v =>
    rw [hr] at hk
    refine if_t rfl ?_
    walk_at "hv"
    refine o_ne_int (a := v) ?_
    walk_at "hv"
    exact hk
  | none =>
    rw [hr] at hk
    refine if_f rfl ?_
    walk_at "hv"
    with_reducible refine e_meth ?_
    walk_at "hv"
    refine ⟨_, gm_str F.slot_str_lower F.type_str_lower, (.inl ⟨_, rfl⟩), ?_⟩
    walk_at "hv"
    refine o_lower hlo ?_
    walk_at "hv"
    refine o_in_tup (xs := ["", "o"]) ?_
    walk_at "hv"
    by_cases h1 : (["", "o"] : List Str).any (fun x => x.cps.toList == (Txt.lower t).cps.toList) = true
    · refine if_t h1 ?_
      walk_at "hv"
      simp only [h1] at hk
      exact hk
    · have h1 := Bool.not_eq_true _ ▸ h1
      refine if_f h1 ?_
      walk_at "hv"
      with_reducible refine s_for_tup ?_
      walk_at "hv"
      refine ⟨_, rfl, fun it l => ?_⟩
      simp only [h1] at hk
      refine hfor_inv (fun vs loc H' => ∃ (ws : List Str) (w0 : Option AV), vs = ws.map .str ∧ loc = [some (.str t), some .none, some (.str (Txt.lower t)), w0] ∧ H' = H ∧ (ws.any (fun w => Txt.startswith w (Txt.lower t)) = (["true", "yes", "on"] : List Str).any (fun w => Txt.startswith w (Txt.lower t)))) (fun _ _ _ _ _ => trivial) ?_ ?_ _ _ _ _ ⟨["true", "yes", "on"], none, rfl, rfl, rfl, rfl⟩
      · rintro v vs loc H' i ⟨ws, w0, hv, rfl, rfl, hd⟩
        cases ws with
        | nil => cases hv
        | cons c cs =>
          cases hv
          refine ⟨_, by walk_at "put1", ?_⟩
          refine s_cons ?_
          with_reducible refine s_if (t_val (e_meth ?_))
          walk_at "hv"
          refine ⟨_, gm_str F.slot_str_startswith F.type_str_startswith, (.inl ⟨_, rfl⟩), ?_⟩
          walk_at "hv"
          refine o_startswith ?_
          walk_at "hv"
          rw [List.any_cons] at hd
          cases hb : Txt.startswith c (Txt.lower t) with
          | true =>
            rw [hb, Bool.true_or] at hd
            rw [← hd] at hk
            refine if_t rfl ?_
            refine hs_drop .head ?_
            walk_at "hv"
            exact hk
          | false =>
            rw [hb, Bool.false_or] at hd
            refine if_f rfl ?_
            walk_at "hv"
            exact ⟨_, _, rfl, cs, _, rfl, rfl, rfl, hd⟩
      · rintro loc H' ⟨ws, w0, hv, rfl, rfl, hd⟩
        cases ws with
        | cons c cs => cases hv
        | nil =>
          rw [← hd] at hk
          simp only [List.any_nil] at hk
          walk_at "hv"
          with_reducible refine s_for_tup ?_
          walk_at "hv"
          refine ⟨_, rfl, fun it l => ?_⟩
          refine hfor_inv (fun vs loc H2 => ∃ (ws : List Str) (w0 : Option AV), vs = ws.map .str ∧ loc = [some (.str t), some .none, some (.str (Txt.lower t)), w0] ∧ H2 = H' ∧ (ws.any (fun w => Txt.startswith w (Txt.lower t)) = (["false", "no", "off"] : List Str).any (fun w => Txt.startswith w (Txt.lower t)))) (fun _ _ _ _ _ => trivial) ?_ ?_ _ _ _ _ ⟨["false", "no", "off"], _, rfl, rfl, rfl, rfl⟩
          · rintro v vs loc H' i ⟨ws, w0, hv, rfl, rfl, hd⟩
            cases ws with
            | nil => cases hv
            | cons c cs =>
              cases hv
              refine ⟨_, by walk_at "put1", ?_⟩
              refine s_cons ?_
              with_reducible refine s_if (t_val (e_meth ?_))
              walk_at "hv"
              refine ⟨_, gm_str F.slot_str_startswith F.type_str_startswith, (.inl ⟨_, rfl⟩), ?_⟩
              walk_at "hv"
              refine o_startswith ?_
              walk_at "hv"
              rw [List.any_cons] at hd
              cases hb : Txt.startswith c (Txt.lower t) with
              | true =>
                rw [hb, Bool.true_or] at hd
                rw [← hd] at hk
                refine if_t rfl ?_
                refine hs_drop .head ?_
                walk_at "hv"
                exact hk
              | false =>
                rw [hb, Bool.false_or] at hd
                refine if_f rfl ?_
                walk_at "hv"
                exact ⟨_, _, rfl, cs, _, rfl, rfl, rfl, hd⟩
          · rintro loc H' ⟨ws, w0, hv, rfl, rfl, hd⟩
            cases ws with
            | cons c cs => cases hv
            | nil =>
              rw [← hd] at hk
              walk_at "hv"
              exact hk
theorem cc_need_bool1 {t u : Str} {f b : Nat} (hn : 9 ≤ d) (hz : t.length ≤ 100) (T : Trim t f b) (hu : Txt.slice t (some f) (some b) = u) (ha : u.cps.all (· < 128) = true) (hlo : (Txt.lower t).length ≤ 1000)
    (hk : ∀ b, boolR t (dvT u) = some b → k (.bool b) H) (hX : boolR t (dvT u) = none → ∀ a dd y, X a ((a, rObj dd false (.int 1) (.str (boolWhy t)) TVB y) :: H)) : CC G d none (.ref 223) [.str t] H k X := by
  obtain ⟨e, rfl⟩ := dpos hn
  refine cd_need_bool ?_
  refine s_cons ?_
  walk_at "hv"
  walk_at "oc"
  refine cc_bool_of (by omega) hz T hu ha hlo ?_
  walk_at "hv"
  cases hr : boolR t (dvT u) with
  | some b =>
    refine if_f rfl ?_
    walk_at "hv"
    exact hk b hr
  | none =>
    refine if_t rfl ?_
    refine s_cons ?_
    with_reducible refine s_raise ?_
    have e1 : (Str.ofString "expected boolean value but got \"").length = 32 := by decide +kernel
    have e2 : (Str.ofString "\"").length = 1 := by decide +kernel
    walk_at "hv"
    refine o_adds (by omega) ?_
    walk_at "hv"
    refine o_adds (by simp only [Str.length_append]; omega) ?_
    walk_at "hv"
    walk_at "oc"
    refine cc_error (by omega) fun a dd y => ?_
    refine ⟨_, _, _, _, _, _, _, rfl, .head, excC, .inl rfl, ?_⟩
    have := hX hr a dd y
    unfold boolWhy at this
    exact this
noncomputable def trimB (t : Str) (f b : Nat) : Bool :=
  decide (f ≤ b) && decide (b ≤ t.length) && (List.range f).all (fun i => isBlank (chAt t i)) && (decide (b ≤ f) || (!isBlank (chAt t f) && (List.range t.length).all (fun i => decide (i < b) || isBlank (chAt t i)) && !isBlank (chAt t (b - 1)) && !(["+", "-"] : List Str).any (fun x => x.cps.toList == (chAt t f).cps.toList))) && (decide (b - f ≤ 2) || !(chAt t f == "0")) && (!(f == b) || b == t.length)
theorem Trim.of {t : Str} {f b : Nat} (h : trimB t f b = true) : Trim t f b := by
  unfold trimB at h
  simp only [Bool.and_eq_true, Bool.or_eq_true, decide_eq_true_eq, List.all_eq_true, List.mem_range, Bool.not_eq_true', beq_iff_eq, beq_eq_false_iff_ne] at h
  obtain ⟨⟨⟨⟨⟨h1, h2⟩, h3⟩, h4⟩, h5⟩, h6⟩ := h
  refine ⟨h1, h2, h3, fun q => ?_, fun i q1 q2 q3 => ?_, fun q => ?_, fun q => ?_, fun q => ?_, fun q => ?_⟩
  · rcases h4 with h | h
    · omega
    · exact h.1.1.1
  · rcases h4 with h | h
    · omega
    · rcases h.1.1.2 i q2 with h | h
      · omega
      · exact h
  · rcases h4 with h | h
    · omega
    · exact h.1.2
  · rcases h4 with h | h
    · omega
    · exact h.2
  · rcases h5 with h | h
    · omega
    · exact h
  · rcases h6 with h | h
    · exact absurd q h
    · exact h
noncomputable def boolCk (v : Str) (f b : Nat) (u : Str) : Bool := decide (v.length ≤ 100) && trimB v f b && Txt.slice v (some f) (some b) == u && u.cps.all (· < 128) && decide ((Txt.lower v).length ≤ 1000) && boolR v (dvT u) == truR v
theorem need_of {v u : Str} (f b : Nat) (hn : 12 ≤ d) (h : boolCk v f b u = true) (hk : ∀ b, truR v = some b → k (.bool b) H) (hX : truR v = none → ∀ a dd y, X a ((a, rObj dd false (.int 1) (.str (boolWhy v)) TVB y) :: H)) : CC G d none (.ref 223) [.str v] H k X := by
  unfold boolCk at h
  simp only [Bool.and_eq_true, decide_eq_true_eq, beq_iff_eq] at h
  obtain ⟨⟨⟨⟨⟨h1, h2⟩, h3⟩, h4⟩, h5⟩, h6⟩ := h
  refine cc_need_bool1 (by omega) h1 (.of h2) h3 h4 h5 ?_ ?_
  · rw [h6]; exact hk
  · rw [h6]; exact hX
theorem needBool : NeedBool := by
  intro d H k X v hn hv hk hX
  unfold truVals at hv
  simp only [List.mem_cons, List.not_mem_nil, or_false] at hv
  rcases hv with rfl | rfl | rfl | rfl | rfl | rfl | rfl | rfl | rfl
  · exact need_of (u := "0") 0 1 hn (by decide +kernel) hk hX
  · exact need_of (u := "1") 0 1 hn (by decide +kernel) hk hX
  · exact need_of (u := "off") 0 3 hn (by decide +kernel) hk hX
  · exact need_of (u := "7") 1 2 hn (by decide +kernel) hk hX
  · exact need_of (u := "fals") 0 4 hn (by decide +kernel) hk hX
  · exact need_of (u := "TRUE") 0 4 hn (by decide +kernel) hk hX
  · exact need_of (u := "maybe") 0 5 hn (by decide +kernel) hk hX
  · exact need_of (u := "") 0 0 hn (by decide +kernel) hk hX
  · exact need_of (u := "y") 0 1 hn (by decide +kernel) hk hX
end
end
section
inductive DSt where
  | test | thn | script | clause | last | nothing
noncomputable def DSt.nm : DSt → Str
  | .test => "test" | .thn => "then" | .script => "script" | .clause => "clause" | .last => "last" | .nothing => "nothing"
structure DS where
  asked : List Str
  scr : Option Str
  st : DSt
  ahead : Str
  found : Bool
  now : Option Bool
  last : Option Str
noncomputable def extraW : Str := "wrong # args: " ++ ("extra words after \"else\" clause in \"if\" command" : Str)
noncomputable def dueEnd (s : DS) : List Str × Except Flt (Option Str) := match s.st with
  | .test => (s.asked, .error (1, noExpr s.ahead, WA))
  | .thn | .script | .last => (s.asked, .error (1, noScript s.ahead, WA))
  | .nothing => (s.asked, .ok (if s.found then s.scr else s.last))
  | .clause => (s.asked, .ok s.scr)
noncomputable def dueScript (s : DS) (one : Str) : DS := { s with scr := if s.now = some true then some one else s.scr, found := if s.now = some true then true else s.found, st := .clause, ahead := one }
noncomputable def dueGo (tf : Str → Int × Str) : DS → List Str → List Str × Except Flt (Option Str)
  | s, [] => dueEnd s
  | s, one :: r => match s.st with
    | .test => if s.found then dueGo tf { s with now := some false, st := .thn, ahead := one } r else
        match askR (tf one) with
        | .error e => (s.asked ++ [one], .error e)
        | .ok b => dueGo tf { s with asked := s.asked ++ [one], now := some b, st := .thn, ahead := one } r
    | .thn => if one = "then" then dueGo tf { s with st := .script, ahead := one } r else dueGo tf (dueScript s one) r
    | .script => dueGo tf (dueScript s one) r
    | .clause => if one = "elseif" then dueGo tf { s with st := .test, ahead := one } r else if one = "else" then dueGo tf { s with st := .last, ahead := one } r else dueGo tf { s with last := some one, st := .nothing, ahead := one } r
    | .last => dueGo tf { s with last := some one, st := .nothing, ahead := one } r
    | .nothing => (s.asked, .error (1, extraW, WA))
section
variable {tf : Str → Int × Str}
theorem due_nothing {a : List Str} {ch : Option Str} {ah l : Str} {nw : Option Bool} (r : List Str) : dueGo tf ⟨a, ch, .nothing, ah, ch.isSome, nw, some l⟩ r = (a, match r with | [] => .ok (if ch.isNone then some l else ch) | _ => .error (1, extraW, WA)) := by
  cases r with
  | nil => cases ch <;> rfl
  | cons x r => rfl
theorem due_clause {a : List Str} {ch : Option Str} {ah : Str} {nw : Option Bool} {l : Option Str} (r : List Str) (h : ∀ t s, r = t :: s → t ≠ "elseif") : dueGo tf ⟨a, ch, .clause, ah, ch.isSome, nw, l⟩ r = (a, finB ch r) := by
  cases r with
  | nil => rfl
  | cons x r =>
    have hx := h x r rfl
    show (if x = "elseif" then _ else if x = "else" then _ else _) = _
    rw [if_neg hx]
    by_cases he : x = "else"
    · rw [if_pos he]
      subst he
      cases r with
      | nil =>
        show (a, Except.error (1, noScript "else", WA)) = (a, Except.error (1, "wrong # args: " ++ ("no script following \"else\" argument" : Str), WA))
        rw [show noScript "else" = "wrong # args: " ++ ("no script following \"else\" argument" : Str) by decide +kernel]
      | cons s r =>
        show dueGo tf ⟨a, ch, .nothing, s, ch.isSome, nw, some s⟩ r = _
        rw [due_nothing]
        cases r <;> rfl
    · rw [if_neg he]
      show dueGo tf ⟨a, ch, .nothing, x, ch.isSome, nw, some x⟩ r = _
      rw [due_nothing]
      cases r with
      | nil => rw [finB_ok (show elseR x [] = .ok x from if_neg he)]
      | cons y r => rw [finB_error (show elseR x (y :: r) = .error _ from if_neg he)]; rfl
theorem due_script {a : List Str} {ch : Option Str} {b f : Bool} {st : DSt} {l : Option Str} {ah s : Str} (hf : f = ch.isSome) : dueScript ⟨a, ch, st, ah, f, some b, l⟩ s = ⟨a, if b then some s else ch, .clause, s, (if b then some s else ch).isSome, some b, l⟩ := by
  subst hf
  cases b <;> rfl
theorem due_thn {a : List Str} {ch : Option Str} {t : Str} {b : Bool} {l : Option Str} (r : List Str) : dueGo tf ⟨a, ch, .thn, t, ch.isSome, some b, l⟩ r = (match placeR t r with
    | .error p => (a, .error (1, noScript p, WA))
    | .ok (_, s, r') => dueGo tf ⟨a, if b then some s else ch, .clause, s, (if b then some s else ch).isSome, some b, l⟩ r') := by
  cases r with
  | nil => rfl
  | cons x r =>
    show (if x = "then" then _ else _) = _
    by_cases hx : x = "then"
    · rw [if_pos hx]
      subst hx
      cases r with
      | nil => rfl
      | cons y r =>
        show dueGo tf (dueScript ⟨a, ch, .script, "then", ch.isSome, some b, l⟩ y) r = _
        rw [due_script rfl]
        rfl
    · rw [if_neg hx, due_script rfl, show placeR t (x :: r) = .ok (0, x, r) from if_neg hx]
theorem due_go : ∀ (f : Nat) (rs : List Str) (pv : Str) (ch : Option Str) (a : List Str) (nw : Option Bool) (l : Option Str), rs.length < f → dueGo tf ⟨a, ch, .test, pv, ch.isSome, nw, l⟩ rs = (a ++ (goB tf f pv ch rs).1, (goB tf f pv ch rs).2) := by
  intro f
  induction f with
  | zero => intro rs pv ch a nw l h; omega
  | succ f ih =>
    intro rs pv ch a nw l h
    cases rs with
    | nil => simp [goB, dueGo, dueEnd]
    | cons t r =>
      have key : ∀ b, (if ch.isNone then askR (tf t) else .ok false) = .ok b → dueGo tf ⟨a ++ (if ch.isNone then [t] else []), ch, .thn, t, ch.isSome, some b, l⟩ r = (a ++ (goB tf (f + 1) pv ch (t :: r)).1, (goB tf (f + 1) pv ch (t :: r)).2) := by
        intro b hb
        rw [due_thn]
        cases hp : placeR t r with
        | error p => rw [goB_noscript hb hp]
        | ok q =>
          obtain ⟨m, s, r'⟩ := q
          have hlt : r'.length ≤ r.length := by
            cases r with
            | nil => cases hp
            | cons t' r =>
              by_cases ht : t' = "then"
              · cases r with
                | nil => rw [show placeR t [t'] = .error "then" from if_pos ht] at hp; cases hp
                | cons t2 r => rw [show placeR t (t' :: t2 :: r) = .ok (1, t2, r) from if_pos ht] at hp; cases hp; simp; omega
              · rw [show placeR t (t' :: r) = .ok (0, t', r) from if_neg ht] at hp; cases hp; simp
          cases r' with
          | nil =>
            rw [goB_end hb hp]
            exact due_clause [] nofun
          | cons x r'' =>
            by_cases hx : x = "elseif"
            · subst hx
              rw [goB_elseif hb hp]
              show dueGo tf ⟨_, _, .test, "elseif", _, some b, l⟩ r'' = _
              rw [ih r'' "elseif" _ _ _ _ (by simp at h hlt; omega), List.append_assoc]
            · rw [goB_else hb hp hx]
              exact due_clause (x :: r'') fun t s e => by cases e; exact hx
      cases ch with
      | some c => exact (show _ = dueGo tf ⟨a ++ [], some c, .thn, t, true, some false, l⟩ r by rw [List.append_nil]; rfl).trans (key false rfl)
      | none =>
        show (match askR (tf t) with | .error e => (a ++ [t], Except.error e) | .ok b => dueGo tf ⟨a ++ [t], none, .thn, t, false, some b, l⟩ r) = _
        cases hb : askR (tf t) with
        | error e => rw [goB_err (ch := none) hb]
        | ok b => exact key b hb
end
end
section
section
variable {d : Nat} {hd : Option Addr} {H : AH} {k : AV → AH → Prop} {X : Addr → AH → Prop}
theorem cc_law_wrong {t : Str} (hn : 1 ≤ d) (hz : t.length ≤ 900) (hk : k (.tup [.int 1, .str ("wrong # args: " ++ t), WA]) H) : CC G d none (.ref 623) [.str t] H k X := by
  obtain ⟨e, rfl⟩ := dpos hn
  refine cd_law_wrong ?_
  refine s_cons ?_
  walk_at "hv"
  refine o_adds (by have : (Str.ofString "wrong # args: ").length = 14 := by decide +kernel
                    omega) ?_
  walk_at "hv"
  exact hk
noncomputable def knownEs : List (Str × AV) := [("0", .bool false), ("1", .bool true), ("off", .bool false), (" 7 ", .bool true), ("fals", .bool false), ("TRUE", .bool true), ("y", .bool true)]
theorem known_of (v : Str) : (∃ b, truR v = some b ∧ GetE v (.bool b) knownEs) ∨ (truR v = none ∧ NoE v knownEs) := by
  unfold truR knownEs
  by_cases h1 : v = "0"
  · left; subst h1; exact ⟨false, if_pos rfl, .head⟩
  rw [if_neg h1]
  by_cases h2 : v = "1"
  · left; subst h2; exact ⟨true, if_pos rfl, .tail (Ne.symm h1) .head⟩
  rw [if_neg h2]
  by_cases h3 : v = "off"
  · left; subst h3; exact ⟨false, if_pos rfl, .tail (Ne.symm h1) (.tail (Ne.symm h2) .head)⟩
  rw [if_neg h3]
  by_cases h4 : v = " 7 "
  · left; subst h4; exact ⟨true, if_pos rfl, .tail (Ne.symm h1) (.tail (Ne.symm h2) (.tail (Ne.symm h3) .head))⟩
  rw [if_neg h4]
  by_cases h5 : v = "fals"
  · left; subst h5; exact ⟨false, if_pos rfl, .tail (Ne.symm h1) (.tail (Ne.symm h2) (.tail (Ne.symm h3) (.tail (Ne.symm h4) .head)))⟩
  rw [if_neg h5]
  by_cases h6 : v = "TRUE"
  · left; subst h6; exact ⟨true, if_pos rfl, .tail (Ne.symm h1) (.tail (Ne.symm h2) (.tail (Ne.symm h3) (.tail (Ne.symm h4) (.tail (Ne.symm h5) .head))))⟩
  rw [if_neg h6]
  by_cases h7 : v = "y"
  · left; subst h7; exact ⟨true, if_pos rfl, .tail (Ne.symm h1) (.tail (Ne.symm h2) (.tail (Ne.symm h3) (.tail (Ne.symm h4) (.tail (Ne.symm h5) (.tail (Ne.symm h6) .head)))))⟩
  rw [if_neg h7]
  right
  exact ⟨rfl, .cons (Ne.symm h1) (.cons (Ne.symm h2) (.cons (Ne.symm h3) (.cons (Ne.symm h4) (.cons (Ne.symm h5) (.cons (Ne.symm h6) (.cons (Ne.symm h7) .nil))))))⟩
theorem cc_law_truth {v : Str} (hn : 1 ≤ d) (hk : k (boolV (truR v)) H) : CC G d none (.ref 609) [.str v] H k X := by
  obtain ⟨e, rfl⟩ := dpos hn
  refine cc_gc (cd_law_truth ?_)
  refine s_cons ?_
  with_reducible refine s_assign (e_dict fun a => ?_)
  repeat (first | with_reducible refine hp_cons ?_ | with_reducible refine hp_nil ?_ | walk_at "hx")
  refine ⟨by decide +kernel, _, .head, ?_⟩
  walk_at "hv"
  rcases known_of v with ⟨b, hb, hg⟩ | ⟨hb, hg⟩
  · refine o_in_t (es := knownEs) .head hg ?_
    walk_at "hv"
    refine if_t rfl ?_
    walk_at "hv"
    refine sub_dict (es := knownEs) .head hg ?_
    walk_at "hv"
    rw [hb] at hk
    exact ⟨_, _, _, .head, hk⟩
  · refine o_in_f (es := knownEs) .head hg ?_
    walk_at "hv"
    refine if_f rfl ?_
    walk_at "hv"
    rw [hb] at hk
    exact ⟨_, _, _, .head, hk⟩
end
end
section
section
variable {d : Nat} {hd : Option Addr} {H : AH} {k : AV → AH → Prop} {X : Addr → AH → Prop} {tf : Str → Int × Str} {TE : List (Str × AV)}
noncomputable def fltV : Option Flt → AV
  | none => .none
  | some f => .tup [.int f.1, .str f.2.1, f.2.2]
noncomputable def dueV (r : Except Flt (Option Str)) : AV × AV := match r with
  | .ok o => (chV o, .none)
  | .error f => (.none, fltV (some f))
structure DInv (tf : Str → Int × Str) (ws : List Str) (tot : List Str × Except Flt (Option Str)) (s : DS) (rs : List Str) : Prop where
  go : dueGo tf s rs = tot
  sub : ∀ t ∈ rs, t ∈ ws
  len : s.asked.length + rs.length ≤ 50
  now : s.st = .thn ∨ s.st = .script → s.now.isSome
  nothing : s.st = .nothing → s.last.isSome
  ahead : s.ahead.length ≤ 100
noncomputable abbrev dueLoc (w T a : Addr) (s : DS) (one code value why : Option AV) : List (Option AV) := [some (.ref w), some (.ref T), some (.ref a), some (chV s.scr), some (.str s.st.nm), some (.str s.ahead), some (.bool s.found), one, code, value, why, s.now.map .bool, s.last.map .str]
theorem truVals_len {v : Str} (h : v ∈ truVals) : v.length ≤ 100 := by
  unfold truVals at h
  simp only [List.mem_cons, List.not_mem_nil, or_false] at h
  rcases h with rfl | rfl | rfl | rfl | rfl | rfl | rfl | rfl | rfl <;> decide +kernel
theorem cc_law_due {w T : Addr} {ws : List Str} (hn : 12 ≤ d) (hw : InH w (.list (ws.map .str)) H) (hT : InH T (.dict TE) H) (ht : TOk tf TE ws) (hz : ws.length ≤ 40) (hlen : ∀ t ∈ ws, t.length ≤ 100)
    (hk : ∀ a, k (.tup [.ref a, (dueV (goB tf 50 "if" none ws).2).1, (dueV (goB tf 50 "if" none ws).2).2]) ((a, .list ((goB tf 50 "if" none ws).1.map .str)) :: H)) : CC G d none (.ref 616) [.ref w, .ref T] H k X := by
  obtain ⟨e, rfl⟩ := dpos hn
  have hgo := due_go (tf := tf) 50 ws "if" none [] none none (by omega)
  rw [List.nil_append] at hgo
  generalize htot : goB tf 50 "if" none ws = tot at hk hgo
  refine cd_law_due ?_
  refine s_cons ?_
  walk_at "hv"
  intro a
  walk_at "hv"
  with_reducible refine s_for_list ?_
  walk_at "hv"
  refine ⟨w, _, rfl, by walk_at "inH", fun it => ?_⟩
  refine hfor_inv (fun vs loc H' => ∃ (rs : List Str) (s : DS) (one code value why : Option AV), vs = rs.map .str ∧ loc = dueLoc w T a s one code value why ∧ H' = (a, .list (s.asked.map .str)) :: H ∧ DInv tf ws tot s rs) ?_ ?_ ?_ _ _ _ _
    ⟨ws, ⟨[], none, .test, "if", false, none, none⟩, none, none, none, none, rfl, rfl, rfl, ⟨hgo, fun _ h => h, by simp; omega, (by rintro (h | h) <;> cases h), nofun, by decide +kernel⟩⟩
  · rintro vs loc H' o ⟨rs, s, one, code, value, why, rfl, rfl, rfl, D⟩
    exact .tail (.tail hw)
  · rintro v vs loc H' i ⟨rs, s, one, code, value, why, hv, rfl, rfl, D⟩
    cases rs with
    | nil => cases hv
    | cons x rs =>
      cases hv
      refine ⟨_, by walk_at "put1", ?_⟩
      refine s_cons ?_
      obtain ⟨asked, ch, st, ahead, found, now, last⟩ := s
      cases st with
      | test =>
        have hg := ht.get x (D.sub x (.head _))
        have hxl := hlen x (D.sub x (.head _))
        dsimp only [dueLoc]
        walk_at "hv"
        refine if_t rfl ?_
        walk_at "hv"
        cases found with
        | true =>
          refine if_f rfl ?_
          walk_at "hv"
          refine if_f rfl ?_
          walk_at "hv"
          exact ⟨_, _, rfl, rs, ⟨asked, ch, .thn, x, true, some false, last⟩, some (.str x), code, value, why, rfl, rfl, rfl, ⟨D.go, fun t ht => D.sub t (.tail _ ht), by have := D.len; simp at this ⊢; omega, fun _ => rfl, nofun, hxl⟩⟩
        | false =>
          refine if_t rfl ?_
          walk_at "hv"
          with_reducible refine e_meth ?_
          walk_at "hv"
          refine ⟨_, gm_list slot_list_append rfl (by walk_at "inH"), (.inl ⟨_, rfl⟩), ?_⟩
          walk_at "hv"
          have hD := D.len
          refine o_append' (by walk_at "setH") (by simp at hD ⊢; omega) ?_
          walk_at "hv"
          have hgo := D.go
          by_cases hc : (tf x).1 = 0
          · refine if_f (by rw [hc]; rfl) ?_
            walk_at "hv"
            walk_at "oc"
            refine cc_law_truth (by omega) ?_
            walk_at "hv"
            have hxa : List.map AV.str asked ++ [AV.str x] = (asked ++ [x]).map AV.str := by simp
            cases hb : truR (tf x).2 with
            | none =>
              have ha : askR (tf x) = .error (1, boolWhy (tf x).2, TVB) := by unfold askR; rw [if_pos hc, hb]
              have hgo : (asked ++ [x], Except.error (1, boolWhy (tf x).2, TVB)) = tot := by
                rw [← hgo]
                show _ = (match askR (tf x) with | .error e => (asked ++ [x], Except.error e) | .ok b => _)
                rw [ha]
              have e1 : (Str.ofString "expected boolean value but got \"").length = 32 := by decide +kernel
              have e2 : (Str.ofString "\"").length = 1 := by decide +kernel
              have e3 : (tf x).2.length ≤ 100 := truVals_len (ht.val x (D.sub x (.head _)) hc)
              refine if_t rfl ?_
              refine hs_drop .head ?_
              refine s_cons ?_
              walk_at "hv"
              refine o_adds (by omega) ?_
              walk_at "hv"
              refine o_adds (by simp only [Str.length_append]; omega) ?_
              walk_at "hv"
              have := hk a
              rw [← hgo] at this
              rw [hxa]
              exact this
            | some b =>
              have ha : askR (tf x) = .ok b := by unfold askR; rw [if_pos hc, hb]
              refine if_f rfl ?_
              walk_at "hv"
              refine if_t rfl ?_
              walk_at "hv"
              refine sub_tup (by decide) (by decide) rfl ?_
              walk_at "hv"
              walk_at "oc"
              refine cc_law_truth (by omega) ?_
              rw [hb]
              walk_at "hv"
              rw [hxa]
              refine ⟨_, _, rfl, rs, ⟨asked ++ [x], ch, .thn, x, false, some b, last⟩, some (.str x), _, _, why, rfl, rfl, rfl, ⟨?_, fun t ht => D.sub t (.tail _ ht), by simp at hD ⊢; omega, fun _ => rfl, nofun, hxl⟩⟩
              rw [← hgo]
              show _ = (match askR (tf x) with | .error e => (asked ++ [x], Except.error e) | .ok b => _)
              rw [ha]
          · refine if_t (bne_iff_ne.mpr hc) ?_
            refine hs_drop .head ?_
            walk_at "hv"
            have ha : askR (tf x) = .error ((tf x).1, (tf x).2, T73) := by unfold askR; rw [if_neg hc]
            have hgo : (asked ++ [x], Except.error ((tf x).1, (tf x).2, T73)) = tot := by
              rw [← hgo]
              show _ = (match askR (tf x) with | .error e => (asked ++ [x], Except.error e) | .ok b => _)
              rw [ha]
            have := hk a
            rw [← hgo] at this
            have hxa : List.map AV.str asked ++ [AV.str x] = (asked ++ [x]).map AV.str := by simp
            rw [hxa]
            exact this
      | thn =>
        obtain ⟨b, rfl⟩ : ∃ b, now = some b := Option.isSome_iff_exists.mp (D.now (.inl rfl))
        dsimp only [dueLoc, Option.map_some]
        walk_at "hv"
        refine if_f rfl ?_
        walk_at "hv"
        refine if_t rfl ?_
        walk_at "hv"
        by_cases hx : x = "then"
        · refine if_t (beq_iff_eq.mpr hx) ?_
          walk_at "hv"
          refine if_t rfl ?_
          walk_at "hv"
          exact ⟨_, _, rfl, rs, ⟨asked, ch, .script, x, found, some b, last⟩, some (.str x), code, value, why, rfl, rfl, rfl, ⟨(if_pos hx).symm.trans D.go, fun t ht => D.sub t (.tail _ ht), by have := D.len; simp at this ⊢; omega, fun _ => rfl, nofun, hlen x (D.sub x (.head _))⟩⟩
        refine if_f (beq_eq_false_iff_ne.mpr hx) ?_
        walk_at "hv"
        refine if_f rfl ?_
        walk_at "hv"
        intro g
        refine o_in_list (xs := ["then", "script"]) .head ?_
        walk_at "hv"
        refine if_t rfl ?_
        refine hs_drop .head ?_
        walk_at "hv"
        cases b with
        | false =>
          refine if_f rfl ?_
          walk_at "hv"
          exact ⟨_, _, rfl, rs, ⟨asked, ch, .clause, x, found, some false, last⟩, some (.str x), code, value, why, rfl, rfl, rfl, ⟨(if_neg hx).symm.trans D.go, fun t ht => D.sub t (.tail _ ht), by have := D.len; simp at this ⊢; omega, (by rintro (h | h) <;> cases h), nofun, hlen x (D.sub x (.head _))⟩⟩
        | true =>
          refine if_t rfl ?_
          walk_at "hv"
          exact ⟨_, _, rfl, rs, ⟨asked, some x, .clause, x, true, some true, last⟩, some (.str x), code, value, why, rfl, rfl, rfl, ⟨(if_neg hx).symm.trans D.go, fun t ht => D.sub t (.tail _ ht), by have := D.len; simp at this ⊢; omega, (by rintro (h | h) <;> cases h), nofun, hlen x (D.sub x (.head _))⟩⟩
      | script =>
        obtain ⟨b, rfl⟩ : ∃ b, now = some b := Option.isSome_iff_exists.mp (D.now (.inr rfl))
        dsimp only [dueLoc, Option.map_some]
        walk_at "hv"
        refine if_f rfl ?_
        walk_at "hv"
        refine if_f rfl ?_
        walk_at "hv"
        refine if_f rfl ?_
        walk_at "hv"
        intro g
        refine o_in_list (xs := ["then", "script"]) .head ?_
        walk_at "hv"
        refine if_t rfl ?_
        refine hs_drop .head ?_
        walk_at "hv"
        cases b with
        | false =>
          refine if_f rfl ?_
          walk_at "hv"
          exact ⟨_, _, rfl, rs, ⟨asked, ch, .clause, x, found, some false, last⟩, some (.str x), code, value, why, rfl, rfl, rfl, ⟨D.go, fun t ht => D.sub t (.tail _ ht), by have := D.len; simp at this ⊢; omega, (by rintro (h | h) <;> cases h), nofun, hlen x (D.sub x (.head _))⟩⟩
        | true =>
          refine if_t rfl ?_
          walk_at "hv"
          exact ⟨_, _, rfl, rs, ⟨asked, some x, .clause, x, true, some true, last⟩, some (.str x), code, value, why, rfl, rfl, rfl, ⟨D.go, fun t ht => D.sub t (.tail _ ht), by have := D.len; simp at this ⊢; omega, (by rintro (h | h) <;> cases h), nofun, hlen x (D.sub x (.head _))⟩⟩
      | clause =>
        walk_at "hv"
        refine if_f rfl ?_
        walk_at "hv"
        refine if_f rfl ?_
        walk_at "hv"
        refine if_f rfl ?_
        walk_at "hv"
        intro g
        refine o_in_list (xs := ["then", "script"]) .head ?_
        walk_at "hv"
        refine if_f rfl ?_
        refine hs_drop .head ?_
        walk_at "hv"
        refine if_t rfl ?_
        walk_at "hv"
        by_cases hx : x = "elseif"
        · refine if_t (beq_iff_eq.mpr hx) ?_
          walk_at "hv"
          refine if_t rfl ?_
          walk_at "hv"
          exact ⟨_, _, rfl, rs, ⟨asked, ch, .test, x, found, now, last⟩, some (.str x), code, value, why, rfl, rfl, rfl, ⟨(if_pos hx).symm.trans D.go, fun t ht => D.sub t (.tail _ ht), by have := D.len; simp at this ⊢; omega, (by rintro (h | h) <;> cases h), nofun, hlen x (D.sub x (.head _))⟩⟩
        · refine if_f (beq_eq_false_iff_ne.mpr hx) ?_
          walk_at "hv"
          refine if_f rfl ?_
          walk_at "hv"
          refine if_t rfl ?_
          walk_at "hv"
          by_cases he : x = "else"
          · refine if_t (beq_iff_eq.mpr he) ?_
            walk_at "hv"
            refine if_t rfl ?_
            walk_at "hv"
            exact ⟨_, _, rfl, rs, ⟨asked, ch, .last, x, found, now, last⟩, some (.str x), code, value, why, rfl, rfl, rfl, ⟨(if_pos he).symm.trans ((if_neg hx).symm.trans D.go), fun t ht => D.sub t (.tail _ ht), by have := D.len; simp at this ⊢; omega, (by rintro (h | h) <;> cases h), nofun, hlen x (D.sub x (.head _))⟩⟩
          · refine if_f (beq_eq_false_iff_ne.mpr he) ?_
            walk_at "hv"
            refine if_f rfl ?_
            walk_at "hv"
            refine if_f rfl ?_
            walk_at "hv"
            exact ⟨_, _, rfl, rs, ⟨asked, ch, .nothing, x, found, now, some x⟩, some (.str x), code, value, why, rfl, rfl, rfl, ⟨(if_neg he).symm.trans ((if_neg hx).symm.trans D.go), fun t ht => D.sub t (.tail _ ht), by have := D.len; simp at this ⊢; omega, (by rintro (h | h) <;> cases h), fun _ => rfl, hlen x (D.sub x (.head _))⟩⟩
      | last =>
        walk_at "hv"
        refine if_f rfl ?_
        walk_at "hv"
        refine if_f rfl ?_
        walk_at "hv"
        refine if_f rfl ?_
        walk_at "hv"
        intro g
        refine o_in_list (xs := ["then", "script"]) .head ?_
        walk_at "hv"
        refine if_f rfl ?_
        refine hs_drop .head ?_
        walk_at "hv"
        refine if_f rfl ?_
        walk_at "hv"
        refine if_f rfl ?_
        walk_at "hv"
        refine if_f rfl ?_
        walk_at "hv"
        refine if_f rfl ?_
        walk_at "hv"
        refine if_f rfl ?_
        walk_at "hv"
        exact ⟨_, _, rfl, rs, ⟨asked, ch, .nothing, x, found, now, some x⟩, some (.str x), code, value, why, rfl, rfl, rfl, ⟨D.go, fun t ht => D.sub t (.tail _ ht), by have := D.len; simp at this ⊢; omega, (by rintro (h | h) <;> cases h), fun _ => rfl, hlen x (D.sub x (.head _))⟩⟩
      | nothing =>
        walk_at "hv"
        refine if_f rfl ?_
        walk_at "hv"
        refine if_f rfl ?_
        walk_at "hv"
        refine if_f rfl ?_
        walk_at "hv"
        intro g
        refine o_in_list (xs := ["then", "script"]) .head ?_
        walk_at "hv"
        refine if_f rfl ?_
        refine hs_drop .head ?_
        walk_at "hv"
        refine if_f rfl ?_
        walk_at "hv"
        refine if_f rfl ?_
        walk_at "hv"
        refine if_f rfl ?_
        walk_at "hv"
        refine if_f rfl ?_
        walk_at "hv"
        refine if_t rfl ?_
        refine hs_drop .head ?_
        walk_at "hv"
        walk_at "oc"
        refine cc_law_wrong (by omega) (by decide +kernel) ?_
        walk_at "hv"
        have := hk a
        rw [← D.go] at this
        exact this
  · rintro loc H' ⟨rs, s, one, code, value, why, hv, rfl, rfl, D⟩
    cases rs with
    | cons x rs => cases hv
    | nil =>
      obtain ⟨asked, ch, st, ahead, found, now, last⟩ := s
      have hah : ahead.length ≤ 100 := D.ahead
      have q1 := noExpr_len hah
      have q2 := noScript_len hah
      have hgo := D.go
      cases st with
      | test =>
        walk_at "hv"
        refine if_t rfl ?_
        walk_at "hv"
        refine o_adds q1.1 ?_
        walk_at "hv"
        refine o_adds q1.2.1 ?_
        walk_at "hv"
        walk_at "oc"
        refine cc_law_wrong (by omega) q1.2.2 ?_
        walk_at "hv"
        have := hk a
        rw [← hgo] at this
        exact this
      | clause =>
        walk_at "hv"
        refine if_f rfl ?_
        walk_at "hv"
        intro g
        refine o_in_list (xs := ["then", "script", "last"]) .head ?_
        walk_at "hv"
        refine if_f rfl ?_
        refine hs_drop .head ?_
        walk_at "hv"
        refine if_f rfl ?_
        walk_at "hv"
        refine if_f rfl ?_
        walk_at "hv"
        have := hk a
        rw [← hgo] at this
        exact this
      | nothing =>
        obtain ⟨l, rfl⟩ : ∃ l, last = some l := Option.isSome_iff_exists.mp (D.nothing rfl)
        dsimp only [dueLoc, Option.map_some]
        walk_at "hv"
        refine if_f rfl ?_
        walk_at "hv"
        intro g
        refine o_in_list (xs := ["then", "script", "last"]) .head ?_
        walk_at "hv"
        refine if_f rfl ?_
        refine hs_drop .head ?_
        walk_at "hv"
        refine if_t rfl ?_
        walk_at "hv"
        cases found with
        | false =>
          refine if_t rfl ?_
          walk_at "hv"
          refine if_t rfl ?_
          walk_at "hv"
          have := hk a
          rw [← hgo] at this
          exact this
        | true =>
          refine if_f rfl ?_
          walk_at "hv"
          refine if_f rfl ?_
          walk_at "hv"
          have := hk a
          rw [← hgo] at this
          exact this
      | _ =>
        dsimp only [dueLoc]
        walk_at "hv"
        refine if_f rfl ?_
        walk_at "hv"
        intro g
        refine o_in_list (xs := ["then", "script", "last"]) .head ?_
        walk_at "hv"
        refine if_t rfl ?_
        refine hs_drop .head ?_
        walk_at "hv"
        refine o_adds q2.2.1 ?_
        walk_at "hv"
        refine o_adds (by omega) ?_
        walk_at "hv"
        walk_at "oc"
        refine cc_law_wrong (by omega) q2.2.2 ?_
        walk_at "hv"
        have := hk a
        rw [← hgo] at this
        exact this
end
end
section
theorem cc_setH {d : Nat} {hd : Option Addr} {f : Value} {xs : List AV} {H H' : AH} {a : Addr} {o o' : AObj} {r : AV} {k : AV → AH → Prop} {X : Addr → AH → Prop} (e : SetH a o o' H H') (h : ∀ R, CC G d hd f xs ((a, o) :: R) (fun v H1 => v = r ∧ H1 = (a, o') :: R) (fun _ _ => False)) (hk : k r H') : CC G d hd f xs H k X := by
  obtain ⟨R, s, s'⟩ := e.sel
  refine ⟨?_⟩
  intro C A fr st vs ok I V
  refine codeAny_mono ((h R).run C A fr st vs ok (I.perm s.perm) V) fun q st' z => ?_
  rcases q with e | (_ | _ | _ | v)
  · obtain ⟨_, _, _, _, _, _, q⟩ := z; exact q.elim
  · exact z
  · exact z
  · exact z
  · obtain ⟨av, H1, J, S, W, rfl, rfl⟩ := z
    exact ⟨_, H', J.perm s'.perm.symm, S, W, hk⟩
section
variable {d : Nat} {hd : Option Addr} {H : AH} {k : AV → AH → Prop} {X : Addr → AH → Prop}
noncomputable def drawV (n : Int) (rest : List Int) (m : Int) : Int := (rest.headD 0 + n).fmod m
theorem cc_law_take {p : Addr} {n m : Int} {rest : List Int} {H' : AH} (hn : 3 ≤ d) (hm : 0 < m) (hm2 : m ≤ 20) (hz : rest.length ≤ 100) (e : SetH p (.list ((n :: rest).map .int)) (.list ((n.fdiv m :: rest.tail).map .int)) H H') (hk : k (.int (drawV n rest m)) H') : CC G d none (.ref 574) [.ref p, .int m] H k X := by
  obtain ⟨e', rfl⟩ := dpos hn
  refine cc_setH e (fun R => cd_law_take ?_) hk
  refine s_cons ?_
  with_reducible refine s_assign ?_
  with_reducible refine e_ifexp ?_
  cases rest with
  | nil =>
    simp only [List.map_cons, List.map_nil]
    walk_at "hv"
    refine o_len_list (by walk_at "inH") (by simp) ?_
    walk_at "hv"
    refine if_f rfl ?_
    walk_at "hv"
    refine sub_list (by walk_at "inH") (by decide) (by decide) rfl ?_
    walk_at "hv"
    refine o_mod (by omega) ?_
    walk_at "hv"
    with_reducible refine s_setitem ?_
    walk_at "hv"
    refine sub_list (by walk_at "inH") (by decide) (by decide) rfl ?_
    walk_at "hv"
    refine o_fdiv (by omega) (by omega) ?_
    walk_at "hv"
    refine .inl ⟨p, [.int n], _, 0, rfl, rfl, by decide, by decide, by simp, by walk_at "setH", ?_⟩
    walk_at "hv"
    exact ⟨rfl, rfl⟩
  | cons b rest =>
    simp only [List.map_cons]
    walk_at "hv"
    refine o_len_list (by walk_at "inH") (by simp at hz ⊢; omega) ?_
    walk_at "hv"
    refine if_t (decide_eq_true (by simp; omega)) ?_
    with_reducible refine e_meth ?_
    walk_at "hv"
    refine ⟨_, gm_list _root_.PySem.F.slot_list_pop rfl (by walk_at "inH"), (.inl ⟨_, rfl⟩), ?_⟩
    walk_at "hv"
    refine o_pop1 (x := .int n) (y := .int b) (xs := rest.map AV.int) (by simp at hz ⊢; omega) (by walk_at "setH") ?_
    walk_at "hv"
    refine sub_list (by walk_at "inH") (by decide) (by decide) rfl ?_
    walk_at "hv"
    refine o_mod (by omega) ?_
    walk_at "hv"
    with_reducible refine s_setitem ?_
    walk_at "hv"
    refine sub_list (by walk_at "inH") (by decide) (by decide) rfl ?_
    walk_at "hv"
    refine o_fdiv (by omega) (by omega) ?_
    walk_at "hv"
    refine .inl ⟨p, .int n :: rest.map .int, _, 0, rfl, rfl, by decide, by decide, by simp, by walk_at "setH", ?_⟩
    walk_at "hv"
    exact ⟨rfl, rfl⟩
noncomputable def lawWords : List Str := ["no", "yes", "p", "q", "then", "else", "elseif", "", "r", "bad", "x y"]
noncomputable def lawTests : List (Int × Str) := [(0, "0"), (0, "1"), (0, "off"), (0, " 7 "), (0, "fals"), (0, "TRUE"), (0, "maybe"), (0, ""), (1, "worse"), (3, ""), (2, "early"), (0, "y")]
noncomputable def lawScripts : List (Int × Str) := [(0, "done"), (0, ""), (1, "lost"), (4, ""), (0, "a b"), (2, "back"), (6, "six")]
noncomputable def lawChains : List (List Int) := [[8, 0, 4, 2, 6, 0, 3, 5, 8], [8, 0, 2, 6, 1, 3, 6, 0, 2], [3, 0, 2, 3], [3, 1, 4, 4], [2, 0, 4], [9, 0, 2, 6, 0, 2, 6, 0, 4, 3], [5, 1, 2, 5, 3, 8], [3, 1, 2, 6], [4, 0, 2, 5, 3], [4, 4, 4, 6, 7], [6, 0, 5, 6, 1, 6, 5], [0]]
noncomputable def pairV (t : Int × Str) : AV := .tup [.int t.1, .str t.2]
theorem cc_law_words (hn : 1 ≤ d) (hk : ∀ a, k (.ref a) ((a, .list (lawWords.map .str)) :: H)) : CC G d none (.ref 581) [] H k X := by
  obtain ⟨e', rfl⟩ := dpos hn
  refine cd_law_words ?_
  refine s_cons ?_
  walk_at "hv"
  intro a
  walk_at "hv"
  exact hk a
theorem cc_law_tests (hn : 1 ≤ d) (hk : ∀ a, k (.ref a) ((a, .list (lawTests.map pairV)) :: H)) : CC G d none (.ref 595) [] H k X := by
  obtain ⟨e', rfl⟩ := dpos hn
  refine cd_law_tests ?_
  refine s_cons ?_
  walk_at "hv"
  intro a
  walk_at "hv"
  exact hk a
theorem cc_law_scripts (hn : 1 ≤ d) (hk : ∀ a, k (.ref a) ((a, .list (lawScripts.map pairV)) :: H)) : CC G d none (.ref 602) [] H k X := by
  obtain ⟨e', rfl⟩ := dpos hn
  refine cd_law_scripts ?_
  refine s_cons ?_
  walk_at "hv"
  intro a
  walk_at "hv"
  exact hk a
end
end
section
inductive Sels : AH → AH → AH → Prop
  | nil {H} : Sels [] H H
  | cons {a o xs H H1 R} : Sel a o H H1 → Sels xs H1 R → Sels ((a, o) :: xs) H R
theorem Sels.perm : ∀ {xs H R : AH}, Sels xs H R → H.Perm (xs ++ R)
  | _, _, _, .nil => .refl _
  | _, _, _, .cons s r => s.perm.trans (r.perm.cons _)
section
variable {d : Nat} {hd : Option Addr} {H : AH} {k : AV → AH → Prop} {X : Addr → AH → Prop}
theorem cc_post {f : Value} {xs : List AV} {k' : AV → AH → Prop} (h : CC G d hd f xs H k' X) (hk : ∀ v H', k' v H' → ∃ H2, H'.Perm H2 ∧ k v H2) : CC G d hd f xs H k X := by
  refine ⟨?_⟩
  intro C A fr st vs ok I V
  refine codeAny_mono (h.run C A fr st vs ok I V) fun q st' z => ?_
  rcases q with e | (_ | _ | _ | v)
  · exact z
  · exact z
  · exact z
  · exact z
  · obtain ⟨av, H1, J, S, W, q⟩ := z
    obtain ⟨H2, p, q⟩ := hk _ _ q
    exact ⟨_, H2, J.perm p, S, W, q⟩
noncomputable abbrev hostInit (tA iA vA cA fA : Addr) : List (Str × AV) := hostEs 0 tA iA vA cA fA 0 0
noncomputable abbrev hostEs0 (tA iA : Addr) : List (Str × AV) := [("tools", .ref tA), ("inline", .ref iA), ("limit", .int 40), ("fuel", .none), ("depth", .int 0), ("spent", .int 0), ("epoch", .int 0), ("frame", .none), ("coroutine", .none)]
theorem cc_Host_init {a dd : Addr} (hn : 1 ≤ d) (hk : ∀ t i, k .none ((i, .dict []) :: (t, .dict []) :: (a, .inst 565 dd (hostEs0 t i)) :: H)) : CC G d none (.ref 336) [.ref a, .int 40, .none] ((a, .inst 565 dd []) :: H) k X := by
  obtain ⟨e', rfl⟩ := dpos hn
  refine cd_Host_init ?_
  refine s_cons ?_
  with_reducible refine s_setattr ?_
  walk_at "hv"
  intro t
  walk_at "hv"
  refine ⟨_, _, _, _, _, _, rfl, (by walk_at "setH"), (by walk_at "putE"), st_565_tools, Nat.le_of_ble_eq_true rfl, ?_⟩
  walk_at "hv"
  with_reducible refine s_setattr ?_
  walk_at "hv"
  intro i
  walk_at "hv"
  refine ⟨_, _, _, _, _, _, rfl, (by walk_at "setH"), (by walk_at "putE"), st_565_inline, Nat.le_of_ble_eq_true rfl, ?_⟩
  walk_at "hv"
  with_reducible refine s_setattr ?_
  walk_at "hv"
  refine ⟨_, _, _, _, _, _, rfl, (by walk_at "setH"), (by walk_at "putE"), st_565_limit, Nat.le_of_ble_eq_true rfl, ?_⟩
  walk_at "hv"
  with_reducible refine s_setattr ?_
  walk_at "hv"
  refine ⟨_, _, _, _, _, _, rfl, (by walk_at "setH"), (by walk_at "putE"), st_565_fuel, Nat.le_of_ble_eq_true rfl, ?_⟩
  walk_at "hv"
  with_reducible refine s_setattr ?_
  walk_at "hv"
  refine ⟨_, _, _, _, _, _, rfl, (by walk_at "setH"), (by walk_at "putE"), st_565_depth, Nat.le_of_ble_eq_true rfl, ?_⟩
  walk_at "hv"
  with_reducible refine s_setattr ?_
  walk_at "hv"
  refine ⟨_, _, _, _, _, _, rfl, (by walk_at "setH"), (by walk_at "putE"), st_565_spent, Nat.le_of_ble_eq_true rfl, ?_⟩
  walk_at "hv"
  with_reducible refine s_setattr ?_
  walk_at "hv"
  refine ⟨_, _, _, _, _, _, rfl, (by walk_at "setH"), (by walk_at "putE"), st_565_epoch, Nat.le_of_ble_eq_true rfl, ?_⟩
  walk_at "hv"
  with_reducible refine s_setattr ?_
  walk_at "hv"
  refine ⟨_, _, _, _, _, _, rfl, (by walk_at "setH"), (by walk_at "putE"), st_565_frame, Nat.le_of_ble_eq_true rfl, ?_⟩
  walk_at "hv"
  with_reducible refine s_setattr ?_
  walk_at "hv"
  refine ⟨_, _, _, _, _, _, rfl, (by walk_at "setH"), (by walk_at "putE"), st_565_coroutine, Nat.le_of_ble_eq_true rfl, ?_⟩
  walk_at "hv"
  exact hk t i
theorem cl_Host_init (P : Params) : clsOk (G.K P) 402 "__init__" 336 = true := by kernel_rfl
theorem new_SmallHost (P : Params) : newOk (G.K P) 565 463 = true := by kernel_rfl
theorem cc_SmallHost (hn : 3 ≤ d) (hk : ∀ a dd t i v c f, k (.ref a) ((f, .dict []) :: (c, .dict []) :: (v, .dict []) :: (i, .dict []) :: (t, .dict []) :: (a, .inst 565 dd (hostEs a t i v c f 0 0)) :: H)) : CC G d none (.ref 565) [] H k X := by
  obtain ⟨e', rfl⟩ : ∃ e, d = e + 2 := ⟨d - 2, by omega⟩
  refine cc_inst new_SmallHost fun a dd => cd_SmallHost_init ?_
  refine s_cons ?_
  with_reducible refine s_expr (e_meth0 ?_)
  walk_at "hv"
  refine ⟨_, gm0_cls cl_Host_init, k_Host_init, ?_⟩
  walk_at "hv"
  walk_at "oc"
  refine cc_Host_init (by omega) fun t i => ?_
  walk_at "hv"
  with_reducible refine s_setattr ?_
  walk_at "hv"
  intro v
  walk_at "hv"
  refine ⟨_, _, _, _, _, _, rfl, (by walk_at "setH"), (by walk_at "putE"), st_565_vars, Nat.le_of_ble_eq_true rfl, ?_⟩
  walk_at "hv"
  with_reducible refine s_setattr ?_
  walk_at "hv"
  intro c
  walk_at "hv"
  refine ⟨_, _, _, _, _, _, rfl, (by walk_at "setH"), (by walk_at "putE"), st_565_commands, Nat.le_of_ble_eq_true rfl, ?_⟩
  walk_at "hv"
  with_reducible refine s_setattr ?_
  walk_at "hv"
  intro f
  walk_at "hv"
  refine ⟨_, _, _, _, _, _, rfl, (by walk_at "setH"), (by walk_at "putE"), st_565_firsts, Nat.le_of_ble_eq_true rfl, ?_⟩
  walk_at "hv"
  exact ⟨rfl, hk a dd t i v c f⟩
end
end
section
section
variable {d : Nat} {H : AH} {k : AV → AH → Prop} {X : Addr → AH → Prop}
theorem cc_pair_of {f : Addr} (hf : ∀ P, (match (G.K P).lookup f with | some o => o.cls == .type "function" | none => false) = true) (hn : 1 ≤ d) (hk : k (.tup [.ref f, .none]) H) : CC G d none (.ref 441) [.ref f] H k X := by
  obtain ⟨e', rfl⟩ := dpos hn
  refine cd_pair_of ?_
  refine s_cons ?_
  walk_at "hv"
  refine o_isi_fn (T := .type "tuple") (b := false) rfl hf (fun P => by kernel_rfl) ?_
  walk_at "hv"
  refine if_f rfl ?_
  walk_at "hv"
  exact hk
theorem fn_286 (P : Params) : (match (G.K P).lookup 286 with | some o => o.cls == .type "function" | none => false) = true := by kernel_rfl
theorem fn_293 (P : Params) : (match (G.K P).lookup 293 with | some o => o.cls == .type "function" | none => false) = true := by kernel_rfl
theorem cc_if_commands (hn : 1 ≤ d) (hk : ∀ g, k (.ref g) ((g, .dict [("if", .ref 286), ("eval", .ref 293)]) :: H)) : CC G d none (.ref 300) [] H k X := by
  obtain ⟨e', rfl⟩ := dpos hn
  refine cd_if_commands ?_
  refine s_cons ?_
  with_reducible refine s_ret ?_
  with_reducible refine e_dict fun a => ?_
  repeat (first | with_reducible refine hp_cons ?_ | with_reducible refine hp_nil ?_ | walk_at "hx")
  refine ⟨by decide +kernel, _, .head, ?_⟩
  walk_at "hv"
  exact hk a
variable {h dd t i v c f : Addr} {D S : Int} {ce fe : List (Str × AV)} {nm : Str}
theorem cc_remove (hn : 1 ≤ d) (hh : InH h (.inst 565 dd (hostEs h t i v c f D S)) H) (hc : InH c (.dict ce) H) (hf : InH f (.dict fe) H) (hi : InH i (.dict []) H) (n1 : NoE nm ce) (n2 : NoE nm fe) (hk : k .none H) : CC G d none (.ref 541) [.ref h, .str nm] H k X := by
  obtain ⟨e', rfl⟩ := dpos hn
  refine cd_SmallHost_remove ?_
  refine s_cons ?_
  with_reducible refine s_expr (e_meth ?_)
  walk_at "hv"
  refine ⟨_, gm_dict _root_.PySem.F.slot_dict_pop rfl hc, (.inl ⟨_, rfl⟩), ?_⟩
  walk_at "hv"
  refine o_pop_miss hc n1 ?_
  with_reducible refine on_next ?_
  with_reducible refine s_cons ?_
  with_reducible refine s_expr (e_meth ?_)
  walk_at "hv"
  refine ⟨_, gm_dict _root_.PySem.F.slot_dict_pop rfl hf, (.inl ⟨_, rfl⟩), ?_⟩
  walk_at "hv"
  refine o_pop_miss hf n2 ?_
  walk_at "hv"
  refine o_in_f hi .nil ?_
  walk_at "hv"
  refine if_f rfl ?_
  walk_at "hv"
  exact hk
theorem cc_put {a b : AV} {ce' : List (Str × AV)} {H' : AH} (hn : 2 ≤ d) (hh : InH h (.inst 565 dd (hostEs h t i v c f D S)) H) (hc : InH c (.dict ce) H) (hf : InH f (.dict fe) H) (hi : InH i (.dict []) H) (n1 : NoE nm ce) (n2 : NoE nm fe) (hz : ce.length ≤ 1000)
    (hp : PutE nm (.tup [a, b]) ce ce') (e : SetH c (.dict ce) (.dict ce') H H') (hk : k .none H') : CC G d none (.ref 534) [.ref h, .str nm, a, b] H k X := by
  obtain ⟨e', rfl⟩ := dpos hn
  refine cd_SmallHost_put ?_
  refine s_cons ?_
  with_reducible refine s_expr (e_meth ?_)
  walk_at "hv"
  refine ⟨_, gm_inst hh (by walk_at "noE") me_565_remove, k_SmallHost_remove, ?_⟩
  walk_at "hv"
  walk_at "oc"
  refine cc_remove (by omega) hh hc hf hi n1 n2 ?_
  walk_at "hv"
  with_reducible refine s_setitem ?_
  walk_at "hv"
  refine .inr ⟨_, _, _, _, _, rfl, rfl, e, hp, hz, ?_⟩
  walk_at "hv"
  exact hk
noncomputable abbrev hostL (n l t f c v i t0 h dd : Addr) (on ol ot ov o0 : AObj) (ce fe : List (Str × AV)) (H : AH) : AH := (n, on) :: (l, ol) :: (t, ot) :: (f, .dict fe) :: (c, .dict ce) :: (v, ov) :: (i, .dict []) :: (t0, o0) :: (h, .inst 565 dd (hostEs h t i v c f 0 0)) :: H
noncomputable abbrev cmd0 : List (Str × AV) := [("if", .ref 286), ("eval", .ref 293)]
noncomputable abbrev cmdEs : List (Str × AV) := [("if", .tup [.ref 286, .none]), ("eval", .tup [.ref 293, .none])]
noncomputable abbrev fstEs : List (Str × AV) := [("if", .bool true), ("eval", .bool true)]
theorem cc_add {n l t0 g : Addr} {on ol ot ov o0 : AObj} (hn : 4 ≤ d) (hk : ∀ ep, k .none ((g, .fdict cmd0 ep) :: hostL n l t f c v i t0 h dd on ol ot ov o0 cmdEs fstEs H)) : CC G d none (.ref 548) [.ref h, .ref g] ((g, .dict cmd0) :: hostL n l t f c v i t0 h dd on ol ot ov o0 [] [] H) k X := by
  obtain ⟨e', rfl⟩ := dpos hn
  refine cd_SmallHost_add ?_
  refine hs_freeze .head fun ep => ?_
  refine s_cons ?_
  with_reducible refine s_for_keys ?_
  walk_at "hv"
  refine ⟨g, _, ep, rfl, .head, fun it => ?_⟩
  refine ⟨.tail .head, _, _, .head, by walk_at "put1", ?_⟩
  with_reducible refine s_cons ?_
  walk_at "hv"
  refine sub_fdict (.tail .head) (by walk_at "getE") ?_
  walk_at "hv"
  walk_at "oc"
  refine cc_pair_of fn_286 (by omega) ?_
  walk_at "hv"
  with_reducible refine e_meth ?_
  walk_at "hv"
  refine ⟨_, gm_inst (by walk_at "inH") (by walk_at "noE") me_565_put, k_SmallHost_put, ?_⟩
  walk_at "hv"
  walk_at "oc"
  refine cc_put (by omega) (by walk_at "inH") (by walk_at "inH") (by walk_at "inH") (by walk_at "inH") .nil .nil (by decide) .nil (by walk_at "setH") ?_
  walk_at "hv"
  with_reducible refine s_setitem ?_
  walk_at "hv"
  refine .inr ⟨_, _, _, _, _, rfl, rfl, by walk_at "setH", .nil, by decide, ?_⟩
  walk_at "hv"
  refine ⟨.tail .head, _, _, .head, by walk_at "put1", ?_⟩
  with_reducible refine s_cons ?_
  walk_at "hv"
  refine sub_fdict (.tail .head) (by walk_at "getE") ?_
  walk_at "hv"
  walk_at "oc"
  refine cc_pair_of fn_293 (by omega) ?_
  walk_at "hv"
  with_reducible refine e_meth ?_
  walk_at "hv"
  refine ⟨_, gm_inst (by walk_at "inH") (by walk_at "noE") me_565_put, k_SmallHost_put, ?_⟩
  walk_at "hv"
  walk_at "oc"
  refine cc_put (by omega) (by walk_at "inH") (by walk_at "inH") (by walk_at "inH") (by walk_at "inH") (by walk_at "noE") (by walk_at "noE") (by decide) (by walk_at "putE") (by walk_at "setH") ?_
  walk_at "hv"
  with_reducible refine s_setitem ?_
  walk_at "hv"
  refine .inr ⟨_, _, _, _, _, rfl, rfl, by walk_at "setH", by walk_at "putE", by decide, ?_⟩
  walk_at "hv"
  refine ⟨.tail .head, _, .head, ?_⟩
  walk_at "hv"
  exact hk ep
end
end
section
section
variable {d : Nat} {H : AH} {k : AV → AH → Prop} {X : Addr → AH → Prop}
noncomputable abbrev HH (x : HA) (D S : Int) (log : List AV) (ne : List (Str × AV)) (R : AH) : AH := hostH x D S log ((x.c, .dict cmdEs) :: (x.n, .dict ne) :: R)
theorem cc_law_host {T E : Addr} (hn : 8 ≤ d) (hk : ∀ x Gb, x.T = T → x.E = E → k (.ref x.h) (HH x 0 0 [] [] (Gb ++ H))) : CC G d none (.ref 651) [.ref T, .ref E] H k X := by
  obtain ⟨e', rfl⟩ := dpos hn
  refine cc_post (k' := fun v H' => ∃ (x : HA) (R : AH), v = .ref x.h ∧ x.T = T ∧ x.E = E ∧ Sels [(x.h, .inst 565 x.dd (hostEs x.h x.t x.i x.v x.c x.f 0 0)), (x.t, .dict (toolsEs x.T x.E x.l x.n)), (x.l, .list []), (x.c, .dict cmdEs), (x.n, .dict [])] H' R ∧ ∃ Gb, R = Gb ++ H) ?_ ?_
  · refine cd_law_host ?_
    refine s_cons ?_
    walk_at "hv"
    walk_at "oc"
    refine cc_SmallHost (by omega) fun a dd t0 i v c f => ?_
    walk_at "hv"
    with_reducible refine s_setattr ?_
    with_reducible refine e_dict fun t => ?_
    with_reducible refine hp_cons ?_
    walk_at "hv"
    with_reducible refine hp_cons ?_
    walk_at "hv"
    with_reducible refine hp_cons ?_
    walk_at "hv"
    with_reducible refine hp_cons ?_
    walk_at "hv"
    with_reducible refine hp_cons ?_
    walk_at "hv"
    intro l
    with_reducible refine hp_cons ?_
    walk_at "hv"
    intro n
    with_reducible refine hp_nil ?_
    refine ⟨show ((["run", "expr", "tests", "ends", "log", "nest"] : List Str)).Nodup from by decide +kernel, _, by walk_at "setH", ?_⟩
    walk_at "hv"
    refine ⟨_, _, _, _, _, _, rfl, (by walk_at "setH"), (by walk_at "putE"), st_565_tools, Nat.le_of_ble_eq_true rfl, ?_⟩
    walk_at "hv"
    with_reducible refine e_meth ?_
    walk_at "hv"
    refine ⟨_, gm_inst (by walk_at "inH") (by walk_at "noE") me_565_add, k_SmallHost_add, ?_⟩
    walk_at "hv"
    walk_at "oc"
    refine cc_if_commands (by omega) fun g => ?_
    walk_at "hv"
    walk_at "oc"
    refine cc_add (by omega) fun ep => ?_
    walk_at "hv"
    exact ⟨⟨a, dd, t, i, v, c, f, T, E, l, n⟩, (g, .fdict cmd0 ep) :: (f, .dict fstEs) :: (v, .dict []) :: (i, .dict []) :: (t0, .dict []) :: H, rfl, rfl, rfl, .cons (by walk_at "sel") (.cons (by walk_at "sel") (.cons (by walk_at "sel") (.cons (by walk_at "sel") (.cons (by walk_at "sel") .nil)))), [(g, .fdict cmd0 ep), (f, .dict fstEs), (v, .dict []), (i, .dict []), (t0, .dict [])], rfl⟩
  · rintro v H' ⟨x, R, rfl, e1, e2, s, Gb, rfl⟩
    exact ⟨_, s.perm, hk x Gb e1 e2⟩
end
end
section
section
variable {d : Nat} {x : HA} {D S : Int} {log : List AV} {R : AH} {k : AV → AH → Prop} {X : Addr → AH → Prop} {TE EE ne : List (Str × AV)} {tf ef : Str → Int × Str}
theorem InH.app {a : Addr} {o : AObj} {H : AH} (h : InH a o H) : ∀ {Gb : AH}, InH a o (Gb ++ H)
  | [] => h
  | _ :: _ => .tail h.app
theorem cc_spend (hn : 1 ≤ d) (hk : k .none (hostH x D (S + 1) log R)) : CC G d none (.ref 350) [.ref x.h] (hostH x D S log R) k X := by
  obtain ⟨e', rfl⟩ := dpos hn
  refine cd_Host_spend ?_
  refine s_cons ?_
  with_reducible refine s_augattr ?_
  walk_at "hv"
  refine ⟨_, _, _, _, rfl, .head, st_565_spent, _, (by walk_at "getE"), at_565_spent, (by intro i h; cases h), ?_⟩
  walk_at "hv"
  refine ⟨_, _, _, .head, (by walk_at "putE"), Nat.le_of_ble_eq_true rfl, ?_⟩
  walk_at "hv"
  refine if_f rfl ?_
  walk_at "hv"
  refine if_f rfl ?_
  walk_at "hv"
  exact hk
noncomputable abbrev nestEs (s : AV) : List (Str × AV) := [("script", s), ("back", .none), ("is_proc", .bool false), ("label", .str "")]
theorem new_Nest (P : Params) : newOk (G.K P) 105 102 = true := by kernel_rfl
theorem cc_Nest {s : AV} {H : AH} (hn : 2 ≤ d) (hk : ∀ a dd, k (.ref a) ((a, .inst 105 dd (nestEs s)) :: H)) : CC G d none (.ref 105) [s] H k X := by
  obtain ⟨e', rfl⟩ : ∃ e, d = e + 2 := ⟨d - 2, by omega⟩
  refine cc_inst new_Nest fun a dd => cd_Nest_init ?_
  refine s_cons ?_
  with_reducible refine s_setattr ?_
  walk_at "hv"
  refine ⟨_, _, _, _, _, _, rfl, .head, (by walk_at "putE"), st_105_script, Nat.le_of_ble_eq_true rfl, ?_⟩
  walk_at "hv"
  with_reducible refine s_setattr ?_
  walk_at "hv"
  refine ⟨_, _, _, _, _, _, rfl, .head, (by walk_at "putE"), st_105_back, Nat.le_of_ble_eq_true rfl, ?_⟩
  walk_at "hv"
  with_reducible refine s_setattr ?_
  walk_at "hv"
  refine ⟨_, _, _, _, _, _, rfl, .head, (by walk_at "putE"), st_105_is_proc, Nat.le_of_ble_eq_true rfl, ?_⟩
  walk_at "hv"
  with_reducible refine s_setattr ?_
  walk_at "hv"
  refine ⟨_, _, _, _, _, _, rfl, .head, (by walk_at "putE"), st_105_label, Nat.le_of_ble_eq_true rfl, ?_⟩
  walk_at "hv"
  exact ⟨rfl, hk a dd⟩
theorem cc_run_if {w : Addr} {rest : List Str} (hn : 20 ≤ d) (hT : InH x.T (.dict TE) R) (hw : InH w (.list (((("if" : Str) :: rest)).map .str)) R) (ht : TOk tf TE (goB tf 50 "if" none rest).1) (hz : rest.length ≤ 40) (hlen : ∀ t ∈ rest, t.length ≤ 100) (hl : log.length ≤ 800)
    (h0 : (goB tf 50 "if" none rest).2 = .ok none → k (.str "") (hostH x D S (log ++ (goB tf 50 "if" none rest).1.map tst) R))
    (h1 : ∀ s, (goB tf 50 "if" none rest).2 = .ok (some s) → ∀ a dd, k (.ref a) ((a, .inst 105 dd (nestEs (.str s))) :: hostH x D S (log ++ (goB tf 50 "if" none rest).1.map tst) R))
    (hX : ∀ f, (goB tf 50 "if" none rest).2 = .error f → ∀ a dd y, X a ((a, rObj dd false (.int f.1) (.str f.2.1) f.2.2 y) :: hostH x D S (log ++ (goB tf 50 "if" none rest).1.map tst) R)) : CC G d none (.ref 286) [.ref x.h, .ref w] (hostH x D S log R) k X := by
  obtain ⟨e', rfl⟩ := dpos hn
  refine cd_run_if ?_
  refine s_cons ?_
  walk_at "hv"
  walk_at "oc"
  refine cc_branch_of needBool (by omega) hT hw ht hz hlen hl (fun o ho => ?_) fun f hf a dd y => hX f hf a dd y
  walk_at "hv"
  cases o with
  | none =>
    refine if_t rfl ?_
    walk_at "hv"
    exact h0 ho
  | some s =>
    refine if_f rfl ?_
    walk_at "hv"
    walk_at "oc"
    refine cc_Nest (by omega) fun a dd => ?_
    walk_at "hv"
    exact h1 s ho a dd
theorem cc_act {w : Addr} {H : AH} (hn : 1 ≤ d) (h : ∀ e', d = e' + 1 → CC G e' none (.ref 286) [.ref x.h, .ref w] H k X) : CC G d none (.ref 448) [.ref x.h, .ref w, .ref 286, .none] H k X := by
  obtain ⟨e', rfl⟩ := dpos hn
  refine cd_act ?_
  refine s_cons ?_
  walk_at "hv"
  refine if_t rfl ?_
  with_reducible refine s_cons ?_
  with_reducible refine s_ret (e_call ?_)
  walk_at "hv"
  refine ⟨_, rfl, k_run_if, ?_⟩
  walk_at "hv"
  walk_at "oc"
  exact h e' rfl
theorem cc_begin {w : Addr} {rest : List Str} (hn : 24 ≤ d) (hT : InH x.T (.dict TE) R) (hw : InH w (.list (((("if" : Str) :: rest)).map .str)) R) (ht : TOk tf TE (goB tf 50 "if" none rest).1) (hz : rest.length ≤ 40) (hlen : ∀ t ∈ rest, t.length ≤ 100) (hl : log.length ≤ 800)
    (h0 : (goB tf 50 "if" none rest).2 = .ok none → ∀ S', k (.str "") (HH x D S' (log ++ (goB tf 50 "if" none rest).1.map tst) ne R))
    (h1 : ∀ s, (goB tf 50 "if" none rest).2 = .ok (some s) → ∀ S' a dd, k (.ref a) ((a, .inst 105 dd (nestEs (.str s))) :: HH x D S' (log ++ (goB tf 50 "if" none rest).1.map tst) ne R))
    (hX : ∀ f, (goB tf 50 "if" none rest).2 = .error f → ∀ S' a dd y, X a ((a, rObj dd false (.int f.1) (.str f.2.1) f.2.2 y) :: HH x D S' (log ++ (goB tf 50 "if" none rest).1.map tst) ne R)) : CC G d none (.ref 562) [.ref x.h, .ref w] (HH x D S log ne R) k X := by
  obtain ⟨e', rfl⟩ := dpos hn
  have hw' : InH w (.list (.str "if" :: rest.map .str)) R := hw
  refine cd_SmallHost_begin ?_
  refine s_cons ?_
  walk_at "hv"
  refine sub_list (xs := .str "if" :: rest.map .str) (by walk_at "inH") (by decide) (by decide) rfl ?_
  walk_at "hv"
  refine o_notin_t (es := cmdEs) (by walk_at "inH") .head ?_
  walk_at "hv"
  refine if_f rfl ?_
  walk_at "hv"
  with_reducible refine e_meth ?_
  walk_at "hv"
  refine ⟨_, gm_inst (by walk_at "inH") (by walk_at "noE") me_565_spend, k_Host_spend, ?_⟩
  walk_at "hv"
  walk_at "oc"
  refine cc_spend (by omega) ?_
  walk_at "hv"
  refine sub_list (xs := .str "if" :: rest.map .str) (by walk_at "inH") (by decide) (by decide) rfl ?_
  walk_at "hv"
  walk_at "oc"
  refine cc_act (by omega) fun e'' he => ?_
  refine cc_run_if (by omega) (.tail (.tail hT)) (.tail (.tail hw)) ht hz hlen hl (fun ho => ?_) (fun s ho a dd => ?_) fun f hf a dd y => ?_
  · walk_at "hv"
    exact h0 ho _
  · walk_at "hv"
    exact h1 s ho _ a dd
  · exact hX f hf _ a dd y
end
end
section
section
variable {G : Gl} {F : Fn} {d : Nat} {hd : Option Addr} {X : Addr → St → Prop} {σ : St}
theorem b_list {l : Addr} {xs : List AV} {k : Bool → St → Prop} (hl : InH l (.list xs) σ.H) (hz : xs.length ≤ 1000) (h : k (!xs.isEmpty) σ) : HB G F d hd truthy (.ref l) σ k X := by
  refine ⟨?_⟩
  intro C A L fr s v ok I V
  obtain rfl := V.ref_inv
  have I' := I
  obtain ⟨m, I0, lr⟩ := I
  obtain ⟨vs, n, ho, Vs, il⟩ := I0.list hl
  refine wpAny_truthy_list il (by rw [List.size_toArray, Vs.length]; omega) ⟨σ, I', .toks s _, ?_⟩
  have e : vs.toArray.isEmpty = xs.isEmpty := by
    cases Vs with
    | nil => rfl
    | cons _ _ => simp
  rw [e]
  exact h
end
section
variable {d : Nat} {x : HA} {D S : Int} {log : List AV} {R : AH} {k : AV → AH → Prop} {X : Addr → AH → Prop} {TE EE ne : List (Str × AV)} {tf ef : Str → Int × Str}
noncomputable def Runs (d : Nat) (f : Value) (args : List AV) (x : HA) (D : Int) (ne : List (Str × AV)) (R : AH) (lg : List AV) (out : Except Flt Str) : Prop :=
  ∀ (S : Int) (log : List AV) (k : AV → AH → Prop) (X : Addr → AH → Prop), log.length + lg.length ≤ 800 → (∀ v, out = .ok v → ∀ S' Gb, k (.str v) (HH x D S' (log ++ lg) ne (Gb ++ R))) →
    (∀ f, out = .error f → ∀ S' Gb a dd b y, X a ((a, rObj dd b (.int f.1) (.str f.2.1) f.2.2 y) :: HH x D S' (log ++ lg) ne (Gb ++ R))) → CC G d none f args (HH x D S log ne R) k X
noncomputable def endR (cv : Int × Str) : Except Flt Str := if cv.1 = 0 then .ok cv.2 else .error (cv.1, cv.2, T73)
theorem runs_plain {s : Str} (hn : 6 ≤ d) (hE : InH x.E (.dict EE) R) (hs : NoE s ne) (he : GetE s (cvV (ef s)) EE) : Runs d (.ref 644) [.ref x.h, .str s] x D ne R [scr s] (endR (ef s)) := by
  intro S log k X hl hk hX
  obtain ⟨e', rfl⟩ := dpos hn
  refine cd_law_run ?_
  refine s_cons ?_
  walk_at "hv"
  refine o_in_f (es := ne) (by walk_at "inH") hs ?_
  walk_at "hv"
  refine if_f rfl ?_
  walk_at "hv"
  with_reducible refine e_meth ?_
  walk_at "hv"
  refine ⟨_, gm_list slot_list_append rfl (by walk_at "inH"), (.inl ⟨_, rfl⟩), ?_⟩
  walk_at "hv"
  simp only [List.length_cons, List.length_nil] at hl
  refine o_append' (by walk_at "setH") (by omega) ?_
  walk_at "hv"
  by_cases hc : (ef s).1 = 0
  · refine if_f (by rw [hc]; rfl) ?_
    walk_at "hv"
    exact hk _ (if_pos hc) _ []
  · refine if_t (bne_iff_ne.mpr hc) ?_
    with_reducible refine s_cons ?_
    with_reducible refine s_raise ?_
    walk_at "hv"
    walk_at "oc"
    refine cc_raised2 (by omega) fun a dd y => ?_
    exact ⟨_, _, _, _, _, _, _, rfl, .head, excC, .inl rfl, hX (_, _, T73) (if_neg hc) _ [] a dd false y⟩
theorem cc_leave {a dd : Addr} {hd : Option Addr} {H : AH} {s : AV} (hn : 1 ≤ d) (ha : InH a (.inst 105 dd (nestEs s)) H) (hk : k .none H) : CC G d hd (.ref 392) [.ref x.h, .ref a] H k X := by
  obtain ⟨e', rfl⟩ := dpos hn
  refine cd_Host_leave ?_
  refine s_cons ?_
  walk_at "hv"
  refine if_f rfl ?_
  walk_at "hv"
  exact hk
theorem runs_run {s : Str} {lg : List AV} {out : Except Flt Str} (hn : 8 ≤ d) (hD : D < 40) (h : ∀ e, d = e + 1 → Runs e (.ref 644) [.ref x.h, .str s] x (D + 1) ne R lg out) : Runs d (.ref 364) [.ref x.h, .str s] x D ne R lg out := by
  intro S log k X hl hk hX
  obtain ⟨e', rfl⟩ := dpos hn
  refine cd_Host_run ?_
  refine s_cons ?_
  walk_at "hv"
  refine if_f (decide_eq_false (by omega)) ?_
  walk_at "hv"
  with_reducible refine e_meth ?_
  walk_at "hv"
  refine ⟨_, gm_inst (by walk_at "inH") (by walk_at "noE") me_565_tool, k_Host_tool, ?_⟩
  walk_at "hv"
  walk_at "oc"
  refine cc_tool_run (by omega) ?_
  walk_at "hv"
  with_reducible refine s_augattr ?_
  walk_at "hv"
  refine ⟨_, _, _, _, rfl, .head, st_565_depth, _, (by walk_at "getE"), at_565_depth, (by intro i h; cases h), ?_⟩
  walk_at "hv"
  refine ⟨_, _, _, .head, (by walk_at "putE"), Nat.le_of_ble_eq_true rfl, ?_⟩
  walk_at "hv"
  with_reducible refine s_finally ?_
  with_reducible refine s_cons ?_
  with_reducible refine s_ret (e_call ?_)
  walk_at "hv"
  refine ⟨_, rfl, k_law_run, ?_⟩
  walk_at "hv"
  walk_at "oc"
  refine h e' rfl (S) log _ _ hl (fun v hv S' Gb => ?_) fun f hf S' Gb a dd b y => ?_
  · walk_at "hv"
    with_reducible refine s_augattr ?_
    walk_at "hv"
    refine ⟨_, _, _, _, rfl, .head, st_565_depth, _, (by walk_at "getE"), at_565_depth, (by intro i h; cases h), ?_⟩
    walk_at "hv"
    refine ⟨_, _, _, .head, (by walk_at "putE"), Nat.le_of_ble_eq_true rfl, ?_⟩
    walk_at "hv"
    have := hk v hv S' Gb
    rw [show D = D + 1 - 1 by omega] at this
    exact this
  · refine ⟨_, _, _, _, _, .head, ?_⟩
    with_reducible refine s_cons ?_
    with_reducible refine s_augattr ?_
    walk_at "hv"
    refine ⟨_, _, _, _, rfl, .tail .head, st_565_depth, _, (by walk_at "getE"), at_565_depth, (by intro i h; cases h), ?_⟩
    walk_at "hv"
    refine ⟨_, _, _, .tail .head, (by walk_at "putE"), Nat.le_of_ble_eq_true rfl, ?_⟩
    walk_at "hv"
    refine ⟨rfl, _, _, _, .head, ?_⟩
    have := hX f hf S' Gb a dd true y
    rw [show D = D + 1 - 1 by omega] at this
    exact this
end
end
section
section
variable {d : Nat} {x : HA} {D S : Int} {log : List AV} {R : AH} {k : AV → AH → Prop} {X : Addr → AH → Prop} {TE EE ne : List (Str × AV)} {tf ef : Str → Int × Str}
noncomputable abbrev nestO (dd : Addr) (s : Str) : AObj := .inst 105 dd (nestEs (.str s))
theorem cc_finish {a dd : Addr} {s : Str} {lg : List AV} {out : Except Flt Str} (hn : 10 ≤ d) (h : ∀ e, d = e + 1 → Runs e (.ref 364) [.ref x.h, .str s] x D ne ((a, nestO dd s) :: R) lg out) (hl : log.length + lg.length ≤ 800)
    (hk : ∀ v, out = .ok v → ∀ S' Gb, k (.str v) (HH x D S' (log ++ lg) ne (Gb ++ R))) (hX : ∀ f, out = .error f → ∀ S' Gb a dd b y, X a ((a, rObj dd b (.int f.1) (.str f.2.1) f.2.2 y) :: HH x D S' (log ++ lg) ne (Gb ++ R))) :
    CC G d none (.ref 385) [.ref x.h, .ref a] ((a, nestO dd s) :: HH x D S log ne R) k X := by
  obtain ⟨e', rfl⟩ := dpos hn
  have gb : ∀ Gb : AH, Gb ++ (a, nestO dd s) :: R = (Gb ++ [(a, nestO dd s)]) ++ R := fun Gb => by simp
  refine cc_perm (H' := HH x D S log ne ((a, nestO dd s) :: R)) (List.perm_middle (l₁ := [_, _, _, _, _])).symm ?_
  refine cd_Host_finish ?_
  refine s_cons ?_
  refine s_try_fin (hg := .head) g_Raised excC
    (fun fl σ => ∃ v S' Gb, out = .ok v ∧ fl = .ret (.str v) ∧ σ = ⟨[some (.ref x.h), some (.ref a), none], HH x D S' (log ++ lg) ne (Gb ++ (a, nestO dd s) :: R)⟩)
    (fun b σ => ∃ f S' Gb dd' fl y, out = .error f ∧ σ = ⟨[some (.ref x.h), some (.ref a), none], (b, rObj dd' fl (.int f.1) (.str f.2.1) f.2.2 y) :: HH x D S' (log ++ lg) ne (Gb ++ (a, nestO dd s) :: R)⟩) ?_ ?_ ?_
  · with_reducible refine s_cons ?_
    with_reducible refine s_ret (e_meth ?_)
    walk_at "hv"
    refine ⟨_, gm_inst (by walk_at "inH") (by walk_at "noE") me_565_run, k_Host_run, ?_⟩
    walk_at "hv"
    walk_at "oc"
    refine h e' rfl S log _ _ hl (fun v hv S' Gb => ?_) fun f hf S' Gb b dd' fl y => ?_
    · walk_at "hv"
      exact ⟨v, S', Gb, hv, rfl, rfl⟩
    · refine ⟨_, _, _, _, .head, by walk_at "put1", ?_⟩
      have hi : InH a (nestO dd s) (Gb ++ (a, nestO dd s) :: R) := InH.app .head
      with_reducible refine s_cons ?_
      walk_at "hv"
      refine if_f rfl ?_
      walk_at "hv"
      with_reducible refine s_raise ?_
      walk_at "hv"
      exact ⟨_, _, _, _, _, _, _, rfl, .head, excC, .inr rfl, _, .tail (.tail .head), f, S', Gb, dd', fl, y, hf, rfl⟩
  · rintro fl σ ⟨v, S', Gb, hv, rfl, rfl⟩
    have hi : InH a (nestO dd s) (Gb ++ (a, nestO dd s) :: R) := InH.app .head
    with_reducible refine s_cons ?_
    with_reducible refine s_expr (e_meth ?_)
    walk_at "hv"
    refine ⟨_, gm_inst (by walk_at "inH") (by walk_at "noE") me_565_leave, k_Host_leave, ?_⟩
    walk_at "hv"
    walk_at "oc"
    refine cc_leave (dd := dd) (s := .str s) (by omega) (by walk_at "inH") ?_
    walk_at "hv"
    rw [gb]
    exact hk v hv S' _
  · rintro b σ ⟨f, S', Gb, dd', fl, y, hf, rfl⟩
    have hi : InH a (nestO dd s) (Gb ++ (a, nestO dd s) :: R) := InH.app .head
    refine ⟨_, _, _, _, _, .head, ?_⟩
    with_reducible refine s_cons ?_
    with_reducible refine s_expr (e_meth ?_)
    walk_at "hv"
    refine ⟨_, gm_inst (by walk_at "inH") (by walk_at "noE") me_565_leave, k_Host_leave, ?_⟩
    walk_at "hv"
    walk_at "oc"
    refine cc_leave (dd := dd) (s := .str s) (by omega) (by walk_at "inH") ?_
    walk_at "hv"
    refine ⟨rfl, _, _, _, .head, ?_⟩
    rw [gb]
    exact hX f hf S' _ b dd' true y
theorem isi_105 (P : Params) : isiOk (G.K P) 105 = true := by kernel_rfl
theorem cc_call {w : Addr} {rest : List Str} {lg : List AV} {out : Except Flt Str} (hn : 40 ≤ d) (hT : InH x.T (.dict TE) R) (hw : InH w (.list (((("if" : Str) :: rest)).map .str)) R) (ht : TOk tf TE (goB tf 50 "if" none rest).1) (hz : rest.length ≤ 40) (hlen : ∀ t ∈ rest, t.length ≤ 100)
    (h : match (goB tf 50 "if" none rest).2 with
      | .error f => out = .error f ∧ lg = []
      | .ok none => out = .ok "" ∧ lg = []
      | .ok (some s) => ∀ e a dd, d ≤ e + 10 → Runs e (.ref 364) [.ref x.h, .str s] x D ne ((a, nestO dd s) :: R) lg out) : Runs d (.ref 378) [.ref x.h, .ref w] x D ne R ((goB tf 50 "if" none rest).1.map tst ++ lg) out := by
  intro S log k X hl hk hX
  obtain ⟨e', rfl⟩ := dpos hn
  rw [List.length_append, List.length_map] at hl
  refine cd_Host_call ?_
  refine s_cons ?_
  walk_at "hv"
  refine b_list (xs := (("if" : Str) :: rest).map .str) (by walk_at "inH") (by simp; omega) ?_
  refine if_f rfl ?_
  walk_at "hv"
  with_reducible refine e_meth ?_
  walk_at "hv"
  refine ⟨_, gm_inst (by walk_at "inH") (by walk_at "noE") me_565_begin, k_SmallHost_begin, ?_⟩
  walk_at "hv"
  walk_at "oc"
  refine cc_begin (by omega) hT hw ht hz hlen (by omega) (fun ho S' => ?_) (fun s ho S' a dd => ?_) fun f ho S' a dd y => ?_
  · rw [ho] at h
    obtain ⟨rfl, rfl⟩ := h
    walk_at "hv"
    refine o_isi_str (T := .ref 105) (b := false) rfl (fun P => by kernel_rfl) ?_
    walk_at "hv"
    refine if_f rfl ?_
    walk_at "hv"
    refine o_isi_str (T := .ref 126) (b := false) rfl (fun P => by kernel_rfl) ?_
    walk_at "hv"
    refine if_f rfl ?_
    walk_at "hv"
    have := hk "" rfl S' []
    rw [List.append_nil] at this
    exact this
  · rw [ho] at h
    walk_at "hv"
    refine o_isi_inst (T := .ref 105) (b := true) rfl .head isi_105 (fun P => by kernel_rfl) ?_
    walk_at "hv"
    refine if_t rfl ?_
    with_reducible refine s_cons ?_
    with_reducible refine s_ret (e_meth ?_)
    walk_at "hv"
    refine ⟨_, gm_inst (by walk_at "inH") (by walk_at "noE") me_565_finish, k_Host_finish, ?_⟩
    walk_at "hv"
    walk_at "oc"
    refine cc_finish (lg := lg) (out := out) (by omega) (fun e he => h e a dd (by omega)) (by simp; omega) (fun v hv S'' Gb => ?_) fun f hf S'' Gb b dd' fl y => ?_
    · walk_at "hv"
      have := hk v hv S'' Gb
      rw [← List.append_assoc] at this
      exact this
    · have := hX f hf S'' Gb b dd' fl y
      rw [← List.append_assoc] at this
      exact this
  · rw [ho] at h
    obtain ⟨rfl, rfl⟩ := h
    have := hX f rfl S' [] a dd false y
    rw [List.append_nil] at this
    exact this
end
end
section
section
variable {d : Nat} {x : HA} {D S : Int} {log : List AV} {R : AH} {k : AV → AH → Prop} {X : Addr → AH → Prop} {TE EE ne : List (Str × AV)} {tf ef : Str → Int × Str}
noncomputable def nmI (z : Int) : Str := "n" ++ Str.ofString (toString z)
noncomputable def nm (k : Nat) : Str := nmI k
noncomputable def nestG (tf : Str → Int × Str) : List (Str × Str) → Option Str → List Str × Except Flt (Option Str)
  | [], last => ([], .ok last)
  | (t, s) :: r, last => match askR (tf t) with
    | .error e => ([t], .error e)
    | .ok true => ([t], .ok (some s))
    | .ok false => (t :: (nestG tf r last).1, (nestG tf r last).2)
noncomputable def resL : Except Flt (Option Str) → List AV
  | .ok (some s) => [scr s]
  | _ => []
noncomputable def resO (ef : Str → Int × Str) : Except Flt (Option Str) → Except Flt Str
  | .error f => .error f
  | .ok none => .ok ""
  | .ok (some s) => endR (ef s)
theorem goB_n3 {f : Nat} {pv t s : Str} : goB tf (f + 1) pv none [t, "then", s] = (match askR (tf t) with | .error e => ([t], .error e) | .ok b => ([t], .ok (if b then some s else none))) := by
  have hp : placeR t ["then", s] = .ok (1, s, []) := rfl
  cases ha : askR (tf t) with
  | error e => exact goB_err (ch := none) ha
  | ok b =>
    have hb : (if (none : Option Str).isNone then askR (tf t) else .ok false) = .ok b := ha
    rw [goB_end hb hp]
    rfl
theorem goB_n5 {f : Nat} {pv t s l : Str} : goB tf (f + 1) pv none [t, "then", s, "else", l] = (match askR (tf t) with | .error e => ([t], .error e) | .ok b => ([t], .ok (some (if b then s else l)))) := by
  have hp : placeR t ["then", s, "else", l] = .ok (1, s, ["else", l]) := rfl
  cases ha : askR (tf t) with
  | error e => exact goB_err (ch := none) ha
  | ok b =>
    have hb : (if (none : Option Str).isNone then askR (tf t) else .ok false) = .ok b := ha
    rw [goB_else hb hp (by decide +kernel), finB_ok (o := l) rfl]
    cases b <;> rfl
inductive NestOk (ne : List (Str × AV)) (R : AH) : List (Str × Str) → Option Str → Nat → Addr → Prop
  | last0 {t s k a} : InH a (.list ((["if", t, "then", s] : List Str).map .str)) R → NestOk ne R [(t, s)] none k a
  | last1 {t s l k a} : InH a (.list ((["if", t, "then", s, "else", l] : List Str).map .str)) R → NestOk ne R [(t, s)] (some l) k a
  | more {t s c r last k a a'} : InH a (.list ((["if", t, "then", s, "else", nm (k + 1)] : List Str).map .str)) R → GetE (nm (k + 1)) (.ref a') ne → NestOk ne R (c :: r) last (k + 1) a' → NestOk ne R ((t, s) :: c :: r) last k a
theorem NestOk.tail {p : Addr × AObj} {cl : List (Str × Str)} {last : Option Str} {k : Nat} {a : Addr} (h : NestOk ne R cl last k a) : NestOk ne (p :: R) cl last k a := by
  induction h with
  | last0 h => exact .last0 (.tail h)
  | last1 h => exact .last1 (.tail h)
  | more h g _ ih => exact .more (.tail h) g ih
theorem runs_nm {s : Str} {a : Addr} {lg : List AV} {out : Except Flt Str} (hn : 2 ≤ d) (g : GetE s (.ref a) ne) (h : ∀ e, d = e + 1 → Runs e (.ref 378) [.ref x.h, .ref a] x D ne R lg out) : Runs d (.ref 644) [.ref x.h, .str s] x D ne R lg out := by
  intro S log k X hl hk hX
  obtain ⟨e', rfl⟩ := dpos hn
  refine cd_law_run ?_
  refine s_cons ?_
  walk_at "hv"
  refine o_in_t (es := ne) (by walk_at "inH") g ?_
  walk_at "hv"
  refine if_t rfl ?_
  with_reducible refine s_cons ?_
  with_reducible refine s_ret (e_meth ?_)
  walk_at "hv"
  refine ⟨_, gm_inst (by walk_at "inH") (by walk_at "noE") me_565_call, k_Host_call, ?_⟩
  walk_at "hv"
  walk_at "oc"
  refine h e' rfl S log _ _ hl (fun v hv S' Gb => ?_) fun f hf S' Gb a dd b y => ?_
  · walk_at "hv"
    exact hk v hv S' Gb
  · exact hX f hf S' Gb a dd b y
theorem runs_script {s : Str} (hn : 10 ≤ d) (hD : D < 40) (hE : InH x.E (.dict EE) R) (hs : NoE s ne) (he : GetE s (cvV (ef s)) EE) : Runs d (.ref 364) [.ref x.h, .str s] x D ne R [scr s] (endR (ef s)) :=
  runs_run (by omega) hD fun e he' => runs_plain (by omega) hE hs he
theorem runs_call {w : Addr} {rest : List Str} (hn : 40 ≤ d) (hD : D < 40) (hT : InH x.T (.dict TE) R) (hE : InH x.E (.dict EE) R) (hw : InH w (.list (((("if" : Str) :: rest)).map .str)) R) (ht : TOk tf TE (goB tf 50 "if" none rest).1) (hz : rest.length ≤ 40) (hlen : ∀ t ∈ rest, t.length ≤ 100)
    (hs : ∀ s, (goB tf 50 "if" none rest).2 = .ok (some s) → NoE s ne ∧ GetE s (cvV (ef s)) EE) : Runs d (.ref 378) [.ref x.h, .ref w] x D ne R ((goB tf 50 "if" none rest).1.map tst ++ resL (goB tf 50 "if" none rest).2) (resO ef (goB tf 50 "if" none rest).2) := by
  refine cc_call hn hT hw ht hz hlen ?_
  generalize (goB tf 50 "if" none rest).2 = r at hs
  rcases r with f | (_ | s)
  · exact ⟨rfl, rfl⟩
  · exact ⟨rfl, rfl⟩
  · intro e a dd he
    exact runs_script (by omega) hD (.tail hE) (hs s rfl).1 (hs s rfl).2
theorem nm_len : ∀ k, k < 30 → (nm k).length ≤ 100 := by decide +kernel
theorem kw_len : ("then" : Str).length ≤ 100 ∧ ("else" : Str).length ≤ 100 := by decide +kernel
theorem runs_nest : ∀ (cl : List (Str × Str)) {R : AH} {last : Option Str} {k : Nat} {a : Addr} {d : Nat} {D : Int}, NestOk ne R cl last k a → 40 + 12 * cl.length ≤ d → D + cl.length ≤ 40 → InH x.T (.dict TE) R → InH x.E (.dict EE) R →
    TOk tf TE (nestG tf cl last).1 → (∀ p ∈ cl, p.1.length ≤ 100 ∧ p.2.length ≤ 100) → (∀ l, last = some l → l.length ≤ 100) → k + cl.length ≤ 20 → (∀ s, (nestG tf cl last).2 = .ok (some s) → NoE s ne ∧ GetE s (cvV (ef s)) EE) →
    Runs d (.ref 378) [.ref x.h, .ref a] x D ne R ((nestG tf cl last).1.map tst ++ resL (nestG tf cl last).2) (resO ef (nestG tf cl last).2) := by
  intro cl
  induction cl with
  | nil => intro R last k a d D h; cases h
  | cons p cl ih =>
    obtain ⟨t, s⟩ := p
    intro R last k a d D h hd hD hT hE ht hlen hlast hk hs
    have ht1 := (hlen _ (.head _)).1
    have hs1 := (hlen _ (.head _)).2
    simp only [List.length_cons] at hd hD hk
    dsimp only at ht1 hs1
    cases h with
    | last0 hi =>
      have e : goB tf 50 "if" none [t, "then", s] = nestG tf [(t, s)] none := by
        rw [goB_n3]
        unfold nestG nestG
        cases askR (tf t) with
        | error e => rfl
        | ok b => cases b <;> rfl
      have q := runs_call (TE := TE) (EE := EE) (ne := ne) (tf := tf) (ef := ef) (x := x) (D := D) (rest := [t, "then", s]) (d := d) (by omega) (by omega) hT hE hi (by rw [e]; exact ht) (by simp) (fun z hz => by
        simp only [List.mem_cons, List.not_mem_nil, or_false] at hz
        rcases hz with rfl | rfl | rfl
        · exact ht1
        · exact kw_len.1
        · exact hs1) (by rw [e]; exact hs)
      rw [e] at q
      exact q
    | last1 hi =>
      rename_i l
      have e : goB tf 50 "if" none [t, "then", s, "else", l] = nestG tf [(t, s)] (some l) := by
        rw [goB_n5]
        unfold nestG nestG
        cases askR (tf t) with
        | error e => rfl
        | ok b => cases b <;> rfl
      have q := runs_call (TE := TE) (EE := EE) (ne := ne) (tf := tf) (ef := ef) (x := x) (D := D) (rest := [t, "then", s, "else", l]) (d := d) (by omega) (by omega) hT hE hi (by rw [e]; exact ht) (by simp) (fun z hz => by
        simp only [List.mem_cons, List.not_mem_nil, or_false] at hz
        rcases hz with rfl | rfl | rfl | rfl | rfl
        · exact ht1
        · exact kw_len.1
        · exact hs1
        · exact kw_len.2
        · exact hlast _ rfl) (by rw [e]; exact hs)
      rw [e] at q
      exact q
    | more hi hg hN =>
      rename_i c r a'
      have en := goB_n5 (tf := tf) (f := 49) (pv := "if") (t := t) (s := s) (l := nm (k + 1))
      have hlen' : ∀ z ∈ ([t, "then", s, "else", nm (k + 1)] : List Str), z.length ≤ 100 := fun z hz => by
        simp only [List.mem_cons, List.not_mem_nil, or_false] at hz
        rcases hz with rfl | rfl | rfl | rfl | rfl
        · exact ht1
        · exact kw_len.1
        · exact hs1
        · exact kw_len.2
        · exact nm_len _ (by simp only [List.length_cons] at hk; omega)
      cases ha : askR (tf t) with
      | error er =>
        rw [ha] at en
        have e1 : nestG tf ((t, s) :: c :: r) last = ([t], .error er) := by
          show (match askR (tf t) with | .error e => ([t], Except.error e) | .ok true => _ | .ok false => _) = _
          rw [ha]
        rw [e1] at ht hs ⊢
        have q := runs_call (TE := TE) (EE := EE) (ne := ne) (tf := tf) (ef := ef) (x := x) (D := D) (rest := [t, "then", s, "else", nm (k + 1)]) (d := d) (by omega) (by omega) hT hE hi (by rw [en]; exact ht) (by simp) hlen' (by rw [en]; exact hs)
        rw [en] at q
        exact q
      | ok b =>
        rw [ha] at en
        cases b with
        | true =>
          have e1 : nestG tf ((t, s) :: c :: r) last = ([t], .ok (some s)) := by
            show (match askR (tf t) with | .error e => ([t], Except.error e) | .ok true => _ | .ok false => _) = _
            rw [ha]
          rw [e1] at ht hs ⊢
          have q := runs_call (TE := TE) (EE := EE) (ne := ne) (tf := tf) (ef := ef) (x := x) (D := D) (rest := [t, "then", s, "else", nm (k + 1)]) (d := d) (by omega) (by omega) hT hE hi (by rw [en]; exact ht) (by simp) hlen' (by rw [en]; exact hs)
          rw [en] at q
          exact q
        | false =>
          have e1 : nestG tf ((t, s) :: c :: r) last = (t :: (nestG tf (c :: r) last).1, (nestG tf (c :: r) last).2) := by
            show (match askR (tf t) with | .error e => ([t], Except.error e) | .ok true => _ | .ok false => _) = _
            rw [ha]
          rw [e1] at ht hs ⊢
          have q := cc_call (TE := TE) (ne := ne) (tf := tf) (x := x) (D := D) (R := R) (rest := [t, "then", s, "else", nm (k + 1)]) (d := d) (lg := (nestG tf (c :: r) last).1.map tst ++ resL (nestG tf (c :: r) last).2) (out := resO ef (nestG tf (c :: r) last).2) (by omega) hT hi (by
            rw [en]
            exact ⟨fun z hz => ht.get z (by simp at hz; rw [hz]; exact .head _), fun z hz => ht.val z (by simp at hz; rw [hz]; exact .head _)⟩) (by simp) hlen' (by
            rw [en]
            intro e a2 dd he
            refine runs_run (by omega) (by omega) fun e2 he2 => runs_nm (by omega) hg fun e3 he3 => ?_
            exact ih hN.tail (by simp only [List.length_cons] at hd ⊢; omega) (by simp only [List.length_cons] at hD ⊢; omega) (.tail hT) (.tail hE) ⟨fun z hz => ht.get z (.tail _ hz), fun z hz => ht.val z (.tail _ hz)⟩ (fun p hp => hlen p (.tail _ hp)) hlast (by simp only [List.length_cons] at hk ⊢; omega) hs)
          rw [en] at q
          exact q
end
end
section
theorem eg_ga (P : Params) : findIn (G.K P) (.ref 84) "__getattribute__" = some (some (.builtin "BaseException.__getattribute__")) := by kernel_rfl
theorem eg_gt (P : Params) : findIn (G.K P) (.ref 84) "__getattr__" = some none := by kernel_rfl
theorem eg_di (P : Params) : hasDictIn (G.K P) 84 = true := by kernel_rfl
theorem eg_code : ExcGet G 84 "code" := ⟨eg_ga, eg_gt, fun P => by kernel_rfl, eg_di⟩
theorem eg_value : ExcGet G 84 "value" := ⟨eg_ga, eg_gt, fun P => by kernel_rfl, eg_di⟩
theorem eg_errorcode : ExcGet G 84 "errorcode" := ⟨eg_ga, eg_gt, fun P => by kernel_rfl, eg_di⟩
section
variable {d : Nat} {x : HA} {D S : Int} {log : List AV} {R : AH} {k : AV → AH → Prop} {X : Addr → AH → Prop} {TE EE ne : List (Str × AV)} {tf ef : Str → Int × Str}
noncomputable def outV : Except Flt Str → AV
  | .ok v => .tup [.int 0, .str v, T73]
  | .error f => .tup [.int f.1, .str f.2.1, f.2.2]
noncomputable def fltOk (out : Except Flt Str) : Prop := ∀ f, out = .error f → ∃ xs, f.2.2 = .tup xs
theorem cc_law_called {w : Addr} {lg : List AV} {out : Except Flt Str} (hn : 1 ≤ d) (hf : fltOk out) (hl : log.length + lg.length ≤ 800) (h : ∀ e, d = e + 1 → Runs e (.ref 378) [.ref x.h, .ref w] x D ne R lg out)
    (hk : ∀ S' Gb, k (.tup [outV out, .ref x.l]) (HH x D S' (log ++ lg) ne (Gb ++ R))) : CC G d none (.ref 658) [.ref x.h, .ref w] (HH x D S log ne R) k X := by
  obtain ⟨e', rfl⟩ := dpos hn
  refine cc_post (k' := fun v H' => v = .tup [outV out, .ref x.l] ∧ ∃ S' Gb, H'.Perm (HH x D S' (log ++ lg) ne (Gb ++ R))) ?_ (fun v H' ⟨e, S', Gb, p⟩ => ⟨_, p, e ▸ hk S' Gb⟩)
  refine cd_law_called ?_
  refine s_cons ?_
  refine s_try_as (hg := .head) g_Raised excC ?_
  with_reducible refine s_cons ?_
  with_reducible refine s_ret ?_
  with_reducible refine e_tuple ?_
  with_reducible refine es_cons ?_
  with_reducible refine e_tuple ?_
  with_reducible refine es_cons ?_
  walk_at "hv"
  with_reducible refine e_meth ?_
  walk_at "hv"
  refine ⟨_, gm_inst (by walk_at "inH") (by walk_at "noE") me_565_call, k_Host_call, ?_⟩
  walk_at "hv"
  walk_at "oc"
  refine h e' rfl S log _ _ hl (fun v hv S' Gb => ?_) fun f hv S' Gb a dd b y => ?_
  · walk_at "hv"
    exact ⟨by rw [hv]; rfl, S', Gb, .refl _⟩
  · obtain ⟨xs, hxs⟩ := hf f hv
    refine ⟨_, _, _, _, .head, by walk_at "put1", ?_⟩
    with_reducible refine s_cons ?_
    walk_at "hv"
    refine o_attr_exc .head .head excC eg_code (by intro i h; cases h) ?_
    walk_at "hv"
    refine o_attr_exc .head (by unfold rEs; walk_at "getE") excC eg_value (by intro i h; cases h) ?_
    walk_at "hv"
    refine o_attr_exc .head (by unfold rEs; walk_at "getE") excC eg_errorcode (by rw [hxs]; intro i h; cases h) ?_
    walk_at "hv"
    exact ⟨by rw [hv]; rfl, S', (a, rObj dd b (.int f.1) (.str f.2.1) f.2.2 y) :: Gb, (List.perm_middle (l₁ := [_, _, _, _, _])).symm⟩
end
end
section
section
variable {d : Nat} {H : AH} {k : AV → AH → Prop} {X : Addr → AH → Prop} {tf ef : Str → Int × Str}
noncomputable def clG : Nat → List Str → List (Str × Str) × Option Str
  | 0, _ => ([], none)
  | _ + 1, [] => ([], none)
  | f + 1, t :: r => match placeR t r with
    | .error _ => ([], none)
    | .ok (_, s, r') => match r' with
      | [] => ([(t, s)], none)
      | x :: r'' => if x = "elseif" then ((t, s) :: (clG f r'').1, (clG f r'').2) else ([(t, s)], some ((x :: r'').getLastD x))
noncomputable def okC : Nat → List Str → Prop
  | 0, _ => False
  | _ + 1, [] => False
  | f + 1, t :: r => ∃ m s r', placeR t r = .ok (m, s, r') ∧ ∀ r'' : List Str, r' = ("elseif" : Str) :: r'' → okC f r''
theorem clG_end {f m : Nat} {t s : Str} {r : List Str} (h : placeR t r = .ok (m, s, [])) : clG (f + 1) (t :: r) = ([(t, s)], none) := by
  simp only [clG, h]
theorem clG_elseif {f m : Nat} {t s : Str} {r r' : List Str} (h : placeR t r = .ok (m, s, "elseif" :: r')) : clG (f + 1) (t :: r) = ((t, s) :: (clG f r').1, (clG f r').2) := by
  simp only [clG, h, if_pos]
theorem clG_else {f m : Nat} {t s x : Str} {r r' : List Str} (h : placeR t r = .ok (m, s, x :: r')) (hx : x ≠ "elseif") : clG (f + 1) (t :: r) = ([(t, s)], some ((x :: r').getLastD x)) := by
  simp only [clG, h, if_neg hx]
theorem nestG_cons {t s : Str} {r : List (Str × Str)} {last : Option Str} {b : Bool} (h : askR (tf t) = .ok b) : nestG tf ((t, s) :: r) last = if b then ([t], .ok (some s)) else (t :: (nestG tf r last).1, (nestG tf r last).2) := by
  rw [nestG, h]
  cases b <;> rfl
theorem elseR_last {x o : Str} {r : List Str} (h : elseR x r = .ok o) : o = (x :: r).getLastD x := by
  unfold elseR at h
  split at h
  · cases r with
    | nil => cases h
    | cons s r =>
      cases r with
      | nil => cases h; rfl
      | cons _ _ => cases h
  · cases r with
    | nil => cases h; rfl
    | cons _ _ => cases h
theorem placeR_len {pv s : Str} {m : Nat} {rs r' : List Str} (e : placeR pv rs = .ok (m, s, r')) : r'.length < rs.length := by
  cases rs with
  | nil => cases e
  | cons t r =>
    by_cases ht : t = "then"
    · cases r with
      | nil => rw [show placeR pv [t] = .error "then" from if_pos ht] at e; cases e
      | cons t' r => rw [show placeR pv (t :: t' :: r) = .ok (1, t', r) from if_pos ht] at e; cases e; simp; omega
    · rw [show placeR pv (t :: r) = .ok (0, t, r) from if_neg ht] at e; cases e; simp
theorem goB_nest : ∀ (f : Nat) (rs : List Str) (pv : Str) (ch : Option Str) (o : Option Str), (goB tf f pv ch rs).2 = .ok o → rs.length < f →
    okC f rs ∧ (∀ c, ch = some c → (goB tf f pv ch rs).1 = [] ∧ o = some c) ∧ (ch = none → nestG tf (clG f rs).1 (clG f rs).2 = ((goB tf f pv ch rs).1, .ok o)) := by
  intro f
  induction f with
  | zero => intro rs pv ch o _ hl; omega
  | succ f ih =>
    intro rs pv ch o h hl
    cases rs with
    | nil => cases h
    | cons t r =>
      cases hb : (if ch.isNone then askR (tf t) else .ok false) with
      | error e => rw [goB_err hb] at h; cases h
      | ok b =>
        cases hp : placeR t r with
        | error p => rw [goB_noscript hb hp] at h; cases h
        | ok q =>
          obtain ⟨m, s, r'⟩ := q
          have hlt := placeR_len hp
          have hch : ∀ c, ch = some c → (if b then some s else ch) = some c := by
            rintro c rfl
            have : (Except.ok false : Except Flt Bool) = .ok b := hb
            cases this
            rfl
          have hnone : ch = none → askR (tf t) = .ok b := by rintro rfl; exact hb
          have hask : ∀ c, ch = some c → (if ch.isNone then [t] else [] : List Str) = [] := by rintro c rfl; rfl
          cases r' with
          | nil =>
            rw [goB_end hb hp] at h ⊢
            have h : Except.ok (if b then some s else ch) = (.ok o : Except Flt (Option Str)) := h
            refine ⟨⟨m, s, [], hp, fun _ q => by cases q⟩, fun c hc => ⟨hask c hc, ?_⟩, fun hc => ?_⟩
            · rw [hch c hc] at h; cases h; rfl
            · rw [clG_end hp]
              have ha := hnone hc
              subst hc
              rw [nestG_cons ha]
              cases b <;> cases h <;> rfl
          | cons x r'' =>
            by_cases hx : x = "elseif"
            · subst hx
              rw [goB_elseif hb hp] at h ⊢
              obtain ⟨i1, i2, i3⟩ := ih r'' "elseif" (if b then some s else ch) o h (by simp at hlt hl ⊢; omega)
              refine ⟨⟨m, s, _, hp, fun z q => by cases q; exact i1⟩, fun c hc => ?_, fun hc => ?_⟩
              · obtain ⟨j1, j2⟩ := i2 c (hch c hc)
                exact ⟨by show _ ++ _ = _; rw [hask c hc, j1]; rfl, j2⟩
              · rw [clG_elseif hp]
                have ha := hnone hc
                subst hc
                rw [nestG_cons ha]
                cases b with
                | true =>
                  obtain ⟨j1, j2⟩ := i2 s rfl
                  show ([t], (Except.ok (some s) : Except Flt (Option Str))) = ([t] ++ (goB tf f "elseif" (if true = true then some s else none) r'').1, .ok o)
                  rw [j1, j2]
                  rfl
                | false =>
                  have j := i3 rfl
                  show (t :: (nestG tf (clG f r'').1 (clG f r'').2).1, (nestG tf (clG f r'').1 (clG f r'').2).2) = ([t] ++ (goB tf f "elseif" (if false = true then some s else none) r'').1, .ok o)
                  rw [j]
                  rfl
            · rw [goB_else hb hp hx] at h ⊢
              cases he : elseR x r'' with
              | error p => rw [finB_error he] at h; cases h
              | ok o' =>
                rw [finB_ok he] at h
                refine ⟨⟨m, s, _, hp, fun z q => by cases q; exact absurd rfl hx⟩, fun c hc => ⟨hask c hc, ?_⟩, fun hc => ?_⟩
                · rw [hch c hc] at h; cases h; rfl
                · rw [clG_else hp hx, ← elseR_last he]
                  have ha := hnone hc
                  subst hc
                  rw [nestG_cons ha]
                  cases b <;> cases h <;> rfl
end
end
section
section
variable {d : Nat} {H : AH} {k : AV → AH → Prop} {X : Addr → AH → Prop} {tf ef : Str → Int × Str}
theorem placeR_in {pv s : Str} {m : Nat} {rs r' : List Str} (e : placeR pv rs = .ok (m, s, r')) : s ∈ rs ∧ ∀ x ∈ r', x ∈ rs := by
  refine ⟨?_, placeR_mem e⟩
  cases rs with
  | nil => cases e
  | cons t r =>
    by_cases ht : t = "then"
    · cases r with
      | nil => rw [show placeR pv [t] = .error "then" from if_pos ht] at e; cases e
      | cons t' r => rw [show placeR pv (t :: t' :: r) = .ok (1, t', r) from if_pos ht] at e; cases e; exact .tail _ (.head _)
    · rw [show placeR pv (t :: r) = .ok (0, t, r) from if_neg ht] at e; cases e; exact .head _
theorem getLastD_mem {x : Str} {r : List Str} : (x :: r).getLastD x ∈ x :: r := by
  cases r with
  | nil => exact .head _
  | cons y r => rw [List.getLastD_cons, List.getLastD_eq_getLast?, List.getLast?_eq_getLast (by simp)]; exact .tail _ (List.getLast_mem _)
theorem clG_in : ∀ (f : Nat) (rs : List Str), (∀ p ∈ (clG f rs).1, p.1 ∈ rs ∧ p.2 ∈ rs) ∧ (∀ l, (clG f rs).2 = some l → l ∈ rs) ∧ (clG f rs).1.length ≤ rs.length := by
  intro f
  induction f with
  | zero => intro rs; refine ⟨fun p hp => by simp [clG] at hp, fun l hl => by simp [clG] at hl, by simp [clG]⟩
  | succ f ih =>
    intro rs
    cases rs with
    | nil => refine ⟨fun p hp => by simp [clG] at hp, fun l hl => by simp [clG] at hl, by simp [clG]⟩
    | cons t r =>
      cases hp : placeR t r with
      | error p =>
        have e : clG (f + 1) (t :: r) = ([], none) := by simp only [clG, hp]
        rw [e]
        exact ⟨fun p hp => by simp at hp, fun l hl => by simp at hl, by simp⟩
      | ok q =>
        obtain ⟨m, s, r'⟩ := q
        have hin := placeR_in hp
        cases r' with
        | nil =>
          rw [clG_end hp]
          refine ⟨fun p hp => ?_, fun l hl => by simp at hl, by simp⟩
          simp only [List.mem_singleton] at hp
          subst hp
          exact ⟨.head _, .tail _ hin.1⟩
        | cons x r'' =>
          by_cases hx : x = "elseif"
          · subst hx
            rw [clG_elseif hp]
            obtain ⟨i1, i2, i3⟩ := ih r''
            have hlt := placeR_len hp
            refine ⟨fun p hp => ?_, fun l hl => .tail _ (hin.2 _ (.tail _ (i2 l hl))), by simp at hlt ⊢; omega⟩
            rcases List.mem_cons.mp hp with rfl | hp
            · exact ⟨.head _, .tail _ hin.1⟩
            · exact ⟨.tail _ (hin.2 _ (.tail _ (i1 p hp).1)), .tail _ (hin.2 _ (.tail _ (i1 p hp).2))⟩
          · rw [clG_else hp hx]
            refine ⟨fun p hp => ?_, fun l hl => ?_, by simp⟩
            · simp only [List.mem_singleton] at hp
              subst hp
              exact ⟨.head _, .tail _ hin.1⟩
            · cases hl
              exact .tail _ (hin.2 _ getLastD_mem)
theorem okC_cons {f : Nat} {rs : List Str} (h : okC f rs) : ∃ c r, (clG f rs).1 = c :: r := by
  cases f with
  | zero => exact h.elim
  | succ f =>
    cases rs with
    | nil => exact h.elim
    | cons t r =>
      obtain ⟨m, s, r', hp, _⟩ := h
      cases r' with
      | nil => rw [clG_end hp]; exact ⟨_, _, rfl⟩
      | cons x r'' =>
        by_cases hx : x = "elseif"
        · subst hx; rw [clG_elseif hp]; exact ⟨_, _, rfl⟩
        · rw [clG_else hp hx]; exact ⟨_, _, rfl⟩
theorem nestG_mem {s : Str} : ∀ {cl : List (Str × Str)} {last : Option Str}, (nestG tf cl last).2 = .ok (some s) → (∃ p ∈ cl, p.2 = s) ∨ last = some s
  | [], last, h => by simp only [nestG] at h; cases h; exact .inr rfl
  | (t, s') :: cl, last, h => by
    cases ha : askR (tf t) with
    | error e => rw [nestG, ha] at h; cases h
    | ok b =>
      rw [nestG_cons ha] at h
      cases b with
      | true => cases h; exact .inl ⟨_, .head _, rfl⟩
      | false =>
        rcases nestG_mem (cl := cl) h with ⟨p, hp, e⟩ | e
        · exact .inl ⟨p, .tail _ hp, e⟩
        · exact .inr e
theorem goB_asked_in : ∀ (f : Nat) (rs : List Str) (pv : Str) (ch : Option Str), ∀ t ∈ (goB tf f pv ch rs).1, t ∈ rs := by
  intro f
  induction f with
  | zero => intro rs pv ch t ht; simp [goB] at ht
  | succ f ih =>
    intro rs pv ch t0 h
    cases rs with
    | nil => simp [goB] at h
    | cons t r =>
      have one : t0 ∈ (if ch.isNone then [t] else [] : List Str) → t0 ∈ t :: r := fun q => by
        split at q
        · rw [List.mem_singleton] at q; rw [q]; exact .head _
        · cases q
      cases hb : (if ch.isNone then askR (tf t) else .ok false) with
      | error e => rw [goB_err hb] at h; rw [List.mem_singleton] at h; rw [h]; exact .head _
      | ok b =>
        cases hp : placeR t r with
        | error p => rw [goB_noscript hb hp] at h; exact one h
        | ok q =>
          obtain ⟨m, s, r'⟩ := q
          cases r' with
          | nil => rw [goB_end hb hp] at h; exact one h
          | cons x r'' =>
            by_cases hx : x = "elseif"
            · subst hx
              rw [goB_elseif hb hp] at h
              rcases List.mem_append.mp h with h | h
              · exact one h
              · exact .tail _ ((placeR_in hp).2 _ (.tail _ (ih _ _ _ _ h)))
            · rw [goB_else hb hp hx] at h; exact one h
end
end
section
section
variable {d : Nat} {H : AH} {k : AV → AH → Prop} {X : Addr → AH → Prop}
noncomputable def prV (p : Str × Str) : AV := .tup [.str p.1, .str p.2]
theorem at_get {ws pre r : List Str} {t : Str} (h : ws = pre ++ t :: r) : (ws.map AV.str)[((pre.length : Nat) : Int).toNat]? = some (.str t) := by
  subst h
  simp
theorem at_get1 {ws pre r : List Str} {t u : Str} (h : ws = pre ++ t :: u :: r) : (ws.map AV.str)[(((pre.length : Nat) : Int) + 1).toNat]? = some (.str u) := by
  subst h
  rw [show (((pre.length : Nat) : Int) + 1).toNat = pre.length + 1 by omega]
  simp
theorem at_last {ws pre r : List Str} {t : Str} (h : ws = pre ++ t :: r) : (ws.map AV.str)[(((ws.map AV.str).length : Int) - 1).toNat]? = some (.str ((t :: r).getLastD t)) := by
  have hz : ws.length = pre.length + (r.length + 1) := by rw [h]; simp
  rw [List.length_map, show ((ws.length : Int) - 1).toNat = pre.length + r.length by omega, List.getElem?_map, h, List.getElem?_append_right (by omega)]
  have : (t :: r)[pre.length + r.length - pre.length]? = some ((t :: r).getLastD t) := by
    rw [show pre.length + r.length - pre.length = (t :: r).length - 1 by simp, ← List.getLast?_eq_getElem?, List.getLast?_cons, List.getLastD_cons, List.getLastD_eq_getLast?]
  rw [this]
  rfl
theorem okC_split {f : Nat} {t : Str} {r : List Str} (h : okC f (t :: r)) : ∃ f' m s r', f = f' + 1 ∧ placeR t r = .ok (m, s, r') ∧ (∀ r'' : List Str, r' = ("elseif" : Str) :: r'' → okC f' r'') := by
  cases f with
  | zero => exact h.elim
  | succ f => obtain ⟨m, s, r', h1, h2⟩ := h; exact ⟨f, m, s, r', rfl, h1, h2⟩
theorem cc_law_clauses {w : Addr} {ws : List Str} {f0 : Nat} (hn : 2 ≤ d) (hw : InH w (.list (ws.map .str)) H) (hz : ws.length ≤ 40) (hf : ws.length < f0) (ho : okC f0 ws)
    (hk : ∀ a, k (.tup [.ref a, chV (clG f0 ws).2]) ((a, .list ((clG f0 ws).1.map prV)) :: H)) : CC G d none (.ref 630) [.ref w] H k X := by
  obtain ⟨e', rfl⟩ := dpos hn
  generalize htot : clG f0 ws = tot at hk
  refine cd_law_clauses ?_
  refine s_cons ?_
  walk_at "hv"
  intro a
  walk_at "hv"
  refine s_while_inv (fun n σ => ∃ (rs pre : List Str) (cl : List (Str × Str)) (lv : AV) (beh : Option AV), ws = pre ++ rs ∧ n = rs.length ∧ σ = ⟨[some (.ref w), some (.ref a), some (.int pre.length), some lv, beh], (a, .list (cl.map prV)) :: H⟩ ∧
      ((pre = [] ∧ cl = [] ∧ lv = .none ∧ ∃ f, rs.length < f ∧ okC f rs ∧ clG f rs = tot) ∨
       (rs = [] ∧ cl = tot.1 ∧ lv = chV tot.2) ∨
       (pre ≠ [] ∧ lv = .none ∧ ∃ r f, rs = ("elseif" : Str) :: r ∧ r.length < f ∧ okC f r ∧ (cl ++ (clG f r).1, (clG f r).2) = tot) ∨
       (pre ≠ [] ∧ lv = .none ∧ ∃ x r, rs = x :: r ∧ x ≠ ("elseif" : Str) ∧ (cl, some ((x :: r).getLastD x)) = tot))) ws.length
    ⟨ws, [], [], .none, none, rfl, rfl, rfl, .inl ⟨rfl, rfl, rfl, f0, hf, ho, htot⟩⟩ ?_
  rintro n σ ⟨rs, pre, cl, lv, beh, hws, rfl, rfl, hI⟩
  have hlw : ws.length = pre.length + rs.length := by rw [hws]; simp
  walk_at "hv"
  cases rs with
  | nil =>
    refine if_f (decide_eq_false (by rw [List.length_nil] at hlw; rw [List.length_map]; omega)) ?_
    walk_at "hv"
    rcases hI with ⟨_, _, _, f, _, ho, _⟩ | ⟨_, rfl, rfl⟩ | ⟨_, _, r, _, h, _⟩ | ⟨_, _, x, r, h, _⟩
    · cases f <;> exact ho.elim
    · exact hk a
    · cases h
    · cases h
  | cons t r =>
    refine if_t (decide_eq_true (by rw [List.length_cons] at hlw; rw [List.length_map]; omega)) ?_
    simp only [List.length_cons] at hlw
    refine s_cons (hs_join (fun fl σ => fl = .next ∧ ((∃ (pre' : List Str) (t' : Str) (r' : List Str) (f : Nat), ws = pre' ++ t' :: r' ∧ r'.length ≤ r.length ∧ (t' :: r').length < f ∧ okC f (t' :: r') ∧ (cl ++ (clG f (t' :: r')).1, (clG f (t' :: r')).2) = tot ∧
        σ = ⟨[some (.ref w), some (.ref a), some (.int pre'.length), some .none, beh], (a, .list (cl.map prV)) :: H⟩) ∨
      (cl = tot.1 ∧ ∃ l, tot.2 = some l ∧ σ = ⟨[some (.ref w), some (.ref a), some (.int ws.length), some (.str l), beh], (a, .list (cl.map prV)) :: H⟩))) ?_ ?_)
    · walk_at "hv"
      rcases hI with ⟨rfl, rfl, rfl, f, hf, ho, ht⟩ | ⟨h, _⟩ | ⟨hp, rfl, r2, f, h, hf, ho, ht⟩ | ⟨hp, rfl, x, r2, h, hx, ht⟩
      · refine if_f rfl ?_
        walk_at "hv"
        refine if_f rfl ?_
        walk_at "hv"
        refine if_f rfl ?_
        walk_at "hv"
        exact ⟨rfl, .inl ⟨[], t, r, f, hws, Nat.le_refl _, hf, ho, ht, rfl⟩⟩
      · cases h
      · cases h
        have hp1 : pre.length ≠ 0 := fun q => hp (List.length_eq_zero_iff.mp q)
        refine if_t (decide_eq_true (by omega)) ?_
        walk_at "hv"
        refine sub_list (by walk_at "inH") (by omega) (by omega) (at_get hws) ?_
        walk_at "hv"
        refine if_t rfl ?_
        walk_at "hv"
        refine if_t rfl ?_
        walk_at "hv"
        cases r with
        | nil => cases f <;> exact ho.elim
        | cons t' r' =>
          refine ⟨rfl, .inl ⟨pre ++ ([("elseif" : Str)] : List Str), t', r', f, by rw [hws]; simp, by simp, hf, ho, ht, ?_⟩⟩
          rw [show ((pre ++ [("elseif" : Str)]).length : Int) = (pre.length : Int) + 1 by simp]
      · cases h
        have hp1 : pre.length ≠ 0 := fun q => hp (List.length_eq_zero_iff.mp q)
        refine if_t (decide_eq_true (by omega)) ?_
        walk_at "hv"
        refine sub_list (by walk_at "inH") (by omega) (by omega) (at_get hws) ?_
        walk_at "hv"
        rw [beq_eq_false_iff_ne.mpr hx]
        refine if_f rfl ?_
        walk_at "hv"
        refine if_f rfl ?_
        walk_at "hv"
        refine if_t (decide_eq_true (by omega)) ?_
        walk_at "hv"
        refine sub_list (by walk_at "inH") (by rw [List.length_map]; omega) (by rw [List.length_map]; omega) (at_last hws) ?_
        walk_at "hv"
        refine ⟨rfl, .inr ⟨congrArg Prod.fst ht, (t :: r).getLastD t, (congrArg Prod.snd ht).symm, ?_⟩⟩
        rw [List.length_map]
    · rintro fl σ ⟨rfl, (⟨pre', t', r', f, hws', hle, hf, ho, ht, rfl⟩ | ⟨hcl, l, hl, rfl⟩)⟩
      · have hlw' : ws.length = pre'.length + (r'.length + 1) := by rw [hws']; simp
        obtain ⟨f, m, s, r'', rfl, hp, hc⟩ := okC_split ho
        have hlt := placeR_len hp
        walk_at "hv"
        refine if_t (decide_eq_true (by rw [List.length_map]; omega)) ?_
        refine s_cons (hs_join (fun fl σ => fl = .next ∧ ∃ (n1 : Nat), ws = (pre' ++ (t' :: r').take (n1 - pre'.length)) ++ s :: r'' ∧ n1 < ws.length ∧ pre'.length < n1 ∧ (pre' ++ (t' :: r').take (n1 - pre'.length)).length = n1 ∧ σ = ⟨[some (.ref w), some (.ref a), some (.int pre'.length), some .none, some (.int n1)], (a, .list (cl.map prV)) :: H⟩) ?_ ?_)
        · cases r' with
          | nil => cases hp
          | cons u r3 =>
            simp only [List.length_cons] at hlw'
            walk_at "hv"
            refine sub_list (by walk_at "inH") (by omega) (by omega) (at_get1 hws') ?_
            walk_at "hv"
            by_cases hu : u = "then"
            · refine if_t (beq_iff_eq.mpr hu) ?_
              walk_at "hv"
              cases r3 with
              | nil => rw [show placeR t' [u] = .error "then" from if_pos hu] at hp; cases hp
              | cons s' r4 =>
                rw [show placeR t' (u :: s' :: r4) = .ok (1, s', r4) from if_pos hu] at hp
                cases hp
                simp only [List.length_cons] at hlw'
                refine ⟨rfl, pre'.length + 2, ?_, by omega, by omega, ?_, ?_⟩
                · rw [show pre'.length + 2 - pre'.length = 2 by omega, hws']; simp
                · rw [show pre'.length + 2 - pre'.length = 2 by omega]; simp
                · rw [show (((pre'.length + 2 : Nat)) : Int) = (pre'.length : Int) + 2 by push_cast; rfl]
            · refine if_f (beq_eq_false_iff_ne.mpr hu) ?_
              walk_at "hv"
              rw [show placeR t' (u :: r3) = .ok (0, u, r3) from if_neg hu] at hp
              cases hp
              refine ⟨rfl, pre'.length + 1, ?_, by omega, by omega, ?_, ?_⟩
              · rw [show pre'.length + 1 - pre'.length = 1 by omega, hws']; simp
              · rw [show pre'.length + 1 - pre'.length = 1 by omega]; simp
              · rw [show (((pre'.length + 1 : Nat)) : Int) = (pre'.length : Int) + 1 by push_cast; rfl]
        · rintro fl σ ⟨rfl, n1, hws1, hn1, hn2, hn3, rfl⟩
          have hlen1 : ws.length = n1 + (r''.length + 1) := by rw [hws1, List.length_append, hn3]; simp
          have g1 := at_get hws1
          rw [hn3] at g1
          walk_at "hv"
          with_reducible refine e_meth ?_
          walk_at "hv"
          refine ⟨_, gm_list slot_list_append rfl (by walk_at "inH"), (.inl ⟨_, rfl⟩), ?_⟩
          walk_at "hv"
          refine sub_list (by walk_at "inH") (by omega) (by omega) (at_get hws') ?_
          walk_at "hv"
          refine sub_list (by walk_at "inH") (by omega) (by omega) g1 ?_
          walk_at "hv"
          have hcz : cl.length ≤ 40 := by
            have h1 := (clG_in f0 ws).2.2
            rw [htot, ← congrArg Prod.fst ht, List.length_append] at h1
            omega
          refine o_append' (by walk_at "setH") (by rw [List.length_map]; omega) ?_
          walk_at "hv"
          refine ⟨r''.length, by simp only [List.length_cons]; omega, r'', (pre' ++ (t' :: r').take (n1 - pre'.length)) ++ [s], cl ++ [(t', s)], .none, some (.int n1), by rw [hws1]; simp, rfl, ?_, ?_⟩
          · rw [List.map_append, List.length_append, hn3]
            rfl
          · cases r'' with
            | nil =>
              rw [clG_end hp] at ht
              exact .inr (.inl ⟨rfl, congrArg Prod.fst ht, by rw [← congrArg Prod.snd ht]; rfl⟩)
            | cons x r4 =>
              by_cases hx : x = "elseif"
              · subst hx
                rw [clG_elseif hp] at ht
                refine .inr (.inr (.inl ⟨by simp, rfl, r4, f, rfl, by simp only [List.length_cons] at hlt hf; omega, hc r4 rfl, ?_⟩))
                rw [List.append_assoc]
                exact ht
              · rw [clG_else hp hx] at ht
                exact .inr (.inr (.inr ⟨by simp, rfl, x, r4, rfl, hx, ht⟩))
      · walk_at "hv"
        refine if_f (decide_eq_false (by rw [List.length_map]; omega)) ?_
        walk_at "hv"
        exact ⟨0, by simp, [], ws, cl, .str l, beh, by simp, rfl, rfl, .inr (.inl ⟨rfl, hcl, by rw [hl]; rfl⟩)⟩
end
end
section
section
variable {d : Nat} {x : HA} {R : AH} {k : AV → AH → Prop} {X : Addr → AH → Prop} {ne : List (Str × AV)}
theorem GetE.snoc {y z : Str} {v u : AV} {es : List (Str × AV)} (g : GetE y v es) : GetE y v (es ++ [(z, u)]) := by
  induction g with
  | head => exact .head
  | tail h _ ih => exact .tail h ih
theorem GetE.new {y : Str} {v : AV} {es : List (Str × AV)} (n : NoE y es) : GetE y v (es ++ [(y, v)]) := by
  induction n with
  | nil => exact .head
  | cons h _ ih => exact .tail h ih
theorem PutE.new {y : Str} {v : AV} {es : List (Str × AV)} (n : NoE y es) : PutE y v es (es ++ [(y, v)]) := by
  induction n with
  | nil => exact .nil
  | cons h _ ih => exact .tail h ih
theorem NestOk.snoc {p : Str × AV} {cl : List (Str × Str)} {last : Option Str} {k : Nat} {a : Addr} (h : NestOk ne R cl last k a) : NestOk (ne ++ [p]) R cl last k a := by
  induction h with
  | last0 h => exact .last0 h
  | last1 h => exact .last1 h
  | more h g _ ih => exact .more h g.snoc ih
theorem nm_inj : ∀ i, i < 20 → ∀ j, j < 20 → nm i = nm j → i = j := by decide +kernel
theorem nm0 : nm 0 = "n0" := by decide +kernel
noncomputable def down (j : Nat) : List AV := (List.range j).reverse.map fun i => .int (i : Nat)
theorem down_succ (j : Nat) : down (j + 1) = .int (j : Nat) :: down j := by
  unfold down
  rw [List.range_succ, List.reverse_append]
  rfl
theorem down_range : ∀ n, n < 45 → rangeAV ((n : Nat) - 1 : Int) (-1) n = down n := by
  intro n hn
  unfold rangeAV down
  apply List.ext_getElem
  · simp
  · intro i h1 h2
    simp only [List.length_map, List.length_range] at h1
    simp only [List.getElem_map, List.getElem_range, List.getElem_reverse, List.length_range]
    congr 1
    omega
theorem rng_ok : ∀ n, n < 45 → Builtin.Range.small ((n : Nat) - 1 : Int) (-1) (-1) = true ∧ Builtin.Range.rangeSize ((n : Nat) - 1 : Int) (-1) (-1) = (n : Nat) ∧ Builtin.divisionGoesByPylong ((-1 : Int) - ((n : Nat) - 1 : Int)) (-1) = false := by decide +kernel
theorem str_k : ∀ n, n < 45 → ((n : Nat) : Int).natAbs.log2 < 1920 ∧ ((Str.ofString (toString ((n : Nat) : Int))).length) ≤ 10 := by decide +kernel
noncomputable def innL : Option Str → List Str
  | none => []
  | some l => ["else", l]
theorem HH_garb {x : HA} {D S : Int} {log : List AV} {ne : List (Str × AV)} {R : AH} (Gb : AH) : (Gb ++ HH x D S log ne R).Perm (HH x D S log ne (Gb ++ R)) :=
  List.perm_append_comm_assoc Gb [(x.h, .inst 565 x.dd (hostEs x.h x.t x.i x.v x.c x.f D S)), (x.t, .dict (toolsEs x.T x.E x.l x.n)), (x.l, .list log), (x.c, .dict cmdEs), (x.n, .dict ne)] R
theorem HH_garb1 {x : HA} {D S : Int} {log : List AV} {ne : List (Str × AV)} {R : AH} (Gb : AH) {p q : Addr × AObj} : (Gb ++ p :: q :: HH x D S log ne R).Perm (p :: q :: HH x D S log ne (Gb ++ R)) :=
  List.perm_append_comm_assoc Gb [p, q, (x.h, .inst 565 x.dd (hostEs x.h x.t x.i x.v x.c x.f D S)), (x.t, .dict (toolsEs x.T x.E x.l x.n)), (x.l, .list log), (x.c, .dict cmdEs), (x.n, .dict ne)] R
noncomputable abbrev w4 (p : Str × Str) : List AV := [.str "if", .str p.1, .str "then", .str p.2]
theorem if_join {F : Fn} {d : Nat} {hd : Option Addr} {X : Addr → St → Prop} {σ : St} {c : Bool} {e e' : Expr} {k : AV → St → Prop} (M : AV → St → Prop) (h : if c = true then HE G F d hd e σ M X else HE G F d hd e' σ M X) (h2 : ∀ v σ, M v σ → k v σ) : if c = true then HE G F d hd e σ k X else HE G F d hd e' σ k X := by
  split
  · rename_i q; rw [if_pos q] at h; exact he_join M h h2
  · rename_i q; rw [if_neg q] at h; exact he_join M h h2
theorem cc_law_nested {w : Addr} {cl : List (Str × Str)} {last : Option Str} (hn : 2 ≤ d) (hw : InH w (.list (cl.map prV)) R) (hz : cl.length < 20) (h0 : cl ≠ [])
    (hk : ∀ ne Gb a, NestOk ne (Gb ++ R) cl last 0 a → (∀ p ∈ ne, ∃ i, i < 20 ∧ p.1 = nm i) → k (.ref a) (HH x 0 0 [] ne (Gb ++ R))) : CC G d none (.ref 665) [.ref x.h, .ref w, chV last] (HH x 0 0 [] [] R) k X := by
  obtain ⟨e', rfl⟩ := dpos hn
  have hcl : 1 ≤ cl.length := by cases cl with | nil => exact absurd rfl h0 | cons _ _ => simp
  refine cd_law_nested ?_
  refine s_cons ?_
  walk_at "hv"
  refine if_join (fun v σ => ∃ a, v = .ref a ∧ σ = ⟨[some (.ref x.h), some (.ref w), some (chV last), some (.ref x.n), none, none], (a, .list ((innL last).map .str)) :: HH x 0 0 [] [] R⟩) ?_ ?_
  · cases last with
    | none =>
      refine if_t rfl ?_
      walk_at "hv"
      intro a
      exact ⟨a, rfl, rfl⟩
    | some l =>
      refine if_f rfl ?_
      walk_at "hv"
      intro a
      exact ⟨a, rfl, rfl⟩
  rintro v σ ⟨a0, rfl, rfl⟩
  walk_at "hput"
  with_reducible refine on_next ?_
  refine hs_perm (H' := HH x 0 0 [] [] ((a0, .list ((innL last).map .str)) :: R)) (HH_garb (x := x) (D := 0) (S := 0) (log := []) (ne := []) (R := R) [(a0, .list ((innL last).map .str))]) ?_
  with_reducible refine s_cons ?_
  with_reducible refine s_for_range ?_
  walk_at "hv"
  rw [List.length_map]
  obtain ⟨r1, r2, r3⟩ := rng_ok cl.length (by omega)
  refine o_range3 (by decide) r3 fun r => ?_
  refine ⟨r, _, _, _, cl.length, rfl, .head, r1, r2, fun it => ?_⟩
  rw [down_range _ (by omega)]
  refine hfor_inv (fun vs loc H' => ∃ (j : Nat) (kv : Option AV) (inn : Addr) (il : List Str) (ne : List (Str × AV)) (Gb : AH), j ≤ cl.length ∧ vs = down j ∧ loc = [some (.ref x.h), some (.ref w), some (chV last), some (.ref x.n), some (.ref inn), kv] ∧ H' = (r, .raw (RG (cl.length - 1) (-1) (-1))) :: HH x 0 0 [] ne (Gb ++ R) ∧
    InH inn (.list (il.map .str)) (Gb ++ R) ∧ il.length ≤ 2 ∧ ne.length + j = cl.length ∧ (∀ p ∈ ne, ∃ i, j ≤ i ∧ i < cl.length ∧ p.1 = nm i) ∧ ((j = cl.length ∧ il = innL last) ∨ (j < cl.length ∧ il = ([("else" : Str), nm j] : List Str) ∧ ∃ a, GetE (nm j) (.ref a) ne ∧ NestOk ne (Gb ++ R) (cl.drop j) last j a))) ?_ ?_ ?_ _ _ _ _ ?_
  · intro _ _ _ _ _; trivial
  · rintro v vs loc H' i ⟨j, kv, inn, il, ne, Gb, hj, hv, rfl, rfl, hinn, hil, hnl, hkeys, hmode⟩
    cases j with
    | zero => cases hv
    | succ j =>
      rw [down_succ] at hv
      cases hv
      refine ⟨_, by walk_at "put1", ?_⟩
      obtain ⟨s1, s2⟩ := str_k j (by omega)
      have e1 : ("n" : Str).length = 1 := by decide +kernel
      have hc : cl[j]? = some cl[j] := List.getElem?_eq_getElem (by omega)
      have hcp : (cl.map prV)[((j : Nat) : Int).toNat]? = some (prV cl[j]) := by rw [List.getElem?_map]; simp [hc]
      have hw' : InH w (.list (cl.map prV)) (Gb ++ R) := hw.app
      have hno : NoE (nm j) ne := NoE.of fun hm => by
        obtain ⟨p, hp, e⟩ := List.mem_map.mp hm
        obtain ⟨i', h1, h2, h3⟩ := hkeys p hp
        have := nm_inj i' (by omega) j (by omega) (h3.symm.trans e)
        omega
      have hnz : ne.length ≤ 1000 := by omega
      with_reducible refine s_cons ?_
      with_reducible refine s_setitem ?_
      walk_at "hv"
      refine sub_list (by walk_at "inH") (by omega) (by omega) hcp ?_
      walk_at "hv"
      refine sub_tup (by decide) (by decide) rfl ?_
      walk_at "hv"
      refine sub_list (by walk_at "inH") (by omega) (by omega) hcp ?_
      walk_at "hv"
      refine sub_tup (by decide) (by decide) rfl ?_
      walk_at "hv"
      intro a1
      walk_at "hv"
      refine o_addl (xs := [.str "if", .str cl[j].1, .str "then", .str cl[j].2]) (ys := il.map .str) .head (by walk_at "inH") (by rw [List.length_map]; simp; omega) fun a2 => ?_
      walk_at "hv"
      refine o_str_int s1 ?_
      walk_at "hv"
      refine o_adds (by omega) ?_
      walk_at "hv"
      refine .inr ⟨_, _, _, _, _, rfl, rfl, by walk_at "setH", PutE.new hno, hnz, ?_⟩
      with_reducible refine on_next ?_
      with_reducible refine s_cons ?_
      with_reducible refine s_assign ?_
      walk_at "hv"
      refine o_str_int s1 ?_
      walk_at "hv"
      refine o_adds (by omega) ?_
      walk_at "hv"
      intro a3
      walk_at "hput"
      with_reducible refine on_next ?_
      refine hs_perm (HH_garb1 (x := x) (D := 0) (S := 0) (log := []) (ne := ne ++ [(nm j, AV.ref a2)]) (R := Gb ++ R) (p := (it, .raw (PR (↑cl.length - 1) (-1) cl.length i))) (q := (r, .raw (RG (cl.length - 1) (-1) (-1)))) [(a3, .list [.str "else", .str (nm j)]), (a2, .list (w4 cl[j] ++ il.map AV.str)), (a1, .list (w4 cl[j]))]) ?_
      with_reducible refine s_nil ?_
      with_reducible refine on_next ?_
      have hdrop : cl.drop j = cl[j] :: cl.drop (j + 1) := List.drop_eq_getElem_cons (by omega)
      refine ⟨_, _, rfl, j, some (.int j), a3, [("else" : Str), nm j], ne ++ [(nm j, .ref a2)], (a3, .list [.str "else", .str (nm j)]) :: (a2, .list (w4 cl[j] ++ il.map AV.str)) :: (a1, .list (w4 cl[j])) :: Gb, by omega, rfl, rfl, rfl, .head, by simp, by simp; omega, ?_, .inr ⟨by omega, rfl, a2, GetE.new hno, ?_⟩⟩
      · intro p hp
        rcases List.mem_append.mp hp with hp | hp
        · obtain ⟨i', h1, h2, h3⟩ := hkeys p hp
          exact ⟨i', by omega, h2, h3⟩
        · simp only [List.mem_singleton] at hp
          subst hp
          exact ⟨j, Nat.le_refl _, by omega, rfl⟩
      · rw [hdrop]
        rcases hmode with ⟨hm, rfl⟩ | ⟨hm, rfl, a', hg, hN⟩
        · rw [List.drop_eq_nil_of_le (by omega)]
          cases last with
          | none => exact .last0 (.tail .head)
          | some l => exact .last1 (.tail .head)
        · obtain ⟨c, r', hcr⟩ : ∃ c r', cl.drop (j + 1) = c :: r' := by
            cases hq : cl.drop (j + 1) with
            | nil => have := congrArg List.length hq; rw [List.length_drop] at this; simp at this; omega
            | cons c r' => exact ⟨c, r', rfl⟩
          rw [hcr] at hN ⊢
          exact .more (.tail .head) hg.snoc hN.snoc.tail.tail.tail
  · rintro loc H' ⟨j, kv, inn, il, ne, Gb, hj, hv, rfl, rfl, hinn, hil, hnl, hkeys, hmode⟩
    cases j with
    | succ j => rw [down_succ] at hv; cases hv
    | zero =>
      rcases hmode with ⟨hm, _⟩ | ⟨hm, rfl, a', hg, hN⟩
      · omega
      · refine hs_drop .head ?_
        walk_at "hv"
        rw [nm0] at hg
        refine sub_dict (by walk_at "inH") hg ?_
        walk_at "hv"
        exact hk ne Gb a' (by simpa using hN) fun p hp => by
          obtain ⟨i', h1, h2, h3⟩ := hkeys p hp
          exact ⟨i', by omega, h3⟩
  · exact ⟨cl.length, none, a0, innL last, [], [(a0, .list ((innL last).map .str))], Nat.le_refl _, rfl, rfl, rfl, .head, by cases last <;> simp [innL], by simp, by simp, .inl ⟨rfl, rfl⟩⟩
end
end
section
theorem Inv0.dropL {C : Cx} {fr : Frs} {H : AH} {h : Heap} : ∀ {L : AH}, Inv0 C fr (L ++ H) h → Inv0 C fr H h
  | [], I => I
  | _ :: _, I => Inv0.dropL I.dropHead
section
variable {d : Nat} {H : AH} {k : AV → AH → Prop} {X : Addr → AH → Prop} {TE EE : List (Str × AV)} {tf ef : Str → Int × Str}
theorem cc_only {f : Value} {xs : List AV} {r : AV} (h : CC G d none f xs H (fun v H' => v = r ∧ ∃ Gb, H'.Perm (Gb ++ H)) X) (hk : k r H) : CC G d none f xs H k X := by
  refine ⟨?_⟩
  intro C A fr st vs ok I V
  refine codeAny_mono (h.run C A fr st vs ok I V) fun q st' z => ?_
  rcases q with e | (_ | _ | _ | v)
  · exact z
  · exact z
  · exact z
  · exact z
  · obtain ⟨av, H1, J, S, W, rfl, Gb, p⟩ := z
    exact ⟨_, H, (J.perm p).dropL, S, W, hk⟩
noncomputable def ecOk (v : AV) : Prop := v = WA ∨ v = TVB ∨ v = T73
theorem ecOk.eq {v : AV} (h : ecOk v) {H : AH} {n : Nat} : EqT H (n + 1) v v := by
  rcases h with rfl | rfl | rfl
  · exact .tup (.cons (.str _) (.cons (.str _) .nil))
  · exact .tup (.cons (.str _) (.cons (.str _) (.cons (.str _) .nil)))
  · exact .tup (.cons (.str _) .nil)
theorem ecOk.tup {v : AV} (h : ecOk v) : ∃ xs, v = .tup xs := by
  rcases h with rfl | rfl | rfl <;> exact ⟨_, rfl⟩
theorem askR_ec {cv : Int × Str} {f : Flt} (h : askR cv = .error f) : ecOk f.2.2 := by
  unfold askR at h
  split at h
  · split at h
    · cases h
    · cases h; exact .inr (.inl rfl)
  · cases h; exact .inr (.inr rfl)
theorem goB_ec : ∀ (f : Nat) (rs : List Str) (pv : Str) (ch : Option Str) (e : Flt), (goB tf f pv ch rs).2 = .error e → ecOk e.2.2 := by
  intro f
  induction f with
  | zero => intro rs pv ch e h; cases h
  | succ f ih =>
    intro rs pv ch e h
    cases rs with
    | nil => cases h; exact .inl rfl
    | cons t r =>
      cases hb : (if ch.isNone then askR (tf t) else .ok false) with
      | error e' =>
        rw [goB_err hb] at h
        cases h
        cases ch with
        | none => exact askR_ec hb
        | some c => cases hb
      | ok b =>
        cases hp : placeR t r with
        | error p => rw [goB_noscript hb hp] at h; cases h; exact .inl rfl
        | ok q =>
          obtain ⟨m, s, r'⟩ := q
          cases r' with
          | nil => rw [goB_end hb hp] at h; cases h
          | cons x r'' =>
            by_cases hx : x = "elseif"
            · subst hx; rw [goB_elseif hb hp] at h; exact ih _ _ _ _ h
            · rw [goB_else hb hp hx] at h
              cases he : elseR x r'' with
              | error p => rw [finB_error he] at h; cases h; exact .inl rfl
              | ok o => rw [finB_ok he] at h; cases h
theorem outV_eq {out : Except Flt Str} (h : ∀ f, out = .error f → ecOk f.2.2) {H : AH} {n : Nat} : EqT H (n + 2) (outV out) (outV out) := by
  cases out with
  | ok v => exact .tup (.cons (.int _) (.cons (.str _) (.cons (ecOk.eq (.inr (.inr rfl))) .nil)))
  | error f => exact .tup (.cons (.int _) (.cons (.str _) (.cons (ecOk.eq (h f rfl)) .nil)))
theorem resO_ec {r : Except Flt (Option Str)} (h : ∀ f, r = .error f → ecOk f.2.2) : ∀ f, resO ef r = .error f → ecOk f.2.2 := by
  intro f hf
  rcases r with f' | (_ | s)
  · cases hf; exact h _ rfl
  · cases hf
  · have hf : endR (ef s) = .error f := hf
    unfold endR at hf
    split at hf
    · cases hf
    · cases hf; exact .inr (.inr rfl)
theorem resL_eq {H : AH} {n : Nat} (r : Except Flt (Option Str)) : EqTs H (n + 1) (resL r) (resL r) := by
  rcases r with f | (_ | s)
  · exact .nil
  · exact .nil
  · exact .cons (.tup (.cons (.str _) (.cons (.str _) .nil))) .nil
theorem lg_eq {H : AH} {n : Nat} (as : List Str) (r : Except Flt (Option Str)) : EqTs H (n + 1) (as.map tst ++ resL r) (as.map tst ++ resL r) :=
  .append (EqTs.map (fun t => .tup (.cons (.str _) (.cons (.str _) .nil))) as) (resL_eq r)
theorem hlc_log {Fc : Fn} {d : Nat} {elt : Expr} {kk : AH → Prop} {acc it a : Addr} {all : List AV} {Hr : AH} (helt : ∀ (t : Str) (H : AH) (k : AV → St → Prop), k (tst t) ⟨[some (.str t)], H⟩ → HE G Fc d none elt ⟨[some (.str t)], H⟩ k (fun _ _ => False)) (ha : InH a (.list all) Hr) :
    ∀ (xs : List Str) (i : Nat) (ys : List Str), (ys ++ xs).length ≤ 900 → kk ((acc, .list ((ys ++ xs).map tst)) :: Hr) → HLC G Fc d elt kk acc it (PL a) (fun H => InH a (.list all) H) (xs.map .str) i (ys.map tst) ((acc, .list (ys.map tst)) :: (it, .raw (PL a i)) :: Hr)
  | [], i, ys, _, hk => ⟨.tail (.tail ha), _, .tail .head, by rw [List.append_nil] at hk; exact hk⟩
  | x :: xs, i, ys, hz, hk => by
    have e : ys ++ x :: xs = (ys ++ [x]) ++ xs := by simp
    refine ⟨.tail (.tail ha), by rw [List.length_map]; simp at hz; omega, _, .tail .head, helt x _ _ ⟨_, .head, ?_⟩⟩
    have e2 : ys.map tst ++ [tst x] = (ys ++ [x]).map tst := by simp
    rw [e2]
    exact hlc_log helt ha xs (i + 1) (ys ++ [x]) (by rw [← e]; exact hz) (by rw [← e]; exact hk)
end
end
section
section
variable {d : Nat} {H : AH} {k : AV → AH → Prop} {X : Addr → AH → Prop} {TE EE : List (Str × AV)} {tf ef : Str → Int × Str}
structure Drawn (tf ef : Str → Int × Str) (TE EE : List (Str × AV)) : Prop where
  get : ∀ t ∈ lawWords, GetE t (cvV (tf t)) TE
  val : ∀ t ∈ lawWords, (tf t).1 = 0 → (tf t).2 ∈ truVals
  ends : ∀ t ∈ lawWords, GetE t (cvV (ef t)) EE
theorem lawWords_len : ∀ t ∈ lawWords, t.length ≤ 100 := by decide +kernel
theorem goB_len : ∀ (f : Nat) (rs : List Str) (pv : Str) (ch : Option Str), (goB tf f pv ch rs).1.length ≤ rs.length := by
  intro f
  induction f with
  | zero => intro rs pv ch; simp [goB]
  | succ f ih =>
    intro rs pv ch
    cases rs with
    | nil => simp [goB]
    | cons t r =>
      have one : (if ch.isNone then [t] else [] : List Str).length ≤ 1 := by split <;> simp
      cases hb : (if ch.isNone then askR (tf t) else .ok false) with
      | error e => rw [goB_err hb]; simp
      | ok b =>
        cases hp : placeR t r with
        | error p => rw [goB_noscript hb hp]; simp only [List.length_cons]; omega
        | ok q =>
          obtain ⟨m, s, r'⟩ := q
          have hlt := placeR_len hp
          cases r' with
          | nil => rw [goB_end hb hp]; simp only [List.length_cons]; omega
          | cons x r'' =>
            by_cases hx : x = "elseif"
            · subst hx
              rw [goB_elseif hb hp]
              have := ih r'' "elseif" (if b then some s else ch)
              simp only [List.length_append, List.length_cons] at hlt ⊢
              omega
            · rw [goB_else hb hp hx]; simp only [List.length_cons]; omega
noncomputable abbrev ifW (ws : List Str) : List AV := [AV.str "if"] ++ ws.map AV.str
theorem dueV_eq {r : Except Flt (Option Str)} (h : ∀ f, r = .error f → ecOk f.2.2) {H : AH} : EqTs H 20 [(dueV r).1, (dueV r).2] [(dueV r).1, (dueV r).2] := by
  rcases r with f | (_ | s)
  · exact .cons .none (.cons (.tup (.cons (.int _) (.cons (.str _) (.cons (ecOk.eq (h f rfl)) .nil)))) .nil)
  · exact .cons .none (.cons .none .nil)
  · exact .cons (.str _) (.cons .none .nil)
theorem outV_end {cv : Int × Str} : outV (endR cv) = .tup ([.int cv.1, .str cv.2] ++ [T73]) := by
  unfold endR
  split
  · rename_i h; rw [h]; rfl
  · rfl
theorem asked_eq {H : AH} {n : Nat} (as : List Str) : EqTs H (n + 1) (as.map tst) (as.map tst) := EqTs.map (fun t => .tup (.cons (.str _) (.cons (.str _) .nil))) as
noncomputable abbrev HP (x : HA) (D S : Int) (log : List AV) (ne : List (Str × AV)) : AH := [(x.h, .inst 565 x.dd (hostEs x.h x.t x.i x.v x.c x.f D S)), (x.t, .dict (toolsEs x.T x.E x.l x.n)), (x.l, .list log), (x.c, .dict cmdEs), (x.n, .dict ne)]
theorem HH_suf {x : HA} {D S : Int} {log : List AV} {ne : List (Str × AV)} {B A H : AH} (h : B = A ++ H) : ∃ G1, HH x D S log ne B = G1 ++ H := ⟨HP x D S log ne ++ A, by rw [h, List.append_assoc]; rfl⟩
theorem nm_notin : ∀ i, i < 20 → nm i ∉ lawWords := by decide +kernel
theorem ifs_join {F : Fn} {d : Nat} {hd : Option Addr} {X : Addr → St → Prop} {σ : St} {c : Bool} {e e' : List Stmt} {k : Fl → St → Prop} (M : Fl → St → Prop) (h : if c = true then HSs G F d hd e σ M X else HSs G F d hd e' σ M X) (h2 : ∀ v σ, M v σ → k v σ) : if c = true then HSs G F d hd e σ k X else HSs G F d hd e' σ k X := by
  split
  · rename_i q; rw [if_pos q] at h; exact h.mono h2 fun _ _ e => e
  · rename_i q; rw [if_neg q] at h; exact h.mono h2 fun _ _ e => e
theorem case_two {e' : Nat} {w T E a lg : Addr} {hv gv sv : AV} {ws asked : List Str} {r : Except Flt (Option Str)} {Hd : AH} {X : Addr → St → Prop} (hn : 190 ≤ e') (D : Drawn tf ef TE EE) (hws : ∀ t ∈ ws, t ∈ lawWords) (hz : ws.length ≤ 10)
    (fw : InH w (.list (ws.map .str)) Hd) (fT : InH T (.dict TE) Hd) (fE : InH E (.dict EE) Hd) (fl : InH lg (.list (asked.map tst ++ resL r)) Hd) (fG : ∃ G1, Hd = G1 ++ H) (hgo : goB tf 50 "if" none ws = (asked, r)) :
    HSs G F_law_case_is_right e' none ((bodyOf 670).drop 7) ⟨[some (.ref w), some (.ref T), some (.ref E), some (.ref a), some sv, some (dueV r).2, some (.ref lg), some hv, some gv, none, some (outV (resO ef r)), none, none], Hd⟩ (fun fl σ => fl.val = .bool true ∧ ∃ Gb, σ.H.Perm (Gb ++ H)) X := by
  have hlen : ∀ t ∈ ws, t.length ≤ 100 := fun t ht => lawWords_len t (hws t ht)
  have hasked := goB_asked_in (tf := tf) 50 ws "if" none
  rw [hgo] at hasked
  have htA : TOk tf TE (goB tf 50 "if" none ws).1 := by
    rw [hgo]
    exact ⟨fun t h => D.get t (hws t (hasked t h)), fun t h => D.val t (hws t (hasked t h))⟩
  have hec := goB_ec (tf := tf) 50 ws "if" none
  have hal := goB_len (tf := tf) 50 ws "if" none
  have hnest := fun o h => goB_nest (tf := tf) 50 ws "if" none o h (by omega)
  rw [hgo] at hec hal hnest
  dsimp only at hec hal hnest hasked
  have hcl := clG_in 50 ws
  have hsw : ∀ s, r = .ok (some s) → s ∈ ws := fun s hs => by
    have e := (hnest _ hs).2.2 rfl
    have e2 := congrArg Prod.snd e
    rcases nestG_mem (tf := tf) e2 with ⟨p, hp, e⟩ | e
    · exact e ▸ (hcl.1 p hp).2
    · exact hcl.2.1 _ e
  have hlg : (asked.map tst ++ resL r).length ≤ 50 := by
    rw [List.length_append, List.length_map]
    have : (resL r).length ≤ 1 := by rcases r with f | (_ | s) <;> simp [resL]
    omega
  have hecO := resO_ec (ef := ef) hec
  refine s_cons ?_
  walk_at "hv"
  walk_at "oc"
  refine cc_law_host (by omega) fun x Gb eT eE => ?_
  walk_at "hv"
  intro a3
  walk_at "hv"
  have fw' := fw.app (Gb := Gb)
  refine o_addl (xs := [.str "if"]) (ys := ws.map .str) .head (by walk_at "inH") (by rw [List.length_map]; simp; omega) fun a4 => ?_
  walk_at "hv"
  walk_at "oc"
  refine cc_perm (HH_garb (x := x) (D := 0) (S := 0) (log := []) (ne := []) (R := Gb ++ Hd) [(a4, .list (ifW ws)), (a3, .list [AV.str "if"])]) ?_
  refine cc_law_called (lg := asked.map tst ++ resL r) (out := resO ef r) (by omega) (fun f hf => (hecO f hf).tup) (by simp at hlg ⊢; omega) (fun e he => ?_) fun S' Gb3 => ?_
  · have q := runs_call (TE := TE) (EE := EE) (ne := []) (tf := tf) (ef := ef) (x := x) (D := 0) (w := a4) (rest := ws) (R := [(a4, .list (ifW ws)), (a3, .list [AV.str "if"])] ++ (Gb ++ Hd)) (d := e) (by omega) (by decide) (eT ▸ .tail (.tail fT.app)) (eE ▸ .tail (.tail fE.app)) .head htA (by omega) hlen (by
      rw [hgo]
      exact fun s hs => ⟨.nil, D.ends s (hws s (hsw s hs))⟩)
    rw [hgo] at q
    exact q
  have fl' : InH lg (.list (asked.map tst ++ resL r)) (Gb3 ++ ([(a4, .list (ifW ws)), (a3, .list [AV.str "if"])] ++ (Gb ++ Hd))) := (InH.app (.tail (.tail fl.app)))
  walk_at "hv"
  refine o_ne_tup (.cons (outV_eq hecO) (.cons (.list (n := 19) (.tail (.tail .head)) (.tail (.tail (.tail (.tail (.tail fl'))))) (lg_eq asked r)) .nil)) ?_
  walk_at "hv"
  refine if_f rfl ?_
  have gw : InH w (.list (ws.map .str)) (HH x 0 S' ([] ++ (asked.map tst ++ resL r)) [] (Gb3 ++ ([(a4, .list (ifW ws)), (a3, .list [AV.str "if"])] ++ (Gb ++ Hd)))) := .tail (.tail (.tail (.tail (.tail (InH.app (.tail (.tail fw.app)))))))
  have gT : InH T (.dict TE) (HH x 0 S' ([] ++ (asked.map tst ++ resL r)) [] (Gb3 ++ ([(a4, .list (ifW ws)), (a3, .list [AV.str "if"])] ++ (Gb ++ Hd)))) := .tail (.tail (.tail (.tail (.tail (InH.app (.tail (.tail fT.app)))))))
  have gE : InH E (.dict EE) (HH x 0 S' ([] ++ (asked.map tst ++ resL r)) [] (Gb3 ++ ([(a4, .list (ifW ws)), (a3, .list [AV.str "if"])] ++ (Gb ++ Hd)))) := .tail (.tail (.tail (.tail (.tail (InH.app (.tail (.tail fE.app)))))))
  have gl : InH lg (.list (asked.map tst ++ resL r)) (HH x 0 S' ([] ++ (asked.map tst ++ resL r)) [] (Gb3 ++ ([(a4, .list (ifW ws)), (a3, .list [AV.str "if"])] ++ (Gb ++ Hd)))) := .tail (.tail (.tail (.tail (.tail fl'))))
  have gG : ∃ G1, HH x 0 S' ([] ++ (asked.map tst ++ resL r)) [] (Gb3 ++ ([(a4, .list (ifW ws)), (a3, .list [AV.str "if"])] ++ (Gb ++ Hd))) = G1 ++ H := by
    obtain ⟨G1, e⟩ := fG
    rw [e]
    exact HH_suf (A := Gb3 ++ ([(a4, .list (ifW ws)), (a3, .list [AV.str "if"])] ++ (Gb ++ G1))) (by simp)
  clear fl' fw' fw fT fE fl fG
  generalize HH x 0 S' ([] ++ (asked.map tst ++ resL r)) [] (Gb3 ++ ([(a4, .list (ifW ws)), (a3, .list [AV.str "if"])] ++ (Gb ++ Hd))) = Hd at gw gT gE gl gG ⊢
  walk_at "hv"
  cases r with
  | error f =>
    refine if_t rfl ?_
    walk_at "hv"
    obtain ⟨G1, e⟩ := gG
    rw [e]
    exact ⟨rfl, G1, .refl _⟩
  | ok o =>
    refine if_f rfl ?_
    walk_at "hv"
    walk_at "oc"
    obtain ⟨hok, _, hN⟩ := hnest o rfl
    have hN := hN rfl
    obtain ⟨c0, r0, hc0⟩ := okC_cons hok
    refine cc_law_clauses (f0 := 50) (by omega) gw (by omega) (by omega) hok fun ca => ?_
    walk_at "hv"
    walk_at "oc"
    refine cc_law_host (by omega) fun x2 Gb2 eT2 eE2 => ?_
    walk_at "hv"
    walk_at "oc"
    refine cc_law_nested (x := x2) (w := ca) (cl := (clG 50 ws).1) (last := (clG 50 ws).2) (R := Gb2 ++ ((ca, .list ((clG 50 ws).1.map prV)) :: Hd)) (by omega) (InH.app .head) (by omega) (by rw [hc0]; simp) fun ne Gb5 a5 hNO hkeys => ?_
    walk_at "hv"
    walk_at "oc"
    refine cc_law_called (lg := asked.map tst ++ resL (.ok o)) (out := resO ef (.ok o)) (by omega) (fun f hf => (hecO f hf).tup) (by simp at hlg ⊢; omega) (fun e he => ?_) fun S'' Gb6 => ?_
    · have hnoE : ∀ s, s ∈ lawWords → NoE s ne := fun s hs => NoE.of fun hm => by
        obtain ⟨p, hp, e⟩ := List.mem_map.mp hm
        obtain ⟨i, hi, e2⟩ := hkeys p hp
        exact nm_notin i hi (by rw [← e2, e]; exact hs)
      have q := runs_nest (TE := TE) (EE := EE) (ne := ne) (tf := tf) (ef := ef) (x := x2) (clG 50 ws).1 (D := 0) (d := e) hNO (by omega) (by omega) (eT2 ▸ InH.app (InH.app (.tail gT))) (eE2 ▸ InH.app (InH.app (.tail gE))) (by
        rw [hN]
        exact ⟨fun t h => D.get t (hws t (hasked t h)), fun t h => D.val t (hws t (hasked t h))⟩) (fun p hp => ⟨hlen _ (hcl.1 p hp).1, hlen _ (hcl.1 p hp).2⟩) (fun l hl => hlen l (hcl.2.1 l hl)) (by omega) (by
        rw [hN]
        exact fun s hs => ⟨hnoE s (hws s (hsw s hs)), D.ends s (hws s (hsw s hs))⟩)
      rw [hN] at q
      exact q
    walk_at "hv"
    refine o_eq_tup (.cons (outV_eq hecO) (.cons (.list (n := 19) (.tail (.tail .head)) (.tail (.tail (.tail (.tail (.tail (InH.app (InH.app (InH.app (.tail gl))))))))) (lg_eq asked _)) .nil)) ?_
    walk_at "hv"
    obtain ⟨G1, e⟩ := gG
    rw [e]
    obtain ⟨G2, e2⟩ := HH_suf (x := x2) (D := 0) (S := S'') (log := [] ++ (asked.map tst ++ resL (.ok o))) (ne := ne) (H := H) (B := Gb6 ++ (Gb5 ++ (Gb2 ++ ((ca, .list ((clG 50 ws).1.map prV)) :: (G1 ++ H))))) (A := Gb6 ++ (Gb5 ++ (Gb2 ++ ((ca, .list ((clG 50 ws).1.map prV)) :: G1)))) (by simp)
    exact ⟨rfl, G2, e2 ▸ .refl _⟩
end
end
section
section
variable {d : Nat} {H : AH} {k : AV → AH → Prop} {X : Addr → AH → Prop} {TE EE : List (Str × AV)} {tf ef : Str → Int × Str}
theorem cc_case {w T E : Addr} {ws : List Str} (hn : 200 ≤ d) (hw : InH w (.list (ws.map .str)) H) (hT : InH T (.dict TE) H) (hE : InH E (.dict EE) H) (hz : ws.length ≤ 10) (hws : ∀ t ∈ ws, t ∈ lawWords) (D : Drawn tf ef TE EE) (hk : k (.bool true) H) : CC G d none (.ref 670) [.ref w, .ref T, .ref E] H k X := by
  obtain ⟨e', rfl⟩ := dpos hn
  refine cc_only ?_ hk
  have hlen : ∀ t ∈ ws, t.length ≤ 100 := fun t ht => lawWords_len t (hws t ht)
  have ht : TOk tf TE ws := ⟨fun t h => D.get t (hws t h), fun t h => D.val t (hws t h)⟩
  have hasked := goB_asked_in (tf := tf) 50 ws "if" none
  have htA : TOk tf TE (goB tf 50 "if" none ws).1 := ⟨fun t h => D.get t (hws t (hasked t h)), fun t h => D.val t (hws t (hasked t h))⟩
  have hec := goB_ec (tf := tf) 50 ws "if" none
  refine cd_law_case_is_right ?_
  refine s_cons ?_
  walk_at "hv"
  walk_at "oc"
  refine cc_law_due (by omega) hw hT ht (by omega) hlen fun a => ?_
  walk_at "hv"
  refine s_assign_lc (cl := []) (globs := []) rfl ?_ ?_ ?_ ?_ ?_ ?_ ?_ ?_
  · intro L; kernel_rfl
  · intro L; kernel_rfl
  · decide +kernel
  · rfl
  · decide +kernel
  · exact Fn.WF.of (by kernel_rfl)
  rotate_left
  · intro L x; rfl
  have hal := goB_len (tf := tf) 50 ws "if" none
  generalize hgo : goB tf 50 "if" none ws = tot at htA hec hal ⊢
  obtain ⟨asked, r⟩ := tot
  dsimp only at htA hec hal ⊢
  walk_at "hv"
  refine ⟨PL a, asked.map .str, fun H => InH a (.list (asked.map .str)) H, fun acc => [some (.ref w), some (.ref T), some (.ref E), some (.ref a), some (dueV r).1, some (dueV r).2, some (.ref acc), none, none, none, none, none, none], pyit_list .head, fun it => iter_list, fun it acc => ⟨by walk_at "put1", fun L => ?_⟩⟩
  refine hlc_log (a := a) (fun t H k hk => ?_) .head asked 0 [] (by simp; omega) ?_
  · walk_at "hv"
    exact hk
  rw [List.nil_append]
  walk_at "hv"
  walk_at "oc"
  refine cc_law_host (by omega) fun x Gb eT eE => ?_
  have fw : InH w (.list (ws.map .str)) (Gb ++ ((acc, .list (asked.map tst)) :: (a, .list (asked.map .str)) :: H)) := InH.app (.tail (.tail hw))
  have fT : InH T (.dict TE) (Gb ++ ((acc, .list (asked.map tst)) :: (a, .list (asked.map .str)) :: H)) := InH.app (.tail (.tail hT))
  have fE : InH E (.dict EE) (Gb ++ ((acc, .list (asked.map tst)) :: (a, .list (asked.map .str)) :: H)) := InH.app (.tail (.tail hE))
  have fl : InH acc (.list (asked.map tst)) (Gb ++ ((acc, .list (asked.map tst)) :: (a, .list (asked.map .str)) :: H)) := InH.app .head
  have fG : ∃ G1, Gb ++ ((acc, .list (asked.map tst)) :: (a, .list (asked.map .str)) :: H) = G1 ++ H := ⟨Gb ++ [(acc, .list (asked.map tst)), (a, .list (asked.map .str))], by simp⟩
  generalize Gb ++ ((acc, .list (asked.map tst)) :: (a, .list (asked.map .str)) :: H) = R1 at fw fT fE fl fG ⊢
  walk_at "hv"
  refine hs_join (fun fl σ => fl = .next ∧ ∃ R2 : AH, σ.loc = [some (.ref w), some (.ref T), some (.ref E), some (.ref a), some (dueV r).1, some (dueV r).2, some (.ref acc), some (.ref x.h), some (.tup [(dueV r).1, (dueV r).2]), none, none, none, none] ∧ σ.H.Perm (HH x 0 0 (asked.map tst) [] (R2 ++ R1))) ?_ ?_
  · refine s_try_as (hg := by with_reducible (repeat (first | exact HasN.head | apply HasN.tail))) g_Raised excC ?_
    with_reducible refine s_cons ?_
    walk_at "hv"
    intro a1
    walk_at "hv"
    refine o_addl (xs := [.str "if"]) (ys := ws.map .str) .head (by walk_at "inH") (by rw [List.length_map]; simp; omega) fun a2 => ?_
    walk_at "hv"
    walk_at "oc"
    refine cc_perm (HH_garb (x := x) (D := 0) (S := 0) (log := []) (ne := []) (R := R1) [(a2, .list (ifW ws)), (a1, .list [AV.str "if"])]) ?_
    refine cc_branch_of needBool (TE := TE) (tf := tf) (rest := ws) (by omega) (eT ▸ .tail (.tail (.tail (.tail fT)))) (.tail (.tail .head)) (by rw [hgo]; exact htA) (by omega) hlen (by simp) (fun o ho => ?_) fun f hf b dd y => ?_
    · rw [hgo] at ho ⊢
      dsimp only at ho
      subst ho
      walk_at "hv"
      exact ⟨rfl, [(a2, .list (ifW ws)), (a1, .list [AV.str "if"])], rfl, .refl _⟩
    · rw [hgo] at hf ⊢
      dsimp only at hf
      subst hf
      obtain ⟨xs, hxs⟩ := (hec f rfl).tup
      refine ⟨_, _, _, _, .head, by walk_at "put1", ?_⟩
      with_reducible refine s_cons ?_
      walk_at "hv"
      refine o_attr_exc .head .head excC eg_code (by intro i h; cases h) ?_
      walk_at "hv"
      refine o_attr_exc .head (by unfold rEs; walk_at "getE") excC eg_value (by intro i h; cases h) ?_
      walk_at "hv"
      refine o_attr_exc .head (by unfold rEs; walk_at "getE") excC eg_errorcode (by rw [hxs]; intro i h; cases h) ?_
      walk_at "hv"
      exact ⟨rfl, [(b, rObj dd false (.int f.1) (.str f.2.1) f.2.2 y), (a2, .list (ifW ws)), (a1, .list [AV.str "if"])], rfl, HH_garb (x := x) (D := 0) (S := 0) (log := asked.map tst) (ne := []) (R := (a2, .list (ifW ws)) :: (a1, .list [AV.str "if"]) :: R1) [(b, rObj dd false (.int f.1) (.str f.2.1) f.2.2 y)]⟩
  rintro fl' σ ⟨rfl, R2, hloc, hperm⟩
  obtain ⟨loc, Hh⟩ := σ
  dsimp only at hloc hperm
  subst hloc
  with_reducible refine on_next ?_
  refine hs_perm hperm ?_
  walk_at "hv"
  have fl2 : InH acc (.list (asked.map tst)) (R2 ++ R1) := fl.app
  refine o_ne_tup (dueV_eq hec) ?_
  walk_at "hv"
  refine if_f rfl ?_
  walk_at "hv"
  refine o_ne_list (by walk_at "inH") (by walk_at "inH") (asked_eq asked) ?_
  walk_at "hv"
  refine if_f rfl ?_
  walk_at "hv"
  refine if_f rfl ?_
  walk_at "hv"
  refine if_f rfl ?_
  have fw2 : InH w (.list (ws.map .str)) (HH x 0 0 (asked.map tst) [] (R2 ++ R1)) := .tail (.tail (.tail (.tail (.tail fw.app))))
  have fT2 : InH T (.dict TE) (HH x 0 0 (asked.map tst) [] (R2 ++ R1)) := .tail (.tail (.tail (.tail (.tail fT.app))))
  have fE2 : InH E (.dict EE) (HH x 0 0 (asked.map tst) [] (R2 ++ R1)) := .tail (.tail (.tail (.tail (.tail fE.app))))
  have fl3 : InH acc (.list (asked.map tst)) (HH x 0 0 (asked.map tst) [] (R2 ++ R1)) := .tail (.tail (.tail (.tail (.tail fl2))))
  have fG2 : ∃ G1, (HH x 0 0 (asked.map tst) [] (R2 ++ R1)) = G1 ++ H := by
    obtain ⟨G1, e⟩ := fG
    rw [e, ← List.append_assoc]
    exact ⟨[_, _, _, _, _] ++ (R2 ++ G1), rfl⟩
  clear fw fT fE fl fG fl2 hperm
  generalize HH x 0 0 (asked.map tst) [] (R2 ++ R1) = Hc at fw2 fT2 fE2 fl3 fG2 ⊢
  walk_at "hv"
  refine ifs_join (fun fl σ => fl = .next ∧ ∃ lg Hd, σ = ⟨[some (.ref w), some (.ref T), some (.ref E), some (.ref a), some (dueV r).1, some (dueV r).2, some (.ref lg), some (.ref x.h), some (.tup [(dueV r).1, (dueV r).2]), none, some (outV (resO ef r)), none, none], Hd⟩ ∧
    InH w (.list (ws.map .str)) Hd ∧ InH T (.dict TE) Hd ∧ InH E (.dict EE) Hd ∧ InH lg (.list (asked.map tst ++ resL r)) Hd ∧ ∃ G1, Hd = G1 ++ H) ?_ ?_
  · have hnest := fun o h => goB_nest (tf := tf) 50 ws "if" none o h (by omega)
    rw [hgo] at hnest
    rcases r with f | (_ | s)
    · refine if_f rfl ?_
      walk_at "hv"
      exact ⟨rfl, acc, Hc, rfl, fw2, fT2, fE2, by rw [show resL (.error f) = [] from rfl, List.append_nil]; exact fl3, fG2⟩
    · refine if_t rfl ?_
      walk_at "hv"
      refine if_f rfl ?_
      walk_at "hv"
      exact ⟨rfl, acc, Hc, rfl, fw2, fT2, fE2, by rw [show resL (.ok none) = [] from rfl, List.append_nil]; exact fl3, fG2⟩
    · refine if_t rfl ?_
      walk_at "hv"
      refine if_t rfl ?_
      have hsw : s ∈ ws := by
        have e := (hnest _ rfl).2.2 rfl
        have e2 := congrArg Prod.snd e
        rcases nestG_mem (tf := tf) e2 with ⟨p, hp, e⟩ | e
        · exact e ▸ ((clG_in 50 ws).1 p hp).2
        · exact (clG_in 50 ws).2.1 _ e
      have hes := D.ends s (hws s hsw)
      walk_at "hv"
      refine sub_dict (y := s) fE2 hes ?_
      walk_at "hv"
      refine o_addt (xs := [AV.int (ef s).1, AV.str (ef s).2]) (ys := [T73]) (by simp) (by simp) (by simp) ?_
      walk_at "hv"
      intro l1
      walk_at "hv"
      refine o_addl (xs := asked.map tst) (ys := [scr s]) (.tail fl3) .head (by rw [List.length_map]; simp; omega) fun l2 => ?_
      walk_at "hv"
      refine ⟨rfl, l2, (l2, .list (asked.map tst ++ [scr s])) :: (l1, .list [scr s]) :: Hc, by (rw [show resO ef (.ok (some s)) = endR (ef s) from rfl, outV_end]; try rfl), .tail (.tail fw2), .tail (.tail fT2), .tail (.tail fE2), .head, ?_⟩
      obtain ⟨G1, e⟩ := fG2
      rw [e]
      exact ⟨_ :: _ :: G1, rfl⟩
  rintro fl' σ ⟨rfl, lg, Hd, rfl, gw, gT, gE, gl, gG⟩
  with_reducible refine on_next ?_
  exact case_two (by omega) D hws hz gw gT gE gl gG hgo
end
end
section
noncomputable def ListIs (oS : Obj) (vs : List Value) (o : Obj) : Prop := o = oS ∧ o.cls = .type "list" ∧ ∃ n, o.data = .seq vs.toArray n
section
variable {F : Fn} {d : Nat} {hd : Option Addr} {X : Addr → St → Prop} {σ : St} {oS : Obj}
theorem e_slice_raw {value l st : Expr} {p pos : Pos} {k : AV → St → Prop} (h : HE G F d hd value σ (fun o σ₁ => HE G F d hd l σ₁ (fun vl σ₂ => HE G F d hd st σ₂ (fun vs σ₃ => ∃ a i j ws, ∃ ns : List Int, o = .ref a ∧ vl = .int i ∧ vs = .int j ∧ j ≠ 0 ∧ InH a (.raw (ListIs oS ws)) σ₃.H ∧ (∀ h, VRs h ws (ns.map .int)) ∧ ns.length ≤ 1000 ∧ ∀ b, ∀ ms : List Int, k (.ref b) ⟨σ₃.loc, (b, .list (ms.map .int)) :: σ₃.H⟩) X) X) X)
    (ht : ∀ o r, letTemporaryGo value o r = pure () := by intros; with_unfolding_all rfl) : HE G F d hd (.Subscript value (.Slice (some l) none (some st) p) pos) σ k X := by
  refine ⟨?_⟩
  intro C A L fr s ok I
  refine wpAny_Subscript_Slice_step (T := "list") (id := "list.__getitem__") list_getitem_lookup (wpAny_mono (h.run C A L fr s ok I) (fun o s₁ p₁ => ?_) fun _ _ e => e) ht
  obtain ⟨a, σ₁, I₁, S₁, V₁, h₁⟩ := p₁
  refine wpAny_Slice ?_
  rw [evalPart_some]
  refine wpAny_mono (h₁.run C A L fr s₁ ok I₁) (fun vl s₂ p₂ => ?_) fun _ _ e => e.trans S₁
  obtain ⟨b, σ₂, I₂, S₂, V₂, h₂⟩ := p₂
  rw [evalPart_none]
  refine wpAny_pure ?_
  rw [evalPart_some]
  refine wpAny_mono (h₂.run C A L fr s₂ ok I₂) (fun vu s₃ p₃ => ?_) fun _ _ e => e.trans (S₁.trans S₂)
  obtain ⟨c, σ₃, I₃, S₃, V₃, a, i, j, ws, ns, rfl, rfl, rfl, hj, hi, hV, hz, h₃⟩ := p₃
  obtain rfl := V₁.ref_inv
  obtain ⟨t2, rfl⟩ := V₂.int_inv
  obtain ⟨t3, rfl⟩ := V₃.int_inv
  have kp : ∀ b o, s₃.heap.get? b = some o → (s₃.heap.push { cls := .type "slice", data := .fields #[.int i t2, .none, .int j t3] }).get? b = some o := fun b o e => Heap.get?_push_of_some _ e
  obtain ⟨m, I0, lr⟩ := I₃.mono kp
  obtain ⟨o, ho, ro, hso, hc, n, hdt⟩ := I0.raw hi
  have il : (s₃.heap.push { cls := .type "slice", data := .fields #[.int i t2, .none, .int j t3] }).IsList a ws.toArray := ⟨o, ho, hc, n, hdt⟩
  have Vs := hV (s₃.heap.push { cls := .type "slice", data := .fields #[.int i t2, .none, .int j t3] })
  refine ⟨⟨o, ho, hc⟩, ?_⟩
  refine wpAny_getItem_list_slice (s := { s₃ with heap := s₃.heap.push { cls := .type "slice", data := .fields #[.int i t2, .none, .int j t3] } }) il (Heap.IsSliceOf.new _ _ _ _) (.int i t2) .none (.int j t3) (fun q => hj (Option.some.inj q)) ?_ (by rw [List.size_toArray, Vs.length, sizeLine_eq]; simp; omega)
  obtain ⟨ms, Ms⟩ := ints_pick Vs (sliceRange (sliceBounds (some i) none (some j) ws.toArray.size).1 (sliceBounds (some i) none (some j) ws.toArray.size).2.1 (sliceBounds (some i) none (some j) ws.toArray.size).2.2)
  obtain ⟨J, kp2⟩ := I0.newList Ms
  exact ⟨_, ⟨σ₃.loc, _⟩, ⟨m, J, lr.1.mono (.of kp2), lr.2⟩, ((S₁.trans S₂).trans S₃).trans (s' := s₃) ⟨(TL.of kp).trans (.of kp2), rfl, rfl⟩, .ref _, h₃ _ ms⟩
theorem SetH.app {a : Addr} {o o' : AObj} {H H' : AH} (h : SetH a o o' H H') : ∀ {Gb : AH}, SetH a o o' (Gb ++ H) (Gb ++ H')
  | [] => h
  | _ :: _ => .tail h.app
theorem Sel.app {a : Addr} {o : AObj} {H R : AH} (h : Sel a o H R) : ∀ {Gb : AH}, Sel a o (Gb ++ H) (Gb ++ R)
  | [] => h
  | _ :: _ => .tail h.app
end
section
variable {d : Nat} {H : AH} {k : AV → AH → Prop} {X : Addr → AH → Prop}
noncomputable def chH : List Addr → List (List Int) → AH → AH
  | a :: as, c :: cs, H => chH as cs ((a, .list (c.map .int)) :: H)
  | _, _, H => H
theorem chH_in {H : AH} {b : Addr} {o : AObj} (h : InH b o H) : ∀ (as : List Addr) (cs : List (List Int)), InH b o (chH as cs H)
  | [], _ => h
  | _ :: _, [] => h
  | _ :: as, _ :: cs => chH_in (.tail h) as cs
theorem chH_get {c : List Int} {a : Addr} : ∀ {as : List Addr} {cs : List (List Int)} {H : AH} {i : Nat}, as[i]? = some a → cs[i]? = some c → InH a (.list (c.map .int)) (chH as cs H)
  | [], _, _, _, h, _ => by simp at h
  | _ :: _, [], _, _, _, h => by simp at h
  | _ :: as, _ :: cs, _, 0, h, h' => by
    simp at h h'
    subst h; subst h'
    exact chH_in .head as cs
  | _ :: as, _ :: cs, _, i + 1, h, h' => chH_get (as := as) (cs := cs) (i := i) (by simpa using h) (by simpa using h')
theorem cc_law_chains (hn : 1 ≤ d) (hk : ∀ (as : List Addr) a, as.length = 12 → k (.ref a) ((a, .list (as.map .ref)) :: chH as lawChains H)) : CC G d none (.ref 588) [] H k X := by
  obtain ⟨e', rfl⟩ := dpos hn
  refine cd_law_chains ?_
  refine s_cons ?_
  walk_at "hv"
  intro a1
  walk_at "hv"
  intro a2
  walk_at "hv"
  intro a3
  walk_at "hv"
  intro a4
  walk_at "hv"
  intro a5
  walk_at "hv"
  intro a6
  walk_at "hv"
  intro a7
  walk_at "hv"
  intro a8
  walk_at "hv"
  intro a9
  walk_at "hv"
  intro a10
  walk_at "hv"
  intro a11
  walk_at "hv"
  intro a12
  walk_at "hv"
  intro a
  walk_at "hv"
  exact hk [a1, a2, a3, a4, a5, a6, a7, a8, a9, a10, a11, a12] a rfl
end
section
variable {Fc : Fn} {d : Nat} {c p acc it aw : Addr} {kk : AH → Prop}
theorem draw_lt {n m : Int} {rest : List Int} {k : Nat} (hm : m = k) (hk : 0 < k) : 0 ≤ drawV n rest m ∧ (drawV n rest m).toNat < k := by
  have h1 : 0 ≤ (rest.headD 0 + n).fmod m := Int.fmod_nonneg_of_pos _ (by omega)
  have h2 : (rest.headD 0 + n).fmod m < m := Int.fmod_lt_of_pos _ (by omega)
  unfold drawV
  exact ⟨h1, by omega⟩
theorem hdc_draw {kx vx : Expr} {tab : List (Int × Str)} {m : Int} {all : List AV} {Bf : List Int → AH} (hB : ∀ x y : List Int, SetH p (.list (x.map .int)) (.list (y.map .int)) (Bf x) (Bf y)) (hc : ∀ x, InH c (.cell (some p)) (Bf x)) (hw : ∀ x, InH aw (.list all) (Bf x))
    (hkx : ∀ (t : Str) (H : AH) (k : AV → St → Prop), k (.str t) ⟨[some (.str t)], H⟩ → HE G Fc d none kx ⟨[some (.str t)], H⟩ k (fun _ _ => False))
    (hvx : ∀ (t : Str) (H H' : AH) (n : Int) (rest : List Int) (k : AV → St → Prop), InH c (.cell (some p)) H → SetH p (.list ((n :: rest).map .int)) (.list ((n.fdiv m :: rest.tail).map .int)) H H' → rest.length ≤ 100 → (∀ a (y : Int × Str), y ∈ tab → k (pairV y) ⟨[some (.str t)], (a, .list (tab.map pairV)) :: H'⟩) → HE G Fc d none vx ⟨[some (.str t)], H⟩ k (fun _ _ => False)) :
    ∀ (ws : List Str) (i : Nat) (es : List (Str × AV)) (Gb : AH) (n : Int) (rest : List Int), rest.length ≤ 100 → (es.map (·.1) ++ ws).Nodup → es.length + ws.length ≤ 900 →
      (∀ Gb' n' rest' (f : Str → Int × Str), rest'.length ≤ 100 → (∀ t ∈ ws, f t ∈ tab) → kk (Gb' ++ (acc, .dict (es ++ ws.map fun t => (t, pairV (f t)))) :: Bf (n' :: rest'))) →
      HDC G Fc d kx vx kk acc it (PL aw) (fun H => InH aw (.list all) H) (ws.map .str) i es (Gb ++ (acc, .dict es) :: (it, .raw (PL aw i)) :: Bf (n :: rest))
  | [], i, es, Gb, n, rest, hr, _, _, hk => ⟨InH.app (.tail (.tail (hw _))), _, Sel.app (.tail .head), by
      have := hk Gb n rest (fun _ => (0, "")) hr (fun t ht => by cases ht)
      rw [List.map_nil, List.append_nil] at this
      exact this⟩
  | t :: ws, i, es, Gb, n, rest, hr, nd, hz, hk => by
    have hno : NoE t es := NoE.of fun hm => (List.nodup_append.mp nd).2.2 t hm t (.head _) rfl
    simp only [List.length_cons] at hz
    refine ⟨InH.app (.tail (.tail (hw _))), by omega, _, SetH.app (.tail .head), hkx t _ _ ⟨t, rfl, hvx t _ _ n rest _ (InH.app (.tail (.tail (hc _)))) (SetH.app (.tail (.tail (hB _ _)))) hr fun a y hy => ?_⟩⟩
    refine ⟨es ++ [(t, pairV y)], _, PutE.new hno, .tail (SetH.app .head), ?_⟩
    have e1 : ∀ (g : Str → Int × Str), g t = y → es ++ (t :: ws).map (fun t => (t, pairV (g t))) = (es ++ [(t, pairV y)]) ++ ws.map fun t => (t, pairV (g t)) := fun g hg => by simp [hg]
    have nd2 : ((es ++ [(t, pairV y)]).map (·.1) ++ ws).Nodup := by
      rw [List.map_append, List.append_assoc]
      exact nd
    have htw : t ∉ ws := (List.nodup_cons.mp (List.nodup_append.mp nd).2.1).1
    refine hdc_draw hB hc hw hkx hvx ws (i + 1) (es ++ [(t, pairV y)]) ((a, .list (tab.map pairV)) :: Gb) (n.fdiv m) rest.tail (by rw [List.length_tail]; omega) nd2 (by rw [List.length_append, List.length_singleton]; omega) fun Gb' n' rest' f hr' hf => ?_
    have := hk Gb' n' rest' (fun z => if z = t then y else f z) hr' (fun z hz => by
      rcases List.mem_cons.mp hz with rfl | hz
      · rw [if_pos rfl]; exact hy
      · rw [if_neg (show ¬ z = t from fun q => htw (q ▸ hz))]; exact hf z hz)
    rw [e1 _ (if_pos rfl)] at this
    rw [show (ws.map fun t_1 => (t_1, pairV (if t_1 = t then y else f t_1))) = ws.map fun t => (t, pairV (f t)) from List.map_congr_left fun z hz => by rw [if_neg (show ¬ z = t from fun q => htw (q ▸ hz))]] at this
    exact this
theorem hlc_draw {elt : Expr} {m : Int} {P : Nat → Obj → Prop} {Bf : List Int → AH} (hB : ∀ x y : List Int, SetH p (.list (x.map .int)) (.list (y.map .int)) (Bf x) (Bf y)) (hc : ∀ x, InH c (.cell (some p)) (Bf x))
    (helt : ∀ (t : AV) (H H' : AH) (n : Int) (rest : List Int) (k : AV → St → Prop), InH c (.cell (some p)) H → SetH p (.list ((n :: rest).map .int)) (.list ((n.fdiv m :: rest.tail).map .int)) H H' → rest.length ≤ 100 → (∀ a y, y ∈ lawWords → k (.str y) ⟨[some t], (a, .list (lawWords.map .str)) :: H'⟩) → HE G Fc d none elt ⟨[some t], H⟩ k (fun _ _ => False)) :
    ∀ (vs : List AV) (i : Nat) (ys : List Str) (Gb : AH) (n : Int) (rest : List Int), rest.length ≤ 100 → ys.length + vs.length ≤ 900 → (∀ t ∈ ys, t ∈ lawWords) →
      (∀ Gb' n' rest' (zs : List Str), zs.length = ys.length + vs.length → (∀ t ∈ zs, t ∈ lawWords) → kk (Gb' ++ (acc, .list (zs.map .str)) :: Bf (n' :: rest'))) →
      HLC G Fc d elt kk acc it P (fun _ => True) vs i (ys.map .str) (Gb ++ (acc, .list (ys.map .str)) :: (it, .raw (P i)) :: Bf (n :: rest))
  | [], i, ys, Gb, n, rest, hr, _, hy, hk => ⟨trivial, _, Sel.app (.tail .head), hk Gb n rest ys (by simp) hy⟩
  | t :: vs, i, ys, Gb, n, rest, hr, hz, hy, hk => by
    simp only [List.length_cons] at hz hk
    refine ⟨trivial, by rw [List.length_map]; omega, _, SetH.app (.tail .head), helt t _ _ n rest _ (InH.app (.tail (.tail (hc _)))) (SetH.app (.tail (.tail (hB _ _)))) hr fun a y hy' => ?_⟩
    refine ⟨_, .tail (SetH.app .head), ?_⟩
    have e2 : ys.map AV.str ++ [AV.str y] = (ys ++ [y]).map .str := by simp
    rw [e2]
    refine hlc_draw hB hc helt vs (i + 1) (ys ++ [y]) ((a, .list (lawWords.map .str)) :: Gb) (n.fdiv m) rest.tail (by rw [List.length_tail]; omega) (by rw [List.length_append, List.length_singleton]; omega) (fun z hz => ?_) fun Gb' n' rest' zs h1 h2 => hk Gb' n' rest' zs (by rw [h1, List.length_append, List.length_singleton]; omega) h2
    rcases List.mem_append.mp hz with hz | hz
    · exact hy z hz
    · rw [List.mem_singleton] at hz; rw [hz]; exact hy'
end
end
section
noncomputable abbrev F_law (fa : Addr) (cd : Value) (c : Addr) : Fn := ⟨(fdOf 675).name, (fdOf 675).scope, some fa, cd, ["script", "tests", "ends", "k", "chain", "words"], ["sum", "_law_words", "enumerate", "_law_chains", "range", "_law_take", "_law_case_is_right"], [("pen", c)], none⟩
section
variable {oS : Obj} {d : Nat} {fa c l : Addr} {cd : Value} {ws : List Value} {ns : List Int}
noncomputable def nums0 : List Int := [0, 1, 3, 5, 2, 1, 4, 6, 7, 8, 0, 0, 1, 2, 3, 4, 5, 6, 0, 1, 2, 3]
theorem law_pen : (fdOf 675).scope.names.lookup ("pen" : Str) = some .cell := by kernel_rfl
theorem big40 : Builtin.Int.intTooBig (((Builtin.Int.intBits 10 : Nat) : Int) * 40) = false ∧ Builtin.Int.intTooBig (((Builtin.Int.intBits 10 : Nat) : Int) * 20) = false := by decide +kernel
theorem words_nodup : lawWords.Nodup := by decide +kernel
theorem tab_get {tab : List (Int × Str)} {j : Nat} (h : j < tab.length) : (tab.map pairV)[j]? = some (pairV tab[j]) := by
  rw [List.getElem?_map, List.getElem?_eq_getElem h]
  rfl
theorem tests_ok : ∀ y ∈ lawTests, y.1 = 0 → y.2 ∈ truVals := by decide +kernel
theorem getE_map {f : Str → Int × Str} {t : Str} : ∀ {xs : List Str}, t ∈ xs → GetE t (cvV (f t)) (xs.map fun t => (t, pairV (f t)))
  | x :: xs, h => by
    by_cases hx : x = t
    · subst hx; exact .head
    · rcases List.mem_cons.mp h with h | h
      · exact absurd h.symm hx
      · exact .tail hx (getE_map h)
theorem drawn_of {f g : Str → Int × Str} (hf : ∀ t ∈ lawWords, f t ∈ lawTests) : Drawn f g (lawWords.map fun t => (t, pairV (f t))) (lawWords.map fun t => (t, pairV (g t))) :=
  ⟨fun _ ht => getE_map ht, fun t ht h => tests_ok _ (hf t ht) h, fun _ ht => getE_map ht⟩
theorem chH_app : ∀ (as : List Addr) (cs : List (List Int)) (A B : AH), chH as cs (A ++ B) = chH as cs A ++ B
  | [], _, _, _ => rfl
  | _ :: _, [], _, _ => rfl
  | a :: as, c :: cs, A, B => chH_app as cs ((a, .list (c.map .int)) :: A) B
theorem law_tables {X : Addr → St → Prop} {K : Fl → St → Prop} (hn : 300 ≤ d) (hV : ∀ h, VRs h ws (ns.map .int)) (hz : ns.length ≤ 63)
    (h : ∀ (T E : Addr) (z : Option Addr) (f g : Str → Int × Str) (Pre : AH), (∀ t ∈ lawWords, f t ∈ lawTests) → InH T (.dict (lawWords.map fun t => (t, pairV (f t)))) Pre → InH E (.dict (lawWords.map fun t => (t, pairV (g t)))) Pre →
      HSs G (F_law fa cd c) d none ((bodyOf 675).drop 3) ⟨[some (.ref l), some (.ref T), some (.ref E), none, none, none], Pre ++ [(c, .cell z), (l, .raw (ListIs oS ws))]⟩ K X) :
    HSs G (F_law fa cd c) d none (bodyOf 675) ⟨[some (.ref l), none, none, none, none, none], [(c, .cell none), (l, .raw (ListIs oS ws))]⟩ K X := by
  have lk : ([("pen", c)] : List (Str × Addr)).lookup ("pen" : Str) = some c := rfl
  refine s_cons ?_
  refine s_assign_cell (z := none) lk law_pen ?_
  with_reducible refine e_bin ?_
  with_reducible refine e_list ?_
  with_reducible refine es_cons ?_
  with_reducible refine e_bin ?_
  walk_at "hc"
  with_reducible refine es_cons ?_
  with_reducible refine e_slice_raw (oS := oS) ?_
  walk_at "hv"
  refine ⟨l, _, _, ws, ns, rfl, rfl, rfl, by decide, .tail .head, hV, by omega, fun b ms => ?_⟩
  walk_at "hv"
  refine o_sum .head ?_
  walk_at "hv"
  refine o_pow (by decide) (by decide) (by decide) big40.1 ?_
  walk_at "hv"
  refine o_mod (by decide) ?_
  walk_at "hv"
  intro a1
  generalize ms.sum.fmod _ = Z
  walk_at "hv"
  intro a2
  walk_at "hv"
  refine o_addl (xs := [.int Z]) (ys := nums0.map .int) (.tail .head) .head (by simp [nums0]) fun p => ?_
  refine ⟨p, _, rfl, (by walk_at "setH"), ?_⟩
  with_reducible refine on_next ?_
  with_reducible refine s_cons ?_
  refine s_assign_dc (cl := [("pen", c)]) (globs := ["_law_tests", "_law_take"]) rfl ?_ ?_ ?_ ?_ ?_ ?_ ?_ ?_
  · intro L; kernel_rfl
  · intro L; kernel_rfl
  · decide +kernel
  · rfl
  · decide +kernel
  · exact Fn.WF.of (by kernel_rfl)
  rotate_left
  · intro L x; rfl
  walk_at "hv"
  walk_at "oc"
  refine cc_law_words (by omega) fun aw => ?_
  refine ⟨PL aw, lawWords.map .str, fun H => InH aw (.list (lawWords.map .str)) H, fun acc => [some (.ref l), some (.ref acc), none, none, none, none], pyit_list .head, fun it => iter_list, fun it acc => ⟨by walk_at "put1", fun L => ?_⟩⟩
  refine hdc_draw (c := c) (p := p) (tab := lawTests) (m := 12) (Bf := fun x => (aw, .list (lawWords.map .str)) :: (p, .list (x.map .int)) :: [(a2, .list (nums0.map .int)), (a1, .list [.int Z]), (b, .list (ms.map .int))] ++ [(c, .cell (some p)), (l, .raw (ListIs oS ws))]) (fun x y => .tail .head) (fun x => .tail (.tail (.tail (.tail (.tail .head))))) (fun x => .head) (fun t H k hk => ?_) (fun t H H' n rest k hcell hset hr hk => ?_) lawWords 0 [] [] Z nums0 (by decide) words_nodup (by decide) fun Gb n1 rest1 f hr1 hf => ?_
  · walk_at "hv"
    exact hk
  · walk_at "hv"
    walk_at "oc"
    refine cc_law_tests (by omega) fun at_ => ?_
    walk_at "hv"
    refine e_cell (c := c) (a := p) rfl (by kernel_rfl) rfl (.tail hcell) ?_
    walk_at "hv"
    walk_at "oc"
    refine cc_law_take (by omega) (by decide) (by decide) hr (.tail hset) ?_
    walk_at "hv"
    have hd := draw_lt (n := n) (rest := rest) (m := 12) (k := 12) rfl (by decide)
    refine sub_list .head hd.1 (by omega) (tab_get (tab := lawTests) hd.2) ?_
    walk_at "hv"
    exact hk at_ _ (List.getElem_mem _)
  with_reducible refine on_next ?_
  with_reducible refine s_cons ?_
  refine s_assign_dc (cl := [("pen", c)]) (globs := ["_law_scripts", "_law_take"]) rfl ?_ ?_ ?_ ?_ ?_ ?_ ?_ ?_
  · intro L; kernel_rfl
  · intro L; kernel_rfl
  · decide +kernel
  · rfl
  · decide +kernel
  · exact Fn.WF.of (by kernel_rfl)
  rotate_left
  · intro L x; rfl
  walk_at "hv"
  walk_at "oc"
  refine cc_law_words (by omega) fun aw2 => ?_
  refine ⟨PL aw2, lawWords.map .str, fun H => InH aw2 (.list (lawWords.map .str)) H, fun acc2 => [some (.ref l), some (.ref acc), some (.ref acc2), none, none, none], pyit_list .head, fun it2 => iter_list, fun it2 acc2 => ⟨by walk_at "put1", fun L2 => ?_⟩⟩
  refine hdc_draw (c := c) (p := p) (tab := lawScripts) (m := 7) (Bf := fun x => (aw2, .list (lawWords.map .str)) :: (Gb ++ (acc, .dict ([] ++ lawWords.map fun t => (t, pairV (f t)))) :: ((aw, .list (lawWords.map .str)) :: (p, .list (x.map .int)) :: [(a2, .list (nums0.map .int)), (a1, .list [.int Z]), (b, .list (ms.map .int))] ++ [(c, .cell (some p)), (l, .raw (ListIs oS ws))]))) (fun x y => .tail (SetH.app (.tail (.tail .head)))) (fun x => .tail (InH.app (.tail (.tail (.tail (.tail (.tail (.tail .head)))))))) (fun x => .head) (fun t H k hk => ?_) (fun t H H' n rest k hcell hset hr hk => ?_) lawWords 0 [] [] n1 rest1 hr1 words_nodup (by decide) fun Gb2 n2 rest2 g hr2 hg => ?_
  · walk_at "hv"
    exact hk
  · walk_at "hv"
    walk_at "oc"
    refine cc_law_scripts (by omega) fun at_ => ?_
    walk_at "hv"
    refine e_cell (c := c) (a := p) rfl (by kernel_rfl) rfl (.tail hcell) ?_
    walk_at "hv"
    walk_at "oc"
    refine cc_law_take (by omega) (by decide) (by decide) hr (.tail hset) ?_
    walk_at "hv"
    have hd := draw_lt (n := n) (rest := rest) (m := 7) (k := 7) rfl (by decide)
    refine sub_list .head hd.1 (by omega) (tab_get (tab := lawScripts) hd.2) ?_
    walk_at "hv"
    exact hk at_ _ (List.getElem_mem _)
  with_reducible refine on_next ?_
  have hE : InH acc2 (.dict (lawWords.map fun t => (t, pairV (g t)))) (Gb2 ++ (acc2, .dict ([] ++ lawWords.map fun t => (t, pairV (g t)))) :: (aw2, .list (lawWords.map .str)) :: (Gb ++ (acc, .dict ([] ++ lawWords.map fun t => (t, pairV (f t)))) :: ((aw, .list (lawWords.map .str)) :: (p, .list ((n2 :: rest2).map .int)) :: [(a2, .list (nums0.map .int)), (a1, .list [.int Z]), (b, .list (ms.map .int))]))) := InH.app .head
  have hT : InH acc (.dict (lawWords.map fun t => (t, pairV (f t)))) (Gb2 ++ (acc2, .dict ([] ++ lawWords.map fun t => (t, pairV (g t)))) :: (aw2, .list (lawWords.map .str)) :: (Gb ++ (acc, .dict ([] ++ lawWords.map fun t => (t, pairV (f t)))) :: ((aw, .list (lawWords.map .str)) :: (p, .list ((n2 :: rest2).map .int)) :: [(a2, .list (nums0.map .int)), (a1, .list [.int Z]), (b, .list (ms.map .int))]))) := InH.app (.tail (.tail (InH.app .head)))
  have q := h acc acc2 (some p) f g _ hf hT hE
  have hH : (Gb2 ++ (acc2, .dict ([] ++ lawWords.map fun t => (t, pairV (g t)))) :: (aw2, .list (lawWords.map .str)) :: (Gb ++ (acc, .dict ([] ++ lawWords.map fun t => (t, pairV (f t)))) :: ((aw, .list (lawWords.map .str)) :: (p, .list ((n2 :: rest2).map .int)) :: [(a2, .list (nums0.map .int)), (a1, .list [.int Z]), (b, .list (ms.map .int))]))) ++ [(c, .cell (some p)), (l, .raw (ListIs oS ws))] =
      Gb2 ++ (acc2, .dict ([] ++ lawWords.map fun t => (t, pairV (g t)))) :: ((aw2, .list (lawWords.map .str)) :: (Gb ++ (acc, .dict ([] ++ lawWords.map fun t => (t, pairV (f t)))) :: ((aw, .list (lawWords.map .str)) :: (p, .list ((n2 :: rest2).map .int)) :: [(a2, .list (nums0.map .int)), (a1, .list [.int Z]), (b, .list (ms.map .int))] ++ [(c, .cell (some p)), (l, .raw (ListIs oS ws))]))) := by
    simp only [List.append_assoc, List.cons_append]
  rw [hH] at q
  exact q
end
end
section
section
variable {oS : Obj} {d : Nat} {fa c l : Addr} {cd : Value} {ws : List Value} {ns : List Int}
noncomputable abbrev tail2 (oS : Obj) (c l : Addr) (z : Option Addr) (ws : List Value) : AH := [(c, .cell z), (l, .raw (ListIs oS ws))]
theorem rng1 : ∀ m : Nat, m < 11 → Builtin.Range.small 0 (m : Int) 1 = true ∧ Builtin.Range.rangeSize 0 (m : Int) 1 = (m : Nat) := by decide +kernel
theorem words_get {j : Nat} (h : j < lawWords.length) : (lawWords.map AV.str)[j]? = some (.str lawWords[j]) := by
  rw [List.getElem?_map, List.getElem?_eq_getElem h]
  rfl
theorem chains_len : ∀ cs ∈ lawChains, cs.length ≤ 20 := by decide +kernel
theorem InH.app' {a : Addr} {o : AObj} {H : AH} (h : InH a o H) {Gb : AH} : InH a o (H ++ Gb) := by
  induction h with
  | head => exact .head
  | tail _ ih => exact .tail ih
theorem law_rest {X : Addr → St → Prop} {T E : Addr} {z : Option Addr} {f g : Str → Int × Str} {Pre : AH} (hn : 300 ≤ d) (hV : ∀ h, VRs h ws (ns.map .int)) (hz : ns.length ≤ 63) (hf : ∀ t ∈ lawWords, f t ∈ lawTests)
    (fT : InH T (.dict (lawWords.map fun t => (t, pairV (f t)))) Pre) (fE : InH E (.dict (lawWords.map fun t => (t, pairV (g t)))) Pre) :
    HSs G (F_law fa cd c) d none ((bodyOf 675).drop 3) ⟨[some (.ref l), some (.ref T), some (.ref E), none, none, none], Pre ++ tail2 oS c l z ws⟩ (fun fl σ => fl = .ret (.bool true) ∧ InH l (.raw (ListIs oS ws)) σ.H) X := by
  have lk : ([("pen", c)] : List (Str × Addr)).lookup ("pen" : Str) = some c := rfl
  refine s_cons ?_
  with_reducible refine s_for_enum ?_
  walk_at "hv"
  walk_at "oc"
  refine cc_law_chains (by omega) fun as lc hlen => ?_
  walk_at "hv"
  refine o_enum .head fun it e => ?_
  refine ⟨e, it, lc, as.map AV.ref, rfl, ?_⟩
  rw [chH_app]
  have fc : ∀ (i : Nat) a cs, as[i]? = some a → lawChains[i]? = some cs → InH a (.list (cs.map .int)) ((lc, .list (as.map AV.ref)) :: chH as lawChains Pre) := fun i a cs h1 h2 => .tail (chH_get h1 h2)
  have fl : InH lc (.list (as.map AV.ref)) ((lc, .list (as.map AV.ref)) :: chH as lawChains Pre) := .head
  have fT' : InH T (.dict (lawWords.map fun t => (t, pairV (f t)))) ((lc, .list (as.map AV.ref)) :: chH as lawChains Pre) := .tail (chH_in fT _ _)
  have fE' : InH E (.dict (lawWords.map fun t => (t, pairV (g t)))) ((lc, .list (as.map AV.ref)) :: chH as lawChains Pre) := .tail (chH_in fE _ _)
  show HForE G _ _ _ _ _ _ _ e it lc _ _ 0 ⟨_, (e, .raw (PEn it 0)) :: (it, .raw (PL lc 0)) :: (((lc, .list (as.map AV.ref)) :: chH as lawChains Pre) ++ tail2 oS c l z ws)⟩
  generalize (lc, AObj.list (as.map AV.ref)) :: chH as lawChains Pre = P1 at fc fl fT' fE' ⊢
  clear fT fE
  have turns : ∀ (n i : Nat) (z : Option Addr) (P1 : AH) (R R2 H0 : AH) (k0 k1 k2 : Option AV), i + n = 12 → (∀ (i : Nat) a cs, as[i]? = some a → lawChains[i]? = some cs → InH a (.list (cs.map .int)) P1) → InH lc (.list (as.map AV.ref)) P1 → InH T (.dict (lawWords.map fun t => (t, pairV (f t)))) P1 → InH E (.dict (lawWords.map fun t => (t, pairV (g t)))) P1 →
      InH lc (.list (as.map AV.ref)) H0 → Sel e (.raw (PEn it i)) H0 R → Sel it (.raw (PL lc i)) R R2 → R2 = P1 ++ tail2 oS c l z ws →
      HForE G (F_law fa cd c) d "k" "chain" (match (bodyOf 675).drop 3 with | .For _ _ b _ _ :: _ => b | _ => []) (fun fl σ => Fl.on (fun σ₁ => HSs G (F_law fa cd c) d none ((bodyOf 675).drop 4) σ₁ (fun fl σ => fl = .ret (.bool true) ∧ InH l (.raw (ListIs oS ws)) σ.H) X) (fun v σ₁ => (Fl.ret v) = .ret (.bool true) ∧ InH l (.raw (ListIs oS ws)) σ₁.H) fl σ) X e it lc (as.map AV.ref) ((as.drop i).map .ref) i ⟨[some (.ref l), some (.ref T), some (.ref E), k0, k1, k2], H0⟩ := by
    intro n
    induction n with
    | zero =>
      intro i z P1 R R2 H0 k0 k1 k2 hi hc hl hT hE hl0 s1 s2 hR
      rw [show as.drop i = [] from List.drop_eq_nil_of_le (by omega)]
      refine ⟨hl0, R, R2, s1, s2, ?_⟩
      with_reducible refine on_next ?_
      refine s_cons ?_
      walk_at "hv"
      rw [hR]
      exact ⟨rfl, InH.app (.tail .head)⟩
    | succ n ih =>
      intro i z P1 R R2 H0 k0 k1 k2 hi hc hl hT hE hl0 s1 s2 hR
      have hia : i < as.length := by omega
      rw [show as.drop i = as[i] :: as.drop (i + 1) from List.drop_eq_getElem_cons hia]
      subst hR
      refine ⟨hl0, R, _, _, _, s1, s2, by walk_at "put1", by walk_at "put1", ?_⟩
      have hcs : ∃ cs, lawChains[i]? = some cs ∧ cs.length ≤ 20 := by
        have h12 : i < lawChains.length := by show i < 12; omega
        exact ⟨_, List.getElem?_eq_getElem h12, chains_len _ (List.getElem_mem h12)⟩
      obtain ⟨cs, hcs, hcl⟩ := hcs
      have hca := hc i as[i] cs (List.getElem?_eq_getElem hia) hcs
      refine s_cons ?_
      refine s_assign_cell (z := z) lk law_pen ?_
      with_reducible refine e_bin ?_
      with_reducible refine e_list ?_
      with_reducible refine es_cons ?_
      with_reducible refine e_bin ?_
      walk_at "hc"
      with_reducible refine es_cons ?_
      with_reducible refine e_slice_raw (oS := oS) ?_
      walk_at "hv"
      refine ⟨l, _, _, ws, ns, rfl, rfl, rfl, by decide, .tail (.tail (InH.app (.tail .head))), hV, by omega, fun b ms => ?_⟩
      walk_at "hv"
      refine o_sum .head ?_
      walk_at "hv"
      refine o_pow (by decide) (by decide) (by decide) big40.2 ?_
      walk_at "hv"
      refine o_mod (by decide) ?_
      walk_at "hv"
      intro a1
      generalize ms.sum.fmod _ = Z
      walk_at "hv"
      refine o_addl (xs := [.int Z]) (ys := cs.map .int) .head (.tail (.tail (.tail (.tail (hca.app'))))) (by rw [List.length_map]; simp; omega) fun p => ?_
      refine ⟨p, _, rfl, .tail (.tail (.tail (.tail (.tail (SetH.app .head))))), ?_⟩
      with_reducible refine on_next ?_
      with_reducible refine s_cons ?_
      refine s_assign_lc (cl := [("pen", c)]) (globs := ["_law_words", "_law_take"]) rfl ?_ ?_ ?_ ?_ ?_ ?_ ?_ ?_
      · intro L; kernel_rfl
      · intro L; kernel_rfl
      · decide +kernel
      · rfl
      · decide +kernel
      · exact Fn.WF.of (by kernel_rfl)
      rotate_left
      · intro L x; rfl
      walk_at "hv"
      refine e_cell lk law_pen rfl (.tail (.tail (.tail (.tail (.tail (InH.app .head)))))) ?_
      walk_at "hv"
      walk_at "oc"
      refine cc_law_take (n := Z) (rest := cs) (by omega) (by decide) (by decide) (by omega) .head ?_
      have hdr := draw_lt (n := Z) (rest := cs) (m := 11) (k := 11) rfl (by decide)
      obtain ⟨m, hm⟩ : ∃ m : Nat, drawV Z cs 11 = (m : Int) := ⟨_, (Int.toNat_of_nonneg hdr.1).symm⟩
      rw [hm] at hdr ⊢
      have hm11 : m < 11 := by have := hdr.2; omega
      walk_at "hv"
      refine o_range1 fun r => ?_
      obtain ⟨q1, q2⟩ := rng1 m hm11
      refine ⟨PR 0 1 m, rangeAV 0 1 m, fun _ => True, fun acc => [some (.ref l), some (.ref T), some (.ref E), some (.int i), some (.ref as[i]), some (.ref acc)], pyit_range .head q1 q2, fun it => iter_range, fun it2 w => ⟨by walk_at "put1", fun L => ?_⟩⟩
      refine hlc_draw (c := c) (p := p) (m := 11) (Bf := fun x => (r, .raw (RG 0 m 1)) :: (p, .list (x.map .int)) :: (a1, .list [.int Z]) :: (b, .list (ms.map .int)) :: (e, .raw (PEn it (i + 1))) :: (it, .raw (PL lc (i + 1))) :: (P1 ++ tail2 oS c l (some p) ws)) (fun x y => .tail .head) (fun x => .tail (.tail (.tail (.tail (.tail (.tail (InH.app .head))))))) (fun t H H' n rest k hcell hset hr hk => ?_) (rangeAV 0 1 m) 0 [] [] (Z.fdiv 11) cs.tail (by rw [List.length_tail]; omega) (by simp [rangeAV]; omega) (by simp) fun Gb n' rest' zs hzs hzw => ?_
      · walk_at "hv"
        walk_at "oc"
        refine cc_law_words (by omega) fun at_ => ?_
        walk_at "hv"
        refine e_cell (c := c) (a := p) rfl (by kernel_rfl) rfl (.tail hcell) ?_
        walk_at "hv"
        walk_at "oc"
        refine cc_law_take (by omega) (by decide) (by decide) hr (.tail hset) ?_
        walk_at "hv"
        have hd := draw_lt (n := n) (rest := rest) (m := 11) (k := 11) rfl (by decide)
        refine sub_list .head hd.1 (by omega) (words_get (j := _) hd.2) ?_
        walk_at "hv"
        exact hk at_ _ (List.getElem_mem _)
      simp only [rangeAV, List.length_map, List.length_range, List.length_nil, Nat.zero_add] at hzs
      with_reducible refine on_next ?_
      walk_at "hv"
      walk_at "oc"
      refine cc_case (ws := zs) (by omega) (InH.app .head) (InH.app (.tail (.tail (.tail (.tail (.tail (.tail (.tail hT.app')))))))) (InH.app (.tail (.tail (.tail (.tail (.tail (.tail (.tail hE.app')))))))) (by omega) hzw (drawn_of hf) ?_
      walk_at "hv"
      refine if_f rfl ?_
      walk_at "hv"
      have up : ∀ {b' : Addr} {o : AObj}, InH b' o P1 → InH b' o (Gb ++ (w, .list (zs.map .str)) :: (r, .raw (RG 0 m 1)) :: (p, .list ((n' :: rest').map .int)) :: (a1, .list [.int Z]) :: (b, .list (ms.map .int)) :: P1) := fun h => InH.app (.tail (.tail (.tail (.tail (.tail h)))))
      exact ih (i + 1) (some p) (Gb ++ (w, .list (zs.map .str)) :: (r, .raw (RG 0 m 1)) :: (p, .list ((n' :: rest').map .int)) :: (a1, .list [.int Z]) :: (b, .list (ms.map .int)) :: P1) _ _ _ _ _ _ (by omega) (fun i a cs h1 h2 => up (hc i a cs h1 h2)) (up hl) (up hT) (up hE) (InH.app (.tail (.tail (.tail (.tail (.tail (.tail (.tail hl.app')))))))) (Sel.app (.tail (.tail (.tail (.tail (.tail .head)))))) (Sel.app (.tail (.tail (.tail (.tail (.tail .head)))))) (by simp)
  exact turns 12 0 z P1 _ _ _ _ _ _ rfl fc fl fT' fE' (.tail (.tail fl.app')) .head .head rfl
end
end
section
theorem K_nolist (P : Params) : ((G.K P).all fun p => !(p.2.cls == .type "list")) = true := by kernel_rfl
theorem K_sys (P : Params) : ((G.K P).lookup sysModules).isSome = true := by kernel_rfl
theorem lookup_in {β : Type} : ∀ {l : List (Addr × β)} {a : Addr} {o : β}, l.lookup a = some o → (a, o) ∈ l
  | (b, x) :: r, a, o, e => by
    rw [List.lookup_cons] at e
    cases hb : a == b with
    | true => rw [hb] at e; cases e; rw [eq_of_beq hb]; exact .head _
    | false => rw [hb] at e; exact .tail _ (lookup_in e)
theorem K_cls {P : Params} {a : Addr} {o : Obj} (e : (G.K P).lookup a = some o) : o.cls ≠ .type "list" := fun q => by
  have := List.all_eq_true.mp (K_nolist P) _ (lookup_in e)
  dsimp only at this
  rw [q] at this
  exact absurd this (by decide)
theorem ints_vrs {vs : List Value} {ns : List Int} (h : IntsAre vs ns) : ∀ h, VRs h vs (ns.map .int) := fun hp => by
  induction h with
  | nil => exact .nil
  | cons n t _ ih => exact .cons (.int n t) ih
theorem F_law_wf {fa c : Addr} {cd : Value} : (F_law fa cd c).wf = true := by kernel_rfl
theorem law_kind : (fdOf 675).scope.kind = .function := by kernel_rfl
theorem law_end {w : World} {s : Shared} {h₁ : Heap} {tk : Nat} {fa l : Addr} {cd : Value} {vs : List Value} {ns : List Int} {m : Str → Option Value} {oc : Obj}
    (KX : (G.K w.params).In s.heap) (nl : s.heap.NoLimit) (hL : s.heap.IsList l vs.toArray) (hI : IntsAre vs ns) (hz : ns.length ≤ 63)
    (F : Fr s.heap s.heap.objs.size h₁ m) (hm : m "script" = some (.ref l)) (hc : h₁.get? (s.heap.objs.size + 1) = some oc) (hcd : oc.data = .cell none) :
    wpAny (model G.P w) (callerA.deeper ((F_law fa cd (s.heap.objs.size + 1)).env s.heap.objs.size)) (execs (bodyOf 675) ((F_law fa cd (s.heap.objs.size + 1)).env s.heap.objs.size))
      (fun f s' => f = .ret (.bool true) ∧ (∀ a o, s.heap.get? a = some o → s'.heap.get? a = some o) ∧ s'.gens = s.gens ∧ s'.os = s.os) (fun _ _ => False) { s with heap := h₁, toks := tk } := by
  obtain ⟨oS, hoS, hcS, nS, hdS⟩ := hL
  have bl : ∀ o, (s.heap.update l (fun o => { o with data := .freed })).get? l ≠ some o := fun o e => by
    obtain ⟨e1, e2⟩ := Heap.get?_some_iff.mp e
    obtain ⟨e3, _⟩ := Heap.get?_some_iff.mp hoS
    have e4 : (s.heap.update l (fun o => { o with data := .freed })).objs[l]? = some { oS with data := .freed } := by
      cases hh : s.heap with
      | mk objs life =>
        rw [hh] at e3
        simp only [Heap.update, Array.getElem?_modify, if_true]
        simp only at e3
        rw [e3]; rfl
    rw [e4] at e1
    cases e1
    cases e2
  have other : ∀ a, a ≠ l → (s.heap.update l (fun o => { o with data := .freed })).get? a = s.heap.get? a := fun a ha => Heap.get?_update_other _ _ (Ne.symm ha)
  have Bl : (s.heap.update l (fun o => { o with data := .freed })).get? l = none := by
    cases q : (s.heap.update l (fun o => { o with data := .freed })).get? l with
    | none => rfl
    | some o => exact absurd q (bl o)
  have Bn : ∀ a, s.heap.objs.size ≤ a → (s.heap.update l (fun o => { o with data := .freed })).get? a = none := fun a ha => Heap.get?_none_of_le (by rw [Heap.size_after_update]; exact ha)
  have Bo : ∀ a o, (s.heap.update l (fun o => { o with data := .freed })).get? a = some o → s.heap.get? a = some o := fun a o e => by
    by_cases ha : a = l
    · subst ha; exact absurd e (bl o)
    · rw [other a ha] at e; exact e
  have oB : ∀ a o, s.heap.get? a = some o → a ≠ l → (s.heap.update l (fun o => { o with data := .freed })).get? a = some o := fun a o e ha => (other a ha).trans e
  generalize s.heap.update l (fun o => { o with data := .freed }) = B at Bl Bn Bo oB
  have KB : (G.K w.params).In B := fun a o e => oB a o (KX a o e) fun q => by
    subst q
    have := KX _ _ e
    rw [hoS] at this
    cases this
    exact K_cls e hcS
  have nlB : B.NoLimit := by
    obtain ⟨mc, ⟨o, es, ep, ho, hd, r⟩, hlim⟩ := nl
    refine ⟨mc, ⟨o, es, ep, oB _ _ ho fun q => ?_, hd, r⟩, hlim⟩
    rw [q, hoS] at ho
    cases ho
    rw [hdS] at hd
    cases hd
  have lL : l ≠ s.heap.objs.size := Nat.ne_of_lt (Heap.lt_size hoS)
  have lc : l ≠ s.heap.objs.size + 1 := Nat.ne_of_lt (Nat.lt_succ_of_lt (Heap.lt_size hoS))
  have ok : Ok G ⟨G.P, w, B, []⟩ (callerA.deeper ((F_law fa cd (s.heap.objs.size + 1)).env s.heap.objs.size)) ((F_law fa cd (s.heap.objs.size + 1)).env s.heap.objs.size :: ([] : Frs).map (·.1)) 300 := by
    refine ⟨rfl, KB, ?_, (by show (1 + claimMargin) + 1 + 300 ≤ 990; decide), (by show 4 + 3 + 20 * 300 ≤ 9800; decide), nlB, ?_⟩
    · rw [own_cons rfl]; rfl
    · have := K_sys w.params
      obtain ⟨o, e⟩ := Option.isSome_iff_exists.mp this
      show (B.get? sysModules).isSome = true
      rw [KB _ _ e]; rfl
  have I0 : Inv0 ⟨G.P, w, B, []⟩ [((F_law fa cd (s.heap.objs.size + 1)).env s.heap.objs.size, m)] [(s.heap.objs.size + 1, .cell none), (l, .raw (ListIs oS vs))] h₁ := by
    refine ⟨fun a o e => F.keep _ _ (Bo _ _ e), (fun p hp => nomatch hp), fun p hp => ?_, fun p hp => ?_, fun x hx => ?_, fun p hp => ?_, by simp, ?_, ⟨⟨_, _, own_cons rfl, rfl⟩, trivial⟩⟩
    · cases hp with
      | head => exact ⟨law_kind, trivial, F.ns⟩
      | tail _ hp => cases hp
    · cases hp with
      | head => exact ⟨oc, hc, hcd⟩
      | tail _ hp =>
        cases hp with
        | head => exact ⟨oS, F.keep _ _ hoS, ⟨fun q => absurd (hcS.symm.trans q) (by decide), fun q => absurd (hcS.symm.trans q) (by decide)⟩, rfl, hcS, nS, hdS⟩
        | tail _ hp => cases hp
    · have hx : x = s.heap.objs.size + 1 ∨ x = l := by simpa [Mine.feet, AObj.foot] using hx
      rcases hx with rfl | rfl
      · refine ⟨⟨Bn _ (Nat.le_succ _), fun p hp => nomatch hp⟩, fun p hp => ?_⟩
        cases hp with
        | head => exact Nat.ne_of_lt (Nat.lt_succ_self _)
        | tail _ hp => cases hp
      · refine ⟨⟨Bl, fun p hp => nomatch hp⟩, fun p hp => ?_⟩
        cases hp with
        | head => exact lL.symm
        | tail _ hp => cases hp
    · cases hp with
      | head => exact ⟨Bn _ (Nat.le_refl _), fun p hp => nomatch hp⟩
      | tail _ hp => cases hp
    · have : s.heap.objs.size + 1 ≠ l := lc.symm
      simpa [Mine.feet, AObj.foot] using this
  have lr : LocR h₁ m (F_law fa cd (s.heap.objs.size + 1)).names [some (.ref l), none, none, none, none, none] := by
    intro x av e
    cases e with
    | head => exact ⟨_, hm, .ref l⟩
    | tail e => cases e with | tail e => cases e with | tail e => cases e with | tail e => cases e with | tail e => cases e with | tail e => cases e
  have hV := ints_vrs hI
  have law : HSs G (F_law fa cd (s.heap.objs.size + 1)) 300 none (bodyOf 675) ⟨[some (.ref l), none, none, none, none, none], [(s.heap.objs.size + 1, .cell none), (l, .raw (ListIs oS vs))]⟩ (fun fl σ => fl = .ret (.bool true) ∧ InH l (.raw (ListIs oS vs)) σ.H) (fun _ _ => False) :=
    law_tables (by omega) hV hz fun T E z f g Pre hf fT fE => law_rest (by omega) hV hz hf fT fE
  refine wpAny_mono (law.run ⟨G.P, w, B, []⟩ _ _ [] { s with heap := h₁, toks := tk } ok ⟨m, I0, lr, .of F_law_wf⟩) (fun f s' p => ?_) fun _ _ p => ?_
  · obtain ⟨g, σ', ⟨m', J, _⟩, S, FR, rfl, hi⟩ := p
    refine ⟨?_, fun a o e => ?_, S.2.1, S.2.2⟩
    · cases f <;> first | exact FR.elim | skip
      cases FR
      rfl
    · by_cases ha : a = l
      · subst ha
        obtain ⟨o', ho', _, e', _⟩ := J.raw hi
        rw [hoS] at e
        cases e
        rw [e'] at ho'
        exact ho'
      · exact J.base _ _ (oB _ _ e ha)
  · obtain ⟨_, _, _, _, _, _, q⟩ := p
    exact q
end
end Mine
end
section
open PySem PySem.W PySem.W.X PySem.Calls PyProof.Rows
local macro_rules | `(tactic| k_qdec) => `(tactic| decide +kernel)
set_option maxRecDepth 100000 in
set_option maxHeartbeats 0 in
theorem PySem.Challenge.cw_oj0064_01_holds : PySem.Challenge.rw_oj0064_01.Holds := by
  refine Mine.Head.hd (by rfl) (by rfl) (by rfl) ?hw ?hc
  case hw => w_witness2
  k_go0
  have KX := ‹(Mine.Head.Kf _).In _›
  have hL := ‹Heap.IsList _ _ _›
  have hI := ‹IntsAre _ _›
  have F := ‹Fr _ _ _ _›
  have N := ‹News _ _ _ _›
  have T := ‹Top _ _ _ _ _ _›
  have hz := ‹¬ (_ < (_ : Int))›
  have hg := ‹_ = (#[] : Array GenState)›
  have nl := Top.nolimit T
  refine wpAny_mono (Mine.law_end KX nl hL hI (by omega) F rfl (N _ (.head _)).1 (by assumption)) (fun f s' p => ?_) (fun _ _ p => p.elim)
  obtain ⟨rfl, keep, hg', hos⟩ := p
  exact ⟨.inl ⟨_, .bool true, [], rfl, fun _ => rfl, .bool true, (by exact postW_of (by wrow_shape) (by wtm_val) (by w_fin)), unshared_nil⟩, keep, hos, hg'.trans hg⟩
end
