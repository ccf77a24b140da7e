import PyProof.Rows.All
import Wide.All
import OpenK.AllK
import Wide.FinOn
import PyProof.TupleIter
import PyProof.WalksMore
import PyProof.StrCalls6
import PyProof.P3Eq
import PyProof.StrLawsWords
import Lean
import PySem.Challenge.RW_nt0619_01
set_option Elab.async false
set_option maxRecDepth 1000000
set_option tactic.hygienic false
set_option linter.all false
namespace Mine
open PySem PySem.W PySem.Calls PyProof.Rows
noncomputable section
noncomputable abbrev pw : Program := PySem.Challenge.pw_nt0619_01
noncomputable abbrev I (n : Int) : Value := .int n 0
noncomputable abbrev R (a : Nat) : Value := .ref a
noncomputable abbrev S (x : String) (t : Nat) : Value := .str (Str.ofString x) t
noncomputable abbrev D (P : Params) (x : String) (t : Nat) (v : Value) : DictEntry := ⟨PyData.keyHash P (Str.ofString x), .str (Str.ofString x) t, v⟩
noncomputable abbrev T (xs : List Value) : Obj := ⟨.type "tuple", none, .seq xs.toArray 0, #[]⟩
noncomputable abbrev Dc (es : List DictEntry) (n : Nat) : Obj := ⟨.type "dict", none, .dict es.toArray n, #[]⟩
noncomputable abbrev Dn (es : List DictEntry) (n : Nat) : Obj := ⟨.none, none, .dict es.toArray n, #[]⟩
noncomputable abbrev Fl (c : Value) (xs : List Value) : Obj := ⟨c, none, .fields xs.toArray, #[]⟩
noncomputable abbrev Pl (c : String) (sl : List (Option Value)) : Obj := ⟨.type c, none, .plain, sl.toArray⟩
noncomputable abbrev Pd (c : String) (d : Addr) : Obj := ⟨.type c, some d, .plain, #[]⟩
noncomputable abbrev Cl (nm : String) (bases mro : List Value) (ns : Addr) (subs : List Value) (sl : List (Option Value)) : Obj :=
  ⟨.type "type", none, .cls { name := Str.ofString nm, bases := bases, mro := mro, ns := ns, qualname := Str.ofString nm, subclasses := subs }, sl.toArray⟩
noncomputable def stOf (l : List Stmt) (i : Nat) : Stmt := (l[i]?).getD (.Pass ⟨0, 0, 0, 0⟩)
noncomputable def bodyOfCls : Stmt -> List Stmt
  | .ClassDef _ _ _ b _ _ _ _ _ _ _ => b
  | _ => []
noncomputable def stAt (i : Nat) : Stmt := stOf pw.main.body i
noncomputable def stIn (i k : Nat) : Stmt := stOf (bodyOfCls (stAt i)) k
noncomputable def fdOf (st : Stmt) (qual : Str) (g : Addr) (dV mod code : Value) : FuncData := match st with
  | .FunctionDef n a b _ _ _ s _ _ _ => { name := n, qualname := qual, params := a, body := .stmts b, scope := s, globals := g, closure := [], defaults := dV, kwdefaults := .none, pyModule := mod, code := code }
  | _ => default
noncomputable abbrev Fh (st : Stmt) (q : String) : Obj := ⟨.none, none, .func (fdOf st (Str.ofString q) 0 .none .none .none), #[]⟩
noncomputable abbrev Fn (st : Stmt) (q : String) (dV mod code : Value) : Obj := ⟨.type "function", none, .func (fdOf st (Str.ofString q) 3 dV mod code), #[]⟩
noncomputable abbrev B (P : Params) (x : String) (t : Nat) : DictEntry := D P x t (.builtin x)
noncomputable abbrev Y (P : Params) (x : String) (t : Nat) : DictEntry := D P x t (.type x)
noncomputable abbrev E (P : Params) (x : String) (t a : Nat) : DictEntry := D P x t (R a)
noncomputable def ln (c : Int) : List (Int × Nat) -> List Value
  | [] => []
  | (a, b) :: r => I a :: I c :: R b :: ln c r
noncomputable def nl (t : Nat) : List String -> List Value
  | [] => []
  | x :: r => S x t :: nl (t + 1) r
noncomputable abbrev Cd (nm q : String) (t : Nat) (f n : Int) (a k : Nat) : Obj := Fl (.type "code") [S nm t, S q (t + 1), S "/claim/cut.py" (t + 2), I f, I n, I 0, I 0, I 3, R a, .bool true, I 181, R (a + 1), .none, R (a + 2), R (a + 3), R (a + 4), I (t + 3 + k), I f, S "/claim/cut.py" (t + 4 + k)]
noncomputable def Df (i : Nat) (st : Stmt) (nm q : String) (t : Nat) (f n : Int) (ns : List String) (dV md : Value) : List Obj :=
  [T [], Fl .none [], T (nl (t + 3) ns), T [], Fh st q, Cd nm q t f n i ns.length, Fn st q dV md (R (i + 5))]
noncomputable def alt : Nat -> List Obj -> List Obj
  | 0, _ => []
  | n + 1, x :: _ :: r => x :: alt n r
  | _ + 1, l => l
noncomputable def ofL : Nat -> List Obj -> BT
  | 0, _ => .nil
  | _ + 1, [] => .nil
  | n + 1, x :: r => .node x (ofL n (alt 1000 r)) (ofL n (alt 1000 r.tail))
noncomputable def b0 (P : Params) : Obj := Dc [D P "__name__" 1 (S "builtins" 160), D P "__doc__" 2 (.builtin "builtins.__doc__:str#opaque"), D P "__package__" 3 (.builtin "builtins.__package__:str#opaque"), D P "__loader__" 4 (.builtin "builtins.__loader__:shared#opaque"), D P "__spec__" 5 (.builtin "builtins.__spec__#opaque"), B P "__build_class__" 6, B P "__import__" 7, B P "abs" 8, B P "all" 9, B P "any" 10, B P "ascii" 11, B P "bin" 12, B P "breakpoint" 13, B P "callable" 14, B P "chr" 15, B P "compile" 16, B P "delattr" 17, B P "dir" 18, B P "divmod" 19, B P "eval" 20, B P "exec" 21, B P "format" 22, B P "getattr" 23, B P "globals" 24, B P "hasattr" 25, B P "hash" 26, B P "hex" 27, B P "id" 28, B P "input" 29, B P "isinstance" 30, B P "issubclass" 31, B P "iter" 32, B P "aiter" 33, B P "len" 34, B P "locals" 35, B P "max" 36, B P "min" 37, B P "next" 38, B P "anext" 39, B P "oct" 40, B P "ord" 41, B P "pow" 42, B P "print" 43, B P "repr" 44, B P "round" 45, B P "setattr" 46, B P "sorted" 47, B P "sum" 48, B P "vars" 49, D P "None" 50 .none, D P "Ellipsis" 51 .ellipsis, D P "NotImplemented" 52 .notImplemented, D P "False" 53 (.bool false), D P "True" 54 (.bool true), Y P "bool" 55, Y P "memoryview" 56, Y P "bytearray" 57, Y P "bytes" 58, Y P "classmethod" 59, Y P "complex" 60, Y P "dict" 61, Y P "enumerate" 62, Y P "filter" 63, Y P "float" 64, Y P "frozenset" 65, Y P "property" 66, Y P "int" 67, Y P "list" 68, Y P "map" 69, Y P "object" 70, Y P "range" 71, Y P "reversed" 72, Y P "set" 73, Y P "slice" 74, Y P "staticmethod" 75, Y P "str" 76, Y P "super" 77, Y P "tuple" 78, Y P "type" 79, Y P "zip" 80, D P "__debug__" 81 (.bool true), Y P "BaseException" 82, Y P "BaseExceptionGroup" 83, Y P "Exception" 84, Y P "GeneratorExit" 85, Y P "KeyboardInterrupt" 86, Y P "SystemExit" 87, Y P "ArithmeticError" 88, Y P "AssertionError" 89, Y P "AttributeError" 90, Y P "BufferError" 91, Y P "EOFError" 92, Y P "ImportError" 93, Y P "LookupError" 94, Y P "MemoryError" 95, Y P "NameError" 96, Y P "OSError" 97, Y P "ReferenceError" 98, Y P "RuntimeError" 99, Y P "StopAsyncIteration" 100, Y P "StopIteration" 101, Y P "SyntaxError" 102, Y P "SystemError" 103, Y P "TypeError" 104, Y P "ValueError" 105, Y P "Warning" 106, Y P "FloatingPointError" 107, Y P "OverflowError" 108, Y P "ZeroDivisionError" 109, Y P "BytesWarning" 110, Y P "DeprecationWarning" 111, Y P "EncodingWarning" 112, Y P "FutureWarning" 113, Y P "ImportWarning" 114, Y P "PendingDeprecationWarning" 115, Y P "ResourceWarning" 116, Y P "RuntimeWarning" 117, Y P "SyntaxWarning" 118, Y P "UnicodeWarning" 119, Y P "UserWarning" 120, Y P "BlockingIOError" 121, Y P "ChildProcessError" 122, Y P "ConnectionError" 123, Y P "FileExistsError" 124, Y P "FileNotFoundError" 125, Y P "InterruptedError" 126, Y P "IsADirectoryError" 127, Y P "NotADirectoryError" 128, Y P "PermissionError" 129, Y P "ProcessLookupError" 130, Y P "TimeoutError" 131, Y P "IndentationError" 132, Y P "_IncompleteInputError" 133, Y P "IndexError" 134, Y P "KeyError" 135, Y P "ModuleNotFoundError" 136, Y P "NotImplementedError" 137, Y P "PythonFinalizationError" 138, Y P "RecursionError" 139, Y P "UnboundLocalError" 140, Y P "UnicodeError" 141, Y P "BrokenPipeError" 142, Y P "ConnectionAbortedError" 143, Y P "ConnectionRefusedError" 144, Y P "ConnectionResetError" 145, Y P "TabError" 146, Y P "UnicodeDecodeError" 147, Y P "UnicodeEncodeError" 148, Y P "UnicodeTranslateError" 149, Y P "ExceptionGroup" 150, D P "EnvironmentError" 151 (.type "OSError"), D P "IOError" 152 (.type "OSError"), B P "open" 153, D P "quit" 154 (.builtin "builtins.quit#opaque"), D P "exit" 155 (.builtin "builtins.exit#opaque"), D P "copyright" 156 (.builtin "builtins.copyright#opaque"), D P "credits" 157 (.builtin "builtins.credits#opaque"), D P "license" 158 (.builtin "builtins.license#opaque"), D P "help" 159 (.builtin "builtins.help#opaque")] 159
noncomputable def hb (P : Params) : List Obj := [b0 P,
 Dc [E P "builtins" 162 4, E P "__main__" 163 5] 2,
 Dn [] 0,
 Dc [D P "__name__" 165 (S "__main__" 164), D P "__doc__" 166 .none, D P "__package__" 167 .none, D P "__loader__" 168 (.builtin "__main__.__loader__#opaque"), D P "__spec__" 169 .none, E P "__annotations__" 170 6, E P "__builtins__" 171 4, D P "__file__" 173 (S "/claim/cut.py" 172), D P "__cached__" 174 .none] 9,
 Pd "module" 0,
 Pd "module" 3,
 Dc [] 0,
 T [],
 Fl .none [],
 Fl (.type "code") [S "<module>" 176, S "<module>" 177, S "/claim/cut.py" 178, I 1, I 0, I 0, I 0, I 0, R 7, (.bool false), I 175, R 8, .none, .none, .none, .none, I 179, I 1, S "/claim/cut.py" 180],
 Pl "frame" [some (R 9), some (R 3), some (R 3), none, some (S "__main__" 164), none, some (R 0)],
 T [],
 Fl .none [],
 Fl (.type "code") [S "<module>" 182, S "<module>" 183, S "/claim/cut.py" 184, I 1, I 0, I 0, I 0, I 0, R 11, (.bool false), I 181, R 12, .none, .none, .none, .none, I 185, I 1, S "/claim/cut.py" 186],
 Pl "frame" [some (R 13), some (R 3), some (R 3), none, some (S "__main__" 164), none, some (R 0)]]
noncomputable def hl0 (P : Params) : List Obj :=
 [b0 P,
 Dc [E P "builtins" 162 4, E P "__main__" 163 5] 2,
 Dn [D P "type.__subclasses__.Exception.0" 683 (I 395), D P "type.__subclasses__.Exception.n" 684 (I 1)] 2,
 Dc [D P "__name__" 165 (S "law_nt0619_01" 1113), D P "__doc__" 166 .none, D P "__package__" 167 .none, D P "__loader__" 168 (.builtin "__main__.__loader__#opaque"), D P "__spec__" 169 .none, E P "__annotations__" 170 6, E P "__builtins__" 171 4, D P "__file__" 173 (S "/claim/cut.py" 172), D P "__cached__" 174 .none, E P "_wall" 193 21, E P "is_space" 202 28, E P "is_upper" 209 35, E P "lower" 216 42, E P "lower_text" 225 49, E P "is_table_part" 234 56, E P "is_math_point" 242 63, E P "is_html_point" 251 70, E P "implied_names" 257 77, E P "foster_place" 270 84, E P "place_for" 283 92, E P "insert_sign" 296 99, E P "insert_comment" 308 107, E P "make" 319 115, E P "insert_element" 333 124, E P "insert_token" 342 131, E P "insert_void" 351 138, E P "associate" 361 145, E P "OpenStack" 490 246, E P "stops_scope" 501 257, E P "in_scope" 514 265, E P "pop_implied" 524 273, E P "pop_to_row" 533 280, E P "is_space_token" 542 287, E P "unexpected" 551 294, E P "is_table_child" 558 301, E P "has_in_table" 567 308, E P "pop_marked" 576 315, E P "close_caption" 584 322, E P "in_caption" 593 329, E P "leave_columns" 602 336, E P "tag_in_columns" 612 343, E P "in_column_group" 621 350, E P "close_row" 629 357, E P "start_in_row" 638 364, E P "end_in_row" 647 371, E P "in_row" 655 378, E P "HtmlFault" 686 395, E P "Misused" 702 408, E P "Formatting" 809 490, E P "alike" 819 501, E P "Tree" 983 614, E P "above" 993 625, E P "Builder" 1102 692, E P "is_html_turn" 1112 703, E P "_law_in_body" 1122 710, E P "_law_in_head" 1130 717, E P "_law_in_table" 1138 724, E P "_law_in_table_body" 1146 731, E P "_law_foreign" 1154 738, E P "_law_told" 1160 745, E P "_law_drawn" 1166 750, E P "_law_token" 1175 757, E P "_law_is_part" 1182 764, E P "_law_scope" 1188 769, E P "_law_note" 1196 776, E P "_law_close" 1202 781, E P "_law_caption" 1213 788, E P "_law_columns" 1225 795, E P "_law_row" 1231 800, E P "_law_case" 1237 805, E P "law" 1251 812] 71,
 Pd "module" 0,
 Pd "module" 3,
 Dc [] 0,
 T [],
 Fl .none [],
 Fl (.type "code") [S "<module>" 176, S "<module>" 177, S "/claim/cut.py" 178, I 1, I 0, I 0, I 0, I 0, R 7, (.bool false), I 175, R 8, .none, .none, .none, .none, I 179, I 1, S "/claim/cut.py" 180],
 Pl "frame" [some (R 9), some (R 3), some (R 3), none, some (S "__main__" 164), none, some (R 0)],
 T [],
 Fl .none (ln 0 [(1, 20), (5, 27), (7, 34), (9, 41), (13, 48), (19, 55), (21, 62), (23, 69), (30, 76), (33, 83), (47, 91), (60, 98), (75, 106), (80, 114), (82, 123), (88, 130), (92, 137), (97, 144), (109, 151), (169, 256), (185, 264), (194, 272), (199, 279), (202, 286), (205, 293), (211, 300), (213, 307), (218, 314), (225, 321), (230, 328), (241, 335), (249, 342), (262, 349), (276, 356), (283, 363), (295, 370), (310, 377), (318, 384), (323, 404), (326, 416), (374, 500), (384, 507), (465, 624), (473, 631), (527, 702), (542, 709), (544, 716), (546, 723), (548, 730), (550, 737), (552, 744), (554, 749), (566, 756), (579, 763), (581, 768), (584, 775), (586, 780), (597, 787), (607, 794), (626, 799), (645, 804), (697, 811)]),
 Fl (.type "code") [S "<module>" 182, S "<module>" 183, S "/claim/cut.py" 184, I 1, I 0, I 0, I 0, I 0, R 11, (.bool false), I 181, R 12, .none, .none, .none, .none, I 185, I 1, S "/claim/cut.py" 186],
 Pl "frame" [some (R 13), some (R 3), some (R 3), none, some (S "__main__" 164), none, some (R 0)]] ++ (
 Df 15 (stAt 0) "_wall" "_wall" 187 1 1 ["k"] .none (S "__main__" 164) ++ (
 Df 22 (stAt 2) "is_space" "is_space" 196 5 1 ["c"] .none (S "htmltree.signs" 194) ++ (
 Df 29 (stAt 3) "is_upper" "is_upper" 203 7 1 ["c"] .none (S "htmltree.signs" 194) ++ (
 Df 36 (stAt 4) "lower" "lower" 210 9 1 ["c"] .none (S "htmltree.signs" 194) ++ (
 Df 43 (stAt 5) "lower_text" "lower_text" 217 13 1 ["text", "out", "c"] .none (S "htmltree.signs" 194) ++ (
 Df 50 (stAt 7) "is_table_part" "is_table_part" 228 19 1 ["name"] .none (S "htmltree.names" 226) ++ (
 Df 57 (stAt 8) "is_math_point" "is_math_point" 235 21 2 ["tree", "node"] .none (S "htmltree.names" 226) ++ (
 Df 64 (stAt 9) "is_html_point" "is_html_point" 243 23 2 ["tree", "node", "encoding"] .none (S "htmltree.names" 226) ++ (
 Df 71 (stAt 10) "implied_names" "implied_names" 252 30 0 [] .none (S "htmltree.names" 226) ++ (
 Df 78 (stAt 12) "foster_place" "foster_place" 260 33 1 ["builder", "tree", "items", "at", "node"] .none (S "htmltree.inserting" 258) ++ (
 [T [(.int (-1) 272)]])))))))))))
noncomputable def hl1 (P : Params) : List Obj :=
 Df 86 (stAt 13) "place_for" "place_for" 273 47 2 ["builder", "target", "tree", "here", "before"] (R 85) (S "htmltree.inserting" 258) ++ (
 Df 93 (stAt 14) "insert_sign" "insert_sign" 284 60 2 ["builder", "sign", "tree", "parent", "before", "ahead", "at"] .none (S "htmltree.inserting" 258) ++ (
 [T [(.int (-1) 298)]] ++ (
 Df 101 (stAt 15) "insert_comment" "insert_comment" 299 75 3 ["builder", "text", "parent", "before"] (R 100) (S "htmltree.inserting" 258) ++ (
 [T [S "html" 309]] ++ (
 Df 109 (stAt 16) "make" "make" 310 80 4 ["builder", "name", "attrs", "space"] (R 108) (S "htmltree.inserting" 258) ++ (
 [T [],
 T [R 116, S "html" 320]] ++ (
 Df 118 (stAt 17) "insert_element" "insert_element" 321 82 4 ["builder", "name", "attrs", "space", "parent", "before", "node"] (R 117) (S "htmltree.inserting" 258) ++ (
 Df 125 (stAt 18) "insert_token" "insert_token" 334 88 2 ["builder", "token", "node"] .none (S "htmltree.inserting" 258) ++ (
 Df 132 (stAt 19) "insert_void" "insert_void" 343 92 2 ["builder", "token", "node"] .none (S "htmltree.inserting" 258) ++ (
 Df 139 (stAt 20) "associate" "associate" 352 97 2 ["builder", "node", "tree", "name"] .none (S "htmltree.inserting" 258) ++ (
 [T [],
 Fl (.type "builtin_function_or_method") [(.builtin "type.__prepare__"), (.type "type")],
 Dc [D P "__module__" 371 (S "htmltree.openstack" 362), D P "__qualname__" 373 (S "OpenStack" 372), D P "__firstlineno__" 375 (.int (109) 374), E P "__init__" 383 159, E P "push" 391 166, E P "pop" 398 173, E P "current" 405 180, E P "many" 412 187, E P "has" 420 194, E P "remove" 428 201, E P "place" 436 208, E P "put_at" 445 215, E P "name" 453 222, E P "has_name" 462 229, E P "pop_until" 472 236, E P "pop_to" 480 243, E P "__static_attributes__" 483 244] 17,
 T [],
 Fl .none (ln 4 [(111, 158), (115, 165), (118, 172), (123, 179), (128, 186), (131, 193), (134, 200), (138, 207), (143, 214), (146, 221), (152, 228), (158, 235), (166, 242)]),
 Fl (.type "code") [S "OpenStack" 366, S "OpenStack" 367, S "/claim/cut.py" 368, I 109, I 0, I 0, I 0, I 0, R 149, (.bool false), I 181, R 150, .none, .none, .none, .none, I 369, I 109, S "/claim/cut.py" 370],
 Pl "frame" [some (R 151), some (R 3), some (R 148), none, some (S "htmltree.openstack" 362), none, some (R 0)]])))))))))))
noncomputable def hl2 (P : Params) : List Obj :=
 Df 153 (stIn 22 0) "__init__" "OpenStack.__init__" 376 111 2 ["self", "tree"] .none (S "htmltree.openstack" 362) ++ (
 Df 160 (stIn 22 1) "push" "OpenStack.push" 384 115 2 ["self", "node"] .none (S "htmltree.openstack" 362) ++ (
 Df 167 (stIn 22 2) "pop" "OpenStack.pop" 392 118 1 ["self"] .none (S "htmltree.openstack" 362) ++ (
 Df 174 (stIn 22 3) "current" "OpenStack.current" 399 123 1 ["self"] .none (S "htmltree.openstack" 362) ++ (
 Df 181 (stIn 22 4) "many" "OpenStack.many" 406 128 1 ["self"] .none (S "htmltree.openstack" 362) ++ (
 Df 188 (stIn 22 5) "has" "OpenStack.has" 413 131 2 ["self", "node"] .none (S "htmltree.openstack" 362) ++ (
 Df 195 (stIn 22 6) "remove" "OpenStack.remove" 421 134 2 ["self", "node"] .none (S "htmltree.openstack" 362) ++ (
 Df 202 (stIn 22 7) "place" "OpenStack.place" 429 138 2 ["self", "node"] .none (S "htmltree.openstack" 362) ++ (
 Df 209 (stIn 22 8) "put_at" "OpenStack.put_at" 437 143 3 ["self", "place", "node"] .none (S "htmltree.openstack" 362) ++ (
 Df 216 (stIn 22 9) "name" "OpenStack.name" 446 146 1 ["self", "node"] .none (S "htmltree.openstack" 362) ++ (
 Df 223 (stIn 22 10) "has_name" "OpenStack.has_name" 454 152 2 ["self", "name", "node"] .none (S "htmltree.openstack" 362) ++ (
 Df 230 (stIn 22 11) "pop_until" "OpenStack.pop_until" 463 158 2 ["self", "names", "name", "node"] .none (S "htmltree.openstack" 362))))))))))))
noncomputable def hl3 (P : Params) : List Obj :=
 Df 237 (stIn 22 12) "pop_to" "OpenStack.pop_to" 473 166 2 ["self", "names"] .none (S "htmltree.openstack" 362) ++ (
 [T (nl 481 ["items", "tree"]),
 Dc [D P "__module__" 371 (S "htmltree.openstack" 362), D P "__firstlineno__" 375 (.int (109) 374), E P "__init__" 383 159, E P "push" 391 166, E P "pop" 398 173, E P "current" 405 180, E P "many" 412 187, E P "has" 420 194, E P "remove" 428 201, E P "place" 436 208, E P "put_at" 445 215, E P "name" 453 222, E P "has_name" 462 229, E P "pop_until" 472 236, E P "pop_to" 480 243, E P "__static_attributes__" 483 244, E P "__dict__" 485 247, E P "__weakref__" 487 248, D P "__doc__" 488 .none] 4,
 Cl "OpenStack" [(.type "object")] [R 246, (.type "object")] 245 [] [none, none, some (S "OpenStack" 364), some (S "OpenStack" 372), some (.builtin "object.__new__"), some (.bool true)],
 Fl (.type "getset_descriptor") [S "__dict__" 484, R 246, (.builtin "function.__dict__"), (.builtin "function.__dict__#set")],
 Fl (.type "getset_descriptor") [S "__weakref__" 486, R 246, (.builtin "ExceptionGroup.__weakref__"), .none],
 Fl (.type "super") [R 246, R 246, R 246],
 Fl (.type "builtin_function_or_method") [(.builtin "object.__init_subclass__"), R 246]] ++ (
 Df 251 (stAt 23) "stops_scope" "stops_scope" 491 169 3 ["tree", "node", "sort", "space", "name"] .none (S "htmltree.openstack" 362) ++ (
 [T [(S "" 502)]] ++ (
 Df 259 (stAt 24) "in_scope" "in_scope" 503 185 3 ["stack", "names", "sort", "tree", "at", "node"] (R 258) (S "htmltree.openstack" 362) ++ (
 [T [(S "" 515)]] ++ (
 Df 267 (stAt 25) "pop_implied" "pop_implied" 516 194 2 ["stack", "but", "names"] (R 266) (S "htmltree.openstack" 362) ++ (
 Df 274 (stAt 27) "pop_to_row" "pop_to_row" 527 199 1 ["builder"] .none (S "htmltree.tablemodes" 525) ++ (
 Df 281 (stAt 29) "is_space_token" "is_space_token" 536 202 1 ["token"] .none (S "htmltree.tokens" 534) ++ (
 Df 288 (stAt 31) "unexpected" "unexpected" 545 205 1 ["token"] .none (S "htmltree.tablerows" 543) ++ (
 Df 295 (stAt 32) "is_table_child" "is_table_child" 552 211 1 ["name"] .none (S "htmltree.tablerows" 543) ++ (
 Df 302 (stAt 33) "has_in_table" "has_in_table" 559 213 3 ["builder", "token", "names"] .none (S "htmltree.tablerows" 543))))))))))))
noncomputable def hl4 (P : Params) : List Obj :=
 Df 309 (stAt 34) "pop_marked" "pop_marked" 568 218 3 ["builder", "names", "mode"] .none (S "htmltree.tablerows" 543) ++ (
 Df 316 (stAt 35) "close_caption" "close_caption" 577 225 2 ["builder", "token"] .none (S "htmltree.tablerows" 543) ++ (
 Df 323 (stAt 36) "in_caption" "in_caption" 585 230 2 ["builder", "token", "kind"] .none (S "htmltree.tablerows" 543) ++ (
 Df 330 (stAt 37) "leave_columns" "leave_columns" 594 241 3 ["builder", "token", "is_again"] .none (S "htmltree.tablerows" 543) ++ (
 Df 337 (stAt 38) "tag_in_columns" "tag_in_columns" 603 249 2 ["builder", "token", "is_start", "name"] .none (S "htmltree.tablerows" 543) ++ (
 Df 344 (stAt 39) "in_column_group" "in_column_group" 613 262 2 ["builder", "token", "kind"] .none (S "htmltree.tablerows" 543) ++ (
 Df 351 (stAt 40) "close_row" "close_row" 622 276 2 ["builder", "token"] .none (S "htmltree.tablerows" 543) ++ (
 Df 358 (stAt 41) "start_in_row" "start_in_row" 630 283 2 ["builder", "token", "name"] .none (S "htmltree.tablerows" 543) ++ (
 Df 365 (stAt 42) "end_in_row" "end_in_row" 639 295 2 ["builder", "token", "name"] .none (S "htmltree.tablerows" 543) ++ (
 Df 372 (stAt 43) "in_row" "in_row" 648 310 2 ["builder", "token"] .none (S "htmltree.tablerows" 543) ++ (
 [T [(.type "Exception")],
 Fl (.type "builtin_function_or_method") [(.builtin "type.__prepare__"), (.type "type")],
 Dc [D P "__module__" 665 (S "htmltree.faults" 656), D P "__qualname__" 667 (S "HtmlFault" 666), D P "__firstlineno__" 669 (.int (318) 668), E P "__init__" 677 392, E P "__static_attributes__" 679 393] 5,
 T [],
 Fl .none [I 320, I 4, R 391],
 Fl (.type "code") [S "HtmlFault" 660, S "HtmlFault" 661, S "/claim/cut.py" 662, I 318, I 0, I 0, I 0, I 0, R 382, (.bool false), I 181, R 383, .none, .none, .none, .none, I 663, I 318, S "/claim/cut.py" 664],
 Pl "frame" [some (R 384), some (R 3), some (R 381), none, some (S "htmltree.faults" 656), none, some (R 0)]] ++ (
 Df 386 (stIn 45 0) "__init__" "HtmlFault.__init__" 670 320 2 ["self", "why"] .none (S "htmltree.faults" 656))))))))))))
noncomputable def hl5 (P : Params) : List Obj :=
 [T [S "why" 678],
 Dc [D P "__module__" 665 (S "htmltree.faults" 656), D P "__firstlineno__" 669 (.int (318) 668), E P "__init__" 677 392, E P "__static_attributes__" 679 393, E P "__weakref__" 681 396, D P "__doc__" 682 .none] 3,
 Cl "HtmlFault" [(.type "Exception")] [R 395, (.type "Exception"), (.type "BaseException"), (.type "object")] 394 [R 408] [some (R 379), none, some (S "HtmlFault" 658), some (S "HtmlFault" 666), some (.builtin "Exception.__new__"), some (.bool true)],
 Fl (.type "getset_descriptor") [S "__weakref__" 680, R 395, (.builtin "ExceptionGroup.__weakref__"), .none],
 Fl (.type "super") [R 395, R 395, R 395],
 Fl (.type "builtin_function_or_method") [(.builtin "object.__init_subclass__"), R 395],
 T [R 395],
 Fl (.type "builtin_function_or_method") [(.builtin "type.__prepare__"), (.type "type")],
 Dc [D P "__module__" 694 (S "htmltree.faults" 656), D P "__qualname__" 696 (S "Misused" 695), D P "__firstlineno__" 698 (.int (323) 697), E P "__static_attributes__" 699 406] 4,
 T [],
 Fl .none [],
 Fl (.type "code") [S "Misused" 689, S "Misused" 690, S "/claim/cut.py" 691, I 323, I 0, I 0, I 0, I 0, R 402, (.bool false), I 181, R 403, .none, .none, .none, .none, I 692, I 323, S "/claim/cut.py" 693],
 Pl "frame" [some (R 404), some (R 3), some (R 401), none, some (S "htmltree.faults" 656), none, some (R 0)],
 T [],
 Dc [D P "__module__" 694 (S "htmltree.faults" 656), D P "__firstlineno__" 698 (.int (323) 697), E P "__static_attributes__" 699 406, D P "__doc__" 700 .none] 2,
 Cl "Misused" [R 395] [R 408, R 395, (.type "Exception"), (.type "BaseException"), (.type "object")] 407 [] [some (R 399), none, some (S "Misused" 687), some (S "Misused" 695), some (.builtin "Exception.__new__"), some (.bool true)],
 Fl (.type "super") [R 408, R 408, R 408],
 Fl (.type "builtin_function_or_method") [(.builtin "object.__init_subclass__"), R 408],
 T [],
 Fl (.type "builtin_function_or_method") [(.builtin "type.__prepare__"), (.type "type")],
 Dc [D P "__module__" 712 (S "htmltree.formatting" 703), D P "__qualname__" 714 (S "Formatting" 713), D P "__firstlineno__" 716 (.int (326) 715), E P "__init__" 724 424, E P "push" 735 431, E P "mark" 742 438, E P "clear_to_mark" 749 445, E P "find" 757 452, E P "has" 765 459, E P "place" 773 466, E P "remove" 781 473, E P "replace" 790 480, E P "put_at" 799 487, E P "__static_attributes__" 802 488] 14,
 T [],
 Fl .none (ln 4 [(328, 423), (332, 430), (345, 437), (348, 444), (353, 451), (356, 458), (359, 465), (364, 472), (368, 479), (372, 486)]),
 Fl (.type "code") [S "Formatting" 707, S "Formatting" 708, S "/claim/cut.py" 709, I 326, I 0, I 0, I 0, I 0, R 414, (.bool false), I 181, R 415, .none, .none, .none, .none, I 710, I 326, S "/claim/cut.py" 711],
 Pl "frame" [some (R 416), some (R 3), some (R 413), none, some (S "htmltree.formatting" 703), none, some (R 0)]] ++ (
 Df 418 (stIn 48 0) "__init__" "Formatting.__init__" 717 328 2 ["self", "tree"] .none (S "htmltree.formatting" 703) ++ (
 Df 425 (stIn 48 1) "push" "Formatting.push" 725 332 2 ["self", "node", "count", "earliest", "at"] .none (S "htmltree.formatting" 703) ++ (
 Df 432 (stIn 48 2) "mark" "Formatting.mark" 736 345 1 ["self"] .none (S "htmltree.formatting" 703) ++ (
 Df 439 (stIn 48 3) "clear_to_mark" "Formatting.clear_to_mark" 743 348 1 ["self"] .none (S "htmltree.formatting" 703) ++ (
 Df 446 (stIn 48 4) "find" "Formatting.find" 750 353 2 ["self", "name"] .none (S "htmltree.formatting" 703) ++ (
 Df 453 (stIn 48 5) "has" "Formatting.has" 758 356 2 ["self", "node"] .none (S "htmltree.formatting" 703) ++ (
 Df 460 (stIn 48 6) "place" "Formatting.place" 766 359 2 ["self", "node"] .none (S "htmltree.formatting" 703) ++ (
 Df 467 (stIn 48 7) "remove" "Formatting.remove" 774 364 2 ["self", "node"] .none (S "htmltree.formatting" 703) ++ (
 Df 474 (stIn 48 8) "replace" "Formatting.replace" 782 368 3 ["self", "old", "new"] .none (S "htmltree.formatting" 703) ++ (
 Df 481 (stIn 48 9) "put_at" "Formatting.put_at" 791 372 3 ["self", "place", "node"] .none (S "htmltree.formatting" 703) ++ (
 [T (nl 800 ["items", "tree"]),
 Dc [D P "__module__" 712 (S "htmltree.formatting" 703), D P "__firstlineno__" 716 (.int (326) 715), E P "__init__" 724 424, E P "push" 735 431, E P "mark" 742 438, E P "clear_to_mark" 749 445, E P "find" 757 452, E P "has" 765 459, E P "place" 773 466, E P "remove" 781 473, E P "replace" 790 480, E P "put_at" 799 487, E P "__static_attributes__" 802 488, E P "__dict__" 804 491, E P "__weakref__" 806 492, D P "__doc__" 807 .none] 4,
 Cl "Formatting" [(.type "object")] [R 490, (.type "object")] 489 [] [none, none, some (S "Formatting" 705), some (S "Formatting" 713), some (.builtin "object.__new__"), some (.bool true)],
 Fl (.type "getset_descriptor") [S "__dict__" 803, R 490, (.builtin "function.__dict__"), (.builtin "function.__dict__#set")],
 Fl (.type "getset_descriptor") [S "__weakref__" 805, R 490, (.builtin "ExceptionGroup.__weakref__"), .none],
 Fl (.type "super") [R 490, R 490, R 490],
 Fl (.type "builtin_function_or_method") [(.builtin "object.__init_subclass__"), R 490]])))))))))))
noncomputable def hl6 (P : Params) : List Obj :=
 Df 495 (stAt 49) "alike" "alike" 810 374 3 ["tree", "a", "b", "pair"] .none (S "htmltree.formatting" 703) ++ (
 [T [],
 Fl (.type "builtin_function_or_method") [(.builtin "type.__prepare__"), (.type "type")],
 Dc [D P "__module__" 829 (S "htmltree.tree" 820), D P "__qualname__" 831 (S "Tree" 830), D P "__firstlineno__" 833 (.int (384) 832), E P "__init__" 840 515, E P "add" 855 524, E P "element" 867 533, E P "text" 875 540, E P "comment" 883 547, E P "doctype" 893 554, E P "insert" 906 562, E P "append" 915 569, E P "remove" 923 576, E P "move_children" 932 583, E P "place" 940 590, E P "last" 948 597, E P "value" 958 604, E P "is_html" 967 611, E P "__static_attributes__" 976 612] 18,
 T [],
 Fl .none (ln 4 [(386, 514), (397, 523), (407, 532), (413, 539), (416, 546), (419, 553), (422, 561), (436, 568), (439, 575), (444, 582), (447, 589), (452, 596), (457, 603), (463, 610)]),
 Fl (.type "code") [S "Tree" 824, S "Tree" 825, S "/claim/cut.py" 826, I 384, I 0, I 0, I 0, I 0, R 505, (.bool false), I 181, R 506, .none, .none, .none, .none, I 827, I 384, S "/claim/cut.py" 828],
 Pl "frame" [some (R 507), some (R 3), some (R 504), none, some (S "htmltree.tree" 820), none, some (R 0)]] ++ (
 Df 509 (stIn 51 0) "__init__" "Tree.__init__" 834 386 1 ["self"] .none (S "htmltree.tree" 820) ++ (
 [T [],
 T [(S "" 841), (S "" 842), R 516, (S "" 843)]] ++ (
 Df 518 (stIn 51 1) "add" "Tree.add" 844 397 6 ["self", "kind", "space", "name", "attrs", "text"] (R 517) (S "htmltree.tree" 820) ++ (
 [T [],
 T [S "html" 856, R 525]] ++ (
 Df 527 (stIn 51 2) "element" "Tree.element" 857 407 4 ["self", "name", "space", "attrs", "node"] (R 526) (S "htmltree.tree" 820) ++ (
 Df 534 (stIn 51 3) "text" "Tree.text" 868 413 2 ["self", "text"] .none (S "htmltree.tree" 820) ++ (
 Df 541 (stIn 51 4) "comment" "Tree.comment" 876 416 2 ["self", "text"] .none (S "htmltree.tree" 820) ++ (
 Df 548 (stIn 51 5) "doctype" "Tree.doctype" 884 419 4 ["self", "name", "public", "system"] .none (S "htmltree.tree" 820) ++ (
 [T [(.int (-1) 895)]] ++ (
 Df 556 (stIn 51 6) "insert" "Tree.insert" 896 422 4 ["self", "parent", "node", "before", "at"] (R 555) (S "htmltree.tree" 820))))))))))))
noncomputable def hl7 (P : Params) : List Obj :=
 Df 563 (stIn 51 7) "append" "Tree.append" 907 436 3 ["self", "parent", "node"] .none (S "htmltree.tree" 820) ++ (
 Df 570 (stIn 51 8) "remove" "Tree.remove" 916 439 2 ["self", "node"] .none (S "htmltree.tree" 820) ++ (
 Df 577 (stIn 51 9) "move_children" "Tree.move_children" 924 444 3 ["self", "here", "there"] .none (S "htmltree.tree" 820) ++ (
 Df 584 (stIn 51 10) "place" "Tree.place" 933 447 2 ["self", "node"] .none (S "htmltree.tree" 820) ++ (
 Df 591 (stIn 51 11) "last" "Tree.last" 941 452 2 ["self", "parent"] .none (S "htmltree.tree" 820) ++ (
 Df 598 (stIn 51 12) "value" "Tree.value" 949 457 3 ["self", "node", "name", "pair"] .none (S "htmltree.tree" 820) ++ (
 Df 605 (stIn 51 13) "is_html" "Tree.is_html" 959 463 3 ["self", "node", "name"] .none (S "htmltree.tree" 820) ++ (
 [T (nl 968 ["attrs", "children", "contents", "kinds", "names", "parents", "spaces", "texts"]),
 Dc [D P "__module__" 829 (S "htmltree.tree" 820), D P "__firstlineno__" 833 (.int (384) 832), E P "__init__" 840 515, E P "add" 855 524, E P "element" 867 533, E P "text" 875 540, E P "comment" 883 547, E P "doctype" 893 554, E P "insert" 906 562, E P "append" 915 569, E P "remove" 923 576, E P "move_children" 932 583, E P "place" 940 590, E P "last" 948 597, E P "value" 958 604, E P "is_html" 967 611, E P "__static_attributes__" 976 612, E P "__dict__" 978 615, E P "__weakref__" 980 616, D P "__doc__" 981 .none] 4,
 Cl "Tree" [(.type "object")] [R 614, (.type "object")] 613 [] [none, none, some (S "Tree" 822), some (S "Tree" 830), some (.builtin "object.__new__"), some (.bool true)],
 Fl (.type "getset_descriptor") [S "__dict__" 977, R 614, (.builtin "function.__dict__"), (.builtin "function.__dict__#set")],
 Fl (.type "getset_descriptor") [S "__weakref__" 979, R 614, (.builtin "ExceptionGroup.__weakref__"), .none],
 Fl (.type "super") [R 614, R 614, R 614],
 Fl (.type "builtin_function_or_method") [(.builtin "object.__init_subclass__"), R 614]] ++ (
 Df 619 (stAt 52) "above" "above" 984 465 2 ["tree", "node", "out", "up"] .none (S "htmltree.tree" 820) ++ (
 [T [],
 Fl (.type "builtin_function_or_method") [(.builtin "type.__prepare__"), (.type "type")],
 Dc [D P "__module__" 1003 (S "htmltree.builder" 994), D P "__qualname__" 1005 (S "Builder" 1004), D P "__firstlineno__" 1007 (.int (473) 1006), E P "__init__" 1016 640, E P "error" 1024 647, E P "to" 1032 654, E P "use" 1042 661, E P "process" 1050 668, E P "feed" 1058 675, E P "adjusted" 1065 682, E P "is_foreign" 1073 689, E P "__static_attributes__" 1095 690] 12,
 T [],
 Fl .none (ln 4 [(475, 639), (498, 646), (501, 653), (504, 660), (510, 667), (516, 674), (519, 681), (524, 688)]),
 Fl (.type "code") [S "Builder" 998, S "Builder" 999, S "/claim/cut.py" 1000, I 473, I 0, I 0, I 0, I 0, R 629, (.bool false), I 181, R 630, .none, .none, .none, .none, I 1001, I 473, S "/claim/cut.py" 1002],
 Pl "frame" [some (R 631), some (R 3), some (R 628), none, some (S "htmltree.builder" 994), none, some (R 0)],
 T [(.bool false)]] ++ (
 Df 634 (stIn 54 0) "__init__" "Builder.__init__" 1008 475 3 ["self", "rules", "is_scripting"] (R 633) (S "htmltree.builder" 994) ++ (
 Df 641 (stIn 54 1) "error" "Builder.error" 1017 498 2 ["self", "word"] .none (S "htmltree.builder" 994))))))))))))
noncomputable def hl8 (P : Params) : List Obj :=
 Df 648 (stIn 54 2) "to" "Builder.to" 1025 501 2 ["self", "mode"] .none (S "htmltree.builder" 994) ++ (
 Df 655 (stIn 54 3) "use" "Builder.use" 1033 504 3 ["self", "name", "token", "rule"] .none (S "htmltree.builder" 994) ++ (
 Df 662 (stIn 54 4) "process" "Builder.process" 1043 510 2 ["self", "token"] .none (S "htmltree.builder" 994) ++ (
 Df 669 (stIn 54 5) "feed" "Builder.feed" 1051 516 2 ["self", "token"] .none (S "htmltree.builder" 994) ++ (
 Df 676 (stIn 54 6) "adjusted" "Builder.adjusted" 1059 519 1 ["self"] .none (S "htmltree.builder" 994) ++ (
 Df 683 (stIn 54 7) "is_foreign" "Builder.is_foreign" 1066 524 1 ["self", "node"] .none (S "htmltree.builder" 994) ++ (
 [T (nl 1074 ["context", "errors", "form", "formatting", "head", "is_acknowledged", "is_done", "is_foster", "is_frameset_ok", "is_scripting", "is_skipping", "mode", "modes", "original", "owners", "pending", "quirks", "rules", "stack", "tree", "wish"]),
 Dc [D P "__module__" 1003 (S "htmltree.builder" 994), D P "__firstlineno__" 1007 (.int (473) 1006), E P "__init__" 1016 640, E P "error" 1024 647, E P "to" 1032 654, E P "use" 1042 661, E P "process" 1050 668, E P "feed" 1058 675, E P "adjusted" 1065 682, E P "is_foreign" 1073 689, E P "__static_attributes__" 1095 690, E P "__dict__" 1097 693, E P "__weakref__" 1099 694, D P "__doc__" 1100 .none] 4,
 Cl "Builder" [(.type "object")] [R 692, (.type "object")] 691 [] [none, none, some (S "Builder" 996), some (S "Builder" 1004), some (.builtin "object.__new__"), some (.bool true)],
 Fl (.type "getset_descriptor") [S "__dict__" 1096, R 692, (.builtin "function.__dict__"), (.builtin "function.__dict__#set")],
 Fl (.type "getset_descriptor") [S "__weakref__" 1098, R 692, (.builtin "ExceptionGroup.__weakref__"), .none],
 Fl (.type "super") [R 692, R 692, R 692],
 Fl (.type "builtin_function_or_method") [(.builtin "object.__init_subclass__"), R 692]] ++ (
 Df 697 (stAt 55) "is_html_turn" "is_html_turn" 1103 527 2 ["builder", "token", "tree", "node"] .none (S "htmltree.builder" 994) ++ (
 Df 704 (stAt 57) "_law_in_body" "_law_in_body" 1115 542 2 ["builder", "token"] .none (S "law_nt0619_01" 1113) ++ (
 Df 711 (stAt 58) "_law_in_head" "_law_in_head" 1123 544 2 ["builder", "token"] .none (S "law_nt0619_01" 1113) ++ (
 Df 718 (stAt 59) "_law_in_table" "_law_in_table" 1131 546 2 ["builder", "token"] .none (S "law_nt0619_01" 1113) ++ (
 Df 725 (stAt 60) "_law_in_table_body" "_law_in_table_body" 1139 548 2 ["builder", "token"] .none (S "law_nt0619_01" 1113))))))))))))
noncomputable def hl9 (P : Params) : List Obj :=
 Df 732 (stAt 61) "_law_foreign" "_law_foreign" 1147 550 2 ["builder", "token"] .none (S "law_nt0619_01" 1113) ++ (
 Df 739 (stAt 62) "_law_told" "_law_told" 1155 552 0 [] .none (S "law_nt0619_01" 1113) ++ (
 [T [],
 Fl .none [],
 Fh (stAt 63) "_law_drawn",
 Fl (.type "code") [S "_law_drawn" 1161, S "_law_drawn" 1162, S "/claim/cut.py" 1163, I 554, I 2, I 0, I 0, I 3, R 746, (.bool true), I 181, R 747, .none, .none, .none, R 748, I 1164, I 554, S "/claim/cut.py" 1165],
 Fn (stAt 63) "_law_drawn" .none (S "law_nt0619_01" 1113) (R 749)] ++ (
 Df 751 (stAt 64) "_law_token" "_law_token" 1167 566 1 ["word", "kind", "name"] .none (S "law_nt0619_01" 1113) ++ (
 Df 758 (stAt 65) "_law_is_part" "_law_is_part" 1176 579 1 ["name"] .none (S "law_nt0619_01" 1113) ++ (
 [T [],
 Fl .none [],
 Fh (stAt 66) "_law_scope",
 Fl (.type "code") [S "_law_scope" 1183, S "_law_scope" 1184, S "/claim/cut.py" 1185, I 581, I 2, I 0, I 0, I 3, R 765, (.bool true), I 181, R 766, .none, .none, .none, R 767, I 1186, I 581, S "/claim/cut.py" 1187],
 Fn (stAt 66) "_law_scope" .none (S "law_nt0619_01" 1113) (R 768)] ++ (
 Df 770 (stAt 67) "_law_note" "_law_note" 1189 584 2 ["due", "word"] .none (S "law_nt0619_01" 1113) ++ (
 [T [],
 Fl .none [],
 Fh (stAt 68) "_law_close",
 Fl (.type "code") [S "_law_close" 1197, S "_law_close" 1198, S "/claim/cut.py" 1199, I 586, I 5, I 0, I 0, I 3, R 777, (.bool true), I 181, R 778, .none, .none, .none, R 779, I 1200, I 586, S "/claim/cut.py" 1201],
 Fn (stAt 68) "_law_close" .none (S "law_nt0619_01" 1113) (R 780)] ++ (
 Df 782 (stAt 69) "_law_caption" "_law_caption" 1203 597 3 ["due", "shown", "token", "kind", "name"] .none (S "law_nt0619_01" 1113) ++ (
 Df 789 (stAt 70) "_law_columns" "_law_columns" 1214 607 3 ["due", "shown", "token", "kind", "name", "mode"] .none (S "law_nt0619_01" 1113) ++ (
 [T [],
 Fl .none [],
 Fh (stAt 71) "_law_row",
 Fl (.type "code") [S "_law_row" 1226, S "_law_row" 1227, S "/claim/cut.py" 1228, I 626, I 3, I 0, I 0, I 3, R 796, (.bool true), I 181, R 797, .none, .none, .none, R 798, I 1229, I 626, S "/claim/cut.py" 1230],
 Fn (stAt 71) "_law_row" .none (S "law_nt0619_01" 1113) (R 799),
 T [],
 Fl .none [],
 Fh (stAt 72) "_law_case",
 Fl (.type "code") [S "_law_case" 1232, S "_law_case" 1233, S "/claim/cut.py" 1234, I 645, I 4, I 0, I 0, I 3, R 801, (.bool true), I 181, R 802, .none, .none, .none, R 803, I 1235, I 645, S "/claim/cut.py" 1236],
 Fn (stAt 72) "_law_case" .none (S "law_nt0619_01" 1113) (R 804)] ++ (
 Df 806 (stAt 73) "law" "law" 1238 697 1 ["script", "lists", "told", "k", "mode", "words", "word", "digit"] .none (S "law_nt0619_01" 1113))))))))))))
noncomputable def hl (P : Params) : List Obj := hl0 P ++ (hl1 P ++ (hl2 P ++ (hl3 P ++ (hl4 P ++ (hl5 P ++ (hl6 P ++ (hl7 P ++ (hl8 P ++ (hl9 P)))))))))
noncomputable def envT : Env := { scope := pw.main.scope, locals := mainNs, globals := mainNs, cells := [], code := .ref 13, frame := some 14 }
noncomputable def bodyT : List Stmt := behindTheImports pw
noncomputable abbrev cT : Code := .body bodyT envT
noncomputable abbrev pos0 : Pos := ⟨0, 0, 0, 0⟩
noncomputable abbrev pos1 : Pos := ⟨697, 0, 708, 15⟩
noncomputable abbrev ann0 : Option Value := some (.ref 6)
noncomputable abbrev sT0 (P : Params) (os : OsState) : SharedT := ⟨ofL 20 (hb P), 15, {}, #[], boot_drawn, 187, os⟩
noncomputable abbrev sT1 (P : Params) (os : OsState) : SharedT := ⟨ofL 20 (hl P), 813, {}, #[], boot_drawn, 1252, os⟩
theorem pre_run (w : World) (os : OsState) : topGo treeTable pw w 11 ann0 12 ⟨boot_heap w.params, #[], boot_drawn, boot_toks, os⟩ (topStub pw) =
    some ((sT0 w.params os).abs, ⟨denote treeTable cT, cT, pos0, [topFrame pos0]⟩) := by
  kernel_rfl
theorem block_run (w : World) (os : OsState) : segRun treeTable pw w 11 ann0 1 1 (sT0 w.params os).abs (blockOf bodyT envT cT pos0 [topFrame pos0]) =
    some (.next, (sT0 w.params os).abs, cT, pos0) := by
  kernel_rfl
theorem main_run (w : World) (os : OsState) : segRunT treeTable pw w 11 ann0 1 4552 (sT0 w.params os) (piecesOf bodyT envT cT pos0 [topFrame pos0]) =
    some (.next, sT1 w.params os, cT, pos1) := by
  rw [PySem.W.Fast.te10110043849684766642, PySem.W.Fast.te14364793385576792824]
  kernel_rfl
noncomputable def H1 (P : Params) : Heap := ⟨(hl P).toArray, {}⟩
theorem fin_run (w : World) (os : OsState) : topRun treeTable pw w 11 ann0 2 (sT1 w.params os).abs ⟨doneF .next, cT, pos1, [topFrame pos0]⟩ =
    some ⟨H1 w.params, #[], boot_drawn, 1252, os⟩ := by
  rw [PySem.W.Fast.te14082659384304107361, PySem.W.Fast.te14364793385576792824]
  kernel_rfl
end
theorem top_run (w : World) (os : OsState) : topRun treeTable pw w 11 ann0 (12 + (1 + (4552 + 2))) ⟨boot_heap w.params, #[], boot_drawn, boot_toks, os⟩ (topStub pw) = some ⟨H1 w.params, #[], boot_drawn, 1252, os⟩ := by
  refine go_top (pre_run w os) ?_
  refine piece_block (block_run w os) ?_
  have h := piece_app (rest := []) (segRun_of (main_run w os)) (piece_nil (fin_run w os))
  rw [List.append_nil] at h
  exact h
theorem opening_plain : opening pw = plainProg pw.main.scope.names := by kernel_rfl
theorem open_run : ∀ w : World, (fencedOpening treeTable pw w 10000).map (fun s => (s.heap, s.gens, s.drawn, s.toks)) = some (boot_heap w.params, Array.mk [], boot_drawn, boot_toks) :=
  boot_open opening_plain (by decide) (fun s => by kernel_rfl)
theorem size_run : ∀ w : World, ((boot_heap w.params).isNs mainGlobals && (#[] : Array GenState).size == 0, (boot_heap w.params).objs.size, (boot_heap w.params).nsMap mainGlobals "__annotations__") = (true, 11, ann0) := fun w => by kernel_rfl
noncomputable def qv : Program := { pw with main := { pw.main with body := [stAt 73] } }
noncomputable def loose : List Str := [Str.ofString "_wall", Str.ofString "is_space", Str.ofString "is_upper", Str.ofString "lower", Str.ofString "lower_text", Str.ofString "is_table_part", Str.ofString "is_math_point", Str.ofString "is_html_point", Str.ofString "implied_names", Str.ofString "foster_place", Str.ofString "place_for", Str.ofString "insert_sign", Str.ofString "insert_comment", Str.ofString "make", Str.ofString "insert_element", Str.ofString "insert_token", Str.ofString "insert_void", Str.ofString "associate", Str.ofString "OpenStack", Str.ofString "stops_scope", Str.ofString "in_scope", Str.ofString "pop_implied", Str.ofString "pop_to_row", Str.ofString "is_space_token", Str.ofString "unexpected", Str.ofString "is_table_child", Str.ofString "has_in_table", Str.ofString "pop_marked", Str.ofString "close_caption", Str.ofString "in_caption", Str.ofString "leave_columns", Str.ofString "tag_in_columns", Str.ofString "in_column_group", Str.ofString "close_row", Str.ofString "start_in_row", Str.ofString "end_in_row", Str.ofString "in_row", Str.ofString "HtmlFault", Str.ofString "Misused", Str.ofString "Formatting", Str.ofString "alike", Str.ofString "Tree", Str.ofString "above", Str.ofString "Builder", Str.ofString "is_html_turn", Str.ofString "_law_in_body", Str.ofString "_law_in_head", Str.ofString "_law_in_table", Str.ofString "_law_in_table_body", Str.ofString "_law_foreign", Str.ofString "_law_told", Str.ofString "_law_drawn", Str.ofString "_law_token", Str.ofString "_law_is_part", Str.ofString "_law_scope", Str.ofString "_law_note", Str.ofString "_law_close", Str.ofString "_law_caption", Str.ofString "_law_columns", Str.ofString "_law_row", Str.ofString "_law_case"]
noncomputable abbrev mods0 := importedModules pw.main.body
theorem look1 (w : World) (os : OsState) : (staticsOk mods0 (boot_heap w.params) (H1 w.params) && namesBound pw (H1 w.params) && gensDone ⟨H1 w.params, #[], boot_drawn, 1252, os⟩ && laidKept (boot_heap w.params) (H1 w.params)) = true := by kernel_rfl
theorem look2 (w : World) (os : OsState) : openSeen qv loose mods0 (fun _ => true) true ⟨H1 w.params, #[], boot_drawn, 1252, os⟩ = openGood qv loose := by
  rw [PySem.W.Fast.te4187177175401517315]
  kernel_rfl
noncomputable def rl : OpenLaw := PySem.Challenge.rw_nt0619_01
noncomputable def rr : OpenRow := OpenLaw.row rl
theorem left0 : LeftO pw qv loose (fun _ => true) (fun s => (s.heap, s.toks)) (fun w => (H1 w.params, 1252)) 10000 true :=
  LeftO.of_pieces (H₁ := H1) open_run size_run top_run (by decide) fun w => funext fun os => Prod.ext (look1 w os) (Prod.ext (look2 w os) rfl)
set_option maxHeartbeats 8000000 in
theorem said : rl.wellSaid = true := by
  unfold OpenLaw.wellSaid OpenRow.wellSaid OpenRow.partSaid looksOpen
  simp only [Bool.and_eq_true]
  and_intros
  all_goals first | (rw [PySem.W.Fast.te17119622794617984870]; decide +kernel) | (rw [PySem.W.Fast.te8326940854005059898]; decide +kernel) | decide +kernel
noncomputable def lawD : DefRec := match stAt 73 with
  | .FunctionDef n a b _ _ _ s _ _ p => ⟨n, a, b, s, p⟩
  | _ => ⟨Str.empty, ⟨[], [], none, [], [], none, []⟩, [], ⟨.function, [], false, false, []⟩, ⟨0,0,0,0⟩⟩
theorem hold_of_walk (hc : WalkX qv loose (fun _ _ => True) (fun s => (s.heap, s.toks)) (fun w => (H1 w.params, 1252)) rr.toRowW lawD [] fun f vs => PySem.call f vs) : PySem.Challenge.rw_nt0619_01.Holds := by
  refine holds_law said fun said' => ?_
  refine holds_openX (q := qv) (loose := loose) (Xt := fun _ => true) (XP := fun _ _ => True) (Yf := fun s => (s.heap, s.toks)) (Ya := fun w => (H1 w.params, 1252)) (d := lawD) (kwd := []) (N := 10000) left0 (fun _ _ => trivial) (fun _ _ _ _ _ => trivial) ?h1 ?h2 ?h3 (fun s _ => recFacts_nil rfl) rfl said' ?h4 ⟨rfl, rfl, rfl, rfl, rfl, ?h5⟩ ?hw hc
  case h1 => kernel_rfl
  case h2 => kernel_rfl
  case h3 => kernel_rfl
  case h4 => decide +kernel
  case h5 => decide +kernel
  case hw => exact ⟨[.list []], by decide +kernel, by decide +kernel⟩
end Mine
namespace Mine
open PySem PySem.W PySem.Calls PyProof.Rows PySem.Spec
theorem tn_lt {i : Int} {n : Nat} (h0 : 0 <= i) (h : i < n) : i.toNat < n := (Int.toNat_lt h0).mpr h
theorem tn_lt2 {i j : Int} (h0 : 0 <= i) (h : i < j) : i.toNat < j.toNat := (Int.toNat_lt_toNat (Int.lt_of_le_of_lt h0 h)).mpr h
theorem tn_ge {r : Int} (h : -1 <= r) (h' : r ≠ -1) : 0 <= r := by lia
theorem tn_p (n : Nat) : ((n : Int) - 1).toNat = n - 1 := Int.toNat_sub n 1
theorem tn_a {n k : Nat} (h : k < n) : n + 1 - 1 - k = n - 1 - k + 1 := by lia
theorem tn_b {r : Int} {n : Nat} (h0 : 0 <= r) (h : r < n) : n - (n - 1 - r.toNat) = (r + 1).toNat := by
  obtain ⟨k, rfl⟩ := Int.eq_ofNat_of_zero_le h0
  have h : k < n := Int.ofNat_lt.mp h
  show n - (n - 1 - k) = k + 1
  lia
theorem tn_c {n k : Nat} (h : k < n) : ((n : Int) - 1 + (k : Int) * (-1)).toNat = n - 1 - k := by lia
theorem tn_d {n k : Nat} (h : k < n) : n - 1 - k < n := by lia
theorem tn_u {x p : Int} (h0 : 0 <= p) (h : x < (p.toNat : Int) /\ -1 <= x) : x < p /\ -1 <= x := by
  rw [Int.toNat_of_nonneg h0] at h; exact h
theorem tn_e {a b c d : Nat} (h : b < c) (h2 : a + c <= d) : a + 1 + b <= d := by lia
theorem tn_f {x p : Int} {n : Nat} (h1 : 0 <= p /\ p < n) (h2 : x < p /\ -1 <= x) (h3 : n <= 1000) : 0 + (x + 1).toNat <= 1001 := by lia
theorem tn_m {n l : Nat} (h : n < l) : min (min (n + 1) l - 1) (n + 1) = n := by
  rw [Nat.min_eq_left h]; exact Nat.min_eq_left (Nat.le_succ n)
theorem tn_g {n l : Nat} {m : Int} (h : n <= 1000) (h0 : 0 <= m) (hl : l <= ((n : Int) - m).toNat) : l <= 1000 := by lia
theorem tn_1 (i : Nat) : (-1 : Int) < i := by lia
theorem tn_h {a j n : Nat} (h1 : a + j = n) (h2 : a < n) : j - 1 < j /\ a + 1 + (j - 1) = n := by lia
theorem big1 {n : Nat} (h : n <= 1000) : n <= 1000000 := Nat.le_trans h (by decide)
inductive Fix where
  | bld | bldF | tree | treeF | stk | stkF | fmt | fmtF | kinds | spaces | names | attrs | texts | parents | children | contents | items | marks | modes | owners | errors | pending | rules
  deriving DecidableEq
inductive Oid where
  | s (k : Fix)
  | kid (k : Nat)
  | att (k : Nat)
  | t (k : Nat)
  | c (k : Nat)
  | ab
  | m (k : Nat)
  deriving DecidableEq
inductive AV where
  | none
  | bool (b : Bool)
  | int (i : Int)
  | str (s : Str)
  | ref (o : Oid)
  | tup (xs : List AV)
  | rng (a b c : Int)
  | val (v : Value)
inductive AO where
  | list (xs : List AV)
  | fields (es : List (Str × AV))
  | sdict (es : List (Str × AV))
  | ndict (es : List (Int × AV))
  | inst (c : Addr) (d : Oid)
noncomputable abbrev AHeap := Oid -> Option AO
noncomputable abbrev VS := Str -> Option AV
noncomputable abbrev Rho := Oid -> Addr
noncomputable def tupObj (vs : List Value) (n : Nat) : Obj := ⟨.type "tuple", Option.none, .seq vs.toArray n, #[]⟩
mutual
inductive VR (h : Heap) (ρ : Rho) (H : AHeap) : AV -> Value -> Prop
  | none : VR h ρ H .none .none
  | bool (b : Bool) : VR h ρ H (.bool b) (.bool b)
  | int (i : Int) (t : Tok) : VR h ρ H (.int i) (.int i t)
  | str (s : Str) (t : Tok) : VR h ρ H (.str s) (.str s t)
  | ref (o : Oid) (hd : H o ≠ Option.none) : VR h ρ H (.ref o) (.ref (ρ o))
  | tup (xs : List AV) (a : Addr) (vs : List Value) (n : Nat) (ho : h.get? a = some (tupObj vs n)) (hs : VRs h ρ H xs vs) : VR h ρ H (.tup xs) (.ref a)
  | rng (a b c : Int) (r : Addr) (t u v : Tok) (hr : IsRange h r a b c t u v) : VR h ρ H (.rng a b c) (.ref r)
  | val (v : Value) : VR h ρ H (.val v) v
inductive VRs (h : Heap) (ρ : Rho) (H : AHeap) : List AV -> List Value -> Prop
  | nil : VRs h ρ H [] []
  | cons {x : AV} {v : Value} {xs : List AV} {vs : List Value} (hx : VR h ρ H x v) (hs : VRs h ρ H xs vs) : VRs h ρ H (x :: xs) (v :: vs)
end
noncomputable def VRv (h : Heap) (ρ : Rho) (H : AHeap) (a : AV) (v : Value) : Prop := match a with
  | .none => v = .none
  | .bool b => v = .bool b
  | .int i => ∃ t, v = .int i t
  | .str s => ∃ t, v = .str s t
  | .ref o => v = .ref (ρ o) /\ H o ≠ Option.none
  | .tup xs => ∃ a us n, v = .ref a /\ h.get? a = some (tupObj us n) /\ VRs h ρ H xs us
  | .rng a b c => ∃ r t u w, v = .ref r /\ IsRange h r a b c t u w
  | .val u => v = u
theorem VR.inv {h : Heap} {ρ : Rho} {H : AHeap} {a : AV} {v : Value} (r : VR h ρ H a v) : VRv h ρ H a v :=
  VR.casesOn (motive_1 := fun a v _ => VRv h ρ H a v) r rfl (fun _ => rfl) (fun _ t => ⟨t, rfl⟩) (fun _ t => ⟨t, rfl⟩) (fun _ hd => ⟨rfl, hd⟩) (fun _ a us n ho hs => ⟨a, us, n, rfl, ho, hs⟩) (fun _ _ _ r t u w hr => ⟨r, t, u, w, rfl, hr⟩) (fun _ => rfl)
noncomputable def VRsv (h : Heap) (ρ : Rho) (H : AHeap) (xs : List AV) (vs : List Value) : Prop := match xs with
  | [] => vs = []
  | x :: xs => ∃ u us, vs = u :: us /\ VR h ρ H x u /\ VRs h ρ H xs us
theorem VRs.inv {h : Heap} {ρ : Rho} {H : AHeap} {xs : List AV} {vs : List Value} (r : VRs h ρ H xs vs) : VRsv h ρ H xs vs :=
  VRs.casesOn (motive_2 := fun xs vs _ => VRsv h ρ H xs vs) r rfl fun hx hs => ⟨_, _, rfl, hx, hs⟩
section
variable {h h' : Heap} {ρ ρ' : Rho} {H H' : AHeap}
theorem VR.fold {M : AV -> Value -> Prop} {Ms : List AV -> List Value -> Prop} (m0 : M .none .none) (m1 : ∀ b, M (.bool b) (.bool b)) (m2 : ∀ i t, M (.int i) (.int i t)) (m3 : ∀ s t, M (.str s) (.str s t)) (m4 : ∀ o, H o ≠ Option.none -> M (.ref o) (.ref (ρ o)))
    (m5 : ∀ xs a us n, h.get? a = some (tupObj us n) -> Ms xs us -> M (.tup xs) (.ref a)) (m6 : ∀ a b c r t u w, IsRange h r a b c t u w -> M (.rng a b c) (.ref r)) (m7 : ∀ v, M (.val v) v) (n0 : Ms [] []) (n1 : ∀ {x v xs vs}, M x v -> Ms xs vs -> Ms (x :: xs) (v :: vs)) :
    (∀ {a v}, VR h ρ H a v -> M a v) /\ (∀ {xs vs}, VRs h ρ H xs vs -> Ms xs vs) :=
  ⟨fun r => VR.rec (motive_1 := fun a v _ => M a v) (motive_2 := fun xs vs _ => Ms xs vs) m0 m1 m2 m3 m4 (fun xs a us n ho _ ih => m5 xs a us n ho ih) m6 m7 n0 (fun _ _ ih ihs => n1 ih ihs) r,
    fun r => VRs.rec (motive_1 := fun a v _ => M a v) (motive_2 := fun xs vs _ => Ms xs vs) m0 m1 m2 m3 m4 (fun xs a us n ho _ ih => m5 xs a us n ho ih) m6 m7 n0 (fun _ _ ih ihs => n1 ih ihs) r⟩
theorem VR.map {c : AV -> Prop} {cs : List AV -> Prop} (kt : ∀ a us n, h.get? a = some (tupObj us n) -> h'.get? a = some (tupObj us n)) (kg : ∀ r a b c t u w, IsRange h r a b c t u w -> IsRange h' r a b c t u w)
    (hr : ∀ o, H o ≠ Option.none -> c (.ref o) -> ρ' o = ρ o /\ H' o ≠ Option.none) (ht : ∀ xs, c (.tup xs) -> cs xs) (hc : ∀ x xs, cs (x :: xs) -> c x /\ cs xs) :
    (∀ {a v}, VR h ρ H a v -> c a -> VR h' ρ' H' a v) /\ (∀ {xs vs}, VRs h ρ H xs vs -> cs xs -> VRs h' ρ' H' xs vs) :=
  VR.fold (M := fun a v => c a -> VR h' ρ' H' a v) (Ms := fun xs vs => cs xs -> VRs h' ρ' H' xs vs) (fun _ => .none) (fun b _ => .bool b) (fun i t _ => .int i t) (fun s t _ => .str s t) (fun o hd q => by rw [<- (hr o hd q).1]; exact .ref o (hr o hd q).2)
    (fun xs a us n ho ih q => .tup xs a us n (kt a us n ho) (ih (ht xs q))) (fun a b c r t u w g _ => .rng a b c r t u w (kg _ _ _ _ _ _ _ g)) (fun v _ => .val v) (fun _ => .nil) (fun ih ihs q => .cons (ih (hc _ _ q).1) (ihs (hc _ _ q).2))
end
inductive ER (P : Params) (h : Heap) (ρ : Rho) (H : AHeap) : List (Str × AV) -> List DictEntry -> Prop
  | nil : ER P h ρ H [] []
  | cons {s : Str} {t : Tok} {x : AV} {v : Value} {es : List (Str × AV)} {ds : List DictEntry} (hx : VR h ρ H x v) (hs : ER P h ρ H es ds) :
      ER P h ρ H ((s, x) :: es) (⟨PyData.keyHash P s, .str s t, v⟩ :: ds)
inductive PR (K : Type) (h : Heap) (ρ : Rho) (H : AHeap) : List (K × AV) -> List (K × Value) -> Prop
  | nil : PR K h ρ H [] []
  | cons {k : K} {x : AV} {v : Value} {es : List (K × AV)} {ds : List (K × Value)} (hx : VR h ρ H x v) (hs : PR K h ρ H es ds) :
      PR K h ρ H ((k, x) :: es) ((k, v) :: ds)
noncomputable def OR (w : World) (h : Heap) (ρ : Rho) (H : AHeap) (a : Addr) : AO -> Prop
  | .list xs => ∃ vs n, h.get? a = some (W.listOf (List.toArray vs) n) /\ VRs h ρ H xs vs
  | .fields es => ∃ ds n, h.get? a = some (dictOf ds n) /\ ER w.params h ρ H es ds
  | .sdict es => ∃ ds, h.DictOf (strKind pw w) a ds /\ PR Str h ρ H es ds
  | .ndict es => ∃ ds, h.DictOf (intKind pw w) a ds /\ PR Int h ρ H es ds
  | .inst c d => h.get? a = some (instObj c (ρ d)) /\ H d ≠ Option.none
structure FR (env : Env) (vs : VS) (h : Heap) (ρ : Rho) (H : AHeap) : Prop where
  loc : ∃ m, h.Ns env.locals m /\ ∀ x a, env.kindOf x = some .local -> vs x = some a -> ∃ v, m x = some v /\ VR h ρ H a v
  cel : ∀ x, env.kindOf x = some .cell -> ∃ c v₀, env.cells.lookup x = some c /\ h.IsCell c v₀ /\ ∀ a, vs x = some a -> ∃ v, v₀ = some v /\ VR h ρ H a v
  fre : ∀ x a, env.kindOf x = some .free -> vs x = some a -> ∃ c v, env.cells.lookup x = some c /\ h.IsCell c (some v) /\ VR h ρ H a v
structure Ok (w : World) (hB : Heap) (env : Env) (vs : VS) (H : AHeap) (ρ : Rho) (s : Shared) : Prop where
  base : ∀ b o, hB.get? b = some o -> s.heap.get? b = some o
  last : ∃ a x, hB.get? a = some x /\ hB.objs.size = a + 1
  objs : ∀ o ao, H o = some ao -> OR w s.heap ρ H (ρ o) ao
  big : ∀ o, H o ≠ Option.none -> hB.objs.size <= ρ o
  inj : ∀ o o', H o ≠ Option.none -> H o' ≠ Option.none -> ρ o = ρ o' -> o = o'
  fr : FR env vs s.heap ρ H
  nL : ∀ o, H o ≠ Option.none -> ρ o ≠ env.locals
  bigL : hB.objs.size <= env.locals
  bigC : ∀ p ∈ env.cells, hB.objs.size <= p.2 /\ ∃ v, s.heap.IsCell p.2 v
  cinj : ∀ x y c, env.cells.lookup x = some c -> env.cells.lookup y = some c -> x = y
  kind : env.scope.kind = .function
  glob : env.globals = mainGlobals
  bi : env.builtins = builtinsNs
  gens : s.gens = #[]
noncomputable abbrev zO : Oid := .t 2
noncomputable def Mv (H : AHeap) (i : Oid) : Prop := H i ≠ Option.none /\ i ≠ zO
structure Step (env : Env) (ρ : Rho) (H : AHeap) (s : Shared) (ρ' : Rho) (H' : AHeap) (s' : Shared) : Prop where
  dom : ∀ o, H o ≠ Option.none -> H' o ≠ Option.none
  rho : ∀ o, H o ≠ Option.none -> ρ' o = ρ o
  new : ∀ o, H' o ≠ Option.none -> H o = Option.none -> s.heap.get? (ρ' o) = Option.none
  live : ∀ b x, s.heap.get? b = some x -> ∃ y, s'.heap.get? b = some y
  keep : ∀ b o, s.heap.get? b = some o -> (∀ i, Mv H i -> b ≠ ρ i) -> b ≠ env.locals -> (∀ p ∈ env.cells, b ≠ p.2) -> s'.heap.get? b = some o
  os : s'.os = s.os
theorem Step.rfl {env ρ H s} : Step env ρ H s ρ H s :=
  ⟨fun _ h => h, fun _ _ => Eq.refl _, fun o h h' => absurd h' h, fun _ x h => ⟨x, h⟩, fun _ _ h _ _ _ => h, Eq.refl _⟩
theorem Step.trans {env ρ H s ρ' H' s' ρ'' H'' s''} (a : Step env ρ H s ρ' H' s') (b : Step env ρ' H' s' ρ'' H'' s'') : Step env ρ H s ρ'' H'' s'' where
  dom o h := b.dom o (a.dom o h)
  rho o h := (b.rho o (a.dom o h)).trans (a.rho o h)
  new o h h' := by
    by_cases q : H' o = none
    · have h1 := b.new o h q
      cases h2 : s.heap.get? (ρ'' o) with
      | none => rfl
      | some x => obtain ⟨y, h3⟩ := a.live _ _ h2; rw [h1] at h3; cases h3
    · rw [b.rho o q]; exact a.new o q h'
  live b x h := let ⟨y, h1⟩ := a.live b x h; ‹Step env ρ' H' s' ρ'' H'' s''›.live b y h1
  keep x o hx hn hl hc := b.keep x o (a.keep x o hx hn hl hc) (fun i hi => by
    by_cases q : H i = none
    · have h1 := a.new i hi.1 q
      intro e
      rw [e, h1] at hx
      cases hx
    · rw [a.rho i q]; exact hn i ⟨q, hi.2⟩) hl hc
  os := b.os.trans a.os
section
variable {w : World} {hB : Heap} {env : Env} {vs : VS} {H : AHeap} {ρ : Rho} {s : Shared}
theorem Ok.size (O : Ok w hB env vs H ρ s) : hB.objs.size <= s.heap.objs.size := by
  obtain ⟨a, x, h1, h2⟩ := O.last
  rw [h2]
  exact Heap.lt_size (O.base _ _ h1)
theorem none_of_le {h : Heap} {a : Addr} (q : h.objs.size <= a) : h.get? a = Option.none := by
  cases e : h.get? a with
  | none => rfl
  | some x => exact absurd (Heap.lt_size e) (Nat.not_lt.mpr q)
theorem Ok.not_rho (O : Ok w hB env vs H ρ s) {a : Addr} {x : Obj} (h : s.heap.get? a = some x) (hc : x.cls = .type "tuple" ∨ x.cls = .type "range") (hd : (∃ xs n, x.data = .seq xs n) ∨ ∃ xs, x.data = .fields xs) :
    (∀ i, H i ≠ Option.none -> a ≠ ρ i) /\ a ≠ env.locals /\ ∀ p ∈ env.cells, a ≠ p.2 := by
  have nd : ∀ es n, x.data ≠ .dict es n := fun es n e => by rcases hd with ⟨_, _, h⟩ | ⟨_, h⟩ <;> exact nomatch h.symm.trans e
  have nc : ∀ v, x.data ≠ .cell v := fun v e => by rcases hd with ⟨_, _, h⟩ | ⟨_, h⟩ <;> exact nomatch h.symm.trans e
  have np : x.data ≠ .plain := fun e => by rcases hd with ⟨_, _, h⟩ | ⟨_, h⟩ <;> exact nomatch h.symm.trans e
  have eq : ∀ {y}, s.heap.get? a = some y -> x = y := fun h1 => Option.some.inj (h.symm.trans h1)
  refine ⟨fun i hi e => ?_, fun e => ?_, fun p hp e => ?_⟩
  · rw [e] at eq
    obtain ⟨ao, hao⟩ := Option.ne_none_iff_exists'.mp hi
    have := O.objs i ao hao
    cases ao with
    | list xs =>
      obtain ⟨vs, n, h1, _⟩ := this
      rw [eq h1] at hc
      rcases hc with hc | hc
      · exact absurd (Value.type.inj hc) (by decide)
      · exact absurd (Value.type.inj hc) (by decide)
    | fields es => obtain ⟨ds, n, h1, _⟩ := this; exact nd _ _ (congrArg Obj.data (eq h1))
    | sdict es => obtain ⟨ds, ⟨o, es, ep, h1, _, h2, _⟩, _⟩ := this; exact nd _ _ ((congrArg Obj.data (eq h1)).trans h2)
    | ndict es => obtain ⟨ds, ⟨o, es, ep, h1, _, h2, _⟩, _⟩ := this; exact nd _ _ ((congrArg Obj.data (eq h1)).trans h2)
    | inst c d => exact np (congrArg Obj.data (eq this.1))
  · rw [e] at eq
    obtain ⟨m, ⟨o, es, ep, h1, h2, _⟩, _⟩ := O.fr.loc
    exact nd _ _ ((congrArg Obj.data (eq h1)).trans h2)
  · rw [e] at eq
    obtain ⟨_, v, o, h1, h2⟩ := O.bigC p hp
    exact nc _ ((congrArg Obj.data (eq h1)).trans h2)
theorem Ok.tup_keep (O : Ok w hB env vs H ρ s) {ρ' H' s'} (S : Step env ρ H s ρ' H' s') {a : Addr} {x : Obj} (h : s.heap.get? a = some x) (hc : x.cls = .type "tuple" ∨ x.cls = .type "range") (hd : (∃ xs n, x.data = .seq xs n) ∨ ∃ xs, x.data = .fields xs) : s'.heap.get? a = some x :=
  let z := O.not_rho h hc hd
  S.keep _ _ h (fun i hi => z.1 i hi.1) z.2.1 z.2.2
theorem VR.monos (O : Ok w hB env vs H ρ s) {ρ' H' s'} (S : Step env ρ H s ρ' H' s') : (∀ {a v}, VR s.heap ρ H a v -> True -> VR s'.heap ρ' H' a v) /\ (∀ {xs us}, VRs s.heap ρ H xs us -> True -> VRs s'.heap ρ' H' xs us) :=
  VR.map (c := fun _ => True) (cs := fun _ => True) (fun a us n ho => O.tup_keep S ho (.inl rfl) (.inl ⟨_, _, rfl⟩)) (fun r a b c t u w hr => O.tup_keep S hr (.inr rfl) (.inr ⟨_, rfl⟩)) (fun o hd _ => ⟨S.rho o hd, S.dom o hd⟩) (fun _ _ => trivial) (fun _ _ _ => ⟨trivial, trivial⟩)
theorem VR.mono (O : Ok w hB env vs H ρ s) {ρ' H' s'} (S : Step env ρ H s ρ' H' s') {a : AV} {v : Value} (r : VR s.heap ρ H a v) : VR s'.heap ρ' H' a v := (VR.monos O S).1 r trivial
theorem VRs.mono (O : Ok w hB env vs H ρ s) {ρ' H' s'} (S : Step env ρ H s ρ' H' s') {xs : List AV} {ys : List Value} (r : VRs s.heap ρ H xs ys) : VRs s'.heap ρ' H' xs ys := (VR.monos O S).2 r trivial
theorem ER.mono (O : Ok w hB env vs H ρ s) {ρ' H' s'} (S : Step env ρ H s ρ' H' s') {P : Params} {xs : List (Str × AV)} {ys : List DictEntry} (h : ER P s.heap ρ H xs ys) : ER P s'.heap ρ' H' xs ys := by
  induction h with
  | nil => exact .nil
  | cons hx _ ih => exact .cons (hx.mono O S) ih
theorem PR.mono (O : Ok w hB env vs H ρ s) {ρ' H' s'} (S : Step env ρ H s ρ' H' s') {K : Type} {xs : List (K × AV)} {ys : List (K × Value)} (h : PR K s.heap ρ H xs ys) : PR K s'.heap ρ' H' xs ys := by
  induction h with
  | nil => exact .nil
  | cons hx _ ih => exact .cons (hx.mono O S) ih
end
noncomputable def Run (w : World) (hB : Heap) {α β : Type} (rel : Heap -> Rho -> AHeap -> β -> α -> Prop) (A : Around) (env : Env) (t : Sem α) (vs : VS) (H : AHeap) (Q : β -> VS -> AHeap -> Prop) : Prop :=
  ∀ (ρ : Rho) (s : Shared) (K : α -> Shared -> Prop), Ok w hB env vs H ρ s ->
    (∀ a b ρ' vs' H' s', Ok w hB env vs' H' ρ' s' -> Step env ρ H s ρ' H' s' -> rel s'.heap ρ' H' b a -> Q b vs' H' -> K a s') ->
    wpAny (model pw w) A t K (fun _ _ => False) s
inductive Out where
  | next | brk | cont
  | ret (a : AV)
noncomputable abbrev relV : Heap -> Rho -> AHeap -> AV -> Value -> Prop := fun h ρ H a v => VR h ρ H a v
noncomputable abbrev relVs : Heap -> Rho -> AHeap -> List AV -> List Value -> Prop := fun h ρ H a v => VRs h ρ H a v
noncomputable abbrev relB : Heap -> Rho -> AHeap -> Bool -> Bool -> Prop := fun _ _ _ a b => b = a
noncomputable abbrev relU : Heap -> Rho -> AHeap -> Unit -> Unit -> Prop := fun _ _ _ _ _ => True
noncomputable def relF (h : Heap) (ρ : Rho) (H : AHeap) : Out -> Flow -> Prop
  | .next, .next => True
  | .brk, .brk => True
  | .cont, .cont => True
  | .ret a, .ret v => VR h ρ H a v
  | _, _ => False
noncomputable abbrev RV (w : World) (hB : Heap) (A : Around) (env : Env) (t : Sem Value) (vs : VS) (H : AHeap) (Q : AV -> VS -> AHeap -> Prop) : Prop := Run w hB relV A env t vs H Q
noncomputable abbrev RL (w : World) (hB : Heap) (A : Around) (env : Env) (t : Sem (List Value)) (vs : VS) (H : AHeap) (Q : List AV -> VS -> AHeap -> Prop) : Prop := Run w hB relVs A env t vs H Q
noncomputable abbrev RB (w : World) (hB : Heap) (A : Around) (env : Env) (t : Sem Bool) (vs : VS) (H : AHeap) (Q : Bool -> VS -> AHeap -> Prop) : Prop := Run w hB relB A env t vs H Q
noncomputable abbrev RS (w : World) (hB : Heap) (A : Around) (env : Env) (t : Sem Flow) (vs : VS) (H : AHeap) (Q : Out -> VS -> AHeap -> Prop) : Prop := Run w hB relF A env t vs H Q
section
variable {w : World} {hB : Heap} {A : Around} {env : Env} {vs : VS} {H : AHeap}
theorem Run.mono {α β : Type} {rel : Heap -> Rho -> AHeap -> β -> α -> Prop} {t : Sem α} {Q Q' : β -> VS -> AHeap -> Prop} (h : Run w hB rel A env t vs H Q) (hq : ∀ b vs' H', Q b vs' H' -> Q' b vs' H') :
    Run w hB rel A env t vs H Q' := fun ρ s K O k => h ρ s K O fun a b ρ' vs' H' s' O' S r q => k a b ρ' vs' H' s' O' S r (hq _ _ _ q)
theorem Ok.toks {ρ s} (O : Ok w hB env vs H ρ s) (n : Nat) : Ok w hB env vs H ρ { s with toks := n } := ⟨O.base, O.last, O.objs, O.big, O.inj, O.fr, O.nL, O.bigL, O.bigC, O.cinj, O.kind, O.glob, O.bi, O.gens⟩
theorem Step.toks {ρ s} (n : Nat) : Step env ρ H s ρ H { s with toks := n } := ⟨fun _ h => h, fun _ _ => Eq.refl _, fun o h h' => absurd h' h, fun _ x h => ⟨x, h⟩, fun _ _ h _ _ _ => h, Eq.refl _⟩
theorem Heap.Ns.keepAt {h h' : Heap} {a : Addr} {m : Str -> Option Value} (n : h.Ns a m) (k : ∀ o, h.get? a = some o -> h'.get? a = some o) : h'.Ns a m := by
  obtain ⟨o, es, ep, h1, h2, h3, h4⟩ := n
  exact ⟨o, es, ep, k _ h1, h2, h3, h4⟩
theorem dictOf_keepAt {K : Type} [DecidableEq K] {knd : PySem.KeyKind pw w K} {h h' : Heap} {a : Addr} {kvs : List (K × Value)} (x : h.DictOf knd a kvs) (k : ∀ o, h.get? a = some o -> h'.get? a = some o) : h'.DictOf knd a kvs := by
  obtain ⟨o, es, ep, h1, r⟩ := x
  exact ⟨o, es, ep, k _ h1, r⟩
theorem lookup_mem {l : List (Str × Addr)} {x : Str} {c : Addr} (h : l.lookup x = some c) : (x, c) ∈ l := by
  induction l with
  | nil => exact nomatch h
  | cons q l ih =>
    obtain ⟨y, d⟩ := q
    rw [List.lookup_cons] at h
    cases e : x == y with
    | true =>
      rw [e] at h
      rw [eq_of_beq e, Option.some.inj h]
      exact .head _
    | false => rw [e] at h; exact .tail _ (ih h)
section
variable {h h' : Heap} {ρ ρ' : Rho} {H' : AHeap}
theorem OR.map (mr : ∀ {a v}, VR h ρ H a v -> VR h' ρ' H' a v) (ms : ∀ {a v}, VRs h ρ H a v -> VRs h' ρ' H' a v) (dm : ∀ d, H d ≠ Option.none -> ρ' d = ρ d /\ H' d ≠ Option.none) {a : Addr} {ao : AO} (z : OR w h ρ H a ao) (k : ∀ o, h.get? a = some o -> h'.get? a = some o) : OR w h' ρ' H' a ao := by
  have er : ∀ {P xs ys}, ER P h ρ H xs ys -> ER P h' ρ' H' xs ys := fun r => by
    induction r with
    | nil => exact .nil
    | cons hx _ ih => exact .cons (mr hx) ih
  have pr : ∀ {K xs ys}, PR K h ρ H xs ys -> PR K h' ρ' H' xs ys := fun r => by
    induction r with
    | nil => exact .nil
    | cons hx _ ih => exact .cons (mr hx) ih
  cases ao with
  | list xs => obtain ⟨ys, n, h1, h2⟩ := z; exact ⟨ys, n, k _ h1, ms h2⟩
  | fields es => obtain ⟨ds, n, h1, h2⟩ := z; exact ⟨ds, n, k _ h1, er h2⟩
  | sdict es => obtain ⟨ds, h1, h2⟩ := z; exact ⟨ds, dictOf_keepAt h1 k, pr h2⟩
  | ndict es => obtain ⟨ds, h1, h2⟩ := z; exact ⟨ds, dictOf_keepAt h1 k, pr h2⟩
  | inst c d => exact ⟨by rw [(dm d z.2).1]; exact k _ z.1, (dm d z.2).2⟩
theorem FR.map (F : FR env vs h ρ H) (mr : ∀ {a v}, VR h ρ H a v -> VR h' ρ' H' a v) (kl : ∀ o, h.get? env.locals = some o -> h'.get? env.locals = some o) (kc : ∀ x c v, env.cells.lookup x = some c -> h.IsCell c v -> h'.IsCell c v) : FR env vs h' ρ' H' where
  loc := let ⟨m, hm, hv⟩ := F.loc; ⟨m, Heap.Ns.keepAt hm kl, fun x a h1 h2 => let ⟨v, e, r⟩ := hv x a h1 h2; ⟨v, e, mr r⟩⟩
  cel x hx := let ⟨c, v₀, h1, h2, h3⟩ := F.cel x hx; ⟨c, v₀, h1, kc x _ _ h1 h2, fun a ha => let ⟨v, e, r⟩ := h3 a ha; ⟨v, e, mr r⟩⟩
  fre x a hx hv := let ⟨c, v, h1, h2, h3⟩ := F.fre x a hx hv; ⟨c, v, h1, kc x _ _ h1 h2, mr h3⟩
end
theorem OR.step (O : Ok w hB env vs H ρ s) {ρ' : Rho} {H' : AHeap} {s' : Shared} (S : Step env ρ H s ρ' H' s') {i : Oid} {ao : AO} (h : H i = some ao) (k : ∀ x, s.heap.get? (ρ i) = some x -> s'.heap.get? (ρ i) = some x) : OR w s'.heap ρ' H' (ρ i) ao :=
  OR.map (VR.mono O S) (VRs.mono O S) (fun d hd => ⟨S.rho d hd, S.dom d hd⟩) (O.objs i ao h) k
theorem Ok.ext' {ρ s s'} (O : Ok w hB env vs H ρ s) (k : ∀ b o, s.heap.get? b = some o -> s'.heap.get? b = some o) (hg : s'.gens = s.gens) (ho : s'.os = s.os) :
    Ok w hB env vs H ρ s' /\ Step env ρ H s ρ H s' := by
  have S : Step env ρ H s ρ H s' := ⟨fun _ h => h, fun _ _ => Eq.refl _, fun o h h' => absurd h' h, fun _ x h => ⟨x, k _ _ h⟩, fun _ _ h _ _ _ => k _ _ h, ho⟩
  have kc : ∀ c v, s.heap.IsCell c v -> s'.heap.IsCell c v := fun c v ⟨o, h1, h2⟩ => ⟨o, k _ _ h1, h2⟩
  exact ⟨⟨fun b o e => k _ _ (O.base b o e), O.last, fun o ao h => OR.step O S h (k _), O.big, O.inj, O.fr.map (VR.mono O S) (k _) fun _ c v _ => kc c v, O.nL, O.bigL, fun p hp => let ⟨h1, v, h2⟩ := O.bigC p hp; ⟨h1, v, kc _ _ h2⟩, O.cinj, O.kind, O.glob, O.bi, hg.trans O.gens⟩, S⟩
theorem Ok.ext {ρ s s'} (O : Ok w hB env vs H ρ s) (k : ∀ b o, s.heap.get? b = some o -> s'.heap.get? b = some o) (hsz : s.heap.objs.size <= s'.heap.objs.size) (hg : s'.gens = s.gens) (ho : s'.os = s.os) :
    Ok w hB env vs H ρ s' /\ Step env ρ H s ρ H s' := O.ext' k hg ho
theorem e_int {i : Int} {k : Nat} {pos : Pos} {Q} (h : Q (.int i) vs H) : RV w hB A env (eval (.Constant (.int i) k pos) env) vs H Q := fun ρ s K O k =>
  wpAny_Constant_int (k _ (.int i) ρ vs H _ (O.toks _) (.toks _) (.int i _) h)
theorem e_str {x : Str} {k : Nat} {pos : Pos} {Q} (h : Q (.str x) vs H) : RV w hB A env (eval (.Constant (.str x) k pos) env) vs H Q := fun ρ s K O k =>
  wpAny_Constant_str (k _ (.str x) ρ vs H _ (O.toks _) (.toks _) (.str x _) h)
theorem e_none {k : Nat} {pos : Pos} {Q} (h : Q .none vs H) : RV w hB A env (eval (.Constant .none k pos) env) vs H Q := fun ρ s K O k =>
  wpAny_Constant_none (k _ .none ρ vs H _ O .rfl .none h)
theorem e_bool {b : Bool} {k : Nat} {pos : Pos} {Q} (h : Q (.bool b) vs H) : RV w hB A env (eval (.Constant (.bool b) k pos) env) vs H Q := fun ρ s K O k =>
  wpAny_Constant_bool (k _ (.bool b) ρ vs H _ O .rfl (.bool b) h)
theorem e_local {x : Str} {pos : Pos} {a : AV} {Q} (hx : env.kindOf x = some .local) (hd : (x == ("__debug__" : Str)) = false) (hv : vs x = some a) (h : Q a vs H) : RV w hB A env (eval (.Name x pos) env) vs H Q := fun ρ s K O k => by
  obtain ⟨m, hm, hl⟩ := O.fr.loc
  obtain ⟨v, e, r⟩ := hl x a hx hv
  exact wpAny_Name (wpAny_loadName_local O.kind hx hm e (k _ a ρ vs H _ O .rfl r h)) hd
theorem e_cell {x : Str} {pos : Pos} {a : AV} {Q} (hx : env.kindOf x = some .cell) (hd : (x == ("__debug__" : Str)) = false) (hv : vs x = some a) (h : Q a vs H) : RV w hB A env (eval (.Name x pos) env) vs H Q := fun ρ s K O k => by
  obtain ⟨c, v₀, h1, h2, h3⟩ := O.fr.cel x hx
  obtain ⟨v, rfl, r⟩ := h3 a hv
  exact wpAny_Name (wpAny_loadName_cell O.kind hx h1 h2 (k _ a ρ vs H _ O .rfl r h)) hd
theorem e_free {x : Str} {pos : Pos} {a : AV} {Q} (hx : env.kindOf x = some .free) (hd : (x == ("__debug__" : Str)) = false) (hc : (x == ("__classdict__" : Str)) = false) (hv : vs x = some a) (h : Q a vs H) : RV w hB A env (eval (.Name x pos) env) vs H Q := fun ρ s K O k => by
  obtain ⟨c, v, h1, h2, r⟩ := O.fr.fre x a hx hv
  exact wpAny_Name (wpAny_loadName_free O.kind hx h1 h2 (k _ a ρ vs H _ O .rfl r h) hc) hd
end
noncomputable def Base (w : World) (hB : Heap) : Prop := ∀ i o, (hl w.params)[i]? = some o -> hB.get? i = some o
noncomputable def kIdx : List Nat := [2, 3, 245, 246, 489, 490, 613, 614, 691, 692] ++
  [28, 35, 42, 49, 56, 63, 70, 77, 84, 92, 99, 107, 115, 124, 131, 138, 145, 159, 166, 173, 180, 187, 194, 201, 208, 215, 222, 229, 236, 243, 257, 265, 273, 280, 287, 294, 301, 308, 315, 322, 329, 336, 343, 350, 357, 364, 371, 378,
   424, 431, 438, 445, 452, 459, 466, 473, 480, 487, 501, 515, 524, 533, 540, 547, 554, 562, 569, 576, 583, 590, 597, 604, 611, 625, 640, 647, 654, 661, 668, 675, 682, 689, 703, 710, 717, 724, 731, 738, 745, 750, 757, 764, 769, 776, 781, 788, 795, 800, 805, 812]
noncomputable def Kf (P : Params) : Frag := kIdx.filterMap fun i => ((hl P)[i]?).map fun o => (i, o)
theorem kf_lookup {P : Params} {a : Addr} {o : Obj} : ∀ {l : List Nat}, (l.filterMap fun i => ((hl P)[i]?).map fun o => (i, o)).lookup a = some o -> (hl P)[a]? = some o
  | [], h => by simp at h
  | i :: l, h => by
    cases hi : (hl P)[i]? with
    | none => rw [List.filterMap_cons, hi] at h; exact kf_lookup h
    | some x =>
      rw [List.filterMap_cons, hi] at h
      simp only [Option.map_some, List.lookup_cons] at h
      by_cases q : a = i
      · subst q; simp at h; rw [hi, h]
      · have : (a == i) = false := by simpa using q
        rw [this] at h
        exact kf_lookup h
theorem Base.kin {w : World} {hB : Heap} (b : Base w hB) : (Kf w.params).In hB := fun a o h => b a o (kf_lookup h)
noncomputable def entsAt (P : Params) (i : Nat) : List DictEntry := match (hl P)[i]? with
  | some ⟨_, _, .dict es _, _⟩ => es.toList
  | _ => []
noncomputable def gmap (P : Params) (x : Str) : Option Value := ((entsAt P 3).find? fun e => e.key.isStr x).map (·.val)
noncomputable def bmap (P : Params) (x : Str) : Option Value := ((entsAt P 0).find? fun e => e.key.isStr x).map (·.val)
noncomputable def strKeysB (es : List DictEntry) : Bool := es.all fun e => match e.key with | .str .. => true | _ => false
theorem strKeysB_ok {es : List DictEntry} (h : strKeysB es = true) : StrKeys es.toArray := by
  intro e he
  have := List.all_eq_true.mp h e (by simpa using he)
  revert this
  cases e.key <;> simp
theorem ns_of_ents {h : Heap} {a : Addr} {o : Obj} {es : List DictEntry} {n : Nat} (ho : h.get? a = some o) (hd : o.data = .dict es.toArray n) (hs : strKeysB es = true) : h.Ns a (fun x => (es.find? fun e => e.key.isStr x).map (·.val)) := by
  refine ⟨o, es.toArray, n, ho, hd, strKeysB_ok hs, fun x => ?_⟩
  unfold nsFind findBy
  rw [List.find?_toArray]
noncomputable def objAt (P : Params) (i : Nat) : Obj := ((hl P)[i]?).getD default
theorem Base.at {w : World} {hB : Heap} (b : Base w hB) (i : Nat) (h : ((hl w.params)[i]?).isSome = true) : hB.get? i = some (objAt w.params i) := by
  obtain ⟨o, ho⟩ := Option.isSome_iff_exists.mp h
  rw [objAt, ho]
  exact b i o ho
theorem len_hl (P : Params) : (hl P).length = 813 := by kernel_rfl
theorem Base.lt {w : World} {hB : Heap} (b : Base w hB) {i : Nat} (h : i < 813) : hB.get? i = some (objAt w.params i) := b.at i (by
  rw [List.getElem?_eq_getElem (by rw [len_hl]; exact h)]; rfl)
theorem Base.gns {w : World} {hB : Heap} (b : Base w hB) : hB.Ns mainGlobals (gmap w.params) :=
  ns_of_ents (h := hB) (a := 3) (es := entsAt w.params 3) (n := 71) (b.lt (by decide)) (by kernel_rfl) (by kernel_rfl)
theorem Base.bns {w : World} {hB : Heap} (b : Base w hB) : hB.Ns builtinsNs (bmap w.params) :=
  ns_of_ents (h := hB) (a := 0) (es := entsAt w.params 0) (n := 159) (b.lt (by decide)) (by kernel_rfl) (by kernel_rfl)
theorem Base.nolim {w : World} {hB : Heap} (b : Base w hB) : hB.NoLimit :=
  ⟨_, ns_of_ents (h := hB) (a := 2) (es := entsAt w.params 2) (n := 2) (b.lt (by decide)) (by kernel_rfl) (by kernel_rfl), by kernel_rfl⟩
section
variable {w : World} {hB : Heap} {A : Around} {env : Env} {vs : VS} {H : AHeap}
theorem Ok.kin (b : Base w hB) {ρ s} (O : Ok w hB env vs H ρ s) : (Kf w.params).In s.heap := fun a o h => O.base _ _ (b.kin a o h)
theorem e_glob (b : Base w hB) {x : Str} {pos : Pos} {v : Value} {Q} (hx : env.kindOf x = some .globalImplicit) (hd : (x == ("__debug__" : Str)) = false) (hv : gmap w.params x = some v) (h : Q (.val v) vs H) :
    RV w hB A env (eval (.Name x pos) env) vs H Q := fun ρ s K O k =>
  Name_function_global O.kind hx (loadGlobal_global (by rw [O.glob]; exact b.gns.keeps O.base) hv (k _ (.val v) ρ vs H _ O .rfl (.val v) h)) hd
theorem e_built (b : Base w hB) {x : Str} {pos : Pos} {v : Value} {Q} (hx : env.kindOf x = some .globalImplicit) (hd : (x == ("__debug__" : Str)) = false) (hg : gmap w.params x = none) (hv : bmap w.params x = some v) (h : Q (.val v) vs H) :
    RV w hB A env (eval (.Name x pos) env) vs H Q := fun ρ s K O k =>
  Name_function_global O.kind hx (loadGlobal_builtin (by rw [O.glob]; exact b.gns.keeps O.base) hg (by rw [O.bi]; exact b.bns.keeps O.base) hv (k _ (.val v) ρ vs H _ O .rfl (.val v) h)) hd
theorem Ok.lib {ρ s} (O : Ok w hB env vs H ρ s) : ∃ m, Fr hB env.locals s.heap m := by
  obtain ⟨m, hm, _⟩ := O.fr.loc
  exact ⟨m, hm, O.base, O.bigL⟩
noncomputable def AV.handed : AV -> Bool
  | .val v => handedIn v
  | _ => true
theorem VR.handed {h ρ} {a : AV} {v : Value} (r : VR h ρ H a v) (e : a.handed = true) : handedIn v = true := by
  cases r <;> first | rfl | exact e
theorem isStr_eq (s x : Str) (t : Tok) : (Value.str s t).isStr x = (s == x) := rfl
theorem er_find {P : Params} {h : Heap} {ρ : Rho} {fs : List (Str × AV)} {ds : List DictEntry} (r : ER P h ρ H fs ds) {x : Str} {a : AV} (e : fs.lookup x = some a) : ∃ v, getL x ds = some (some v) /\ VR h ρ H a v := by
  induction r with
  | nil => simp at e
  | @cons s t y v es ds hx hs ih =>
    rw [List.lookup_cons] at e
    by_cases q : x = s
    · subst q
      simp at e; subst e
      refine ⟨v, ?_, hx⟩
      unfold getL
      rw [List.find?_cons]
      simp [isStr_eq]
    · have q1 : (x == s) = false := by simpa using q
      have q2 : (s == x) = false := by simpa using Ne.symm q
      rw [q1] at e
      obtain ⟨v', h1, h2⟩ := ih e
      refine ⟨v', ?_, h2⟩
      unfold getL at h1 ⊢
      rw [List.find?_cons]
      simp only [isStr_eq, q2]
      cases hf : ds.find? (fun d => d.key.isStr x) with
      | some e' => rw [hf] at h1; exact h1
      | none => rw [hf] at h1; dsimp only at h1; split at h1 <;> cases h1
theorem er_keys {P : Params} {h : Heap} {ρ : Rho} {fs : List (Str × AV)} {ds : List DictEntry} (r : ER P h ρ H fs ds) {x : Str} (e : fs.lookup x = none) : getL x ds = some none := by
  have key : ds.find? (fun d => d.key.isStr x) = none /\ ds.any (·.refKey) = false := by
    induction r with
    | nil => exact ⟨rfl, rfl⟩
    | @cons s t y v es ds hx hs ih =>
      rw [List.lookup_cons] at e
      by_cases q : x = s
      · subst q; simp at e
      · have q1 : (x == s) = false := by simpa using q
        have q2 : (s == x) = false := by simpa using Ne.symm q
        rw [q1] at e
        obtain ⟨h1, h2⟩ := ih e
        refine ⟨?_, ?_⟩
        · rw [List.find?_cons]; simp only [isStr_eq, q2]; exact h1
        · rw [List.any_cons, h2]; rfl
  unfold getL
  rw [key.1, key.2]
  rfl
noncomputable def notCallName : Expr -> Bool
  | .Call (.Name _ _) _ _ _ => false
  | _ => true
theorem base_of {o : Expr} (h : notCallName o = true) (x : Str) (t : Sem Value) : attributeBase o x env t = t := by
  unfold attributeBase
  split <;> first | rfl | (simp [notCallName] at h)
theorem inst_at {ρ s} (O : Ok w hB env vs H ρ s) {o d : Oid} {c : Addr} {fs : List (Str × AV)} (ho : H o = some (.inst c d)) (hd : H d = some (.fields fs)) :
    ∃ ds n, W.InstAt s.heap (ρ o) (instObj c (ρ d)) c (some (dictOf ds n)) /\ ER w.params s.heap ρ H fs ds := by
  have h1 := (O.objs o _ ho).1
  obtain ⟨ds, n, h2, h3⟩ := O.objs d _ hd
  exact ⟨ds, n, ⟨h1, rfl, rfl, h2⟩, h3⟩
noncomputable def AttrP (w : World) (x : Str) (a : AV) (H' : AHeap) (P : AV -> Prop) : Prop := ∃ o c d fs r attr, a = .ref o /\ H' o = some (.inst c d) /\ H' d = some (.fields fs) /\ fs.lookup x = some r /\ r.handed = true /\
      plainGet (Kf w.params) c x = true /\ hasDictIn (Kf w.params) c = true /\ findIn (Kf w.params) (.ref c) x = some attr /\ noGet (Kf w.params) attr = true /\ P r
theorem e_attr (b : Base w hB) {e : Expr} {x : Str} {pos : Pos} {Q} (hn : notCallName e = true)
    (h : RV w hB A env (eval e env) vs H fun a vs' H' => AttrP w x a H' fun r => Q r vs' H') :
    RV w hB A env (eval (.Attribute e x pos) env) vs H Q := fun ρ s K O k => by
  have he : eval (.Attribute e x pos) env = (do
      let o <- eval e env
      standAt (Pos.atName pos)
      let r <- holding [o] (getAttr o x true)
      letTemporaryGo e o r
      pure r) := by
    show (attributeBase e x env (eval e env) >>= _) = _
    rw [base_of hn]
  refine Attribute_any_ ?_ he
  refine h ρ s _ O fun v a ρ' vs' H' s' O' S r q => ?_
  obtain ⟨o, c, d, fs, y, attr, rfl, h1, h2, h3, h4, h5, h6, h7, h8, hq⟩ := q
  cases r
  obtain ⟨ds, n, I, R⟩ := inst_at O' h1 h2
  obtain ⟨v, g, r⟩ := er_find R h3
  obtain ⟨m, F⟩ := O'.lib
  exact get_own F b.kin I h5 h6 h7 h8 g (r.handed h4) (k _ y ρ' vs' H' _ (O'.toks _) (S.trans (.toks _)) r hq)
end
noncomputable def upd (H : AHeap) (o : Oid) (ao : AO) : AHeap := fun i => if i = o then some ao else H i
noncomputable def updR (ρ : Rho) (o : Oid) (a : Addr) : Rho := fun i => if i = o then a else ρ i
theorem upd_self {H : AHeap} {o : Oid} {ao : AO} : upd H o ao o = some ao := if_pos rfl
theorem upd_ne {H : AHeap} {o i : Oid} {ao : AO} (h : i ≠ o) : upd H o ao i = H i := if_neg h
theorem updR_self {ρ : Rho} {o : Oid} {a : Addr} : updR ρ o a o = a := if_pos rfl
theorem updR_ne {ρ : Rho} {o i : Oid} {a : Addr} (h : i ≠ o) : updR ρ o a i = ρ i := if_neg h
noncomputable def updV (vs : VS) (x : Str) (a : AV) : VS := fun y => if y = x then some a else vs y
section
variable {w : World} {hB : Heap} {A : Around} {env : Env} {vs : VS} {H : AHeap} {ρ : Rho} {s : Shared}
theorem Ok.loc_lt (O : Ok w hB env vs H ρ s) : ∃ o es n, s.heap.get? env.locals = some o /\ o.data = .dict es n := by
  obtain ⟨m, ⟨o, es, ep, h1, h2, _⟩, _⟩ := O.fr.loc
  exact ⟨o, es, ep, h1, h2⟩
theorem Ok.not_cell (O : Ok w hB env vs H ρ s) {a : Addr} {v : Option Value} (h : s.heap.IsCell a v) : (∀ i, H i ≠ Option.none -> a ≠ ρ i) /\ a ≠ env.locals := by
  obtain ⟨ob, h0, h0'⟩ := h
  refine ⟨fun i hi e => ?_, fun e => ?_⟩
  · subst e
    obtain ⟨ao, hao⟩ := Option.ne_none_iff_exists'.mp hi
    have := O.objs i ao hao
    cases ao with
    | list xs => obtain ⟨vs, n, h1, _⟩ := this; rw [h0] at h1; cases h1; simp at h0'
    | fields es => obtain ⟨ds, n, h1, _⟩ := this; rw [h0] at h1; cases h1; simp at h0'
    | sdict es => obtain ⟨ds, ⟨o, es, ep, h1, _, h2, _⟩, _⟩ := this; rw [h0] at h1; cases h1; rw [h0'] at h2; cases h2
    | ndict es => obtain ⟨ds, ⟨o, es, ep, h1, _, h2, _⟩, _⟩ := this; rw [h0] at h1; cases h1; rw [h0'] at h2; cases h2
    | inst c d => have := this.1; rw [h0] at this; cases this; simp at h0'
  · subst e
    obtain ⟨o, es, n, h1, h2⟩ := O.loc_lt
    rw [h0] at h1; cases h1; rw [h0'] at h2; cases h2
theorem Ok.oat (O : Ok w hB env vs H ρ s) {i : Oid} (hi : H i ≠ Option.none) : ∃ x, s.heap.get? (ρ i) = some x := by
  obtain ⟨ao, hao⟩ := Option.ne_none_iff_exists'.mp hi
  have z := O.objs i ao hao
  cases ao with
  | list xs => obtain ⟨ys, n, h1, h2⟩ := z; exact ⟨_, h1⟩
  | fields es => obtain ⟨ds, n, h1, h2⟩ := z; exact ⟨_, h1⟩
  | sdict es => obtain ⟨ds, ⟨x, _, _, h1, _⟩, h2⟩ := z; exact ⟨_, h1⟩
  | ndict es => obtain ⟨ds, ⟨x, _, _, h1, _⟩, h2⟩ := z; exact ⟨_, h1⟩
  | inst c d => exact ⟨_, z.1⟩
theorem OR.keep (O : Ok w hB env vs H ρ s) {s' : Shared} (S : Step env ρ H s ρ H s') {i : Oid} {ao : AO} (h : H i = some ao) (k : ∀ x, s.heap.get? (ρ i) = some x -> s'.heap.get? (ρ i) = some x) : OR w s'.heap ρ H (ρ i) ao := OR.step O S h k
theorem Ok.setObj (O : Ok w hB env vs H ρ s) {o : Oid} {ao : AO} {ρ' : Rho} {s' : Shared} (hρ : ∀ i, i ≠ o -> ρ' i = ρ i)
    (hc : (Mv H o /\ ρ' o = ρ o) ∨ (H o = Option.none /\ s.heap.objs.size <= ρ' o))
    (k : ∀ b x, s.heap.get? b = some x -> b ≠ ρ' o -> s'.heap.get? b = some x) (hlv : ∃ y, s'.heap.get? (ρ' o) = some y) (hg : s'.gens = s.gens) (hos : s'.os = s.os)
    (hob : Step env ρ H s ρ' (upd H o ao) s' -> OR w s'.heap ρ' (upd H o ao) (ρ' o) ao) : Ok w hB env vs (upd H o ao) ρ' s' /\ Step env ρ H s ρ' (upd H o ao) s' := by
  have old : ∀ b x, s.heap.get? b = some x -> (∀ i, Mv H i -> b ≠ ρ i) -> b ≠ ρ' o := fun b x hx hn e => by
    rcases hc with ⟨h1, h2⟩ | ⟨h1, h2⟩
    · exact hn o h1 (e.trans h2)
    · have := Heap.lt_size hx; rw [e] at this; exact absurd this (Nat.not_lt.mpr h2)
  have dm : ∀ i, H i ≠ Option.none -> upd H o ao i ≠ Option.none := fun i hi => by
    by_cases q : i = o
    · subst q; rw [upd_self]; simp
    · rw [upd_ne q]; exact hi
  have S : Step env ρ H s ρ' (upd H o ao) s' := ⟨dm, fun i hi => by
      by_cases q : i = o
      · subst q
        rcases hc with ⟨_, h2⟩ | ⟨h1, _⟩
        · exact h2
        · exact absurd h1 hi
      · exact hρ i q, fun i h1 h2 => by
      by_cases q : i = o
      · subst q
        rcases hc with ⟨h3, _⟩ | ⟨_, h3⟩
        · exact absurd h2 h3.1
        · exact none_of_le h3
      · rw [upd_ne q] at h1; exact absurd h2 h1, fun b x hx => if e : b = ρ' o then e ▸ hlv else ⟨x, k b x hx e⟩, fun b x hx hn _ _ => k b x hx (old b x hx hn), hos⟩
  have nb : ∀ b x, hB.get? b = some x -> b ≠ ρ' o := fun b x hx e => by
    have h0 := Heap.lt_size hx
    rw [e] at h0
    rcases hc with ⟨h1, h2⟩ | ⟨h1, h2⟩
    · rw [h2] at h0; exact absurd h0 (Nat.not_lt.mpr (O.big o h1.1))
    · exact absurd h0 (Nat.not_lt.mpr (Nat.le_trans O.size h2))
  have nl : ρ' o ≠ env.locals := fun e => by
    rcases hc with ⟨h1, h2⟩ | ⟨h1, h2⟩
    · exact O.nL o h1.1 (h2.symm.trans e)
    · obtain ⟨ob, _, _, h3, _⟩ := O.loc_lt
      have := Heap.lt_size h3
      rw [<- e] at this; exact absurd this (Nat.not_lt.mpr h2)
  have ncl : ∀ c v, s.heap.IsCell c v -> c ≠ ρ' o := fun c v h e => by
    rcases hc with ⟨h1, h2⟩ | ⟨h1, h2⟩
    · exact (O.not_cell h).1 o h1.1 (e.trans h2)
    · obtain ⟨ob, h3, _⟩ := h
      have := Heap.lt_size h3
      rw [e] at this; exact absurd this (Nat.not_lt.mpr h2)
  have kc : ∀ c v, s.heap.IsCell c v -> s'.heap.IsCell c v := fun c v h => by
    obtain ⟨ob, h3, h4⟩ := h
    exact ⟨ob, k _ _ h3 (ncl c v ⟨ob, h3, h4⟩), h4⟩
  have aux : ∀ i, i ≠ o -> H i ≠ Option.none -> ρ i ≠ ρ' o := fun i q hi e => by
    rcases hc with ⟨h1, h2⟩ | ⟨h1, h2⟩
    · exact q (O.inj i o hi h1.1 (e.trans h2))
    · obtain ⟨x, hx⟩ := O.oat hi
      have := Heap.lt_size hx
      rw [e] at this; exact absurd this (Nat.not_lt.mpr h2)
  refine ⟨⟨fun b x e => k _ _ (O.base b x e) (nb b x e), O.last, fun i ao' h => ?_, fun i hi => ?_, fun i j hi hj e => ?_, O.fr.map (VR.mono O S) (fun x hx => k _ x hx (Ne.symm nl)) (fun _ c v _ => kc c v), fun i hi => ?_, O.bigL, fun p hp => ?_, O.cinj, O.kind, O.glob, O.bi, hg.trans O.gens⟩, S⟩
  · by_cases q : i = o
    · subst q; rw [upd_self] at h; cases h; exact hob S
    · rw [upd_ne q] at h
      have hi : H i ≠ Option.none := by rw [h]; simp
      rw [hρ i q]
      exact OR.step O S h fun x hx => k _ x hx (aux i q hi)
  · by_cases q : i = o
    · subst q
      rcases hc with ⟨h1, h2⟩ | ⟨h1, h2⟩
      · rw [h2]; exact O.big i h1.1
      · exact Nat.le_trans O.size h2
    · rw [upd_ne q] at hi; rw [hρ i q]; exact O.big i hi
  · by_cases q : i = o
    · by_cases q' : j = o
      · rw [q, q']
      · subst q
        rw [upd_ne q'] at hj
        rw [hρ j q'] at e
        exact absurd e.symm (aux j q' hj)
    · rw [upd_ne q] at hi
      rw [hρ i q] at e
      by_cases q' : j = o
      · subst q'; exact absurd e (aux i q hi)
      · rw [upd_ne q'] at hj
        rw [hρ j q'] at e
        exact O.inj i j hi hj e
  · by_cases q : i = o
    · subst q; exact nl
    · rw [upd_ne q] at hi; rw [hρ i q]; exact O.nL i hi
  · obtain ⟨h1, v, h2⟩ := O.bigC p hp
    exact ⟨h1, v, kc _ _ h2⟩
theorem Ok.newList (O : Ok w hB env vs H ρ s) {o : Oid} {xs : List AV} {ys : List Value} (ho : H o = Option.none) (r : VRs s.heap ρ H xs ys) (n : Nat) :
    let s' : Shared := { s with heap := s.heap.push { cls := .type "list", data := .seq ys.toArray }, toks := n }
    Ok w hB env vs (upd H o (.list xs)) (updR ρ o s.heap.objs.size) s' /\ Step env ρ H s (updR ρ o s.heap.objs.size) (upd H o (.list xs)) s' :=
  O.setObj (fun i q => updR_ne q) (.inr ⟨ho, by rw [updR_self]; exact Nat.le_refl _⟩) (fun b x hx _ => Heap.get?_push_of_some _ hx) ⟨_, by rw [updR_self]; exact Heap.get?_push_size _ rfl⟩ rfl rfl
    fun S => ⟨ys, 0, by rw [updR_self]; exact Heap.get?_push_size _ rfl, r.mono O S⟩
end
noncomputable def AOk (n : Nat) (A : Around) : Prop := A.handled = none /\ A.depth + 2 * n <= 900 /\ A.units + 20 * n <= 9000
theorem AOk.mono {n m : Nat} {A : Around} (h : AOk n A) (l : m <= n) : AOk m A := ⟨h.1, by have := h.2.1; lia, by have := h.2.2; lia⟩
theorem AOk.deeper {n : Nat} {A : Around} {env : Env} (h : AOk (n + 1) A) : AOk n (A.deeper env) := ⟨h.1, by have := h.2.1; show A.depth + 1 + 2 * n <= 900; lia, by have := h.2.2; show A.units + 3 + 20 * n <= 9000; lia⟩
noncomputable def Spec (w : World) (hB : Heap) (n : Nat) (f : Value) (as : List AV) (H : AHeap) (Q : AV -> AHeap -> Prop) : Prop :=
  ∀ (A : Around) (env : Env) (vs : VS) (ρ : Rho) (s : Shared) (K : Value -> Shared -> Prop) (vals : List Value), AOk n A -> Ok w hB env vs H ρ s -> VRs s.heap ρ H as vals ->
    (∀ v a ρ' H' s', Ok w hB env vs H' ρ' s' -> Step env ρ H s ρ' H' s' -> VR s'.heap ρ' H' a v -> Q a H' -> K v s') -> wpAny (model pw w) A (call f vals) K (fun _ _ => False) s
noncomputable def SpecC (w : World) (hB : Heap) (n : Nat) (f : Value) (as : List AV) (H : AHeap) (Q : AV -> AHeap -> Prop) : Prop :=
  ∀ (A : Around) (env : Env) (vs : VS) (ρ : Rho) (s : Shared) (K : Value -> Shared -> Prop) (vals : List Value), AOk n A -> Ok w hB env vs H ρ s -> VRs s.heap ρ H as vals ->
    (∀ v a ρ' H' s', Ok w hB env vs H' ρ' s' -> Step env ρ H s ρ' H' s' -> VR s'.heap ρ' H' a v -> Q a H' -> K v s') -> codeAny (model pw w) A (.call f ⟨vals, []⟩) (fun r s' => match r with | .ok (.ret v) => K v s' | .ok _ => False | .error e => False) s
theorem SpecC.spec {w : World} {hB : Heap} {n : Nat} {f : Value} {as : List AV} {H : AHeap} {Q : AV -> AHeap -> Prop} (h : SpecC w hB n f as H Q) : Spec w hB n f as H Q := fun A env vs ρ s K vals hA O hv k => wpAny_call (h A env vs ρ s K vals hA O hv k)
noncomputable def vsOf (names : List Str) (as : List AV) : VS := fun x => (names.zip as).reverse.lookup x
section
variable {w : World} {hB : Heap} {A : Around} {env : Env} {vs : VS} {H : AHeap} {ρ : Rho} {s : Shared}
theorem Ok.back (O : Ok w hB env vs H ρ s) {env' vs' H' ρ' s'} (O' : Ok w hB env' vs' H' ρ' s') (S : Step env ρ H s ρ' H' s')
    (hl : ∀ o, s.heap.get? env.locals = some o -> s'.heap.get? env.locals = some o) (hc : ∀ c v, s.heap.IsCell c v -> (∃ p ∈ env.cells, p.2 = c) -> s'.heap.IsCell c v) : Ok w hB env vs H' ρ' s' := by
  have lk : ∀ {x c}, env.cells.lookup x = some c -> ∃ p ∈ env.cells, p.2 = c := fun {x c} h => by
    obtain ⟨p, hp, h1⟩ : ∃ p ∈ env.cells, p = (x, c) := by
      generalize env.cells = l at h
      induction l with
      | nil => simp at h
      | cons q l ih =>
        obtain ⟨y, d⟩ := q
        rw [List.lookup_cons] at h
        by_cases e : x = y
        · subst e; simp at h; subst h; exact ⟨_, .head _, rfl⟩
        · have : (x == y) = false := by simpa using e
          rw [this] at h
          obtain ⟨p, hp, h1⟩ := ih h
          exact ⟨p, .tail _ hp, h1⟩
    exact ⟨p, hp, by rw [h1]⟩
  refine ⟨O'.base, O'.last, O'.objs, O'.big, O'.inj, ⟨?_, fun x hx => ?_, fun x a hx hv => ?_⟩, fun o ho => ?_, O.bigL, fun p hp => ?_, O.cinj, O.kind, O.glob, O.bi, O'.gens⟩
  · obtain ⟨m, hm, hv⟩ := O.fr.loc
    exact ⟨m, Heap.Ns.keepAt hm hl, fun x a h1 h2 => let ⟨v, e, r⟩ := hv x a h1 h2; ⟨v, e, r.mono O S⟩⟩
  · obtain ⟨c, v₀, h1, h2, h3⟩ := O.fr.cel x hx
    exact ⟨c, v₀, h1, hc _ _ h2 (lk h1), fun a ha => let ⟨v, e, r⟩ := h3 a ha; ⟨v, e, r.mono O S⟩⟩
  · obtain ⟨c, v, h1, h2, h3⟩ := O.fr.fre x a hx hv
    exact ⟨c, v, h1, hc _ _ h2 (lk h1), h3.mono O S⟩
  · by_cases q : H o = Option.none
    · obtain ⟨ob, _, _, h3, _⟩ := O.loc_lt
      have h5 := S.new o ho q
      intro e; rw [e, h3] at h5; cases h5
    · rw [S.rho o q]; exact O.nL o q
  · obtain ⟨h1, v, h2⟩ := O.bigC p hp
    exact ⟨h1, v, hc _ _ h2 ⟨p, hp, rfl⟩⟩
theorem VRs.len {h : Heap} {xs : List AV} {ys : List Value} (r : VRs h ρ H xs ys) : xs.length = ys.length := by
  revert ys
  induction xs with
  | nil => intro ys r; cases r; rfl
  | cons x xs ih => intro ys r; cases r with | cons hx hs => simp [ih hs]
theorem VRs.append {h : Heap} {xs xs' : List AV} {ys ys' : List Value} (r : VRs h ρ H xs ys) (r' : VRs h ρ H xs' ys') : VRs h ρ H (xs ++ xs') (ys ++ ys') := by
  revert ys
  induction xs with
  | nil => intro ys r; cases r; exact r'
  | cons x xs ih => intro ys r; cases r with | cons hx hs => exact .cons hx (ih hs)
theorem zip_rel {h : Heap} {names : List Str} {xs : List AV} {ys : List Value} (r : VRs h ρ H xs ys) {x : Str} {a : AV} (e : (names.zip xs).reverse.lookup x = some a) :
    ∃ v, (names.zip ys).reverse.lookup x = some v /\ VR h ρ H a v := by
  suffices g : ∀ (names : List Str) (xs : List AV) (ys : List Value), VRs h ρ H xs ys -> ∀ (acc : List (Str × AV)) (acc' : List (Str × Value)),
      (∀ a, acc.lookup x = some a -> ∃ v, acc'.lookup x = some v /\ VR h ρ H a v) ->
      ∀ a, ((names.zip xs).reverse ++ acc).lookup x = some a -> ∃ v, ((names.zip ys).reverse ++ acc').lookup x = some v /\ VR h ρ H a v by
    have := g names xs ys r [] [] (fun a h => by simp at h) a (by simpa using e)
    simpa using this
  intro names
  induction names with
  | nil => intro xs ys r acc acc' h1 a h2; simpa using h1 a (by simpa using h2)
  | cons y names ih =>
    intro xs ys r acc acc' h1 a h2
    cases r with
    | nil => simpa using h1 a (by simpa using h2)
    | @cons x0 v0 xs ys hx hs =>
      have := ih xs ys hs ((y, x0) :: acc) ((y, v0) :: acc') (fun a h => by
        rw [List.lookup_cons] at h ⊢
        by_cases q : x = y
        · subst q; simp at h; subst h; exact ⟨v0, by simp, hx⟩
        · have : (x == y) = false := by simpa using q
          rw [this] at h ⊢
          exact h1 a h) a (by simpa [List.zip_cons_cons, List.reverse_cons, List.append_assoc] using h2)
      simpa [List.zip_cons_cons, List.reverse_cons, List.append_assoc] using this
noncomputable def retOf (Q : AV -> AHeap -> Prop) : Out -> VS -> AHeap -> Prop := fun o _ H' => match o with
  | .ret a => Q a H'
  | .next => Q .none H'
  | _ => False
theorem spec_defC (b : Base w hB) {fa : Addr} {o : Obj} {fd : FuncData} {body : List Stmt} {n : Nat} {as as' : List AV} {Q : AV -> AHeap -> Prop} (names : List Str)
    (ho : (hl w.params)[fa]? = some o) (hd : o.data = .func fd) (hb : fd.body = .stmts body) (hcode : ∃ c co vs t, fd.code = .ref c /\ (hl w.params)[c]? = some co /\ co.data = .fields vs /\ vs[1]? = some (.str fd.qualname t))
    (bind : ∀ (s : Shared) (ρ : Rho) (vals : List Value), (∀ b o, hB.get? b = some o -> s.heap.get? b = some o) -> VRs s.heap ρ H as vals -> ∃ bv, BindsTo s fd ⟨vals, []⟩ (names.zip bv) /\ VRs s.heap ρ H as' bv)
    (hcell : ∀ x ∈ fd.scope.names, x.2 ≠ .cell) (hloc : ∀ x ∈ names, fd.scope.names.lookup x = some .local)
    (hco : fd.scope.isCoroutine = false) (hgen : fd.scope.isGenerator = false) (hk : fd.scope.kind = .function) (hgl : fd.globals = mainGlobals) (hbi : fd.builtins = builtinsNs) (hcl : fd.closure = [])
    (run : ∀ (L : Addr) (A' : Around), AOk n A' -> RS w hB A' (callEnv fd L fa) (execs body (callEnv fd L fa)) (vsOf names as') H (retOf Q)) : SpecC w hB (n + 1) (.ref fa) as H Q := by
  intro A env vs ρ s K vals hA O hv k
  obtain ⟨bv, hbind, hr⟩ := bind s ρ vals O.base hv
  have hzl : ∀ x ∈ names.zip bv, fd.scope.names.lookup x.1 = some .local := fun x hx => hloc _ (List.of_mem_zip hx).1
  refine codeAny_call_def (binds := names.zip bv) (by have := hA.2.1; unfold recursionLimit; lia) (O.base _ _ (b _ _ ho)) hd (b.nolim.keeps O.base) ?_ hb hbind hcell hzl (fun h₀ hns hk₀ => ?_) hco hgen hk
  · obtain ⟨c, co, cv, t, h1, h2, h3, h4⟩ := hcode
    exact ⟨c, co, cv, t, h1, O.base _ _ (b _ _ h2), h3, h4⟩
  · have hlt : ∀ bb x, s.heap.get? bb = some x -> bb ≠ s.heap.objs.size := fun bb x e q => by have := Heap.lt_size e; rw [q] at this; exact Nat.lt_irrefl _ this
    have hsz : s.heap.objs.size <= h₀.objs.size := by
      obtain ⟨ob, _, _, h1, _⟩ := hns
      exact Nat.le_of_lt (Heap.lt_size h1)
    let s0 : Shared := { s with heap := h₀, toks := s.toks + (names.zip bv).length }
    let E' := callEnv fd s.heap.objs.size fa
    obtain ⟨O1, S1⟩ := O.ext (s' := s0) hk₀ hsz rfl rfl
    have O0 : Ok w hB E' (vsOf names as') H ρ s0 := by
      refine ⟨O1.base, O1.last, O1.objs, O1.big, O1.inj, ⟨⟨_, hns, fun x a h1 h2 => ?_⟩, fun x hx => ?_, fun x a hx hv' => ?_⟩, fun i hi e => ?_, O.size, fun p hp => ?_, (fun x y c h _ => by have e : E'.cells = [] := hcl; rw [e] at h; simp at h), hk, hgl, hbi, O1.gens⟩
      · exact zip_rel (VRs.mono O S1 hr) h2
      · exfalso
        have : (fd.scope.names.lookup x) = some .cell := hx
        obtain ⟨p, hp, hp2⟩ : ∃ p ∈ fd.scope.names, p.2 = .cell := by
          generalize fd.scope.names = l at this
          induction l with
          | nil => simp at this
          | cons q l ih =>
            obtain ⟨y, d⟩ := q
            rw [List.lookup_cons] at this
            by_cases e : x = y
            · subst e; simp at this; exact ⟨_, .head _, this⟩
            · have q' : (x == y) = false := by simpa using e
              rw [q'] at this
              obtain ⟨p, hp, h1⟩ := ih this
              exact ⟨p, .tail _ hp, h1⟩
        exact hcell p hp hp2
      · exfalso
        have h2 : (names.zip as').reverse.lookup x = some a := hv'
        have : x ∈ names := by
          have : ∃ p ∈ (names.zip as').reverse, p.1 = x := by
            generalize (names.zip as').reverse = l at h2
            induction l with
            | nil => simp at h2
            | cons q l ih =>
              obtain ⟨y, d⟩ := q
              rw [List.lookup_cons] at h2
              by_cases e : x = y
              · subst e; exact ⟨_, .head _, rfl⟩
              · have q' : (x == y) = false := by simpa using e
                rw [q'] at h2
                obtain ⟨p, hp, h1⟩ := ih h2
                exact ⟨p, .tail _ hp, h1⟩
          obtain ⟨p, hp, rfl⟩ := this
          exact (List.of_mem_zip (List.mem_reverse.mp hp)).1
        have e := hloc x this
        have e' : fd.scope.names.lookup x = some .free := hx
        rw [e] at e'; cases e'
      · obtain ⟨ao, hao⟩ := Option.ne_none_iff_exists'.mp hi
        have z := O.objs i ao hao
        have : ∃ x, s.heap.get? (ρ i) = some x := by
          cases ao with
          | list xs => obtain ⟨ys, n, h1, h2⟩ := z; exact ⟨_, h1⟩
          | fields es => obtain ⟨ds, n, h1, h2⟩ := z; exact ⟨_, h1⟩
          | sdict es => obtain ⟨ds, ⟨x, _, _, h1, _⟩, h2⟩ := z; exact ⟨_, h1⟩
          | ndict es => obtain ⟨ds, ⟨x, _, _, h1, _⟩, h2⟩ := z; exact ⟨_, h1⟩
          | inst c d => exact ⟨_, z.1⟩
        obtain ⟨x, hx⟩ := this
        exact hlt _ x hx e
      · have : E'.cells = fd.closure := rfl
        rw [this, hcl] at hp; cases hp
    have hcells : E'.cells = [] := hcl
    have fin : ∀ v a ρ' vs' H' s', Ok w hB E' vs' H' ρ' s' -> Step E' ρ H s0 ρ' H' s' -> VR s'.heap ρ' H' a v -> Q a H' -> K v s' := fun v a ρ' vs' H' s' O' S' r q => by
      have kp : ∀ bb x, s.heap.get? bb = some x -> (∀ i, Mv H i -> bb ≠ ρ i) -> s'.heap.get? bb = some x := fun bb x hx hn =>
        S'.keep bb x (hk₀ bb x hx) hn (hlt bb x hx) (by rw [hcells]; intro p hp; cases hp)
      have S2 : Step env ρ H s ρ' H' s' := ⟨S'.dom, S'.rho, fun i h1 h2 => (match h3 : s.heap.get? (ρ' i) with | none => rfl | some x => by have h4 := hk₀ _ _ h3; have h5 : h₀.get? (ρ' i) = none := S'.new i h1 h2; rw [h5] at h4; cases h4), fun bb x h => S'.live bb x (hk₀ _ _ h), fun bb x hx hn _ _ => kp bb x hx hn, S'.os⟩
      refine k v a ρ' H' s' (O.back O' S2 (fun x hx => ?_) (fun c v' hcv _ => ?_)) S2 r q
      · exact kp _ x hx (fun i hi e => O.nL i hi.1 e.symm)
      · obtain ⟨ob, h1, h2⟩ := hcv
        exact ⟨ob, kp _ _ h1 (fun i hi => (O.not_cell ⟨ob, h1, h2⟩).1 i hi.1), h2⟩
    refine wpAny_mono (run s.heap.objs.size (A.deeper E') hA.deeper ρ s0 (fun f s' => match f with | .ret v => K v s' | .next => K .none s' | _ => False) O0 fun f out ρ' vs' H' s' O' S' r q => ?_) (fun f s' h => ?_) (fun _ _ h => h.elim)
    · cases out with
      | ret a => cases f <;> first | exact r.elim | exact fin _ a ρ' vs' H' s' O' S' r q
      | next => cases f <;> first | exact r.elim | exact fin _ .none ρ' vs' H' s' O' S' .none q
      | brk => exact q.elim
      | cont => exact q.elim
    · cases f <;> first | exact h | exact h.elim
end
end Mine
namespace Mine
open PySem PySem.W PySem.Calls PyProof.Rows
theorem sizeLine_big {n : Nat} (h : n <= 1000000) : n <= sizeLine := by unfold sizeLine; omega
section
variable {w : World} {hB : Heap} {A : Around} {env : Env} {vs : VS} {H : AHeap} {ρ : Rho} {s : Shared}
theorem Ok.listAt (O : Ok w hB env vs H ρ s) {o : Oid} {xs : List AV} (ho : H o = some (.list xs)) : ∃ ys n, s.heap.get? (ρ o) = some (W.listOf (List.toArray ys) n) /\ VRs s.heap ρ H xs ys := O.objs o _ ho
theorem Ok.turnList (O : Ok w hB env vs H ρ s) {o : Oid} (nz : o ≠ zO) {xs xs' : List AV} (ho : H o = some (.list xs)) {ys ys' : List Value} {n : Nat} (hl : s.heap.get? (ρ o) = some (W.listOf (List.toArray ys) n)) {f : Array Value -> Array Value}
    (hf : f (List.toArray ys) = List.toArray ys') (r : VRs s.heap ρ H xs' ys') (tk : Nat) :
    Ok w hB env vs (upd H o (.list xs')) ρ { s with heap := s.heap.update (ρ o) (Obj.mapSeq f), toks := tk } /\ Step env ρ H s ρ (upd H o (.list xs')) { s with heap := s.heap.update (ρ o) (Obj.mapSeq f), toks := tk } := by
  have ne : H o ≠ Option.none := by rw [ho]; simp
  refine O.setObj (fun i q => rfl) (.inl ⟨⟨ne, nz⟩, rfl⟩) (fun b x hx hb => ?_) ⟨_, IsL.update (h := s.heap) hl f⟩ rfl rfl fun S => ?_
  · exact (Heap.get?_update_ne _ _ _ _ hb).trans hx
  · have := IsL.update (h := s.heap) hl f
    rw [hf] at this
    exact ⟨ys', _, this, r.mono O S⟩
theorem VRs.get {h : Heap} {xs : List AV} {ys : List Value} (r : VRs h ρ H xs ys) {i : Nat} {a : AV} (e : xs[i]? = some a) : ∃ v, ys[i]? = some v /\ VR h ρ H a v := by
  induction xs generalizing ys i with
  | nil => simp at e
  | cons x xs ih =>
    cases r with
    | cons hx hs =>
      cases i with
      | zero => simp at e; subst e; exact ⟨_, rfl, hx⟩
      | succ i => simp at e; obtain ⟨v, h1, h2⟩ := ih hs e; exact ⟨v, by simpa using h1, h2⟩
theorem VRs.take {h : Heap} {xs : List AV} {ys : List Value} (r : VRs h ρ H xs ys) (i : Nat) : VRs h ρ H (xs.take i) (ys.take i) := by
  induction xs generalizing ys i with
  | nil => cases r; simp; exact .nil
  | cons x xs ih =>
    cases r with
    | cons hx hs => cases i with
      | zero => simp; exact .nil
      | succ i => simp; exact .cons hx (ih hs _)
theorem VRs.drop {h : Heap} {xs : List AV} {ys : List Value} (r : VRs h ρ H xs ys) (i : Nat) : VRs h ρ H (xs.drop i) (ys.drop i) := by
  induction xs generalizing ys i with
  | nil => cases r; simp; exact .nil
  | cons x xs ih =>
    cases r with
    | cons hx hs => cases i with
      | zero => simp; exact .cons hx hs
      | succ i => simp; exact ih hs _
theorem VRs.set {h : Heap} {xs : List AV} {ys : List Value} (r : VRs h ρ H xs ys) (i : Nat) {a : AV} {v : Value} (ha : VR h ρ H a v) : VRs h ρ H (xs.set i a) (ys.set i v) := by
  induction xs generalizing ys i with
  | nil => cases r; simp; exact .nil
  | cons x xs ih =>
    cases r with
    | cons hx hs => cases i with
      | zero => simp; exact .cons ha hs
      | succ i => simp; exact .cons hx (ih hs _)
set_option tactic.hygienic true in
theorem erase_last (ys : List Value) : (List.toArray ys).eraseIdxIfInBounds ((List.toArray ys).size - 1) = List.toArray ys.dropLast := by
  rw [Array.eraseIdxIfInBounds]
  split
  · rename_i h
    apply Array.ext'
    rw [Array.toList_eraseIdx]
    rw [List.eraseIdx_eq_take_drop_succ, List.dropLast_eq_take]
    simp only [List.size_toArray, List.toList_toArray] at h ⊢
    rw [List.drop_eq_nil_of_le (by omega), List.append_nil]
  · rename_i h
    have : ys = [] := by
      cases ys with
      | nil => rfl
      | cons y ys => simp at h
    subst this
    rfl
theorem sp_append {n : Nat} {o : Oid} {a : AV} {xs : List AV} {Q : AV -> AHeap -> Prop} (ho : H o = some (.list xs)) (hz : xs.length <= 1000000) (h : Q .none (upd H o (.list (xs ++ [a])))) (nz : o ≠ zO := by first | assumption | nofun) :
    Spec w hB n (.builtin "list.append") [.ref o, a] H Q := fun A env vs ρ s K vals hA O hv k => by
  cases hv with
  | cons hx hv => cases hx with
    | ref _ _ => cases hv with
      | @cons _ v _ _ ha hv =>
        cases hv
        obtain ⟨ys, m, hl, r⟩ := O.listAt ho
        refine call_meets PySem.F.slot_list_append ⟨_, hl, rfl⟩ PySem.F.entry_list_append (PySem.F.args_list_append_2 _ _) (list_append (ρ o) _ m v (by rw [List.size_toArray, <- r.len]; exact sizeLine_big hz)) ⟨hl, ?_⟩
        obtain ⟨O', S⟩ := O.turnList nz ho hl (f := fun x => x.push v) (ys' := ys ++ [v]) (xs' := xs ++ [a]) (by simp) (r.append (.cons ha .nil)) s.toks
        exact k _ .none _ _ _ O' S .none h
theorem sp_pop {n : Nat} {o : Oid} {a : AV} {xs : List AV} {Q : AV -> AHeap -> Prop} (ho : H o = some (.list xs)) (hz : xs.length <= 1000000) (hl : xs.getLast? = some a) (h : Q a (upd H o (.list xs.dropLast))) (nz : o ≠ zO := by first | assumption | nofun) :
    Spec w hB n (.builtin "list.pop") [.ref o] H Q := fun A env vs ρ s K vals hA O hv k => by
  cases hv with
  | cons hx hv => cases hx with
    | ref _ _ =>
        cases hv
        obtain ⟨ys, m, hl', r⟩ := O.listAt ho
        have hlast : xs[xs.length - 1]? = some a := by rw [<- List.getLast?_eq_getElem?]; exact hl
        obtain ⟨v, hv, hr⟩ := r.get hlast
        refine call_meets PySem.F.slot_list_pop ⟨_, hl', rfl⟩ PySem.F.entry_list_pop (PySem.F.args_list_pop_1 _) (MeetsSeq.list_pop_last (ρ o) _ m v (by simp [<- r.len, hv]) (by rw [List.size_toArray, <- r.len]; exact sizeLine_big hz)) ⟨hl', ?_⟩
        obtain ⟨O', S⟩ := O.turnList nz ho hl' (f := fun x => x.eraseIdxIfInBounds ((List.toArray ys).size - 1)) (ys' := ys.dropLast) (xs' := xs.dropLast) (by
          exact erase_last ys) (by rw [List.dropLast_eq_take, List.dropLast_eq_take, <- r.len]; exact r.take _) s.toks
        exact k _ a _ _ _ O' S (hr.mono O S) h
end
section
variable {w : World} {hB : Heap} {A : Around} {env : Env} {vs : VS} {H : AHeap} {ρ : Rho} {s : Shared}
set_option tactic.hygienic true in
theorem code_setattr {K : Frag} {x dx C : Addr} {name : Str} {tk : Tok} {v : Value} {es : List DictEntry} {n : Nat} {R : Result -> Shared -> Prop} (X : K.In s.heap) (hx : s.heap.get? x = some (instObj C dx)) (hdx : s.heap.get? dx = some (dictOf es n))
    (hp : plainOver K C = true) (ht : takerIn K C name = some none) (hh : hasDictIn K C = true) (hl : (getL name es).isSome = true) (hz : es.length <= 900)
    (h : R (.ok (.ret .none)) { s with heap := s.heap.update dx (Obj.putName name (PyData.keyHash w.params name) (.str name s.toks) v), toks := s.toks + 1 }) :
    codeAny (model pw w) A (.call (.builtin "object.__setattr__") ⟨[.ref x, .str name tk, v], []⟩) R s := by
  have I : W.InstAt s.heap x (instObj C dx) C (some (dictOf es n)) := ⟨hx, rfl, rfl, hdx⟩
  refine osa_open (r := none) X I hp ht fun b => ?_
  obtain ⟨cd, hc, hd⟩ := any_some hh
  refine wpAny_bind (wpAny_pure (wpAny_bind (wpAny_bind (wpAny_loadPart hx (wpAny_bind ((looks_clsIn X hc).here ?_))))))
  rw [hd]
  refine wpAny_pure (a := some dx) (wpAny_bind (wpAny_pure (wpAny_bind ?_)))
  unfold nsSet
  refine wpAny_bind (wpAny_bind (wpAny_askSetting (wpAny_pure (wpAny_bind (wpAny_mkText (wpAny_bind (wpAny_loadPart hdx ?_)))))))
  have c : (!es.toArray.any (·.key.isStr name) && es.toArray.any (·.refKey)) = false := by
    rw [<- Array.any_toList, <- Array.any_toList]
    unfold getL at hl
    cases hf : es.find? (·.key.isStr name) with
    | some en =>
      have := List.find?_some hf
      have h2 := List.mem_of_find?_eq_some hf
      have : es.any (·.key.isStr name) = true := List.any_eq_true.mpr ⟨en, h2, this⟩
      simp [this]
    | none =>
      rw [hf] at hl
      dsimp only at hl
      split at hl
      · cases hl
      · rename_i q
        have : es.any (·.refKey) = false := by simpa using q
        simp [this]
  dsimp only
  rw [aRefKeyMayBeTheName_at, c]
  refine wpAny_updatePart hdx ?_
  have len : (putL name (PyData.keyHash w.params name) (.str name s.toks) v es).length <= es.length + 1 := by
    generalize PyData.keyHash w.params name = hh'
    clear hl hz hdx I h c
    induction es with
    | nil => simp [putL]
    | cons e es ih => unfold putL; split <;> simp <;> lia
  have D' : (s.heap.update dx (Obj.putName name (PyData.keyHash w.params name) (.str name s.toks) v)).get? dx = some (dictOf (putL name (PyData.keyHash w.params name) (.str name s.toks) v es) (putN name es n)) := by
    rw [<- putName_dict]
    exact Heap.get?_update_self _ hdx (by rw [putName_dict]; rfl)
  refine wpAny_bind (wpAny_lookBehind D' (pastItsLine_dict (by rw [List.size_toArray, sizeLine_eq]; lia)) ?_)
  exact wpAny_pure h
theorem wp_setattr {K : Frag} {x dx C : Addr} {name : Str} {v : Value} {es : List DictEntry} {n : Nat} {Q : Unit -> Shared -> Prop} {E : Value -> Shared -> Prop} (X : K.In s.heap) (hx : s.heap.get? x = some (instObj C dx)) (hdx : s.heap.get? dx = some (dictOf es n))
    (hs : findIn K (.ref C) "__setattr__" = some (some (.builtin "object.__setattr__"))) (hp : plainOver K C = true) (ht : takerIn K C name = some none) (hh : hasDictIn K C = true) (hl : (getL name es).isSome = true) (hz : es.length <= 900)
    (h : Q () { s with heap := s.heap.update dx (Obj.putName name (PyData.keyHash w.params name) (.str name (s.toks + 1)) v), toks := s.toks + 2 }) :
    wpAny (model pw w) A (setAttr (.ref x) name v) Q E s :=
  set_plain (od := some (dictOf es n)) X ⟨hx, rfl, rfl, hdx⟩ hs (code_setattr (s := { s with toks := s.toks + 1 }) X hx hdx hp ht hh hl hz h)
noncomputable def putF (x : Str) (a : AV) : List (Str × AV) -> List (Str × AV)
  | [] => [(x, a)]
  | (y, b) :: r => if y = x then (y, a) :: r else (y, b) :: putF x a r
theorem ER.put {P : Params} {h : Heap} {fs : List (Str × AV)} {ds : List DictEntry} (r : ER P h ρ H fs ds) {x : Str} {a : AV} {v : Value} {t : Tok} (ha : VR h ρ H a v) : ER P h ρ H (putF x a fs) (putL x (PyData.keyHash P x) (.str x t) v ds) := by
  induction r with
  | nil => exact .cons ha .nil
  | @cons s t' y v' es ds hx hs ih =>
    unfold putF putL
    by_cases q : s = x
    · subst q
      rw [if_pos rfl, if_pos (by show (s == s) = true; simp)]
      exact .cons ha hs
    · rw [if_neg q, if_neg (by show ¬ (s == x) = true; simpa using q)]
      exact .cons hx ih
theorem ER.len {P : Params} {h : Heap} {fs : List (Str × AV)} {ds : List DictEntry} (r : ER P h ρ H fs ds) : fs.length = ds.length := by
  induction r with
  | nil => rfl
  | cons _ _ ih => simp [ih]
theorem er_some {P : Params} {h : Heap} {fs : List (Str × AV)} {ds : List DictEntry} (r : ER P h ρ H fs ds) (x : Str) : (getL x ds).isSome = true := by
  cases e : fs.lookup x with
  | some a => obtain ⟨v, h1, _⟩ := er_find r e; rw [h1]; rfl
  | none => rw [er_keys r e]; rfl
theorem Ok.turnFields (O : Ok w hB env vs H ρ s) {d : Oid} (nz : d ≠ zO) {fs fs' : List (Str × AV)} (hd : H d = some (.fields fs)) {f : Obj -> Obj} {ds' : List DictEntry} {n' : Nat} (hne : (s.heap.get? (ρ d)).isSome = true)
    (hf : ∀ o, s.heap.get? (ρ d) = some o -> f o = dictOf ds' n') (r : ER w.params s.heap ρ H fs' ds') (tk : Nat) :
    Ok w hB env vs (upd H d (.fields fs')) ρ { s with heap := s.heap.update (ρ d) f, toks := tk } /\ Step env ρ H s ρ (upd H d (.fields fs')) { s with heap := s.heap.update (ρ d) f, toks := tk } := by
  have ne : H d ≠ Option.none := by rw [hd]; simp
  refine O.setObj (fun i q => rfl) (.inl ⟨⟨ne, nz⟩, rfl⟩) (fun b x hx hb => ?_) (let ⟨o, ho⟩ := Option.isSome_iff_exists.mp hne; ⟨f o, Heap.get?_update_self _ ho (by rw [hf o ho]; rfl)⟩) rfl rfl fun S => ?_
  · exact (Heap.get?_update_ne _ _ _ _ hb).trans hx
  · obtain ⟨o, ho⟩ := Option.isSome_iff_exists.mp hne
    have e := hf o ho
    have : (s.heap.update (ρ d) f).get? (ρ d) = some (f o) := Heap.get?_update_self _ ho (by rw [e]; rfl)
    rw [e] at this
    exact ⟨ds', n', this, r.mono O S⟩
theorem r_setattr (b : Base w hB) {o d : Oid} (nz : d ≠ zO) {c : Addr} {fs : List (Str × AV)} {x : Str} {a : AV} {Q : VS -> AHeap -> Prop} (ho : H o = some (.inst c d)) (hd : H d = some (.fields fs))
    (hs : findIn (Kf w.params) (.ref c) "__setattr__" = some (some (.builtin "object.__setattr__"))) (hp : plainOver (Kf w.params) c = true) (ht : takerIn (Kf w.params) c x = some none) (hh : hasDictIn (Kf w.params) c = true) (hz : fs.length <= 900)
    (h : Q vs (upd H d (.fields (putF x a fs)))) (O : Ok w hB env vs H ρ s) {v : Value} (hv : VR s.heap ρ H a v) {K : Unit -> Shared -> Prop}
    (k : ∀ ρ' vs' H' s', Ok w hB env vs' H' ρ' s' -> Step env ρ H s ρ' H' s' -> Q vs' H' -> K () s') : wpAny (model pw w) A (setAttr (.ref (ρ o)) x v) K (fun _ _ => False) s := by
  have h1 := (O.objs o _ ho).1
  obtain ⟨ds, n, h2, h3⟩ := O.objs d _ hd
  refine wp_setattr (O.kin b) h1 h2 hs hp ht hh (er_some h3 x) (by rw [<- h3.len]; exact hz) ?_
  obtain ⟨O', S⟩ := O.turnFields nz hd (f := Obj.putName x (PyData.keyHash w.params x) (.str x (s.toks + 1)) v) (by rw [h2]; rfl) (fun o' e => by rw [h2] at e; cases e; exact putName_dict ..) (h3.put hv) (s.toks + 2)
  exact k _ _ _ _ O' S h
end
section
variable {w : World} {hB : Heap} {A : Around} {env : Env} {vs : VS} {H : AHeap} {ρ : Rho} {s : Shared}
theorem Ok.storeL (O : Ok w hB env vs H ρ s) {x : Str} {a : AV} {v : Value} (hx : env.kindOf x = some .local) (ha : VR s.heap ρ H a v) {h' : Heap} {m : Str -> Option Value} (hm : s.heap.Ns env.locals m)
    (hl : ∀ y b, env.kindOf y = some .local -> vs y = some b -> ∃ u, m y = some u /\ VR s.heap ρ H b u) (hn : h'.Ns env.locals fun y => if y = x then some v else m y) (hs : Heap.SameBut env.locals s.heap h') (tk : Nat) :
    Ok w hB env (updV vs x a) H ρ { s with heap := h', toks := tk } /\ Step env ρ H s ρ H { s with heap := h', toks := tk } := by
  have S : Step env ρ H s ρ H { s with heap := h', toks := tk } := ⟨fun _ h => h, fun _ _ => rfl, fun o h h' => absurd h' h, fun b x e => if q : b = env.locals then (let ⟨o, _, _, h1, _⟩ := hn; ⟨o, q ▸ h1⟩) else ⟨x, (hs.2 b q).trans e⟩, fun b o e _ nl _ => (hs.2 b nl).trans e, rfl⟩
  have kc : ∀ c v, s.heap.IsCell c v -> h'.IsCell c v := fun c v hc => by
    have := (O.not_cell hc).2
    obtain ⟨o, h1, h2⟩ := hc
    exact ⟨o, (hs.2 c this).trans h1, h2⟩
  refine ⟨⟨fun b o e => ?_, O.last, fun i ao h => OR.keep O S h fun y e => (hs.2 _ (O.nL i (by rw [h]; simp))).trans e, O.big, O.inj, ⟨⟨_, hn, fun y b h1 h2 => ?_⟩, fun y hy => ?_, fun y b hy hv => ?_⟩, O.nL, O.bigL, fun p hp => ?_, O.cinj, O.kind, O.glob, O.bi, O.gens⟩, S⟩
  · refine (hs.2 b fun q => ?_).trans (O.base b o e)
    have := Heap.lt_size e
    rw [q] at this
    exact absurd this (Nat.not_lt.mpr O.bigL)
  · unfold updV at h2
    by_cases q : y = x
    · subst q
      rw [if_pos rfl] at h2 ⊢
      cases h2
      exact ⟨v, rfl, ha.mono O S⟩
    · rw [if_neg q] at h2 ⊢
      obtain ⟨u, h3, h4⟩ := hl y b h1 h2
      exact ⟨u, h3, h4.mono O S⟩
  · obtain ⟨c, v₀, h1, h2, h3⟩ := O.fr.cel y hy
    refine ⟨c, v₀, h1, kc _ _ h2, fun b hb => ?_⟩
    have q : y ≠ x := fun q => by subst q; rw [hx] at hy; cases hy
    unfold updV at hb
    rw [if_neg q] at hb
    obtain ⟨u, h4, h5⟩ := h3 b hb
    exact ⟨u, h4, h5.mono O S⟩
  · have q : y ≠ x := fun q => by subst q; rw [hx] at hy; cases hy
    unfold updV at hv
    rw [if_neg q] at hv
    obtain ⟨c, u, h1, h2, h3⟩ := O.fr.fre y b hy hv
    exact ⟨c, u, h1, kc _ _ h2, h3.mono O S⟩
  · obtain ⟨h1, v, h2⟩ := O.bigC p hp
    exact ⟨h1, v, kc _ _ h2⟩
theorem Ok.storeC (O : Ok w hB env vs H ρ s) {x : Str} {a : AV} {v : Value} (hx : env.kindOf x = some .cell) (ha : VR s.heap ρ H a v) {h' : Heap} {c : Addr} {v₀ : Option Value} (hc : env.cells.lookup x = some c) (hv₀ : s.heap.IsCell c v₀)
    (hn : h'.IsCell c (some v)) (hs : Heap.SameBut c s.heap h') (tk : Nat) :
    Ok w hB env (updV vs x a) H ρ { s with heap := h', toks := tk } /\ Step env ρ H s ρ H { s with heap := h', toks := tk } := by
  have hcm : ∃ p ∈ env.cells, p.2 = c := by
    generalize env.cells = l at hc
    induction l with
    | nil => simp at hc
    | cons q l ih =>
      obtain ⟨y, d⟩ := q
      rw [List.lookup_cons] at hc
      by_cases e : x = y
      · subst e; simp at hc; subst hc; exact ⟨_, .head _, rfl⟩
      · have : (x == y) = false := by simpa using e
        rw [this] at hc
        obtain ⟨p, hp, h1⟩ := ih hc
        exact ⟨p, .tail _ hp, h1⟩
  have nc := O.not_cell hv₀
  have S : Step env ρ H s ρ H { s with heap := h', toks := tk } := ⟨fun _ h => h, fun _ _ => rfl, fun o h h' => absurd h' h, fun b x e => if q : b = c then (let ⟨o, h1, _⟩ := hn; ⟨o, q ▸ h1⟩) else ⟨x, (hs.2 b q).trans e⟩, fun b o e _ _ hcs => (hs.2 b (fun q => by
    obtain ⟨p, hp, h1⟩ := hcm
    exact hcs p hp (q.trans h1.symm))).trans e, rfl⟩
  have kc : ∀ d u, d ≠ c -> s.heap.IsCell d u -> h'.IsCell d u := fun d u ne hd => by
    obtain ⟨o, h1, h2⟩ := hd
    exact ⟨o, (hs.2 d ne).trans h1, h2⟩
  have big : hB.objs.size <= c := by
    obtain ⟨p, hp, h1⟩ := hcm
    rw [<- h1]; exact (O.bigC p hp).1
  refine ⟨⟨fun b o e => ?_, O.last, fun i ao h => OR.keep O S h fun y e => (hs.2 _ (fun q => nc.1 i (by rw [h]; simp) q.symm)).trans e, O.big, O.inj, ⟨?_, fun y hy => ?_, fun y b hy hv => ?_⟩, O.nL, O.bigL, fun p hp => ?_, O.cinj, O.kind, O.glob, O.bi, O.gens⟩, S⟩
  · refine (hs.2 b fun q => ?_).trans (O.base b o e)
    have := Heap.lt_size e
    rw [q] at this
    exact absurd this (Nat.not_lt.mpr big)
  · obtain ⟨m, hm, hl⟩ := O.fr.loc
    refine ⟨m, Heap.Ns.keepAt hm fun o e => (hs.2 _ (Ne.symm nc.2)).trans e, fun y b h1 h2 => ?_⟩
    have q : y ≠ x := fun q => by subst q; rw [hx] at h1; cases h1
    unfold updV at h2
    rw [if_neg q] at h2
    obtain ⟨u, h3, h4⟩ := hl y b h1 h2
    exact ⟨u, h3, h4.mono O S⟩
  · by_cases q : y = x
    · subst q
      refine ⟨c, some v, hc, hn, fun b hb => ?_⟩
      unfold updV at hb
      rw [if_pos rfl] at hb
      cases hb
      exact ⟨v, rfl, ha.mono O S⟩
    · obtain ⟨d, u₀, h1, h2, h3⟩ := O.fr.cel y hy
      have ne : d ≠ c := fun e => q (O.cinj y x c (e ▸ h1) hc)
      refine ⟨d, u₀, h1, kc _ _ ne h2, fun b hb => ?_⟩
      unfold updV at hb
      rw [if_neg q] at hb
      obtain ⟨u, h4, h5⟩ := h3 b hb
      exact ⟨u, h4, h5.mono O S⟩
  · have q : y ≠ x := fun q => by subst q; rw [hx] at hy; cases hy
    unfold updV at hv
    rw [if_neg q] at hv
    obtain ⟨d, u, h1, h2, h3⟩ := O.fr.fre y b hy hv
    exact ⟨d, u, h1, kc _ _ (fun e => q (O.cinj y x c (e ▸ h1) hc)) h2, h3.mono O S⟩
  · obtain ⟨h1, u, h2⟩ := O.bigC p hp
    by_cases q : p.2 = c
    · exact ⟨h1, _, by rw [q]; exact hn⟩
    · exact ⟨h1, u, kc _ _ q h2⟩
noncomputable def isOwn (env : Env) (x : Str) : Bool := env.kindOf x == some .local || env.kindOf x == some .cell
theorem r_store {x : Str} {a : AV} {Q : VS -> AHeap -> Prop} (hx : isOwn env x = true) (h : Q (updV vs x a) H) (O : Ok w hB env vs H ρ s) {v : Value} (hv : VR s.heap ρ H a v) {K : Unit -> Shared -> Prop}
    (k : ∀ ρ' vs' H' s', Ok w hB env vs' H' ρ' s' -> Step env ρ H s ρ' H' s' -> Q vs' H' -> K () s') : wpAny (model pw w) A (storeName env x v) K (fun _ _ => False) s := by
  rcases Bool.or_eq_true_iff.mp hx with hx | hx
  · have hx := beq_iff_eq.mp hx
    obtain ⟨m, hm, hl⟩ := O.fr.loc
    refine wpAny_storeName_local hx hm (fun h' hn hs => ?_) (by rw [O.kind]; rfl)
    obtain ⟨O', S⟩ := O.storeL hx hv hm hl hn hs (s.toks + 1)
    exact k _ _ _ _ O' S h
  · have hx := beq_iff_eq.mp hx
    obtain ⟨c, v₀, h1, h2, _⟩ := O.fr.cel x hx
    refine wpAny_storeName_cell O.kind hx h1 h2 fun h' hn hs => ?_
    obtain ⟨O', S⟩ := O.storeC hx hv h1 h2 hn hs s.toks
    exact k _ _ _ _ O' S h
set_option tactic.hygienic true in
theorem s_nil {Q} (h : Q .next vs H) : RS w hB A env (execs [] env) vs H Q := fun ρ s K O k => wpAny_execs_nil (k _ .next ρ vs H s O .rfl trivial h)
theorem s_cons {st : Stmt} {rest : List Stmt} {Q} (h : RS w hB A env (exec st env) vs H fun o vs' H' => match o with
      | .next => RS w hB A env (execs rest env) vs' H' Q
      | o => Q o vs' H') : RS w hB A env (execs (st :: rest) env) vs H Q := fun ρ s K O k => by
  refine wpAny_execs_cons (h ρ s _ O fun f o ρ' vs' H' s' O' S r q => ?_)
  cases o with
  | next =>
    cases f <;> first | exact r.elim | skip
    exact q ρ' s' K O' fun a b ρ'' vs'' H'' s'' O'' S' r' q' => k a b ρ'' vs'' H'' s'' O'' (S.trans S') r' q'
  | brk => cases f <;> first | exact r.elim | exact k _ .brk ρ' vs' H' s' O' S trivial q
  | cont => cases f <;> first | exact r.elim | exact k _ .cont ρ' vs' H' s' O' S trivial q
  | ret a => cases f <;> first | exact r.elim | exact k _ (.ret a) ρ' vs' H' s' O' S r q
set_option tactic.hygienic true in
theorem s_pass {pos : Pos} {Q} (h : Q .next vs H) : RS w hB A env (exec (.Pass pos) env) vs H Q := fun ρ s K O k => wpAny_Pass (k _ .next ρ vs H s O .rfl trivial h)
theorem s_return {e : Expr} {pos : Pos} {Q} (h : RV w hB A env (eval e env) vs H fun a vs' H' => Q (.ret a) vs' H') : RS w hB A env (exec (.Return (some e) pos) env) vs H Q := fun ρ s K O k =>
  wpAny_Return_some (h ρ s _ O fun v a ρ' vs' H' s' O' S r q => k _ (.ret a) ρ' vs' H' s' O' S r q)
theorem s_return0 {pos : Pos} {Q} (h : Q (.ret .none) vs H) : RS w hB A env (exec (.Return none pos) env) vs H Q := fun ρ s K O k => wpAny_Return_none (k _ (.ret .none) ρ vs H s O .rfl .none h)
theorem s_if {t : Expr} {b o : List Stmt} {pos : Pos} {Q} (h : RB w hB A env (isTrue t env (eval t env)) vs H fun c vs' H' => (c = true -> RS w hB A env (execs b env) vs' H' Q) /\ (c = false -> RS w hB A env (execs o env) vs' H' Q)) :
    RS w hB A env (exec (.If t b o pos) env) vs H Q := fun ρ s K O k => by
  refine wpAny_If (h ρ s _ O fun c c' ρ' vs' H' s' O' S r q => ?_)
  subst r
  have k' : ∀ a b ρ'' vs'' H'' s'', Ok w hB env vs'' H'' ρ'' s'' -> Step env ρ' H' s' ρ'' H'' s'' -> relF s''.heap ρ'' H'' b a -> Q b vs'' H'' -> K a s'' := fun a b ρ'' vs'' H'' s'' O'' S' r' q' => k a b ρ'' vs'' H'' s'' O'' (S.trans S') r' q'
  cases c with
  | true => rw [if_pos rfl]; exact q.1 rfl ρ' s' K O' k'
  | false => rw [if_neg (by simp)]; exact q.2 rfl ρ' s' K O' k'
set_option tactic.hygienic true in
theorem s_expr {e : Expr} {pos : Pos} {Q} (hi : interactive env = false) (hs : swapsWith e none pos.line env = pure false) (h : RV w hB A env (eval e env) vs H fun _ vs' H' => Q .next vs' H') : RS w hB A env (exec (.Expr e pos) env) vs H Q := fun ρ s K O k =>
  wpAny_Expr_any (h ρ s _ O fun v a ρ' vs' H' s' O' S r q => k _ .next ρ' vs' H' s' O' S trivial q) hi hs
set_option tactic.hygienic true in
theorem s_name {x : Str} {p : Pos} {e : Expr} {pos : Pos} {Q} (hx : isOwn env x = true) (hs : swapsWith e (some (.Name x p)) pos.line env = pure false) (h : RV w hB A env (eval e env) vs H fun a vs' H' => Q .next (updV vs' x a) H') :
    RS w hB A env (exec (.Assign [.Name x p] e pos) env) vs H Q := fun ρ s K O k =>
  wpAny_Assign_Name (h ρ s _ O fun v a ρ' vs' H' s' O' S r q => r_store (Q := fun vs'' H'' => Q .next vs'' H'') hx q O' r fun ρ'' vs'' H'' s'' O'' S' q' => k _ .next ρ'' vs'' H'' s'' O'' (S.trans S') trivial q') hs
end
noncomputable def Op (w : World) (hB : Heap) (n : Nat) {α β : Type} (rel : Heap -> Rho -> AHeap -> β -> α -> Prop) (f : List Value -> Sem α) (as : List AV) (H : AHeap) (Q : β -> AHeap -> Prop) : Prop :=
  ∀ (A : Around) (env : Env) (vs : VS) (ρ : Rho) (s : Shared) (K : α -> Shared -> Prop) (vals : List Value), AOk n A -> Ok w hB env vs H ρ s -> VRs s.heap ρ H as vals ->
    (∀ v b ρ' H' s', Ok w hB env vs H' ρ' s' -> Step env ρ H s ρ' H' s' -> rel s'.heap ρ' H' b v -> Q b H' -> K v s') -> wpAny (model pw w) A (f vals) K (fun _ _ => False) s
noncomputable def of1 {α : Type} (f : Value -> Sem α) : List Value -> Sem α := fun l => f (l.getD 0 .none)
noncomputable def of2 {α : Type} (f : Value -> Value -> Sem α) : List Value -> Sem α := fun l => f (l.getD 0 .none) (l.getD 1 .none)
noncomputable def of3 {α : Type} (f : Value -> Value -> Value -> Sem α) : List Value -> Sem α := fun l => f (l.getD 0 .none) (l.getD 1 .none) (l.getD 2 .none)
section
variable {w : World} {hB : Heap} {A : Around} {env : Env} {vs : VS} {H : AHeap} {ρ : Rho} {s : Shared} {n : Nat}
theorem op1 {α β : Type} {rel : Heap -> Rho -> AHeap -> β -> α -> Prop} {f : Value -> Sem α} {a : AV} {Q : β -> AHeap -> Prop}
    (h : ∀ (A : Around) (env : Env) (vs : VS) (ρ : Rho) (s : Shared) (K : α -> Shared -> Prop) (v : Value), AOk n A -> Ok w hB env vs H ρ s -> VR s.heap ρ H a v ->
      (∀ v b ρ' H' s', Ok w hB env vs H' ρ' s' -> Step env ρ H s ρ' H' s' -> rel s'.heap ρ' H' b v -> Q b H' -> K v s') -> wpAny (model pw w) A (f v) K (fun _ _ => False) s) : Op w hB n rel (of1 f) [a] H Q := fun A env vs ρ s K vals hA O hv k => by
  obtain ⟨_, _, rfl, ha, hv⟩ := hv.inv; cases hv; exact h A env vs ρ s K _ hA O ha k
theorem op2 {α β : Type} {rel : Heap -> Rho -> AHeap -> β -> α -> Prop} {f : Value -> Value -> Sem α} {a b : AV} {Q : β -> AHeap -> Prop}
    (h : ∀ (A : Around) (env : Env) (vs : VS) (ρ : Rho) (s : Shared) (K : α -> Shared -> Prop) (v u : Value), AOk n A -> Ok w hB env vs H ρ s -> VR s.heap ρ H a v -> VR s.heap ρ H b u ->
      (∀ v b ρ' H' s', Ok w hB env vs H' ρ' s' -> Step env ρ H s ρ' H' s' -> rel s'.heap ρ' H' b v -> Q b H' -> K v s') -> wpAny (model pw w) A (f v u) K (fun _ _ => False) s) : Op w hB n rel (of2 f) [a, b] H Q := fun A env vs ρ s K vals hA O hv k => by
  obtain ⟨_, _, rfl, ha, hv⟩ := hv.inv; obtain ⟨_, _, rfl, hb, hv⟩ := hv.inv; cases hv; exact h A env vs ρ s K _ _ hA O ha hb k
noncomputable abbrev Bin (w : World) (hB : Heap) (n : Nat) (op : Operator) (a b : AV) (H : AHeap) (Q : AV -> AHeap -> Prop) : Prop := Op w hB n relV (of2 (binaryOp op)) [a, b] H Q
noncomputable abbrev Cmp (w : World) (hB : Heap) (n : Nat) (op : CmpOp) (a b : AV) (H : AHeap) (Q : AV -> AHeap -> Prop) : Prop := Op w hB n relV (of2 (compareOp op)) [a, b] H Q
noncomputable abbrev Tru (w : World) (hB : Heap) (n : Nat) (a : AV) (H : AHeap) (Q : Bool -> AHeap -> Prop) : Prop := Op w hB n relB (of1 truthy) [a] H Q
theorem e_binop (hA : AOk n A) {l r : Expr} {op : Operator} {pos : Pos} {Q} (h : RV w hB A env (eval l env) vs H fun a v1 H1 => RV w hB A env (eval r env) v1 H1 fun b v2 H2 => Bin w hB n op a b H2 fun c H3 => Q c v2 H3) :
    RV w hB A env (eval (.BinOp l op r pos) env) vs H Q := fun ρ s K O k =>
  wpAny_BinOp (h ρ s _ O fun v a ρ1 v1 H1 s1 O1 S1 r1 q1 => q1 ρ1 s1 _ O1 fun u b ρ2 v2 H2 s2 O2 S2 r2 q2 =>
    q2 A env v2 ρ2 s2 K [v, u] hA O2 (.cons (r1.mono O1 S2) (.cons r2 .nil)) fun x c ρ3 H3 s3 O3 S3 r3 q3 => k x c ρ3 v2 H3 s3 O3 ((S1.trans S2).trans S3) r3 q3)
theorem e_cmp (hA : AOk n A) {l r : Expr} {op : CmpOp} {pos : Pos} {Q} (hm : behindInMarks op r = false) (h : RV w hB A env (eval l env) vs H fun a v1 H1 => RV w hB A env (eval r env) v1 H1 fun b v2 H2 => Cmp w hB n op a b H2 fun c H3 => Q c v2 H3) :
    RV w hB A env (eval (.Compare l [op] [r] pos) env) vs H Q := fun ρ s K O k =>
  wpAny_Compare1 (h ρ s _ O fun v a ρ1 v1 H1 s1 O1 S1 r1 q1 => q1 ρ1 s1 _ O1 fun u b ρ2 v2 H2 s2 O2 S2 r2 q2 =>
    q2 A env v2 ρ2 s2 K [v, u] hA O2 (.cons (r1.mono O1 S2) (.cons r2 .nil)) fun x c ρ3 H3 s3 O3 S3 r3 q3 => k x c ρ3 v2 H3 s3 O3 ((S1.trans S2).trans S3) r3 q3) hm
theorem e_neg (hA : AOk n A) {e : Expr} {pos : Pos} {Q} (h : RV w hB A env (eval e env) vs H fun a v1 H1 => ∃ i, a = .int i /\ Q (.int (-i)) v1 H1) : RV w hB A env (eval (.UnaryOp .USub e pos) env) vs H Q := fun ρ s K O k =>
  wpAny_UnaryOp (h ρ s _ O fun v a ρ1 v1 H1 s1 O1 S1 r1 q1 => by
    obtain ⟨i, rfl, q⟩ := q1
    cases r1
    exact neg_int (k _ (.int (-i)) ρ1 v1 H1 _ (O1.toks _) (S1.trans (.toks _)) (.int _ _) q))
theorem e_not (hA : AOk n A) {e : Expr} {pos : Pos} {Q} (h : RV w hB A env (eval e env) vs H fun a v1 H1 => Tru w hB n a H1 fun c H2 => Q (.bool !c) v1 H2) : RV w hB A env (eval (.UnaryOp .Not e pos) env) vs H Q := fun ρ s K O k =>
  wpAny_UnaryOp (h ρ s _ O fun v a ρ1 v1 H1 s1 O1 S1 r1 q1 => not_of (q1 A env v1 ρ1 s1 _ [v] hA O1 (.cons r1 .nil) fun c c' ρ2 H2 s2 O2 S2 r2 q2 => by
    subst r2
    exact k _ (.bool !c) ρ2 v1 H2 s2 O2 (S1.trans S2) (.bool _) q2))
theorem t_val (hA : AOk n A) {e : Expr} {Q} (he : isTrue e env (eval e env) = (do let v <- eval e env; standAt e.pos; holding [v] (truthy v))) (h : RV w hB A env (eval e env) vs H fun a v1 H1 => Tru w hB n a H1 fun c H2 => Q c v1 H2) :
    RB w hB A env (isTrue e env (eval e env)) vs H Q := fun ρ s K O k =>
  wpAny_isTrue_value (h ρ s _ O fun v a ρ1 v1 H1 s1 O1 S1 r1 q1 => q1 A env v1 ρ1 s1 _ [v] hA O1 (.cons r1 .nil) fun c c' ρ2 H2 s2 O2 S2 r2 q2 => k c c' ρ2 v1 H2 s2 O2 (S1.trans S2) r2 q2) he
theorem t_not {e : Expr} {pos : Pos} {whole : Sem Value} {Q} (h : RB w hB A env (isTrue e env (eval e env)) vs H fun c v1 H1 => Q (!c) v1 H1) : RB w hB A env (isTrue (.UnaryOp .Not e pos) env whole) vs H Q := fun ρ s K O k =>
  wpAny_isTrue_Not (h ρ s _ O fun c c' ρ1 v1 H1 s1 O1 S1 r1 q1 => k _ (!c') ρ1 v1 H1 s1 O1 S1 (by subst r1; rfl) q1)
theorem t_cmp (hA : AOk n A) {l r : Expr} {op : CmpOp} {pos : Pos} {whole : Sem Value} {Q} (hm : behindInMarks op r = false) (h : RV w hB A env (eval l env) vs H fun a v1 H1 => RV w hB A env (eval r env) v1 H1 fun b v2 H2 => Cmp w hB n op a b H2 fun c H3 => Tru w hB n c H3 fun d H4 => Q d v2 H4) :
    RB w hB A env (isTrue (.Compare l [op] [r] pos) env whole) vs H Q := fun ρ s K O k =>
  wpAny_isTrue_Compare1 (h ρ s _ O fun v a ρ1 v1 H1 s1 O1 S1 r1 q1 => q1 ρ1 s1 _ O1 fun u b ρ2 v2 H2 s2 O2 S2 r2 q2 =>
    q2 A env v2 ρ2 s2 _ [v, u] hA O2 (.cons (r1.mono O1 S2) (.cons r2 .nil)) fun x c ρ3 H3 s3 O3 S3 r3 q3 =>
      q3 A env v2 ρ3 s3 _ [x] hA O3 (.cons r3 .nil) fun y d ρ4 H4 s4 O4 S4 r4 q4 => k y d ρ4 v2 H4 s4 O4 (((S1.trans S2).trans S3).trans S4) r4 q4) hm
theorem t_bool {op : BoolOp} {es : List Expr} {pos : Pos} {whole : Sem Value} {Q} (h : RB w hB A env (allTrue op es env) vs H Q) : RB w hB A env (isTrue (.BoolOp op es pos) env whole) vs H Q := fun ρ s K O k => wpAny_isTrue_BoolOp (h ρ s K O k)
theorem a_and_nil {Q} (h : Q true vs H) : RB w hB A env (allTrue .And [] env) vs H Q := fun ρ s K O k => wpAny_allTrue_And_nil (k _ true ρ vs H s O .rfl rfl h)
theorem a_or_nil {Q} (h : Q false vs H) : RB w hB A env (allTrue .Or [] env) vs H Q := fun ρ s K O k => wpAny_allTrue_Or_nil (k _ false ρ vs H s O .rfl rfl h)
theorem a_and {e : Expr} {es : List Expr} {Q} (h : RB w hB A env (isTrue e env (eval e env)) vs H fun c v1 H1 => (c = true -> RB w hB A env (allTrue .And es env) v1 H1 Q) /\ (c = false -> Q false v1 H1)) : RB w hB A env (allTrue .And (e :: es) env) vs H Q := fun ρ s K O k =>
  wpAny_allTrue_And_cons (h ρ s _ O fun c c' ρ1 v1 H1 s1 O1 S1 r1 q1 => by
    subst r1
    cases c with
    | true => rw [if_pos rfl]; exact q1.1 rfl ρ1 s1 _ O1 fun a b ρ2 v2 H2 s2 O2 S2 r2 q2 => k a b ρ2 v2 H2 s2 O2 (S1.trans S2) r2 q2
    | false => rw [if_neg (by simp)]; exact k _ false ρ1 v1 H1 s1 O1 S1 rfl (q1.2 rfl))
theorem a_or {e : Expr} {es : List Expr} {Q} (h : RB w hB A env (isTrue e env (eval e env)) vs H fun c v1 H1 => (c = true -> Q true v1 H1) /\ (c = false -> RB w hB A env (allTrue .Or es env) v1 H1 Q)) : RB w hB A env (allTrue .Or (e :: es) env) vs H Q := fun ρ s K O k =>
  wpAny_allTrue_Or_cons (h ρ s _ O fun c c' ρ1 v1 H1 s1 O1 S1 r1 q1 => by
    subst r1
    cases c with
    | true => rw [if_pos rfl]; exact k _ true ρ1 v1 H1 s1 O1 S1 rfl (q1.1 rfl)
    | false => rw [if_neg (by simp)]; exact q1.2 rfl ρ1 s1 _ O1 fun a b ρ2 v2 H2 s2 O2 S2 r2 q2 => k a b ρ2 v2 H2 s2 O2 (S1.trans S2) r2 q2)
theorem e_ifexp {t b o : Expr} {pos : Pos} {Q} (h : RB w hB A env (isTrue t env (eval t env)) vs H fun c v1 H1 => (c = true -> RV w hB A env (eval b env) v1 H1 Q) /\ (c = false -> RV w hB A env (eval o env) v1 H1 Q)) : RV w hB A env (eval (.IfExp t b o pos) env) vs H Q := fun ρ s K O k =>
  wpAny_IfExp (h ρ s _ O fun c c' ρ1 v1 H1 s1 O1 S1 r1 q1 => by
    subst r1
    cases c with
    | true => rw [if_pos rfl]; exact q1.1 rfl ρ1 s1 _ O1 fun a b ρ2 v2 H2 s2 O2 S2 r2 q2 => k a b ρ2 v2 H2 s2 O2 (S1.trans S2) r2 q2
    | false => rw [if_neg (by simp)]; exact q1.2 rfl ρ1 s1 _ O1 fun a b ρ2 v2 H2 s2 O2 S2 r2 q2 => k a b ρ2 v2 H2 s2 O2 (S1.trans S2) r2 q2)
theorem e_and (hA : AOk n A) {x y : Expr} {pos : Pos} {Q} (h : RV w hB A env (eval x env) vs H fun a v1 H1 => Tru w hB n a H1 fun c H2 => (c = true -> RV w hB A env (eval y env) v1 H2 Q) /\ (c = false -> Q a v1 H2)) : RV w hB A env (eval (.BoolOp .And [x, y] pos) env) vs H Q := fun ρ s K O k =>
  wpAny_And2 (h ρ s _ O fun v a ρ1 v1 H1 s1 O1 S1 r1 q1 => q1 A env v1 ρ1 s1 _ [v] hA O1 (.cons r1 .nil) fun c c' ρ2 H2 s2 O2 S2 r2 q2 => by
    subst r2
    cases c with
    | true => rw [if_pos rfl]; exact q2.1 rfl ρ2 s2 _ O2 fun a b ρ3 v3 H3 s3 O3 S3 r3 q3 => k a b ρ3 v3 H3 s3 O3 ((S1.trans S2).trans S3) r3 q3
    | false => rw [if_neg (by simp)]; exact k v a ρ2 v1 H2 s2 O2 (S1.trans S2) (r1.mono O1 S2) (q2.2 rfl))
theorem e_or (hA : AOk n A) {x y : Expr} {pos : Pos} {Q} (h : RV w hB A env (eval x env) vs H fun a v1 H1 => Tru w hB n a H1 fun c H2 => (c = true -> Q a v1 H2) /\ (c = false -> RV w hB A env (eval y env) v1 H2 Q)) : RV w hB A env (eval (.BoolOp .Or [x, y] pos) env) vs H Q := fun ρ s K O k =>
  wpAny_Or2 (h ρ s _ O fun v a ρ1 v1 H1 s1 O1 S1 r1 q1 => q1 A env v1 ρ1 s1 _ [v] hA O1 (.cons r1 .nil) fun c c' ρ2 H2 s2 O2 S2 r2 q2 => by
    subst r2
    cases c with
    | true => rw [if_pos rfl]; exact k v a ρ2 v1 H2 s2 O2 (S1.trans S2) (r1.mono O1 S2) (q2.1 rfl)
    | false => rw [if_neg (by simp)]; exact q2.2 rfl ρ2 s2 _ O2 fun a b ρ3 v3 H3 s3 O3 S3 r3 q3 => k a b ρ3 v3 H3 s3 O3 ((S1.trans S2).trans S3) r3 q3)
theorem l_nil {pos : Pos} {Q} (h : Q [] vs H) : RL w hB A env (spliced (backTo pos (starEach [] env))) vs H Q := fun ρ s K O k => spliced_none (k _ [] ρ vs H s O .rfl .nil h)
noncomputable def notStar : Expr -> Bool
  | .Starred .. => false
  | _ => true
theorem starEach_cons {e : Expr} {es : List Expr} (h : notStar e = true) : starEach (e :: es) env = (false, eval e env) :: starEach es env := by
  cases e <;> first | rfl | simp [notStar] at h
theorem l_cons {e : Expr} {es : List Expr} {pos : Pos} {Q} (hs : notStar e = true) (h : RV w hB A env (eval e env) vs H fun a v1 H1 => RL w hB A env (spliced (backTo pos (starEach es env))) v1 H1 fun as v2 H2 => Q (a :: as) v2 H2) :
    RL w hB A env (spliced (backTo pos (starEach (e :: es) env))) vs H Q := fun ρ s K O k => by
  rw [starEach_cons hs]
  show wpAny _ _ (spliced ((false, _) :: backTo pos (starEach es env))) _ _ _
  refine spliced_cons (h ρ s _ O fun v a ρ1 v1 H1 s1 O1 S1 r1 q1 => q1 ρ1 s1 _ O1 fun us as ρ2 v2 H2 s2 O2 S2 r2 q2 => k _ (a :: as) ρ2 v2 H2 s2 O2 (S1.trans S2) (.cons (r1.mono O1 S2) r2) q2)
theorem e_tuple {es : List Expr} {k0 : Nat} {pos : Pos} {Q} (h : RL w hB A env (spliced (backTo pos (starEach es env))) vs H fun as v1 H1 => as.length <= 1000000 /\ Q (.tup as) v1 H1) : RV w hB A env (eval (.Tuple es k0 pos) env) vs H Q := fun ρ s K O k =>
  wpAny_Tuple_spliced (h ρ s _ O fun us as ρ1 v1 H1 s1 O1 S1 r1 q1 => by
    refine ⟨by rw [<- r1.len]; exact sizeLine_big q1.1, ?_⟩
    obtain ⟨O2, S2⟩ := O1.ext (s' := { s1 with heap := s1.heap.push { cls := .type "tuple", data := .seq us.toArray } }) (fun b o e => Heap.get?_push_of_some _ e) (by show s1.heap.objs.size <= (s1.heap.push _).objs.size; rw [Heap.size_push]; lia) rfl rfl
    exact k _ (.tup as) ρ1 v1 H1 _ O2 (S1.trans S2) (.tup as _ us 0 (Heap.get?_push_size _ rfl) (r1.mono O1 S2)) q1.2)
end
noncomputable def KeepOK (w : World) (f : Value) : Prop := ∀ h, (Kf w.params).In h -> ∃ k, (k = Keeper.frame ∨ k = Keeper.machine ∨ k = Keeper.boundFrame) /\ Looks (model pw w) h (keeperOf f) k
theorem keep_builtin {w : World} (id : String) : KeepOK w (.builtin id) := fun h _ => ⟨.machine, .inr (.inl rfl), Looks.of_pure rfl⟩
theorem keep_type {w : World} (T : String) : KeepOK w (.type T) := fun h _ => ⟨.machine, .inr (.inl rfl), Looks.of_pure rfl⟩
theorem keep_K {w : World} {f : Value} (e : keepIn (Kf w.params) f = true) : KeepOK w f := fun h X => keeps_K e h X
noncomputable def noStars (es : List Expr) : Bool := es.all notStar
theorem noStars_any {env : Env} {pos : Pos} : ∀ {es : List Expr}, noStars es = true -> (backTo pos (starEach es env)).any (·.1) = false
  | [], _ => rfl
  | e :: es, h => by
    have h' := Bool.and_eq_true_iff.mp (show (notStar e && noStars es) = true from h)
    rw [starEach_cons h'.1]
    show (false || (backTo pos (starEach es env)).any (·.1)) = false
    rw [noStars_any h'.2]; rfl
theorem noStars_all {env : Env} {pos : Pos} {es : List Expr} (h : noStars es = true) : (backTo pos (starEach es env)).all (!·.1) = true := by
  have := noStars_any (env := env) (pos := pos) h
  rw [List.all_eq_true]
  intro x hx
  rw [List.any_eq_false] at this
  have := this x hx
  simpa using this
noncomputable def Meth (w : World) (hB : Heap) (a : AV) (name : Str) (H : AHeap) (f : Value) (fas : List AV) : Prop :=
  ∀ (A : Around) (env : Env) (vs : VS) (ρ : Rho) (s : Shared) (v : Value) (pl : Sem Bool) (K : Value × List Value -> Shared -> Prop), Ok w hB env vs H ρ s -> VR s.heap ρ H a v -> (∀ first, VRs s.heap ρ H fas first -> K (f, first) s) ->
    wpAny (model pw w) A (getMethod v name pl) K (fun _ _ => False) s
section
variable {w : World} {hB : Heap} {A : Around} {env : Env} {vs : VS} {H : AHeap} {ρ : Rho} {s : Shared} {n : Nat}
theorem VRs.mono' (O : Ok w hB env vs H ρ s) {ρ' H' s'} (S : Step env ρ H s ρ' H' s') {xs : List AV} {ys : List Value} (h : VRs s.heap ρ H xs ys) : VRs s'.heap ρ' H' xs ys := VRs.mono O S h
theorem r_call (b : Base w hB) (hA : AOk n A) {f : Value} (hk : KeepOK w f) {first : List Value} {fas : List AV} {args : List Expr} {pos : Pos} {Q : AV -> VS -> AHeap -> Prop} (hns : noStars args = true)
    (h : RL w hB A env (spliced (backTo pos (starEach args env))) vs H fun as v1 H1 => Spec w hB n f (fas ++ as) H1 fun a H2 => Q a v1 H2) (O : Ok w hB env vs H ρ s) (hf : VRs s.heap ρ H fas first) {K : Value -> Shared -> Prop}
    (k : ∀ v a ρ' vs' H' s', Ok w hB env vs' H' ρ' s' -> Step env ρ H s ρ' H' s' -> VR s'.heap ρ' H' a v -> Q a vs' H' -> K v s') :
    wpAny (model pw w) A (callWith pos f first (backTo pos (starEach args env)) []) K (fun _ _ => False) s := by
  have main : wpAny (model pw w) A (spliced (backTo pos (starEach args env))) (fun us s1 => (Kf w.params).In s1.heap /\ wpAny (model pw w) A (call f (first ++ us) []) K (fun _ _ => False) s1) (fun _ _ => False) s :=
    h ρ s _ O fun us as ρ1 v1 H1 s1 O1 S1 r1 q1 => ⟨O1.kin b, q1 A env v1 ρ1 s1 K (first ++ us) hA O1 ((VRs.mono' O S1 hf).append r1) fun v a ρ2 H2 s2 O2 S2 r2 q2 => k v a ρ2 v1 H2 s2 O2 (S1.trans S2) r2 q2⟩
  refine callWith_of (P := fun h => (Kf w.params).In h) (by rw [noStars_any hns]; rfl) hk ?_
  cases args with
  | nil =>
    unfold evalArgs
    refine wpAny_bind (m := spliced []) (wpAny_mono main (fun us s' h' => ?_) fun _ _ x => x)
    refine wpAny_bind (wpAny_pure ?_)
    refine wpAny_holding ?_
    exact wpAny_bind (wpAny_pure (wpAny_bind (wpAny_pure (wpAny_pure h'))))
  | cons e es =>
    have h' := Bool.and_eq_true_iff.mp (show (notStar e && noStars es) = true from hns)
    rw [starEach_cons h'.1] at main ⊢
    exact evalArgs_plain main
theorem e_call (b : Base w hB) (hA : AOk n A) {x : Str} {np pos : Pos} {args : List Expr} {Q} (hns : noStars args = true)
    (h : RV w hB A env (eval (.Name x np) env) vs H fun a v1 H1 => ∃ f, a = .val f /\ KeepOK w f /\ RL w hB A env (spliced (backTo pos (starEach args env))) v1 H1 fun as v2 H2 => Spec w hB n f as H2 fun c H3 => Q c v2 H3) :
    RV w hB A env (eval (.Call (.Name x np) args [] pos) env) vs H Q := fun ρ s K O k =>
  wpAny_Call_ofName (h ρ s _ O fun v a ρ1 v1 H1 s1 O1 S1 r1 q1 => by
    obtain ⟨f, rfl, hk, q⟩ := q1
    cases r1
    exact r_call b hA hk (fas := []) hns q O1 .nil fun v a ρ2 v2 H2 s2 O2 S2 r2 q2 => k v a ρ2 v2 H2 s2 O2 (S1.trans S2) r2 q2)
theorem e_meth (b : Base w hB) (hA : AOk n A) {o : Expr} {name : Str} {ap pos : Pos} {args : List Expr} {Q} (hn : notCallName o = true) (hns : noStars args = true) (hlen : args.length < 30) (hp : (ap.endLine == pos.line) = true)
    (h : RV w hB A env (eval o env) vs H fun a v1 H1 => ∃ f fas, Meth w hB a name H1 f fas /\ KeepOK w f /\ RL w hB A env (spliced (backTo pos (starEach args env))) v1 H1 fun as v2 H2 => Spec w hB n f (fas ++ as) H2 fun c H3 => Q c v2 H3) :
    RV w hB A env (eval (.Call (.Attribute o name ap) args [] pos) env) vs H Q := fun ρ s K O k => by
  show wpAny _ _ (attributeBase o name env (eval o env) >>= fun ov => standAt ap.atName >>= fun _ => methodCall o name ap pos env ov (args.length + 0) (backTo pos (starEach args env)) []) _ _ _
  rw [base_of hn]
  refine wpAny_bind (h ρ s _ O fun v a ρ1 v1 H1 s1 O1 S1 r1 q1 => wpAny_bind (wpAny_standAt ?_))
  obtain ⟨f, fas, hm, hk, q⟩ := q1
  have hf : methodCallForm (args.length + 0) (backTo pos (starEach args env)) [] = true := by
    unfold methodCallForm
    rw [noStars_all hns]
    simp only [List.all_nil, Bool.true_and, List.isEmpty_nil, if_true, Nat.add_zero, decide_eq_true_eq]
    exact hlen
  unfold methodCall
  rw [hf]
  refine wpAny_bind (wpAny_holding ?_)
  unfold calleeOf
  rw [if_pos rfl]
  refine hm A env v1 ρ1 s1 v _ _ O1 r1 fun first hfirst => ?_
  dsimp only
  have hpos : methodCallPos true o env ap pos = pure pos := by
    unfold methodCallPos
    rw [if_pos (by rw [hp]; rfl)]
  rw [hpos]
  refine wpAny_bind (wpAny_pure ?_)
  exact r_call b hA hk hns q O1 hfirst fun v a ρ2 v2 H2 s2 O2 S2 r2 q2 => k v a ρ2 v2 H2 s2 O2 (S1.trans S2) r2 q2
theorem meth_inst (b : Base w hB) {o d : Oid} {c fa : Addr} {fs : List (Str × AV)} {name : Str} (ho : H o = some (.inst c d)) (hd : H d = some (.fields fs)) (hn : fs.lookup name = Option.none) (hg : plainGet (Kf w.params) c name = true)
    (hf : findIn (Kf w.params) (.ref c) name = some (some (.ref fa))) (ht : isFn (Kf w.params) (.ref fa) = true) : Meth w hB (.ref o) name H (.ref fa) [.ref o] := fun A env vs ρ s v pl K O r k => by
  cases r with
  | ref _ hd' =>
    obtain ⟨ds, m, I, R⟩ := inst_at O ho hd
    obtain ⟨_, F⟩ := O.lib
    exact method_inst F b.kin I hg hf ht (er_keys R hn) (k _ (.cons (.ref o hd') .nil))
theorem meth_list {o : Oid} {xs : List AV} {name : Str} {id : String} (ho : H o = some (.list xs)) (slot : Slot "list" name id) (hty : typeOf (.builtin id) = pure (.type "method_descriptor")) : Meth w hB (.ref o) name H (.builtin id) [.ref o] := fun A env vs ρ s v pl K O r k => by
  cases r with
  | ref _ hd' =>
    obtain ⟨ys, m, hl, _⟩ := O.listAt ho
    exact getMethod_builtin ⟨_, hl, rfl⟩ PySem.F.plainAttrs_list slot hty (fun a e => by cases e; exact ⟨_, hl, rfl⟩) (k _ (.cons (.ref o hd') .nil))
theorem meth_ndict {o : Oid} {es : List (Int × AV)} {name : Str} {id : String} (ho : H o = some (.ndict es)) (slot : Slot "dict" name id) (hty : typeOf (.builtin id) = pure (.type "method_descriptor")) : Meth w hB (.ref o) name H (.builtin id) [.ref o] := fun A env vs ρ s v pl K O r k => by
  cases r with
  | ref _ hd' =>
    obtain ⟨ds, ⟨x, es, ep, h1, hc, h2⟩, _⟩ := O.objs o _ ho
    exact getMethod_builtin ⟨_, h1, hc.1⟩ PySem.F.plainAttrs_dict slot hty (fun a e => by cases e; exact ⟨_, h1, hc.2.1⟩) (k _ (.cons (.ref o hd') .nil))
theorem meth_str {x : Str} {name : Str} {id : String} (slot : Slot "str" name id) (hty : typeOf (.builtin id) = pure (.type "method_descriptor")) : Meth w hB (.str x) name H (.builtin id) [.str x] := fun A env vs ρ s v pl K O r k => by
  cases r with
  | str _ t => exact getMethod_builtin (T := "str") (show typeOf (.str x t) = pure (.type "str") from rfl) PySem.F.plainAttrs_str slot hty (fun a e => by cases e) (k _ (.cons (.str x t) .nil))
end
end Mine
namespace Mine
open PySem PySem.W PySem.Calls PyProof.Rows PySem.Spec
mutual
inductive DR (H : AHeap) : AV -> PyData -> Prop
  | none : DR H .none .none
  | bool (b : Bool) : DR H (.bool b) (.bool b)
  | int (i : Int) : DR H (.int i) (.int i)
  | str (x : Str) : DR H (.str x) (.str x)
  | tup {xs : List AV} {ds : List PyData} (h : DRs H xs ds) : DR H (.tup xs) (.tuple ds)
  | list {o : Oid} {xs : List AV} {ds : List PyData} (ho : H o = some (.list xs)) (h : DRs H xs ds) : DR H (.ref o) (.list ds)
inductive DRs (H : AHeap) : List AV -> List PyData -> Prop
  | nil : DRs H [] []
  | cons {x : AV} {d : PyData} {xs : List AV} {ds : List PyData} (hx : DR H x d) (hs : DRs H xs ds) : DRs H (x :: xs) (d :: ds)
end
section
variable {w : World} {hB : Heap} {A : Around} {env : Env} {vs : VS} {H : AHeap} {ρ : Rho} {s : Shared} {n : Nat}
theorem DR.readss (O : Ok w hB env vs H ρ s) : (∀ {a d}, DR H a d -> ∀ {v}, VR s.heap ρ H a v -> ∃ as, Reads s.heap v d as) /\ (∀ {a d}, DRs H a d -> ∀ {v}, VRs s.heap ρ H a v -> ∃ as, ReadsAll s.heap v d as) := by
  have c0 : ∀ {v}, VR s.heap ρ H .none v -> ∃ as, Reads s.heap v .none as := fun r => by obtain rfl := r.inv; exact ⟨_, .none⟩
  have c1 : ∀ b {v}, VR s.heap ρ H (.bool b) v -> ∃ as, Reads s.heap v (.bool b) as := fun b _ r => by obtain rfl := r.inv; exact ⟨_, .bool b⟩
  have c2 : ∀ i {v}, VR s.heap ρ H (.int i) v -> ∃ as, Reads s.heap v (.int i) as := fun i _ r => by obtain ⟨t, rfl⟩ := r.inv; exact ⟨_, .int i t⟩
  have c3 : ∀ x {v}, VR s.heap ρ H (.str x) v -> ∃ as, Reads s.heap v (.str x) as := fun x _ r => by obtain ⟨t, rfl⟩ := r.inv; exact ⟨_, .str x t⟩
  have c4 : ∀ {xs ds}, DRs H xs ds -> (∀ {v}, VRs s.heap ρ H xs v -> ∃ as, ReadsAll s.heap v ds as) -> ∀ {v}, VR s.heap ρ H (.tup xs) v -> ∃ as, Reads s.heap v (.tuple ds) as := fun _ ih _ r => by
    obtain ⟨a, ys, m, rfl, ho, hs⟩ := r.inv
    obtain ⟨as, r⟩ := ih hs
    exact ⟨_, .tuple ho rfl rfl (by simpa using r)⟩
  have c5 : ∀ {o xs ds}, H o = some (.list xs) -> DRs H xs ds -> (∀ {v}, VRs s.heap ρ H xs v -> ∃ as, ReadsAll s.heap v ds as) -> ∀ {v}, VR s.heap ρ H (.ref o) v -> ∃ as, Reads s.heap v (.list ds) as := fun ho _ ih _ r => by
    obtain ⟨rfl, _⟩ := r.inv
    obtain ⟨ys, m, h1, h2⟩ := O.objs _ _ ho
    obtain ⟨as, r⟩ := ih h2
    exact ⟨_, .list h1 rfl rfl (by simpa using r)⟩
  have n0 : ∀ {v}, VRs s.heap ρ H [] v -> ∃ as, ReadsAll s.heap v [] as := fun r => by obtain rfl := r.inv; exact ⟨_, .nil⟩
  have n1 : ∀ {x d xs ds}, DR H x d -> DRs H xs ds -> (∀ {v}, VR s.heap ρ H x v -> ∃ as, Reads s.heap v d as) -> (∀ {v}, VRs s.heap ρ H xs v -> ∃ as, ReadsAll s.heap v ds as) -> ∀ {v}, VRs s.heap ρ H (x :: xs) v -> ∃ as, ReadsAll s.heap v (d :: ds) as := fun _ _ ih ihs _ r => by
    obtain ⟨u, us, rfl, hx, hs⟩ := r.inv
    obtain ⟨as, r⟩ := ih hx
    obtain ⟨bs, r'⟩ := ihs hs
    exact ⟨_, .cons r r'⟩
  exact ⟨fun q => DR.rec (motive_1 := fun a d _ => ∀ {v}, VR s.heap ρ H a v -> ∃ as, Reads s.heap v d as) (motive_2 := fun a d _ => ∀ {v}, VRs s.heap ρ H a v -> ∃ as, ReadsAll s.heap v d as) c0 c1 c2 c3 c4 c5 n0 n1 q,
    fun q => DRs.rec (motive_1 := fun a d _ => ∀ {v}, VR s.heap ρ H a v -> ∃ as, Reads s.heap v d as) (motive_2 := fun a d _ => ∀ {v}, VRs s.heap ρ H a v -> ∃ as, ReadsAll s.heap v d as) c0 c1 c2 c3 c4 c5 n0 n1 q⟩
theorem DR.reads (O : Ok w hB env vs H ρ s) {a : AV} {d : PyData} {v : Value} (q : DR H a d) (r : VR s.heap ρ H a v) : ∃ as, Reads s.heap v d as := (DR.readss O).1 q r
theorem DRs.reads (O : Ok w hB env vs H ρ s) {a : List AV} {d : List PyData} {v : List Value} (q : DRs H a d) (r : VRs s.heap ρ H a v) : ∃ as, ReadsAll s.heap v d as := (DR.readss O).2 q r
theorem room {k : Nat} (hA : AOk n A) (h : k <= 64) : A.units + k < cLine := by have := hA.2.2; show A.units + k < 9900; lia
theorem c_of {op : CmpOp} {a b : AV} {c : Bool} {Q : AV -> AHeap -> Prop} (hq : Q (.bool c) H)
    (h : ∀ (A : Around) (env : Env) (vs : VS) (ρ : Rho) (s : Shared) (K : Value -> Shared -> Prop) (v u : Value), AOk n A -> Ok w hB env vs H ρ s -> VR s.heap ρ H a v -> VR s.heap ρ H b u -> (∀ tk, K (.bool c) { s with toks := tk }) -> wpAny (model pw w) A (compareOp op v u) K (fun _ _ => False) s) :
    Cmp w hB n op a b H Q := op2 fun A env vs ρ s K v u hA O ra rb k =>
  h A env vs ρ s K v u hA O ra rb fun tk => k (.bool c) (.bool c) ρ H _ (O.toks tk) (.toks tk) (.bool c) hq
theorem c_eq_int {i j : Int} {Q : AV -> AHeap -> Prop} (h : Q (.bool (i == j)) H) : Cmp w hB n .Eq (.int i) (.int j) H Q := c_of h fun A env vs ρ s K v u hA O ra rb k => by
  obtain ⟨_, rfl⟩ := ra.inv; obtain ⟨_, rfl⟩ := rb.inv; exact eq_int (k s.toks)
theorem c_ne_int {i j : Int} {Q : AV -> AHeap -> Prop} (h : Q (.bool (i != j)) H) : Cmp w hB n .NotEq (.int i) (.int j) H Q := c_of h fun A env vs ρ s K v u hA O ra rb k => by
  obtain ⟨_, rfl⟩ := ra.inv; obtain ⟨_, rfl⟩ := rb.inv; exact ne_int (k s.toks)
theorem c_lt_int {i j : Int} {Q : AV -> AHeap -> Prop} (h : Q (.bool (decide (i < j))) H) : Cmp w hB n .Lt (.int i) (.int j) H Q := c_of h fun A env vs ρ s K v u hA O ra rb k => by
  obtain ⟨_, rfl⟩ := ra.inv; obtain ⟨_, rfl⟩ := rb.inv; exact lt_int (k s.toks)
theorem c_gt_int {i j : Int} {Q : AV -> AHeap -> Prop} (h : Q (.bool (decide (i > j))) H) : Cmp w hB n .Gt (.int i) (.int j) H Q := c_of h fun A env vs ρ s K v u hA O ra rb k => by
  obtain ⟨_, rfl⟩ := ra.inv; obtain ⟨_, rfl⟩ := rb.inv; exact gt_int (k s.toks)
theorem c_eq_str {i j : Str} {Q : AV -> AHeap -> Prop} (h : Q (.bool (i == j)) H) : Cmp w hB n .Eq (.str i) (.str j) H Q := c_of h fun A env vs ρ s K v u hA O ra rb k => by
  obtain ⟨_, rfl⟩ := ra.inv; obtain ⟨_, rfl⟩ := rb.inv; exact eq_str (k s.toks)
theorem c_ne_str {i j : Str} {Q : AV -> AHeap -> Prop} (h : Q (.bool (i != j)) H) : Cmp w hB n .NotEq (.str i) (.str j) H Q := c_of h fun A env vs ρ s K v u hA O ra rb k => by
  obtain ⟨_, rfl⟩ := ra.inv; obtain ⟨_, rfl⟩ := rb.inv; exact ne_str (k s.toks)
theorem c_eq_data {a b : AV} {da db : PyData} {Q : AV -> AHeap -> Prop} (ha : DR H a da) (hb : DR H b db) (la : da.canLay0 = true) (lb : db.canLay0 = true) (hd : da.depth <= 64) (h : Q (.bool (PyData.eqv da db)) H) : Cmp w hB n .Eq a b H Q := c_of h fun A env vs ρ s K v u hA O ra rb k => by
  obtain ⟨as, r1⟩ := ha.reads O ra
  obtain ⟨bs, r2⟩ := hb.reads O rb
  exact PySem.SeqAt.compareEq_reads r1 r2 la lb (room hA (Nat.le_trans (Nat.min_le_left _ _) hd)) (k s.toks)
theorem c_ne_data {a b : AV} {da db : PyData} {Q : AV -> AHeap -> Prop} (ha : DR H a da) (hb : DR H b db) (la : da.canLay0 = true) (lb : db.canLay0 = true) (hd : da.depth <= 64) (h : Q (.bool (!PyData.eqv da db)) H) : Cmp w hB n .NotEq a b H Q := c_of h fun A env vs ρ s K v u hA O ra rb k => by
  obtain ⟨as, r1⟩ := ha.reads O ra
  obtain ⟨bs, r2⟩ := hb.reads O rb
  exact PySem.SeqAt.compareNe_reads r1 r2 la lb (room hA (Nat.le_trans (Nat.min_le_left _ _) hd)) (k s.toks)
theorem c_in_data {a : AV} {xs : List AV} {da : PyData} {ds : List PyData} {Q : AV -> AHeap -> Prop} (ha : DR H a da) (hb : DRs H xs ds) (la : da.canLay0 = true) (lb : PyData.canLayAll0 ds = true) (hd : da.depth <= 60) (h : Q (.bool (ds.any fun y => PyData.eqv y da)) H) : Cmp w hB n .In a (.tup xs) H Q := c_of h fun A env vs ρ s K v u hA O ra rb k => by
  obtain ⟨as, r1⟩ := ha.reads O ra
  obtain ⟨bs, r2⟩ := (DR.tup hb).reads O rb
  exact PySem.SeqAt.in_tuple_reads r2 r1 lb la (by have := room hA (k := 1 + min (PyData.depthAll ds) da.depth) (by lia); lia) (k s.toks)
inductive SL : List AV -> List Str -> Prop
  | nil : SL [] []
  | cons {x : Str} {xs : List AV} {l : List Str} (h : SL xs l) : SL (.str x :: xs) (x :: l)
theorem SL.vals {h : Heap} {xs : List AV} {l : List Str} (q : SL xs l) {ys : List Value} (r : VRs h ρ H xs ys) : ∀ y ∈ ys, ∃ x t, y = .str x t := by
  induction q generalizing ys with
  | nil => obtain rfl := r.inv; intro y hy; exact nomatch hy
  | cons _ ih => obtain ⟨_, _, rfl, hx, hs⟩ := r.inv; obtain ⟨t, rfl⟩ := hx.inv; intro y hy; cases hy with
    | head => exact ⟨_, t, rfl⟩
    | tail _ h' => exact ih hs y h'
noncomputable def strIs (x : Str) : Value -> Bool
  | .str y _ => y == x
  | _ => false
theorem SL.any {h : Heap} {xs : List AV} {l : List Str} (q : SL xs l) {ys : List Value} (r : VRs h ρ H xs ys) (x : Str) : ys.any (strIs x) = l.contains x := by
  induction q generalizing ys with
  | nil => obtain rfl := r.inv; rfl
  | @cons y xs l _ ih =>
    obtain ⟨_, _, rfl, hx, hs⟩ := r.inv
    obtain ⟨t, rfl⟩ := hx.inv
    rw [List.any_cons, ih hs, List.contains_cons]
    show ((y == x) || _) = ((x == y) || _)
    rw [BEq.comm (a := y)]
theorem SL.eqs {h : Heap} {xs : List AV} {l : List Str} (q : SL xs l) {ys : List Value} (r : VRs h ρ H xs ys) (x : Str) (t : Tok) (A : Around) (s : Shared) : ∀ y, y ∈ List.toArray ys -> PySem.SeqAt.EqAt A s y (.str x t) (strIs x y) := fun y hy => by
  obtain ⟨z, u, rfl⟩ := q.vals r y (by simpa using hy)
  have := (PySem.SeqRoads2.EqGives.str z x u t).at A s
  have e : (z.cps.toList == x.cps.toList) = (z == x) := by
    rw [Bool.eq_iff_iff]
    simp only [beq_iff_eq]
    constructor
    · intro h
      obtain ⟨⟨a⟩⟩ := z; obtain ⟨⟨b⟩⟩ := x; simp at h; subst h; rfl
    · intro h; rw [h]
  rw [e] at this
  exact this
theorem c_in_strs {x : Str} {xs : List AV} {l : List Str} {Q : AV -> AHeap -> Prop} (hl : SL xs l) (h : Q (.bool (l.contains x)) H) : Cmp w hB n .In (.str x) (.tup xs) H Q := c_of h fun A env vs ρ s K v u hA O ra rb k => by
  obtain ⟨t, rfl⟩ := ra.inv; obtain ⟨a, ys, m, rfl, ho, hs⟩ := rb.inv
  refine PySem.SeqAt.in_tupleAt (strIs x) ⟨_, ho, rfl, _, rfl⟩ (hl.eqs hs x t _ _) ?_
  have := hl.any hs x
  simp only [List.any_toArray]
  rw [this]
  exact k s.toks
theorem c_notin_strs {x : Str} {xs : List AV} {l : List Str} {Q : AV -> AHeap -> Prop} (hl : SL xs l) (h : Q (.bool (!l.contains x)) H) : Cmp w hB n .NotIn (.str x) (.tup xs) H Q := c_of h fun A env vs ρ s K v u hA O ra rb k => by
  obtain ⟨t, rfl⟩ := ra.inv; obtain ⟨a, ys, m, rfl, ho, hs⟩ := rb.inv
  refine PySem.SeqAt.notIn_tupleAt (strIs x) ⟨_, ho, rfl, _, rfl⟩ (hl.eqs hs x t _ _) ?_
  have := hl.any hs x
  simp only [List.any_toArray]
  rw [this]
  exact k s.toks
noncomputable def intIs (x : Int) : Value -> Bool
  | .int y _ => y == x
  | _ => false
theorem IL.vals {h : Heap} {l : List Int} : ∀ {ys : List Value} (r : VRs h ρ H (l.map AV.int) ys), (∀ y ∈ ys, ∃ x t, y = .int x t) /\ ∀ x, ys.any (intIs x) = l.contains x := by
  induction l with
  | nil => intro ys r; obtain rfl := r.inv; exact ⟨fun y hy => (nomatch hy), fun x => rfl⟩
  | cons i l ih =>
    intro ys r
    obtain ⟨_, _, rfl, hx, hs⟩ := r.inv
    obtain ⟨h1, h2⟩ := ih hs
    obtain ⟨t, rfl⟩ := hx.inv
    refine ⟨fun y hy => ?_, fun x => ?_⟩
    · cases hy with
      | head => exact ⟨_, t, rfl⟩
      | tail _ h' => exact h1 y h'
    · rw [List.any_cons, h2, List.contains_cons]
      show ((_ == x) || _) = ((x == _) || _)
      rw [BEq.comm (b := x)]
theorem c_in_ints {x : Int} {o : Oid} {l : List Int} {Q : AV -> AHeap -> Prop} (ho : H o = some (.list (l.map .int))) (h : Q (.bool (l.contains x)) H) : Cmp w hB n .In (.int x) (.ref o) H Q := c_of h fun A env vs ρ s K v u hA O ra rb k => by
  obtain ⟨t, rfl⟩ := ra.inv; obtain ⟨rfl, hd⟩ := rb.inv
  obtain ⟨ys, m, h1, h2⟩ := O.objs _ _ ho
  obtain ⟨z1, z2⟩ := IL.vals h2
  refine PySem.SeqAt.in_listAt (intIs x) ⟨_, h1, rfl, _, rfl⟩ (fun y hy => ?_) ?_
  · obtain ⟨i, u, rfl⟩ := z1 y (by simpa using hy)
    exact (PySem.MeetsSeq.EqGives.int i x u t).at _ _
  · simp only [List.any_toArray]
    rw [z2]
    exact k s.toks
theorem Base.sys (b : Base w hB) : sysModules < hB.objs.size := by
  have := Heap.lt_size (b.lt (i := 812) (by decide))
  exact Nat.lt_trans (show (1 : Nat) < 812 by decide) this
theorem bigSys (O : Ok w hB env vs H ρ s) (hs : sysModules < hB.objs.size) {o : Oid} (ho : H o ≠ Option.none) : (ρ o == sysModules) = false := by
  have := O.big o ho
  simp only [beq_eq_false_iff_ne, ne_eq]
  intro e
  rw [e] at this
  exact absurd hs (Nat.not_lt.mpr this)
theorem pr_valueAt {K : Type} [DecidableEq K] {h : Heap} {es : List (K × AV)} {ds : List (K × Value)} (r : PR K h ρ H es ds) (k : K) : match es.lookup k with
    | some a => ∃ v, PySem.valueAt ds k = some v /\ VR h ρ H a v
    | none => PySem.valueAt ds k = none := by
  induction r with
  | nil => rfl
  | @cons k' x v es ds hx hs ih =>
    rw [List.lookup_cons]
    by_cases q : k = k'
    · subst q
      simp only [BEq.rfl]
      exact ⟨v, by unfold PySem.valueAt; simp, hx⟩
    · have q1 : (k == k') = false := by simpa using q
      rw [q1]
      have e : PySem.valueAt ((k', v) :: ds) k = PySem.valueAt ds k := by
        unfold PySem.valueAt
        rw [List.find?_cons]
        have : decide (k' = k) = false := by simpa using Ne.symm q
        simp [this]
      simp only [e]
      exact ih
theorem isS (w : World) (x : Str) (t : Tok) : (PySem.strKind pw w).is x (.str x t) = true := by show (x == x) = true; simp
theorem isI (w : World) (x : Int) (t : Tok) : (PySem.intKind pw w).is x (.int x t) = true := by show (x == x) = true; simp
theorem pr_isSome {K : Type} [DecidableEq K] {h : Heap} {es : List (K × AV)} {ds : List (K × Value)} (r : PR K h ρ H es ds) (k : K) : (PySem.valueAt ds k).isSome = (es.lookup k).isSome := by
  have := pr_valueAt r k
  cases e : es.lookup k with
  | none => rw [e] at this; dsimp only at this; rw [this]; rfl
  | some a => rw [e] at this; obtain ⟨v, h, _⟩ := this; rw [h]; rfl
theorem c_in_sdict {x : Str} {o : Oid} {es : List (Str × AV)} {Q : AV -> AHeap -> Prop} (hs : sysModules < hB.objs.size) (ho : H o = some (.sdict es)) (h : Q (.bool (es.lookup x).isSome) H) : Cmp w hB n .In (.str x) (.ref o) H Q := c_of h fun A env vs ρ s K v u hA O ra rb k => by
  obtain ⟨t, rfl⟩ := ra.inv; obtain ⟨rfl, hd⟩ := rb.inv
  obtain ⟨ds, h1, h2⟩ := O.objs _ _ ho
  refine wpAny_in_of (isS w x t) (bigSys O hs hd) h1.mapOf ?_
  rw [pr_isSome h2]
  exact k _
theorem c_notin_sdict {x : Str} {o : Oid} {es : List (Str × AV)} {Q : AV -> AHeap -> Prop} (hs : sysModules < hB.objs.size) (ho : H o = some (.sdict es)) (h : Q (.bool (!(es.lookup x).isSome)) H) : Cmp w hB n .NotIn (.str x) (.ref o) H Q := c_of h fun A env vs ρ s K v u hA O ra rb k => by
  obtain ⟨t, rfl⟩ := ra.inv; obtain ⟨rfl, hd⟩ := rb.inv
  obtain ⟨ds, h1, h2⟩ := O.objs _ _ ho
  refine wpAny_notIn_of (isS w x t) (bigSys O hs hd) h1.mapOf ?_
  rw [pr_isSome h2]
  exact k _
theorem c_in_ndict {x : Int} {o : Oid} {es : List (Int × AV)} {Q : AV -> AHeap -> Prop} (hs : sysModules < hB.objs.size) (ho : H o = some (.ndict es)) (h : Q (.bool (es.lookup x).isSome) H) : Cmp w hB n .In (.int x) (.ref o) H Q := c_of h fun A env vs ρ s K v u hA O ra rb k => by
  obtain ⟨t, rfl⟩ := ra.inv; obtain ⟨rfl, hd⟩ := rb.inv
  obtain ⟨ds, h1, h2⟩ := O.objs _ _ ho
  refine wpAny_in_of (isI w x t) (bigSys O hs hd) h1.mapOf ?_
  rw [pr_isSome h2]
  exact k _
noncomputable def AV.noneTest : AV -> Option Bool
  | .none => some true
  | .bool _ => some false
  | .int _ => some false
  | .str _ => some false
  | .ref _ => some false
  | .tup _ => some false
  | _ => Option.none
theorem c_isnot_none {a : AV} {c : Bool} {Q : AV -> AHeap -> Prop} (e : a.noneTest = some c) (h : Q (.bool (!c)) H) : Cmp w hB n .IsNot a .none H Q := c_of h fun A env vs ρ s K v u hA O ra rb k => by
  cases rb
  cases ra <;> first | (cases e; exact wpAny_isNot_other (by rfl) (by intro q; cases q) (k s.toks)) | (cases e; exact wpAny_isNot_self (by rfl) (k s.toks)) | cases e
end
section
variable {w : World} {hB : Heap} {A : Around} {env : Env} {vs : VS} {H : AHeap} {ρ : Rho} {s : Shared} {n : Nat}
theorem b_of {op : Operator} {a b c : AV} {Q : AV -> AHeap -> Prop} (hq : Q c H)
    (h : ∀ (A : Around) (env : Env) (vs : VS) (ρ : Rho) (s : Shared) (K : Value -> Shared -> Prop) (v u : Value), AOk n A -> Ok w hB env vs H ρ s -> VR s.heap ρ H a v -> VR s.heap ρ H b u -> (∀ x tk, VR s.heap ρ H c x -> K x { s with toks := tk }) -> wpAny (model pw w) A (binaryOp op v u) K (fun _ _ => False) s) :
    Bin w hB n op a b H Q := op2 fun A env vs ρ s K v u hA O ra rb k =>
  h A env vs ρ s K v u hA O ra rb fun x tk r => k x c ρ H _ (O.toks tk) (.toks tk) (r.mono O (.toks tk)) hq
theorem b_add_int {i j : Int} {Q : AV -> AHeap -> Prop} (h : Q (.int (i + j)) H) : Bin w hB n .Add (.int i) (.int j) H Q := b_of h fun A env vs ρ s K v u hA O ra rb k => by
  obtain ⟨_, rfl⟩ := ra.inv; obtain ⟨_, rfl⟩ := rb.inv; exact add_int (k _ _ (.int _ _))
theorem b_sub_int {i j : Int} {Q : AV -> AHeap -> Prop} (h : Q (.int (i - j)) H) : Bin w hB n .Sub (.int i) (.int j) H Q := b_of h fun A env vs ρ s K v u hA O ra rb k => by
  obtain ⟨_, rfl⟩ := ra.inv; obtain ⟨_, rfl⟩ := rb.inv; exact sub_int (k _ _ (.int _ _))
theorem b_mul_int {i j : Int} {Q : AV -> AHeap -> Prop} (hm : IntMulOk i j) (h : Q (.int (i * j)) H) : Bin w hB n .Mult (.int i) (.int j) H Q := b_of h fun A env vs ρ s K v u hA O ra rb k => by
  obtain ⟨_, rfl⟩ := ra.inv; obtain ⟨_, rfl⟩ := rb.inv; exact mul_int (k _ _ (.int _ _)) hm
theorem b_mod_int {i j : Int} {Q : AV -> AHeap -> Prop} (hm : j ≠ 0) (h : Q (.int (Int.fmod i j)) H) : Bin w hB n .Mod (.int i) (.int j) H Q := b_of h fun A env vs ρ s K v u hA O ra rb k => by
  obtain ⟨_, rfl⟩ := ra.inv; obtain ⟨_, rfl⟩ := rb.inv; exact mod_int' hm (k _ _ (.int _ _))
theorem b_add_str {i j : Str} {Q : AV -> AHeap -> Prop} (hm : i.length + j.length <= 1000000) (h : Q (.str (i ++ j)) H) : Bin w hB n .Add (.str i) (.str j) H Q := b_of h fun A env vs ρ s K v u hA O ra rb k => by
  obtain ⟨_, rfl⟩ := ra.inv; obtain ⟨_, rfl⟩ := rb.inv; exact add_str (fun t' tk => k _ _ (.str _ _)) (sizeLine_big hm)
theorem b_add_tup {xs ys : List AV} {Q : AV -> AHeap -> Prop} (hx : xs ≠ []) (hy : ys ≠ []) (hm : xs.length + ys.length <= 1000000) (h : Q (.tup (xs ++ ys)) H) : Bin w hB n .Add (.tup xs) (.tup ys) H Q := op2 fun A env vs ρ s K v u hA O ra rb k => by
  obtain ⟨a, us, m, rfl, ho, hs⟩ := ra.inv
  obtain ⟨b, vs', m', rfl, ho', hs'⟩ := rb.inv
  refine PySem.P.add_tuple ho ho' ?_ ?_ ?_ ?_
  · cases hs with
    | nil => exact absurd rfl hx
    | cons _ _ => simp
  · cases hs' with
    | nil => exact absurd rfl hy
    | cons _ _ => simp
  · obtain ⟨O2, S2⟩ := O.ext (s' := { s with heap := s.heap.push { cls := .type "tuple", data := .seq (us.toArray ++ vs'.toArray) } }) (fun b o e => Heap.get?_push_of_some _ e) (by show s.heap.objs.size <= (s.heap.push _).objs.size; rw [Heap.size_push]; lia) rfl rfl
    refine k _ (.tup (xs ++ ys)) ρ H _ O2 S2 (.tup _ _ (us ++ vs') 0 ?_ ((hs.append hs').mono O S2)) h
    rw [List.append_toArray]
    exact Heap.get?_push_size _ rfl
  · simp only [List.size_toArray]
    rw [<- hs.len, <- hs'.len]
    exact sizeLine_big hm
theorem b_add_list {o o' : Oid} (o2 : Oid) {xs ys : List AV} {Q : AV -> AHeap -> Prop} (h1 : H o = some (.list xs)) (h2 : H o' = some (.list ys)) (hn : H o2 = none) (hm : xs.length + ys.length <= 1000000) (h : Q (.ref o2) (upd H o2 (.list (xs ++ ys)))) : Bin w hB n .Add (.ref o) (.ref o') H Q := op2 fun A env vs ρ s K v u hA O ra rb k => by
  obtain ⟨rfl, hd⟩ := ra.inv; obtain ⟨rfl, hd'⟩ := rb.inv
  obtain ⟨us, m, ho, hs⟩ := O.listAt h1
  obtain ⟨vs', m', ho', hs'⟩ := O.listAt h2
  refine PySem.P.add_list ho ho' ?_ ?_
  · obtain ⟨O2, S2⟩ := O.newList (o := o2) hn (hs.append hs') s.toks
    have e : Value.ref s.heap.objs.size = Value.ref (updR ρ o2 s.heap.objs.size o2) := by rw [updR_self]
    rw [e, List.append_toArray]
    exact k _ (.ref o2) _ _ _ O2 S2 (.ref o2 (by rw [upd_self]; simp)) h
  · simp only [List.size_toArray]
    rw [<- hs.len, <- hs'.len]
    exact sizeLine_big hm
theorem tr_bool {c : Bool} {Q : Bool -> AHeap -> Prop} (h : Q c H) : Tru w hB n (.bool c) H Q := op1 fun A env vs ρ s K v hA O ra k => by
  cases ra; exact wpAny_truthy_bool (k _ c ρ H _ O .rfl rfl h)
theorem tr_list {o : Oid} {xs : List AV} {Q : Bool -> AHeap -> Prop} (ho : H o = some (.list xs)) (hz : xs.length <= 1000000) (h : Q (!xs.isEmpty) H) : Tru w hB n (.ref o) H Q := op1 fun A env vs ρ s K v hA O ra k => by
  obtain ⟨rfl, hd⟩ := ra.inv
  obtain ⟨us, m, ho', hs⟩ := O.listAt ho
  refine wpAny_truthy_list (items := us.toArray) ⟨_, ho', rfl, _, rfl⟩ (by have := hs.len; simp only [List.size_toArray]; lia) ?_
  refine k _ (!xs.isEmpty) ρ H _ (O.toks _) (.toks _) ?_ h
  cases hs with
  | nil => rfl
  | cons _ _ => rfl
set_option tactic.hygienic true in
theorem sub_op (se : Expr) (o i : Value) : ∃ ops, subscripted se false o i = operate ops (getItem o i) := by
  unfold subscripted
  split
  · exact ⟨_, rfl⟩
  · rename_i h; cases h
  · exact ⟨_, rfl⟩
noncomputable abbrev Sub (w : World) (hB : Heap) (n : Nat) (a i : AV) (H : AHeap) (Q : AV -> AHeap -> Prop) : Prop := ∀ ve se, Op w hB n relV (of2 (subscriptTail ve se)) [a, i] H Q
theorem e_sub (hA : AOk n A) {l r : Expr} {pos : Pos} {Q} (h : RV w hB A env (eval l env) vs H fun a v1 H1 => RV w hB A env (eval r env) v1 H1 fun b v2 H2 => Sub w hB n a b H2 fun c H3 => Q c v2 H3) :
    RV w hB A env (eval (.Subscript l r pos) env) vs H Q := fun ρ s K O k =>
  Subscript_ (h ρ s _ O fun v a ρ1 v1 H1 s1 O1 S1 r1 q1 => q1 ρ1 s1 _ O1 fun u b ρ2 v2 H2 s2 O2 S2 r2 q2 =>
    q2 l r A env v2 ρ2 s2 K [v, u] hA O2 (.cons (r1.mono O1 S2) (.cons r2 .nil)) fun x c ρ3 H3 s3 O3 S3 r3 q3 => k x c ρ3 v2 H3 s3 O3 ((S1.trans S2).trans S3) r3 q3)
noncomputable def placeOf (i : Int) (m : Nat) : Option Nat := if 0 <= i /\ i < m then some i.toNat else if -(m : Int) <= i /\ i < 0 then some (i + m).toNat else none
set_option tactic.hygienic true in
theorem placeOf_some {i : Int} {m k : Nat} (h : placeOf i m = some k) : seqIndex? i m = some k /\ k < m := by
  unfold placeOf at h
  unfold seqIndex?
  split at h
  · rename_i q
    cases h
    refine ⟨?_, by lia⟩
    have h1 : ¬ i < 0 := by lia
    simp only [h1, if_false]
    split
    · rename_i q'; rfl
    · rename_i q'; simp_all <;> lia
  · split at h
    · rename_i q1 q
      cases h
      refine ⟨?_, by lia⟩
      have h1 : i < 0 := by lia
      simp only [h1, if_true]
      split
      · rename_i q'; first | rfl | (simp_all <;> lia)
      · rename_i q'; simp_all <;> lia
    · cases h
theorem u_tup {xs : List AV} {i : Int} {k : Nat} {a : AV} {Q : AV -> AHeap -> Prop} (hk : placeOf i xs.length = some k) (hz : xs.length <= 1000000) (hx : xs[k]? = some a) (h : Q a H) : Sub w hB n (.tup xs) (.int i) H Q := fun ve se => op2 fun A env vs ρ s K v u hA O ra rb k' => by
  obtain ⟨t, us, m, rfl, ho, hs⟩ := ra.inv; obtain ⟨tk, rfl⟩ := rb.inv
  obtain ⟨y, hy, hr⟩ := hs.get hx
  obtain ⟨p1, p2⟩ := placeOf_some hk
  have hi : -(xs.length : Int) <= i /\ i < xs.length := by
    unfold placeOf at hk
    split at hk
    · lia
    · split at hk
      · lia
      · cases hk
  obtain ⟨ops, hops⟩ := sub_op se (.ref t) (.int i tk)
  refine tail_any (s := s) (T := "tuple") (id := "tuple.__getitem__") ⟨_, ho, rfl⟩ F.slot_tuple_getitem.lookup (PyProof.Rows.getItem_tuple (items := us.toArray) (j := k) ⟨_, ho, rfl, _, rfl⟩ (by lia) (by lia) ?_ ?_ (k' y a ρ H s O .rfl hr h)) hops
  · rw [List.size_toArray, <- hs.len]; exact p1
  · simpa using hy
theorem u_list {o : Oid} {xs : List AV} {i : Int} {k : Nat} {a : AV} {Q : AV -> AHeap -> Prop} (ho : H o = some (.list xs)) (hk : placeOf i xs.length = some k) (hz : xs.length <= 1000000) (hx : xs[k]? = some a) (h : Q a H) : Sub w hB n (.ref o) (.int i) H Q := fun ve se => op2 fun A env vs ρ s K v u hA O ra rb k' => by
  obtain ⟨rfl, hd⟩ := ra.inv; obtain ⟨tk, rfl⟩ := rb.inv
  obtain ⟨us, m, ho', hs⟩ := O.listAt ho
  obtain ⟨y, hy, hr⟩ := hs.get hx
  obtain ⟨p1, p2⟩ := placeOf_some hk
  have hi : -(xs.length : Int) <= i /\ i < xs.length := by
    unfold placeOf at hk
    split at hk
    · lia
    · split at hk
      · lia
      · cases hk
  obtain ⟨ops, hops⟩ := sub_op se (.ref (ρ o)) (.int i tk)
  refine tail_any (s := s) (T := "list") (id := "list.__getitem__") ⟨_, ho', rfl⟩ list_getitem_lookup ?_ hops
  have e : us.length = xs.length := hs.len.symm
  by_cases q : 0 <= i
  · refine wpAny_getItem_list (items := us.toArray) ⟨_, ho', rfl, _, rfl⟩ q (by lia) ?_ (k' y a ρ H s O .rfl hr h)
    have : k = i.toNat := by
      unfold placeOf at hk
      rw [if_pos ⟨q, hi.2⟩] at hk
      cases hk; rfl
    rw [<- this]; simpa using hy
  · exact kde_getNeg ⟨_, ho', rfl, _, rfl⟩ (by lia) (by lia) (by rw [e]; exact p1) hy (k' y a ρ H s O .rfl hr h)
theorem u_sdict {o : Oid} {es : List (Str × AV)} {x : Str} {a : AV} {Q : AV -> AHeap -> Prop} (ho : H o = some (.sdict es)) (hx : es.lookup x = some a) (h : Q a H) : Sub w hB n (.ref o) (.str x) H Q := fun ve se => op2 fun A env vs ρ s K v u hA O ra rb k' => by
  obtain ⟨rfl, hd⟩ := ra.inv; obtain ⟨tk, rfl⟩ := rb.inv
  obtain ⟨ds, h1, h2⟩ := O.objs _ _ ho
  have := pr_valueAt h2 x
  rw [hx] at this
  obtain ⟨y, hy, hr⟩ := this
  obtain ⟨x', es', ep, g1, g2, g3⟩ := id h1
  obtain ⟨ops, hops⟩ := sub_op se (.ref (ρ o)) (.str x tk)
  exact tail_any (s := s) (T := "dict") (id := "dict.__getitem__") ⟨_, g1, g2.1⟩ F.slot_dict_getitem.lookup (wpAny_getItem_of (isS w x tk) h1.mapOf hy (k' y a ρ H _ (O.toks _) (.toks _) (hr.mono O (.toks _)) h)) hops
theorem u_ndict {o : Oid} {es : List (Int × AV)} {x : Int} {a : AV} {Q : AV -> AHeap -> Prop} (ho : H o = some (.ndict es)) (hx : es.lookup x = some a) (h : Q a H) : Sub w hB n (.ref o) (.int x) H Q := fun ve se => op2 fun A env vs ρ s K v u hA O ra rb k' => by
  obtain ⟨rfl, hd⟩ := ra.inv; obtain ⟨tk, rfl⟩ := rb.inv
  obtain ⟨ds, h1, h2⟩ := O.objs _ _ ho
  have := pr_valueAt h2 x
  rw [hx] at this
  obtain ⟨y, hy, hr⟩ := this
  obtain ⟨x', es', ep, g1, g2, g3⟩ := id h1
  obtain ⟨ops, hops⟩ := sub_op se (.ref (ρ o)) (.int x tk)
  exact tail_any (s := s) (T := "dict") (id := "dict.__getitem__") ⟨_, g1, g2.1⟩ F.slot_dict_getitem.lookup (wpAny_getItem_of (isI w x tk) h1.mapOf hy (k' y a ρ H _ (O.toks _) (.toks _) (hr.mono O (.toks _)) h)) hops
end
section
variable {w : World} {hB : Heap} {A : Around} {env : Env} {vs : VS} {H : AHeap} {ρ : Rho} {s : Shared} {n : Nat}
theorem Ok.newListAt (O : Ok w hB env vs H ρ s) {o : Oid} {xs : List AV} {ys : List Value} (ho : H o = Option.none) (r : VRs s.heap ρ H xs ys) {s' : Shared} (c : Nat) {a : Addr} (ha : s.heap.objs.size <= a)
    (hk : ∀ b x, s.heap.get? b = some x -> s'.heap.get? b = some x) (hn : s'.heap.get? a = some (W.listOf (List.toArray ys) c)) (hg : s'.gens = s.gens) (hos : s'.os = s.os) :
    Ok w hB env vs (upd H o (.list xs)) (updR ρ o a) s' /\ Step env ρ H s (updR ρ o a) (upd H o (.list xs)) s' :=
  O.setObj (fun i q => updR_ne q) (.inr ⟨ho, by rw [updR_self]; exact ha⟩) (fun b x hx _ => hk b x hx) ⟨_, by rw [updR_self]; exact hn⟩ hg hos
    fun S => ⟨ys, c, by rw [updR_self]; exact hn, r.mono O S⟩
theorem sp_1 {f : Value} {a : AV} {Q : AV -> AHeap -> Prop} (h : ∀ (A : Around) (env : Env) (vs : VS) (ρ : Rho) (s : Shared) (K : Value -> Shared -> Prop) (v : Value), AOk n A -> Ok w hB env vs H ρ s -> VR s.heap ρ H a v ->
    (∀ v b ρ' H' s', Ok w hB env vs H' ρ' s' -> Step env ρ H s ρ' H' s' -> VR s'.heap ρ' H' b v -> Q b H' -> K v s') -> wpAny (model pw w) A (call f [v]) K (fun _ _ => False) s) : Spec w hB n f [a] H Q := fun A env vs ρ s K vals hA O hv k => by
  obtain ⟨_, _, rfl, ha, hv⟩ := hv.inv; cases hv; exact h A env vs ρ s K _ hA O ha k
theorem sp_2 {f : Value} {a b : AV} {Q : AV -> AHeap -> Prop} (h : ∀ (A : Around) (env : Env) (vs : VS) (ρ : Rho) (s : Shared) (K : Value -> Shared -> Prop) (v u : Value), AOk n A -> Ok w hB env vs H ρ s -> VR s.heap ρ H a v -> VR s.heap ρ H b u ->
    (∀ v b ρ' H' s', Ok w hB env vs H' ρ' s' -> Step env ρ H s ρ' H' s' -> VR s'.heap ρ' H' b v -> Q b H' -> K v s') -> wpAny (model pw w) A (call f [v, u]) K (fun _ _ => False) s) : Spec w hB n f [a, b] H Q := fun A env vs ρ s K vals hA O hv k => by
  obtain ⟨_, _, rfl, ha, hv⟩ := hv.inv; obtain ⟨_, _, rfl, hb, hv⟩ := hv.inv; cases hv; exact h A env vs ρ s K _ _ hA O ha hb k
theorem sp_3 {f : Value} {a b c : AV} {Q : AV -> AHeap -> Prop} (h : ∀ (A : Around) (env : Env) (vs : VS) (ρ : Rho) (s : Shared) (K : Value -> Shared -> Prop) (v u z : Value), AOk n A -> Ok w hB env vs H ρ s -> VR s.heap ρ H a v -> VR s.heap ρ H b u -> VR s.heap ρ H c z ->
    (∀ v b ρ' H' s', Ok w hB env vs H' ρ' s' -> Step env ρ H s ρ' H' s' -> VR s'.heap ρ' H' b v -> Q b H' -> K v s') -> wpAny (model pw w) A (call f [v, u, z]) K (fun _ _ => False) s) : Spec w hB n f [a, b, c] H Q := fun A env vs ρ s K vals hA O hv k => by
  obtain ⟨_, _, rfl, ha, hv⟩ := hv.inv; obtain ⟨_, _, rfl, hb, hv⟩ := hv.inv; obtain ⟨_, _, rfl, hc, hv⟩ := hv.inv; cases hv; exact h A env vs ρ s K _ _ _ hA O ha hb hc k
theorem Ok.keepK (O : Ok w hB env vs H ρ s) {h' : Heap} (tk : Nat) (hk : ∀ b x, s.heap.get? b = some x -> h'.get? b = some x) : Ok w hB env vs H ρ { s with heap := h', toks := tk } /\ Step env ρ H s ρ H { s with heap := h', toks := tk } := by
  exact O.ext' hk rfl rfl
theorem sp_len_list {o : Oid} {xs : List AV} {Q : AV -> AHeap -> Prop} (ho : H o = some (.list xs)) (hz : xs.length <= 1000000) (h : Q (.int xs.length) H) : Spec w hB n (.builtin "len") [.ref o] H Q := sp_1 fun A env vs ρ s K v hA O ra k => by
  obtain ⟨rfl, hd⟩ := ra.inv
  obtain ⟨us, m, ho', hs⟩ := O.listAt ho
  have e := hs.len
  refine len_list (items := us.toArray) ⟨_, ho', rfl, _, rfl⟩ (by simp only [List.size_toArray]; omega) ?_
  simp only [List.size_toArray]
  rw [<- e]
  exact k _ _ ρ H _ (O.toks _) (.toks _) (.int _ _) h
theorem sp_len_tup {xs : List AV} {Q : AV -> AHeap -> Prop} (hz : xs.length <= 1000000) (h : Q (.int xs.length) H) : Spec w hB n (.builtin "len") [.tup xs] H Q := sp_1 fun A env vs ρ s K v hA O ra k => by
  obtain ⟨t, us, m, rfl, ho, hs⟩ := ra.inv
  have e := hs.len
  refine len_tuple (items := us.toArray) ⟨_, ho, rfl, _, rfl⟩ (by simp only [List.size_toArray]; omega) ?_
  simp only [List.size_toArray]
  rw [<- e]
  exact k _ _ ρ H _ (O.toks _) (.toks _) (.int _ _) h
theorem sp_list_list (o2 : Oid) {o : Oid} {xs : List AV} {Q : AV -> AHeap -> Prop} (ho : H o = some (.list xs)) (hn : H o2 = none) (hz : xs.length <= 1000000) (h : Q (.ref o2) (upd H o2 (.list xs))) : Spec w hB n (.type "list") [.ref o] H Q := sp_1 fun A env vs ρ s K v hA O ra k => by
  obtain ⟨rfl, hd⟩ := ra.inv
  obtain ⟨us, m, ho', hs⟩ := O.listAt ho
  refine call_list_seq (hsz := by rw [List.size_toArray, <- hs.len]; exact sizeLine_big hz) (ρ o) (.inl rfl) ho' rfl rfl fun h' c' hk hD => ?_
  obtain ⟨O2, S2⟩ := O.newListAt (s' := { s with heap := h' }) hn hs c' (Nat.le_refl _) hk hD rfl rfl
  have e : Value.ref s.heap.objs.size = Value.ref (updR ρ o2 s.heap.objs.size o2) := by rw [updR_self]
  rw [e]
  exact k _ (.ref o2) _ _ _ O2 S2 (.ref o2 (by rw [upd_self]; simp)) h
theorem sp_list_tup (o2 : Oid) {xs : List AV} {Q : AV -> AHeap -> Prop} (hn : H o2 = none) (hz : xs.length <= 1000000) (h : Q (.ref o2) (upd H o2 (.list xs))) : Spec w hB n (.type "list") [.tup xs] H Q := sp_1 fun A env vs ρ s K v hA O ra k => by
  obtain ⟨t, us, m, rfl, ho, hs⟩ := ra.inv
  refine call_list_seq (hsz := by rw [List.size_toArray, <- hs.len]; exact sizeLine_big hz) t (.inr rfl) ho rfl rfl fun h' c' hk hD => ?_
  obtain ⟨O2, S2⟩ := O.newListAt (s' := { s with heap := h' }) hn hs c' (Nat.le_refl _) hk hD rfl rfl
  have e : Value.ref s.heap.objs.size = Value.ref (updR ρ o2 s.heap.objs.size o2) := by rw [updR_self]
  rw [e]
  exact k _ (.ref o2) _ _ _ O2 S2 (.ref o2 (by rw [upd_self]; simp)) h
theorem Ok.pushed (O : Ok w hB env vs H ρ s) (x : Obj) (tk : Nat) : Ok w hB env vs H ρ { s with heap := s.heap.push x, toks := tk } /\ Step env ρ H s ρ H { s with heap := s.heap.push x, toks := tk } :=
  O.ext (fun b o e => Heap.get?_push_of_some _ e) (by show s.heap.objs.size <= (s.heap.push _).objs.size; rw [Heap.size_push]; omega) rfl rfl
theorem sp_range1 {b : Int} {Q : AV -> AHeap -> Prop} (h : Q (.rng 0 b 1) H) : Spec w hB n (.type "range") [.int b] H Q := sp_1 fun A env vs ρ s K v hA O ra k => by
  cases ra
  refine call_range_1 ?_
  obtain ⟨O2, S2⟩ := O.pushed { cls := .type "range", data := .fields #[.int 0 s.toks, .int b _, .int 1 (s.toks + 1)] } (s.toks + 1 + 1)
  exact k _ (.rng 0 b 1) ρ H _ O2 S2 (.rng _ _ _ _ _ _ _ (Heap.get?_push_size _ rfl)) h
theorem sp_range2 {a b : Int} {Q : AV -> AHeap -> Prop} (h : Q (.rng a b 1) H) : Spec w hB n (.type "range") [.int a, .int b] H Q := sp_2 fun A env vs ρ s K v u hA O ra rb k => by
  cases ra; cases rb
  refine call_range_2 ?_
  obtain ⟨O2, S2⟩ := O.pushed { cls := .type "range", data := .fields #[.int a _, .int b _, .int 1 s.toks] } (s.toks + 1)
  exact k _ (.rng a b 1) ρ H _ O2 S2 (.rng _ _ _ _ _ _ _ (Heap.get?_push_size _ rfl)) h
theorem sp_range3 {a b c : Int} {Q : AV -> AHeap -> Prop} (hc : c ≠ 0) (hs : -1000 <= c /\ c <= 1000) (h : Q (.rng a b c) H) : Spec w hB n (.type "range") [.int a, .int b, .int c] H Q := sp_3 fun A env vs ρ s K v u z hA O ra rb rc k => by
  cases ra; cases rb; cases rc
  refine call_range_3 hc ?_ (.inl (PyProof.noPylong_small (by omega)))
  obtain ⟨O2, S2⟩ := O.pushed { cls := .type "range", data := .fields #[.int a _, .int b _, .int c _] } s.toks
  exact k _ (.rng a b c) ρ H _ O2 S2 (.rng _ _ _ _ _ _ _ (Heap.get?_push_size _ rfl)) h
theorem ints_of {h : Heap} {l : List Int} : ∀ {ys : List Value} (r : VRs h ρ H (l.map AV.int) ys), ∃ xs : List (Int × Tok), ys.toArray = intItems xs.toArray /\ xs.map (·.1) = l := by
  induction l with
  | nil => intro ys r; cases r; exact ⟨[], by simp [intItems], rfl⟩
  | cons i l ih =>
    intro ys r
    cases r with | cons hx hs =>
    obtain ⟨xs, h1, h2⟩ := ih hs
    obtain ⟨t, rfl⟩ := hx.inv
    refine ⟨(i, t) :: xs, ?_, by rw [List.map_cons, h2]⟩
    apply Array.ext'
    have := congrArg Array.toList h1
    simp [intItems] at this ⊢
    exact this
theorem sp_max {o : Oid} {l : List Int} {Q : AV -> AHeap -> Prop} (ho : H o = some (.list (l.map .int))) (hne : l ≠ []) (h : ∀ M, M ∈ l -> (∀ a, a ∈ l -> a <= M) -> Q (.int M) H) : Spec w hB n (.builtin "max") [.ref o] H Q := sp_1 fun A env vs ρ s K v hA O ra k => by
  obtain ⟨rfl, hd⟩ := ra.inv
  obtain ⟨us, m, ho', hs⟩ := O.listAt ho
  obtain ⟨xs, e1, e2⟩ := ints_of hs
  have hl : s.heap.IsList (ρ o) (intItems xs.toArray) := ⟨_, ho', rfl, _, by rw [<- e1]⟩
  have hpos : 0 < xs.toArray.size := by
    cases xs with
    | nil => subst e2; exact absurd rfl hne
    | cons _ _ => exact Nat.succ_pos _
  refine max_intList hA.1 hl hpos fun v h' tk hv hk => ?_
  obtain ⟨t, rfl⟩ := intItems_at hv
  obtain ⟨h1, h2⟩ := argBest_gt (numAt xs.toArray) (xs.toArray.size - 1)
  obtain ⟨O2, S2⟩ := O.keepK tk hk
  refine k _ _ ρ H _ O2 S2 (.int _ t) (h _ ?_ fun a ha => ?_)
  · rw [numAt_eq, <- e2]; exact getD_mem (by rw [List.length_map]; simp only [List.size_toArray] at *; omega)
  · rw [<- e2] at ha
    obtain ⟨j, hj, rfl⟩ := mem_getD ha
    rw [List.length_map] at hj
    have := h2 j (by simp only [List.size_toArray]; omega)
    rw [numAt_eq] at this
    exact this
theorem sp_chr {i : Int} {Q : AV -> AHeap -> Prop} (h0 : 0 <= i) (h1 : i <= 1114111) (h : Q (.str ⟨#[i.toNat]⟩) H) : Spec w hB n (.builtin "chr") [.int i] H Q := sp_1 fun A env vs ρ s K v hA O ra k => by
  cases ra
  exact chr_of_range h0 h1 (k _ _ ρ H _ (O.toks _) (.toks _) (.str _ _) h)
theorem sp_int {x : Str} {i : Int} {Q : AV -> AHeap -> Prop} (hx : PySem.intText? x = some i) (hl : x.length <= 640) (h : Q (.int i) H) : Spec w hB n (.type "int") [.str x] H Q := sp_1 fun A env vs ρ s K v hA O ra k => by
  cases ra
  exact KIN.call_text hx hl (k _ _ ρ H _ (O.toks _) (.toks _) (.int _ _) h)
theorem sp_str {i : Int} {Q : AV -> AHeap -> Prop} (hi : i.natAbs.log2 < 1920) (h : Q (.str (Str.ofString (toString i))) H) : Spec w hB n (.type "str") [.int i] H Q := sp_1 fun A env vs ρ s K v hA O ra k => by
  cases ra
  exact PySem.P.str_of_int hi (k _ _ ρ H _ (O.toks _) (.toks _) (.str _ _) h)
theorem sp_sum {o : Oid} {l : List Int} {Q : AV -> AHeap -> Prop} (ho : H o = some (.list (l.map .int))) (h : ∀ M, Q (.int M) H) : Spec w hB n (.builtin "sum") [.ref o] H Q := sp_1 fun A env vs ρ s K v hA O ra k => by
  obtain ⟨rfl, hd⟩ := ra.inv
  obtain ⟨us, m, ho', hs⟩ := O.listAt ho
  obtain ⟨xs, e1, e2⟩ := ints_of hs
  have hl : s.heap.IsList (ρ o) (intItems xs.toArray) := ⟨_, ho', rfl, _, by rw [<- e1]⟩
  refine sum_intListG hA.1 hl fun h' tk t' hk => ?_
  obtain ⟨O2, S2⟩ := O.keepK tk hk
  exact k _ _ ρ H _ O2 S2 (.int _ t') (h _)
theorem strs_of {h : Heap} {l : List Str} : ∀ {ys : List Value} (r : VRs h ρ H (l.map AV.str) ys), StrsAre ys l := by
  induction l with
  | nil => intro ys r; cases r; exact .nil
  | cons i l ih => intro ys r; cases r with | cons hx hs => obtain ⟨t, rfl⟩ := hx.inv; exact .cons _ t (ih hs)
theorem sp_join {o : Oid} {x : Str} {l : List Str} {Q : AV -> AHeap -> Prop} (ho : H o = some (.list (l.map .str))) (hok : (l.map (·.length)).sum + l.length * x.length <= 16777216) (h : Q (.str (Txt.join x l)) H) : Spec w hB n (.builtin "str.join") [.str x, .ref o] H Q := sp_2 fun A env vs ρ s K v u hA O ra rb k => by
  cases ra; cases rb
  obtain ⟨us, m, ho', hs⟩ := O.listAt ho
  exact join_list (items := us.toArray) ⟨_, ho', rfl, _, rfl⟩ (strs_of hs) hok fun t' tk => k _ _ ρ H _ (O.toks _) (.toks _) (.str _ t') h
end
noncomputable def seqCls (o : Obj) : Prop := (o.cls = .type "tuple" ∨ o.cls = .type "range") /\ ∀ es n, o.data ≠ .dict es n
section
variable {w : World} {hB : Heap} {A : Around} {env : Env} {vs : VS} {H : AHeap} {ρ : Rho} {s : Shared} {n : Nat}
theorem VR.keepTs {h h' : Heap} (k : ∀ b o, h.get? b = some o -> seqCls o -> h'.get? b = some o) : (∀ {a v}, VR h ρ H a v -> True -> VR h' ρ H a v) /\ (∀ {xs us}, VRs h ρ H xs us -> True -> VRs h' ρ H xs us) :=
  VR.map (c := fun _ => True) (cs := fun _ => True) (fun a us n ho => k _ _ ho ⟨.inl rfl, fun _ _ e => nomatch e⟩) (fun r a b c t u w hr => k _ _ hr ⟨.inr rfl, fun _ _ e => nomatch e⟩) (fun o hd _ => ⟨rfl, hd⟩) (fun _ _ => trivial) (fun _ _ _ => ⟨trivial, trivial⟩)
theorem VR.keepT {h h' : Heap} (k : ∀ b o, h.get? b = some o -> seqCls o -> h'.get? b = some o) {a : AV} {v : Value} (r : VR h ρ H a v) : VR h' ρ H a v := (VR.keepTs k).1 r trivial
theorem VRs.keepT {h h' : Heap} (k : ∀ b o, h.get? b = some o -> seqCls o -> h'.get? b = some o) {xs : List AV} {ys : List Value} (r : VRs h ρ H xs ys) : VRs h' ρ H xs ys := (VR.keepTs k).2 r trivial
theorem ER.keepT {h h' : Heap} (k : ∀ b o, h.get? b = some o -> seqCls o -> h'.get? b = some o) {P : Params} {xs : List (Str × AV)} {ys : List DictEntry} (r : ER P h ρ H xs ys) : ER P h' ρ H xs ys := by
  induction r with
  | nil => exact .nil
  | cons hx _ ih => exact .cons (hx.keepT k) ih
theorem PR.keepT {h h' : Heap} (k : ∀ b o, h.get? b = some o -> seqCls o -> h'.get? b = some o) {K : Type} {xs : List (K × AV)} {ys : List (K × Value)} (r : PR K h ρ H xs ys) : PR K h' ρ H xs ys := by
  induction r with
  | nil => exact .nil
  | cons hx _ ih => exact .cons (hx.keepT k) ih
structure Side (hB : Heap) (env : Env) (H : AHeap) (ρ : Rho) (s : Shared) (it : Addr) : Prop where
  obj : ∃ o, s.heap.get? it = some o /\ ¬ seqCls o
  big : hB.objs.size <= it
  rho : ∀ i, H i ≠ Option.none -> it ≠ ρ i
  loc : it ≠ env.locals
  cell : ∀ p ∈ env.cells, it ≠ p.2
theorem Ok.but (O : Ok w hB env vs H ρ s) {it : Addr} (d : Side hB env H ρ s it) {s' : Shared} (k : ∀ b o, s.heap.get? b = some o -> b ≠ it -> s'.heap.get? b = some o) (hg : s'.gens = s.gens) : Ok w hB env vs H ρ s' := by
  have kT : ∀ b o, s.heap.get? b = some o -> seqCls o -> s'.heap.get? b = some o := fun b o e q => k b o e fun e' => by
    obtain ⟨x, h1, h2⟩ := d.obj
    rw [e', h1] at e; cases e; exact h2 q
  have kc : ∀ c v, s.heap.IsCell c v -> (∃ p ∈ env.cells, p.2 = c) -> s'.heap.IsCell c v := fun c v hc hp => by
    obtain ⟨o, h1, h2⟩ := hc
    obtain ⟨p, hp, rfl⟩ := hp
    exact ⟨o, k _ _ h1 (Ne.symm (d.cell p hp)), h2⟩
  refine ⟨fun b x e => k _ _ (O.base b x e) fun q => ?_, O.last, fun i ao h => ?_, O.big, O.inj, O.fr.map (VR.keepT kT) (fun x e => k _ x e (Ne.symm d.loc)) (fun x c v hl hc => kc c v hc ⟨_, lookup_mem hl, rfl⟩), O.nL, O.bigL, fun p hp => ?_, O.cinj, O.kind, O.glob, O.bi, hg.trans O.gens⟩
  · have := Heap.lt_size e
    rw [q] at this
    exact absurd this (Nat.not_lt.mpr d.big)
  · have ne : ρ i ≠ it := Ne.symm (d.rho i (by rw [h]; simp))
    exact OR.map (VR.keepT kT) (VRs.keepT kT) (fun d hd => ⟨rfl, hd⟩) (O.objs i ao h) fun x e => k _ x e ne
  · obtain ⟨h1, v, h2⟩ := O.bigC p hp
    exact ⟨h1, v, kc _ _ h2 ⟨p, hp, rfl⟩⟩
theorem Step.but {ρ₀ H₀ s₀} (S : Step env ρ₀ H₀ s₀ ρ H s) {it : Addr} (hit : s₀.heap.get? it = none) {s' : Shared} (k : ∀ b o, s.heap.get? b = some o -> b ≠ it -> s'.heap.get? b = some o) (hos : s'.os = s.os) : Step env ρ₀ H₀ s₀ ρ H s' :=
  have ne : ∀ b x, s₀.heap.get? b = some x -> b ≠ it := fun b x h e => by rw [e, hit] at h; cases h
  ⟨S.dom, S.rho, S.new, fun b x h => let ⟨y, h1⟩ := S.live b x h; ⟨y, k _ _ h1 (ne b x h)⟩, fun b o h h1 h2 h3 => k _ _ (S.keep b o h h1 h2 h3) (ne b o h), hos.trans S.os⟩
theorem Side.step {it : Addr} (d : Side hB env H ρ s it) {ρ' H' s'} (S : Step env ρ H s ρ' H' s') : Side hB env H' ρ' s' it where
  obj := let ⟨o, h1, h2⟩ := d.obj; ⟨o, S.keep _ _ h1 (fun i hi => d.rho i hi.1) d.loc d.cell, h2⟩
  big := d.big
  rho i hi e := by
    by_cases q : H i = Option.none
    · have := S.new i hi q
      obtain ⟨o, h1, _⟩ := d.obj
      rw [<- e, h1] at this; cases this
    · rw [S.rho i q] at e; exact d.rho i q e
  loc := d.loc
  cell := d.cell
theorem Side.new (O : Ok w hB env vs H ρ s) {o : Obj} (ho : ¬ seqCls o) (hs : (s.heap.push o).get? s.heap.objs.size = some o) (tk : Nat) : Side hB env H ρ { s with heap := s.heap.push o, toks := tk } s.heap.objs.size where
  obj := ⟨o, hs, ho⟩
  big := O.size
  rho i hi e := by obtain ⟨x, hx⟩ := O.oat hi; have := Heap.lt_size hx; rw [<- e] at this; exact Nat.lt_irrefl _ this
  loc e := by obtain ⟨o, _, _, h1, _⟩ := O.loc_lt; have := Heap.lt_size h1; rw [<- e] at this; exact Nat.lt_irrefl _ this
  cell p hp e := by obtain ⟨_, v, o, h1, _⟩ := O.bigC p hp; have := Heap.lt_size h1; rw [<- e] at this; exact Nat.lt_irrefl _ this
set_option tactic.hygienic true in
theorem s_while {test : Expr} {body orelse : List Stmt} {pos : Pos} {Q} (I : Nat -> VS -> AHeap -> Prop) (m : Nat) (hI : I m vs H)
    (turn : ∀ m v1 H1, I m v1 H1 -> RB w hB A env (isTrue test env (eval test env)) v1 H1 fun c v2 H2 =>
      (c = true -> RS w hB A env (execs body env) v2 H2 fun o v3 H3 => match o with
        | .brk => Q .next v3 H3
        | .ret a => Q (.ret a) v3 H3
        | _ => ∃ j, j < m /\ I j v3 H3) /\
      (c = false -> RS w hB A env (execs orelse env) v2 H2 Q)) : RS w hB A env (exec (.While test body orelse pos) env) vs H Q := fun ρ₀ s₀ K O₀ k => by
  refine wpAny_While (codeAny_whileLoop (fun j s => ∃ ρ v1 H1, Ok w hB env v1 H1 ρ s /\ Step env ρ₀ H s₀ ρ H1 s /\ I j v1 H1) (fun j s hj => ?_) m ⟨ρ₀, vs, H, O₀, .rfl, hI⟩)
  obtain ⟨ρ, v1, H1, O, S, h⟩ := hj
  refine wpAny_mono (turn j v1 H1 h ρ s _ O fun c c' ρ2 v2 H2 s2 O2 S2 r2 q2 => ?_) (fun _ _ x => x) (fun _ _ x => False.elim x)
  subst r2
  cases c with
  | true =>
    rw [if_pos rfl]
    refine wpAny_mono (q2.1 rfl ρ2 s2 _ O2 fun f o ρ3 v3 H3 s3 O3 S3 r3 q3 => ?_) (fun _ _ x => x) (fun _ _ x => False.elim x)
    have S' := (S.trans S2).trans S3
    cases o with
    | next => cases f <;> first | exact r3.elim | (obtain ⟨i, hi, q⟩ := q3; exact ⟨i, hi, ρ3, v3, H3, O3, S', q⟩)
    | cont => cases f <;> first | exact r3.elim | (obtain ⟨i, hi, q⟩ := q3; exact ⟨i, hi, ρ3, v3, H3, O3, S', q⟩)
    | brk => cases f <;> first | exact r3.elim | exact k _ .next _ _ _ _ O3 S' trivial q3
    | ret a => cases f <;> first | exact r3.elim | exact k _ (.ret a) _ _ _ _ O3 S' r3 q3
  | false =>
    rw [if_neg (by simp)]
    exact wpAny_mono (q2.2 rfl ρ2 s2 _ O2 fun f o ρ3 v3 H3 s3 O3 S3 r3 q3 => k f o ρ3 v3 H3 s3 O3 ((S.trans S2).trans S3) r3 q3) (fun _ _ x => x) (fun _ _ x => False.elim x)
inductive Src where
  | list (o : Oid) (xs : List AV)
  | rng (a b c : Int)
  | tupI (l : List Int)
noncomputable def IsTupO (o : Obj) : Prop := ∃ vs n, o = tupObj vs n
theorem Side.fr (O : Ok w hB env vs H ρ s) {it : Addr} (d : Side hB env H ρ s it) {ρ' H' s'} (S : Step env ρ H s ρ' H' s') : ∀ b o, b = it ∨ IsTupO o -> s.heap.get? b = some o -> s'.heap.get? b = some o := fun b o q h => by
  rcases q with rfl | ⟨vs, n, rfl⟩
  · exact S.keep _ _ h (fun i hi => d.rho i hi.1) d.loc d.cell
  · exact O.tup_keep S h (.inl rfl) (.inl ⟨_, _, rfl⟩)
theorem vrs_ints {h h' : Heap} {ρ ρ' : Rho} {H H' : AHeap} : ∀ {l : List Int} {vs : List Value}, VRs h ρ H (l.map .int) vs -> VRs h' ρ' H' (l.map .int) vs
  | [], _, r => by cases r; exact .nil
  | _ :: l, _, r => by
    cases r with | cons hx hs =>
    cases hx
    exact .cons (.int _ _) (vrs_ints hs)
noncomputable def Src.av : Src -> AV
  | .list o _ => .ref o
  | .rng a b c => .rng a b c
  | .tupI l => .tup (l.map .int)
noncomputable def rngEls (a b c : Int) : List Int := (List.range (Builtin.Range.rangeSize a b c).toNat).map fun (k : Nat) => a + (k : Int) * c
noncomputable def Src.els : Src -> List AV
  | .list _ xs => xs
  | .rng a b c => (rngEls a b c).map .int
  | .tupI l => l.map .int
noncomputable def Src.Good (H : AHeap) : Src -> Prop
  | .list o xs => H o = some (.list xs)
  | .rng a b c => Builtin.Range.small a b c = true
  | .tupI _ => True
noncomputable def Src.St (ρ : Rho) (it : Addr) (k : Nat) (h : Heap) : Src -> Prop
  | .list o _ => h.IsListIter it (ρ o) k
  | .rng a b c => IsRangeIter h it (a + (k : Int) * c) (Builtin.Range.rangeSize a b c - k) c
  | .tupI l => ∃ t vs n, h.IsTupleIter it t k /\ h.get? t = some (tupObj vs n) /\ ∀ h' ρ' H', VRs h' ρ' H' (l.map .int) vs
theorem Src.St.frame {ρ : Rho} {it : Addr} {k : Nat} {h h' : Heap} {c : Src} (q : c.St ρ it k h) (e : ∀ b o, b = it ∨ IsTupO o -> h.get? b = some o -> h'.get? b = some o) : c.St ρ it k h' := by
  cases c with
  | list o xs => obtain ⟨x, h1, h2⟩ := q; exact ⟨x, e _ _ (.inl rfl) h1, h2⟩
  | rng a b c => exact e _ _ (.inl rfl) q
  | tupI l => obtain ⟨t, vs, n, ⟨x, h1, h2⟩, h3, h4⟩ := q; exact ⟨t, vs, n, ⟨x, e _ _ (.inl rfl) h1, h2⟩, e _ _ (.inr ⟨_, _, rfl⟩) h3, h4⟩
theorem Src.St.side {ρ : Rho} {it : Addr} {k : Nat} {h : Heap} {c : Src} (q : c.St ρ it k h) : ∃ o, h.get? it = some o /\ ¬ seqCls o := by
  cases c with
  | list o xs =>
    obtain ⟨x, h1, h2, _⟩ := q
    refine ⟨x, h1, fun z => ?_⟩
    rcases z.1 with z | z <;> (rw [h2] at z; simp at z)
  | rng a b c => exact ⟨_, q, fun z => by rcases z.1 with z | z <;> simp at z⟩
  | tupI l =>
    obtain ⟨t, vs, n, ⟨x, h1, h2, _⟩, _⟩ := q
    refine ⟨x, h1, fun z => ?_⟩
    rcases z.1 with z | z <;> (rw [h2] at z; simp at z)
theorem Src.St.step {ρ ρ' : Rho} {it : Addr} {k : Nat} {h : Heap} {c : Src} (q : c.St ρ it k h) (g : c.Good H) (e : ∀ o, H o ≠ Option.none -> ρ' o = ρ o) : c.St ρ' it k h := by
  cases c with
  | list o xs => show h.IsListIter it (ρ' o) k; rw [e o (by rw [show H o = some (.list xs) from g]; simp)]; exact q
  | rng a b c => exact q
  | tupI l => exact q
theorem Src.iter (O : Ok w hB env vs H ρ s) {c : Src} (g : c.Good H) {v : Value} (r : VR s.heap ρ H c.av v) {K : Value -> Shared -> Prop}
    (k : ∀ o, (s.heap.push o).get? s.heap.objs.size = some o -> ¬ seqCls o -> c.St ρ s.heap.objs.size 0 (s.heap.push o) -> K (.ref s.heap.objs.size) { s with heap := s.heap.push o }) : wpAny (model pw w) A (pyIter v) K (fun _ _ => False) s := by
  cases c with
  | list o xs =>
    obtain ⟨rfl, hd⟩ := r.inv
    obtain ⟨us, m, ho', hs⟩ := O.listAt g
    refine wpAny_pyIter_list (items := us.toArray) ⟨_, ho', rfl, _, rfl⟩ (k _ (Heap.get?_push_size _ rfl) (fun z => by rcases z.1 with z | z <;> simp at z) ⟨_, Heap.get?_push_size _ rfl, rfl, rfl⟩)
  | rng a b c =>
    obtain ⟨r, t, u, v, rfl, hr⟩ := r.inv
    refine wpAny_pyIter_range hr g (k _ (Heap.get?_push_size _ rfl) (fun z => by rcases z.1 with z | z <;> simp at z) ?_)
    show IsRangeIter _ _ (a + ((0 : Nat) : Int) * c) (Builtin.Range.rangeSize a b c - ((0 : Nat) : Int)) c
    simp only [Int.ofNat_zero, Int.zero_mul, Int.add_zero, Int.sub_zero]
    exact Heap.get?_push_size _ rfl
  | tupI l =>
    obtain ⟨a, us, m, rfl, ho, hs⟩ := r.inv
    exact wpAny_pyIter_tuple (items := us.toArray) ⟨_, ho, rfl, _, rfl⟩ (k _ (Heap.get?_push_size _ rfl) (fun z => by rcases z.1 with z | z <;> simp at z) ⟨a, us, m, ⟨_, Heap.get?_push_size _ rfl, rfl, rfl⟩, Heap.get?_push_of_some _ ho, fun h' ρ' H' => vrs_ints hs⟩)
theorem Src.item (O : Ok w hB env vs H ρ s) {c : Src} (g : c.Good H) {it : Addr} {k : Nat} {a : AV} (he : c.els[k]? = some a) (st : c.St ρ it k s.heap) {K : Option Value -> Shared -> Prop}
    (kk : ∀ x h' tk, c.St ρ it (k + 1) h' -> Heap.SameBut it s.heap h' -> VR s.heap ρ H a x -> K (some x) { s with heap := h', toks := tk }) : wpAny (model pw w) A (pyNext (.ref it)) K (fun _ _ => False) s := by
  cases c with
  | list o xs =>
    obtain ⟨us, m, ho', hs⟩ := O.listAt g
    obtain ⟨y, hy, hr⟩ := hs.get he
    exact wpAny_pyNext_list_item (items := us.toArray) st ⟨_, ho', rfl, _, rfl⟩ (by simpa using hy) fun h' h1 h2 => kk y h' s.toks h1 h2 hr
  | rng a' b c =>
    have h0 : k < (Builtin.Range.rangeSize a' b c).toNat /\ a = .int (a' + (k : Int) * c) := by
      simp only [Src.els, rngEls, List.map_map, List.getElem?_map] at he
      cases e : (List.range (Builtin.Range.rangeSize a' b c).toNat)[k]? with
      | none => rw [e] at he; cases he
      | some j =>
        rw [e] at he
        rw [List.getElem?_eq_some_iff] at e
        obtain ⟨e1, e2⟩ := e
        simp at e1 e2
        subst e2
        cases he
        exact ⟨by omega, rfl⟩
    obtain ⟨h1, rfl⟩ := h0
    refine wpAny_pyNext_range_item st (by omega) fun h' h1 h2 => kk _ h' (s.toks + 1) ?_ h2 (.int _ _)
    show IsRangeIter h' it (a' + ((k + 1 : Nat) : Int) * c) (Builtin.Range.rangeSize a' b c - ((k + 1 : Nat) : Int)) c
    have e1 : a' + ((k + 1 : Nat) : Int) * c = a' + (k : Int) * c + c := by rw [Int.natCast_add, Int.add_mul]; simp [Int.add_assoc]
    have e2 : Builtin.Range.rangeSize a' b c - ((k + 1 : Nat) : Int) = Builtin.Range.rangeSize a' b c - (k : Int) - 1 := by omega
    rw [e1, e2]
    exact h1
  | tupI l =>
    obtain ⟨t, us, m, h1, h2, h3⟩ := st
    obtain ⟨y, hy, hr⟩ := (h3 s.heap ρ H).get he
    have hne : t ≠ it := fun e => by
      obtain ⟨x, g1, g2, _⟩ := h1
      rw [e, g1] at h2; cases h2; simp [tupObj] at g2
    exact wpAny_pyNext_tuple_item (items := us.toArray) h1 ⟨_, h2, rfl, _, rfl⟩ (by simpa using hy) fun h' g1 g2 => kk y h' s.toks ⟨t, us, m, g1, (g2.2 t hne).trans h2, h3⟩ g2 hr
theorem Src.done (hh : A.handled = none) (O : Ok w hB env vs H ρ s) {c : Src} (g : c.Good H) {it : Addr} (st : c.St ρ it c.els.length s.heap) {K : Option Value -> Shared -> Prop}
    (kk : ∀ h', (∀ b o, s.heap.get? b = some o -> b ≠ it -> h'.get? b = some o) -> K none { s with heap := h' }) : wpAny (model pw w) A (pyNext (.ref it)) K (fun _ _ => False) s := by
  cases c with
  | list o xs =>
    obtain ⟨us, m, ho', hs⟩ := O.listAt g
    exact wpAny_pyNext_list_end (items := us.toArray) hh st ⟨_, ho', rfl, _, rfl⟩ (by show us.toArray[xs.length]? = none; rw [hs.len]; simp) fun h' h1 => kk h' fun b o e q => h1 b o q e
  | rng a b c =>
    refine wpAny_pyNext_range_end hh st ?_ fun h' h1 => kk h' fun b o e q => h1 b o q e
    simp only [Src.els, rngEls, List.length_map, List.length_range]
    omega
  | tupI l =>
    obtain ⟨t, us, m, h1, h2, h3⟩ := st
    refine wpAny_pyNext_tuple_end (items := us.toArray) hh h1 ⟨_, h2, rfl, _, rfl⟩ ?_ fun h' g1 => kk h' fun b o e q => g1 b o q e
    have := (h3 s.heap ρ H).len
    show us.toArray[(l.map AV.int).length]? = none
    rw [this]; simp
noncomputable def RunT (T : Shared -> Prop) (w : World) (hB : Heap) {α β : Type} (rel : Heap -> Rho -> AHeap -> β -> α -> Prop) (A : Around) (env : Env) (t : Sem α) (vs : VS) (H : AHeap) (Q : β -> VS -> AHeap -> Prop) : Prop :=
  ∀ (ρ : Rho) (s : Shared) (K : α -> Shared -> Prop), T s -> Ok w hB env vs H ρ s ->
    (∀ a b ρ' vs' H' s', Ok w hB env vs' H' ρ' s' -> Step env ρ H s ρ' H' s' -> rel s'.heap ρ' H' b a -> Q b vs' H' -> K a s') ->
    wpAny (model pw w) A t K (fun _ _ => False) s
theorem RunT.mono {T : Shared -> Prop} {α β : Type} {rel : Heap -> Rho -> AHeap -> β -> α -> Prop} {t : Sem α} {Q Q' : β -> VS -> AHeap -> Prop} (h : RunT T w hB rel A env t vs H Q) (m : ∀ b v H, Q b v H -> Q' b v H) : RunT T w hB rel A env t vs H Q' := fun ρ s K z O k => h ρ s K z O fun a b ρ' vs' H' s' O' S r q => k a b ρ' vs' H' s' O' S r (m _ _ _ q)
noncomputable def StoreT (T : Shared -> Prop) (w : World) (hB : Heap) (A : Around) (env : Env) (x : Str) : Prop := ∀ (vs : VS) (H : AHeap) (ρ : Rho) (s : Shared) (a : AV) (v : Value) (K : Unit -> Shared -> Prop), Ok w hB env vs H ρ s -> VR s.heap ρ H a v ->
  (∀ ρ' s', Ok w hB env (updV vs x a) H ρ' s' -> Step env ρ H s ρ' H s' -> T s' -> K () s') -> wpAny (model pw w) A (storeName env x v) K (fun _ _ => False) s
theorem it_none {s1 : Shared} : s1.heap.get? s1.heap.objs.size = none := none_of_le (Nat.le_refl _)
structure FT (hB : Heap) (env : Env) (c : Src) (H1 : AHeap) (ρ1 : Rho) (s1 : Shared) (k : Nat) (H' : AHeap) (ρ' : Rho) (s' : Shared) : Prop where
  st : Step env ρ1 H1 s1 ρ' H' s'
  sd : Side hB env H' ρ' s' s1.heap.objs.size
  src : c.St ρ' s1.heap.objs.size k s'.heap
variable {c : Src} {H1 : AHeap} {ρ1 : Rho} {s1 : Shared} {k : Nat}
theorem FT.step (T : FT hB env c H1 ρ1 s1 k H ρ s) (O : Ok w hB env vs H ρ s) (g : c.Good H) {ρ' H' s'} (S : Step env ρ H s ρ' H' s') : FT hB env c H1 ρ1 s1 k H' ρ' s' :=
  ⟨T.st.trans S, T.sd.step S, (T.src.frame (T.sd.fr O S)).step g S.rho⟩
theorem FT.but (T : FT hB env c H1 ρ1 s1 k H ρ s) {k' : Nat} {s' : Shared} (kb : ∀ b x, s.heap.get? b = some x -> b ≠ s1.heap.objs.size -> s'.heap.get? b = some x) (hos : s'.os = s.os) (st : c.St ρ s1.heap.objs.size k' s'.heap) : FT hB env c H1 ρ1 s1 k' H ρ s' :=
  ⟨T.st.but it_none kb hos, ⟨st.side, T.sd.big, T.sd.rho, T.sd.loc, T.sd.cell⟩, st⟩
set_option tactic.hygienic true in
noncomputable def LoopI (I : Src -> Nat -> VS -> AHeap -> Prop) (c : Src) (Q : Out -> VS -> AHeap -> Prop) (k : Nat) : Out -> VS -> AHeap -> Prop := fun o v3 H3 => match o with
  | .brk => Q .next v3 H3
  | .ret a => Q (.ret a) v3 H3
  | _ => I c (k + 1) v3 H3
noncomputable def FJ (w : World) (hB : Heap) (env : Env) (c : Src) (H1 : AHeap) (ρ1 : Rho) (s1 : Shared) (I : Src -> Nat -> VS -> AHeap -> Prop) (j : Nat) (s' : Shared) : Prop := ∃ k ρ' v' H', k + j = c.els.length /\ Ok w hB env v' H' ρ' s' /\ I c k v' H' /\ FT hB env c H1 ρ1 s1 k H' ρ' s'
noncomputable def RK (w : World) (hB : Heap) (env : Env) (Q : Out -> VS -> AHeap -> Prop) (H : AHeap) (ρ : Rho) (s : Shared) (K : Flow -> Shared -> Prop) : Prop := ∀ a b ρ' vs' H' s', Ok w hB env vs' H' ρ' s' -> Step env ρ H s ρ' H' s' -> relF s'.heap ρ' H' b a -> Q b vs' H' -> K a s'
set_option tactic.hygienic true in
noncomputable def FlowR (K : Flow -> Shared -> Prop) (X : Prop) (s4 : Shared) : Flow -> Prop
  | .brk => K .next s4
  | .ret a => K (.ret a) s4
  | _ => X
theorem loop_end {I : Src -> Nat -> VS -> AHeap -> Prop} {Q : Out -> VS -> AHeap -> Prop} {K : Flow -> Shared -> Prop} (k : RK w hB env Q H1 ρ1 s1 K) {j k' : Nat} (hj : k' + j = c.els.length) (hk : k' < c.els.length) {f : Flow} {o : Out} {v4 H4 ρ4 s4} (O4 : Ok w hB env v4 H4 ρ4 s4) (T : FT hB env c H1 ρ1 s1 (k' + 1) H4 ρ4 s4) (r : relF s4.heap ρ4 H4 o f) (q : LoopI I c Q k' o v4 H4) : FlowR K (∃ m, m < j /\ FJ w hB env c H1 ρ1 s1 I m s4) s4 f := by
  have again : I c (k' + 1) v4 H4 -> ∃ m, m < j /\ FJ w hB env c H1 ρ1 s1 I m s4 := fun q => ⟨j - 1, (tn_h hj hk).1, k' + 1, ρ4, v4, H4, (tn_h hj hk).2, O4, q, T⟩
  cases o with
  | next => cases f <;> first | exact r.elim | exact again q
  | cont => cases f <;> first | exact r.elim | exact again q
  | brk => cases f <;> first | exact r.elim | exact k _ .next _ _ _ _ O4 T.st trivial q
  | ret a => cases f <;> first | exact r.elim | exact k _ (.ret a) _ _ _ _ O4 T.st r q
theorem s_forT (T : Shared -> Prop) (hA : AOk n A) {x : Str} {xp pos : Pos} {iter : Expr} {body orelse : List Stmt} {Q} (hx : StoreT T w hB A env x) (hf : ∀ v, foldedSetIterable iter env v = pure v) (I : Src -> Nat -> VS -> AHeap -> Prop)
    (h : RV w hB A env (eval iter env) vs H fun a v1 H1 => ∃ c : Src, a = c.av /\ (∀ k v2 H2, I c k v2 H2 -> c.Good H2) /\ I c 0 v1 H1 /\
      (∀ k e v2 H2, I c k v2 H2 -> c.els[k]? = some e -> RunT T w hB relF A env (execs body env) (updV v2 x e) H2 (LoopI I c Q k)) /\
      (∀ v2 H2, I c c.els.length v2 H2 -> RS w hB A env (execs orelse env) v2 H2 Q)) : RS w hB A env (exec (.For (.Name x xp) iter body orelse pos) env) vs H Q := fun ρ s K O k => by
  refine wpAny_For (h ρ s _ O fun v a ρ1 v1 H1 s1 O1 S1 r1 q1 => ?_) hf
  obtain ⟨c, rfl, good, i0, turn, fin⟩ := q1
  refine Src.iter O1 (good _ _ _ i0) r1 fun o ho hno st => ?_
  obtain ⟨O1', S1'⟩ := O1.ext' (s' := { s1 with heap := s1.heap.push o }) (fun b x e => Heap.get?_push_of_some _ e) rfl rfl
  have k : RK w hB env Q H1 ρ1 s1 K := fun a b ρ' vs' H' s' O' S' => k a b ρ' vs' H' s' O' (S1.trans S')
  refine codeAny_forLoop (FJ w hB env c H1 ρ1 s1 I) (fun j s' hj => ?_) c.els.length ⟨0, ρ1, v1, H1, Nat.zero_add _, O1', i0, S1', Side.new O1 hno ho s1.toks, st⟩
  obtain ⟨k', ρ', v', H', e, O', i', T'⟩ := hj
  have gg := good _ _ _ i'
  by_cases hk : k' < c.els.length
  · refine wpAny_mono (Src.item O' gg (List.getElem?_eq_getElem hk) T'.src fun y h' tk st hsb ry => ?_) (fun _ _ x => x) (fun _ _ x => False.elim x)
    have kb : ∀ b x, s'.heap.get? b = some x -> b ≠ s1.heap.objs.size -> h'.get? b = some x := fun b x e q => (hsb.2 b q).trans e
    have O2 : Ok w hB env v' H' ρ' { s' with heap := h', toks := tk } := O'.but T'.sd kb rfl
    have T2 : FT hB env c H1 ρ1 s1 (k' + 1) H' ρ' { s' with heap := h', toks := tk } := T'.but kb rfl st
    have ry' : VR h' ρ' H' c.els[k'] y := ry.keepT fun b x e q => kb b x e fun e' => by
      obtain ⟨z, h1, h2⟩ := T'.sd.obj
      rw [e', h1] at e
      rw [Option.some.inj e] at h2
      exact h2 q
    refine wpAny_mono (PySem.wpAny_assign_Name (hx v' H' ρ' _ _ y _ O2 ry' fun ρ3 s3 O3 S3 z => ?_)) (fun _ _ x => x) (fun _ _ x => False.elim x)
    exact wpAny_mono (turn k' _ v' H' i' (List.getElem?_eq_getElem hk) ρ3 s3 _ z O3 fun f o ρ4 v4 H4 s4 O4 S4 r4 q4 => by
      have := loop_end k e hk O4 ((T2.step O2 gg S3).step O3 gg S4) r4 q4
      cases f <;> exact this) (fun _ _ x => x) (fun _ _ x => False.elim x)
  · have hk2 : k' = c.els.length := Nat.le_antisymm (e ▸ Nat.le_add_right _ _) (Nat.le_of_not_lt hk)
    subst hk2
    refine wpAny_mono (Src.done hA.1 O' gg T'.src fun h' kb => ?_) (fun _ _ x => x) (fun _ _ x => False.elim x)
    have O2 : Ok w hB env v' H' ρ' { s' with heap := h' } := O'.but T'.sd kb rfl
    have S2 : Step env ρ1 H1 s1 ρ' H' { s' with heap := h' } := T'.st.but it_none kb rfl
    exact wpAny_mono (fin v' H' i' ρ' _ _ O2 fun f o ρ4 v4 H4 s4 O4 S4 r4 q4 => k f o ρ4 v4 H4 s4 O4 (S2.trans S4) r4 q4) (fun _ _ x => x) (fun _ _ x => False.elim x)
theorem storeT {x : Str} (hx : isOwn env x = true) : StoreT (fun _ => True) w hB A env x := fun vs H ρ s a v K O r k =>
  r_store (Q := fun v3 H3 => v3 = updV vs x a /\ H3 = H) hx ⟨rfl, rfl⟩ O r fun ρ' v' H' s' O' S' ⟨q1, q2⟩ => by rw [q1, q2] at O'; rw [q2] at S'; exact k ρ' s' O' S' trivial
theorem Run.toT {T : Shared -> Prop} {α β : Type} {rel : Heap -> Rho -> AHeap -> β -> α -> Prop} {t : Sem α} {Q : β -> VS -> AHeap -> Prop} (h : Run w hB rel A env t vs H Q) : RunT T w hB rel A env t vs H Q := fun ρ s K _ => h ρ s K
end
section
variable {w : World} {hB : Heap} {A : Around} {env : Env} {vs : VS} {H : AHeap} {ρ : Rho} {s : Shared} {n : Nat}
noncomputable def storedA {K : Type} [DecidableEq K] (es : List (K × AV)) (k : K) (a : AV) : List (K × AV) :=
  if es.any (fun kv => kv.1 = k) then es.map (fun kv => if kv.1 = k then (kv.1, a) else kv) else es ++ [(k, a)]
theorem PR.len {K : Type} {h : Heap} {es : List (K × AV)} {ds : List (K × Value)} (r : PR K h ρ H es ds) : es.length = ds.length := by
  induction r with
  | nil => rfl
  | cons _ _ ih => simp [ih]
theorem PR.any {K : Type} [DecidableEq K] {h : Heap} {es : List (K × AV)} {ds : List (K × Value)} (r : PR K h ρ H es ds) (k : K) : es.any (fun kv => kv.1 = k) = ds.any (fun kv => kv.1 = k) := by
  induction r with
  | nil => rfl
  | cons _ _ ih => simp [ih]
theorem PR.append {K : Type} {h : Heap} {es es' : List (K × AV)} {ds ds' : List (K × Value)} (r : PR K h ρ H es ds) (r' : PR K h ρ H es' ds') : PR K h ρ H (es ++ es') (ds ++ ds') := by
  induction r with
  | nil => exact r'
  | cons hx _ ih => exact .cons hx ih
set_option tactic.hygienic true in
theorem PR.put {K : Type} [DecidableEq K] {h : Heap} {es : List (K × AV)} {ds : List (K × Value)} (r : PR K h ρ H es ds) (k : K) {a : AV} {v : Value} (ha : VR h ρ H a v) : PR K h ρ H (storedA es k a) (PySem.stored ds k v) := by
  unfold storedA PySem.stored
  rw [r.any]
  split
  · rename_i q
    clear q
    induction r with
    | nil => exact .nil
    | @cons k' x y es ds hx hs ih =>
      simp only [List.map_cons]
      by_cases q : k' = k
      · rw [if_pos q, if_pos q]; exact .cons ha ih
      · rw [if_neg q, if_neg q]; exact .cons hx ih
  · exact r.append (.cons ha .nil)
theorem Ok.newDict (O : Ok w hB env vs H ρ s) {o : Oid} (ho : H o = Option.none) {ao : AO} (he : ao = .sdict [] ∨ ao = .ndict []) (tk : Nat) :
    let s' : Shared := { s with heap := s.heap.push { cls := .type "dict", data := .dict #[] }, toks := tk }
    Ok w hB env vs (upd H o ao) (updR ρ o s.heap.objs.size) s' /\ Step env ρ H s (updR ρ o s.heap.objs.size) (upd H o ao) s' :=
  O.setObj (fun i q => updR_ne q) (.inr ⟨ho, by rw [updR_self]; exact Nat.le_refl _⟩) (fun b x hx _ => Heap.get?_push_of_some _ hx) ⟨_, by rw [updR_self]; exact Heap.get?_push_size _ rfl⟩ rfl rfl
    fun S => by
      rw [updR_self]
      rcases he with rfl | rfl
      · exact ⟨[], Heap.DictOf.new (knd := PySem.strKind pw w) s.heap, .nil⟩
      · exact ⟨[], Heap.DictOf.new (knd := PySem.intKind pw w) s.heap, .nil⟩
theorem Ok.turnS (O : Ok w hB env vs H ρ s) {o : Oid} {ao : AO} (nz : o ≠ zO) (hn : H o ≠ Option.none) {es : List (Str × AV)} {ds : List (Str × Value)} {h' : Heap} (hd : h'.DictOf (PySem.strKind pw w) (ρ o) ds) (hs : Heap.SameBut (ρ o) s.heap h') (r : PR Str s.heap ρ H es ds) (tk : Nat) :
    Ok w hB env vs (upd H o (.sdict es)) ρ { s with heap := h', toks := tk } /\ Step env ρ H s ρ (upd H o (.sdict es)) { s with heap := h', toks := tk } :=
  O.setObj (fun i q => rfl) (.inl ⟨⟨hn, nz⟩, rfl⟩) (fun b x hx hb => (hs.2 b hb).trans hx) (let ⟨x, _, _, h1, _⟩ := hd; ⟨x, h1⟩) rfl rfl fun S => ⟨ds, hd, r.mono O S⟩
theorem Ok.turnN (O : Ok w hB env vs H ρ s) {o : Oid} {ao : AO} (nz : o ≠ zO) (hn : H o ≠ Option.none) {es : List (Int × AV)} {ds : List (Int × Value)} {h' : Heap} (hd : h'.DictOf (PySem.intKind pw w) (ρ o) ds) (hs : Heap.SameBut (ρ o) s.heap h') (r : PR Int s.heap ρ H es ds) (tk : Nat) :
    Ok w hB env vs (upd H o (.ndict es)) ρ { s with heap := h', toks := tk } /\ Step env ρ H s ρ (upd H o (.ndict es)) { s with heap := h', toks := tk } :=
  O.setObj (fun i q => rfl) (.inl ⟨⟨hn, nz⟩, rfl⟩) (fun b x hx hb => (hs.2 b hb).trans hx) (let ⟨x, _, _, h1, _⟩ := hd; ⟨x, h1⟩) rfl rfl fun S => ⟨ds, hd, r.mono O S⟩
theorem e_dict0 (o : Oid) (ao : AO) (he : ao = .sdict [] ∨ ao = .ndict []) {pos : Pos} {Q} (hn : H o = none) (h : Q (.ref o) vs (upd H o ao)) : RV w hB A env (eval (.Dict [] [] pos) env) vs H Q := fun ρ s K O k => by
  rw [eval_Dict_empty]
  refine wpAny_bind (wpAny_standAt (wpAny_newObj_type ?_))
  obtain ⟨O', S⟩ := O.newDict hn he s.toks
  have e : Value.ref s.heap.objs.size = Value.ref (updR ρ o s.heap.objs.size o) := by rw [updR_self]
  rw [e]
  exact k _ (.ref o) _ _ _ _ O' S (.ref o (by rw [upd_self]; simp)) h
noncomputable def relP (w : World) (h : Heap) (ρ : Rho) (H : AHeap) (es : List (Str × AV)) (us : List (Value × Value)) : Prop := ∃ ds, Carries (PySem.strKind pw w) us ds /\ PR Str h ρ H es ds
noncomputable abbrev RP (w : World) (hB : Heap) (A : Around) (env : Env) (t : Sem (List (Value × Value))) (vs : VS) (H : AHeap) (Q : List (Str × AV) -> VS -> AHeap -> Prop) : Prop := Run w hB (relP w) A env t vs H Q
theorem p_nil {pos : Pos} {Q} (h : Q [] vs H) : RP w hB A env (evalPairs (pairTrees [] [] env pos)) vs H Q := fun ρ s K O k => evalPairs_nil (k _ [] ρ vs H s O .rfl ⟨[], trivial, .nil⟩ h)
theorem p_cons {ke ve : Expr} {ks : List (Option Expr)} {es : List Expr} {pos : Pos} {Q} (h : RV w hB A env (eval ke env) vs H fun a v1 H1 => ∃ x, a = .str x /\ RV w hB A env (eval ve env) v1 H1 fun b v2 H2 =>
      RP w hB A env (evalPairs (pairTrees ks es env pos)) v2 H2 fun ps v3 H3 => Q ((x, b) :: ps) v3 H3) : RP w hB A env (evalPairs (pairTrees (some ke :: ks) (ve :: es) env pos)) vs H Q := fun ρ s K O k =>
  evalPairs_cons (h ρ s _ O fun u a ρ1 v1 H1 s1 O1 S1 r1 q1 => by
    obtain ⟨x, rfl, q⟩ := q1
    obtain ⟨t, rfl⟩ := r1.inv
    refine wpAny_bind (q ρ1 s1 _ O1 fun y b ρ2 v2 H2 s2 O2 S2 r2 q2 => wpAny_bind (wpAny_standAt (wpAny_pure ?_)))
    refine q2 ρ2 s2 _ O2 fun us ps ρ3 v3 H3 s3 O3 S3 r3 q3 => k _ ((x, b) :: ps) ρ3 v3 H3 s3 O3 ((S1.trans S2).trans S3) ?_ q3
    obtain ⟨ds, h1, h2⟩ := r3
    exact ⟨(x, y) :: ds, ⟨isS w x t, rfl, h1⟩, .cons (r2.mono O2 S3) h2⟩)
theorem PR.keys {K : Type} {h : Heap} {es : List (K × AV)} {ds : List (K × Value)} (r : PR K h ρ H es ds) : es.map (·.1) = ds.map (·.1) := by
  induction r with
  | nil => rfl
  | cons _ _ ih => simp [ih]
theorem merged_nil {K : Type} [DecidableEq K] : ∀ (more acc : List (K × Value)), ((acc ++ more).map (·.1)).Nodup -> PySem.merged acc more = acc ++ more
  | [], acc, _ => by simp [PySem.merged]
  | kv :: more, acc, h => by
    have e : PySem.stored acc kv.1 kv.2 = acc ++ [kv] := by
      unfold PySem.stored
      rw [if_neg]
      intro q
      rw [List.any_eq_true] at q
      obtain ⟨p, hp, he⟩ := q
      simp only [List.map_append, List.map_cons, List.nodup_append] at h
      exact h.2.2 p.1 (List.mem_map_of_mem hp) kv.1 (.head _) (by simpa using he)
    show PySem.merged (PySem.stored acc kv.1 kv.2) more = _
    rw [e, merged_nil more (acc ++ [kv]) (by simpa using h)]
    simp
theorem e_dict (o : Oid) (nz : o ≠ zO) {keys : List (Option Expr)} {values : List Expr} {pos : Pos} {Q} (hall : keys.all (·.isSome) = true) (hl : keys.length = values.length) (h0 : keys ≠ []) (hlen : keys.length <= 15) (hn : H o = none)
    (h : RP w hB A env (evalPairs (pairTrees keys values env pos)) vs (upd H o (.sdict [])) fun es v1 H1 => H1 o = some (.sdict []) /\ (es.map (·.1)).Nodup /\ Q (.ref o) v1 (upd H1 o (.sdict es))) : RV w hB A env (eval (.Dict keys values pos) env) vs H Q := fun ρ s K O k => by
  obtain ⟨O', S⟩ := O.newDict hn (ao := .sdict []) (.inl rfl) s.toks
  refine wpAny_Dict_walk (knd := PySem.strKind pw w) hall hl h0 hlen (h _ _ _ O' fun us es ρ1 v1 H1 s1 O1 S1 r1 q1 => ?_)
  obtain ⟨ds, h1, h2⟩ := r1
  obtain ⟨q2, q3, q4⟩ := q1
  have ea : ρ1 o = s.heap.objs.size := by rw [S1.rho o (by rw [upd_self]; simp), updR_self]
  refine ⟨ds, h1, ?_, fun h' hd hs => ?_⟩
  · obtain ⟨ds', g1, g2⟩ := O1.objs o _ q2
    rw [ea] at g1
    cases g2
    exact g1
  · rw [merged_nil ds [] (by rw [List.nil_append, <- h2.keys]; exact q3), List.nil_append] at hd
    rw [<- ea] at hd hs ⊢
    obtain ⟨O2, S2⟩ := O1.turnS (ao := .sdict []) nz (by rw [q2]; simp) hd hs h2 (s1.toks + us.length)
    exact k _ (.ref o) _ _ _ _ O2 ((S.trans S1).trans S2) (.ref o (by rw [upd_self]; simp)) q4
noncomputable def SetP (w : World) (x : Str) (ob a : AV) (H2 : AHeap) (P : AHeap -> Prop) : Prop := ∃ o c d fs, ob = .ref o /\ d ≠ zO /\ H2 o = some (.inst c d) /\ H2 d = some (.fields fs) /\ fs.length <= 900 /\
      findIn (Kf w.params) (.ref c) "__setattr__" = some (some (.builtin "object.__setattr__")) /\ plainOver (Kf w.params) c = true /\ takerIn (Kf w.params) c x = some none /\ hasDictIn (Kf w.params) c = true /\ P (upd H2 d (.fields (putF x a fs)))
set_option tactic.hygienic true in
theorem s_setattr (b : Base w hB) {oe e : Expr} {x : Str} {p pos : Pos} {Q} (hs : swapsWith e (some (.Attribute oe x p)) pos.line env = pure false)
    (h : RV w hB A env (eval e env) vs H fun a v1 H1 => RV w hB A env (eval oe env) v1 H1 fun ob v2 H2 => SetP w x ob a H2 fun H3 => Q .next v2 H3) :
    RS w hB A env (exec (.Assign [.Attribute oe x p] e pos) env) vs H Q := fun ρ s K O k =>
  plainObj_wpAny_Assign_Attribute (hs := hs) (h ρ s _ O fun v a ρ1 v1 H1 s1 O1 S1 r1 q1 => q1 ρ1 s1 _ O1 fun u ob ρ2 v2 H2 s2 O2 S2 r2 q2 => by
    obtain ⟨o, c, d, fs, rfl, nz, h1, h2, h3, h4, h5, h6, h7, q⟩ := q2
    cases r2
    exact r_setattr b nz (Q := fun v3 H3 => Q .next v3 H3) h1 h2 h4 h5 h6 h7 h3 q O2 (r1.mono O1 S2) fun ρ3 v3 H3 s3 O3 S3 q3 => k _ .next ρ3 v3 H3 s3 O3 ((S1.trans S2).trans S3) trivial q3)
noncomputable abbrev SetI (w : World) (hB : Heap) (n : Nat) (a i v : AV) (H : AHeap) (Q : AHeap -> Prop) : Prop := Op w hB n relU (of3 setItem) [a, i, v] H (fun _ => Q)
set_option tactic.hygienic true in
theorem s_setsub (hA : AOk n A) {oe ie e : Expr} {p pos : Pos} {Q} (hs : swapsWith e (some (.Subscript oe ie p)) pos.line env = pure false)
    (h : RV w hB A env (eval e env) vs H fun a v1 H1 => RV w hB A env (eval oe env) v1 H1 fun ob v2 H2 => RV w hB A env (eval ie env) v2 H2 fun i v3 H3 => SetI w hB n ob i a H3 fun H4 => Q .next v3 H4) :
    RS w hB A env (exec (.Assign [.Subscript oe ie p] e pos) env) vs H Q := fun ρ s K O k =>
  PySem.wpAny_Assign_Subscript (hs := hs) (h ρ s _ O fun v a ρ1 v1 H1 s1 O1 S1 r1 q1 => q1 ρ1 s1 _ O1 fun u ob ρ2 v2 H2 s2 O2 S2 r2 q2 => q2 ρ2 s2 _ O2 fun z i ρ3 v3 H3 s3 O3 S3 r3 q3 =>
    q3 A env v3 ρ3 s3 _ [u, z, v] hA O3 (.cons (r2.mono O2 S3) (.cons r3 (.cons ((r1.mono O1 S2).mono O2 S3) .nil))) fun _ _ ρ4 H4 s4 O4 S4 _ q4 => k _ .next ρ4 v3 H4 s4 O4 (((S1.trans S2).trans S3).trans S4) trivial q4)
theorem i_list {o : Oid} {xs : List AV} {i : Int} {a : AV} {Q : AHeap -> Prop} (ho : H o = some (.list xs)) (h0 : 0 <= i) (h1 : i < xs.length) (hz : xs.length <= 1000000) (h : Q (upd H o (.list (xs.set i.toNat a)))) (nz : o ≠ zO := by first | assumption | nofun) : SetI w hB n (.ref o) (.int i) a H Q := fun A env vs ρ s K vals hA O hv k => by
  replace hv := hv.inv; obtain ⟨_, _, rfl, hx, hv⟩ := hv; obtain ⟨rfl, hd⟩ := hx.inv; replace hv := hv.inv; obtain ⟨_, _, rfl, hi, hv⟩ := hv; obtain ⟨tk, rfl⟩ := hi.inv; replace hv := hv.inv; obtain ⟨v, _, rfl, ha, hv⟩ := hv; cases hv with | nil =>
  obtain ⟨ys, m, hl, r⟩ := O.listAt ho
  have e := r.len
  refine ki_setAt hl h0 (by lia) (by simp only [List.size_toArray]; lia) ?_
  obtain ⟨O', S⟩ := O.turnList nz ho hl (f := fun x => x.setIfInBounds i.toNat v) (ys' := ys.set i.toNat v) (xs' := xs.set i.toNat a) (by simp) (r.set _ ha) s.toks
  exact k _ () _ _ _ O' S trivial h
theorem i_sdict {o : Oid} {es : List (Str × AV)} {x : Str} {a : AV} {Q : AHeap -> Prop} (ho : H o = some (.sdict es)) (hz : es.length <= 1000000) (h : Q (upd H o (.sdict (storedA es x a)))) (nz : o ≠ zO := by first | assumption | nofun) : SetI w hB n (.ref o) (.str x) a H Q := fun A env vs ρ s K vals hA O hv k => by
  replace hv := hv.inv; obtain ⟨_, _, rfl, hx, hv⟩ := hv; obtain ⟨rfl, hd⟩ := hx.inv; replace hv := hv.inv; obtain ⟨_, _, rfl, hi, hv⟩ := hv; obtain ⟨tk, rfl⟩ := hi.inv; replace hv := hv.inv; obtain ⟨v, _, rfl, ha, hv⟩ := hv; cases hv with | nil =>
  obtain ⟨ds, h1, h2⟩ := O.objs _ _ ho
  refine wpAny_setItem_pairs (isS w x tk) h1 (fun h' g1 g2 => ?_) (by rw [<- h2.len]; exact sizeLine_big hz)
  obtain ⟨O', S⟩ := O.turnS (ao := .sdict es) nz hd g1 g2 (h2.put x ha) (s.toks + 1)
  exact k _ () _ _ _ O' S trivial h
theorem i_ndict {o : Oid} {es : List (Int × AV)} {x : Int} {a : AV} {Q : AHeap -> Prop} (ho : H o = some (.ndict es)) (hz : es.length <= 1000000) (h : Q (upd H o (.ndict (storedA es x a)))) (nz : o ≠ zO := by first | assumption | nofun) : SetI w hB n (.ref o) (.int x) a H Q := fun A env vs ρ s K vals hA O hv k => by
  replace hv := hv.inv; obtain ⟨_, _, rfl, hx, hv⟩ := hv; obtain ⟨rfl, hd⟩ := hx.inv; replace hv := hv.inv; obtain ⟨_, _, rfl, hi, hv⟩ := hv; obtain ⟨tk, rfl⟩ := hi.inv; replace hv := hv.inv; obtain ⟨v, _, rfl, ha, hv⟩ := hv; cases hv with | nil =>
  obtain ⟨ds, h1, h2⟩ := O.objs _ _ ho
  refine wpAny_setItem_pairs (isI w x tk) h1 (fun h' g1 g2 => ?_) (by rw [<- h2.len]; exact sizeLine_big hz)
  obtain ⟨O', S⟩ := O.turnN (ao := .ndict es) nz hd g1 g2 (h2.put x ha) (s.toks + 1)
  exact k _ () _ _ _ O' S trivial h
theorem sp_dget {o : Oid} {es : List (Int × AV)} {x : Int} {a : AV} {Q : AV -> AHeap -> Prop} (hs : sysModules < hB.objs.size) (ho : H o = some (.ndict es)) (h : Q ((es.lookup x).getD a) H) : Spec w hB n (.builtin "dict.get") [.ref o, .int x, a] H Q := sp_3 fun A env vs ρ s K v u z hA O ra rb rc k => by
  obtain ⟨rfl, hd⟩ := ra.inv; obtain ⟨tk, rfl⟩ := rb.inv
  obtain ⟨ds, h1, h2⟩ := O.objs _ _ ho
  obtain ⟨x', es', ep, g1, g2, g3⟩ := id h1
  refine call_meetsIn PySem.F.slot_dict_get ⟨_, g1, g2.1⟩ PySem.F.entry_dict_get (PySem.F.args_dict_get_3 _ _ _) (meets_dict_get_default (PySem.intKind pw w) (ρ o) (isI w x tk) (bigSys O hs hd) z) ⟨_, h1.mapOf, ?_⟩
  have := pr_valueAt h2 x
  refine k _ _ ρ H _ (O.toks _) (.toks _) ?_ h
  cases e : es.lookup x with
  | none => rw [e] at this; dsimp only at this; rw [this]; exact rc.mono O (.toks _)
  | some b => rw [e] at this; obtain ⟨y, hy, hr⟩ := this; rw [hy]; exact hr.mono O (.toks _)
theorem sp_insert {o : Oid} {a : AV} {xs : List AV} {Q : AV -> AHeap -> Prop} (ho : H o = some (.list xs)) (hz : xs.length <= 1000000) (h : Q .none (upd H o (.list (xs ++ [a])))) (nz : o ≠ zO := by first | assumption | nofun) :
    Spec w hB n (.builtin "list.insert") [.ref o, .int xs.length, a] H Q := sp_3 fun A env vs ρ s K v u z hA O ra rb rc k => by
  obtain ⟨rfl, hd⟩ := ra.inv; obtain ⟨tk, rfl⟩ := rb.inv
  obtain ⟨ys, m, hl, r⟩ := O.listAt ho
  have e := r.len
  have hfi : ¬ (!Builtin.List.listFitsIndex (xs.length : Int)) = true := by
    unfold Builtin.List.listFitsIndex
    intro q
    rw [Bool.not_eq_true', Bool.and_eq_false_iff] at q
    rcases q with q | q <;> (rw [decide_eq_false_iff_not] at q; lia)
  have hsz : (List.toArray ys).size <= sizeLine := by rw [List.size_toArray, <- r.len]; exact sizeLine_big hz
  generalize hi : (xs.length : Int) = i at *
  have M := PySem.AutoListH.list_insert_list_int_val_1 (ρ o) (List.toArray ys) m i tk z hfi hsz
  refine call_meets PySem.F.slot_list_insert ⟨_, hl, rfl⟩ PySem.F.entry_list_insert (PySem.F.args_list_insert_3 (.ref (ρ o)) (.int i tk) z) M ⟨hl, ?_⟩
  subst hi
  rw [e]
  obtain ⟨O', S⟩ := O.turnList nz ho hl (f := fun xs => have k := if (ys.length : Int) < 0 then ((ys.length : Int) + ((xs.size : Nat) : Int)).toNat else min (ys.length : Int).toNat xs.size; (xs.extract 0 k).push z ++ xs.extract k) (ys' := ys ++ [z]) (xs' := xs ++ [a]) (by
        have : ¬ ((ys.length : Int) < 0) := by lia
        simp [this]) (r.append (.cons rc .nil)) s.toks
  exact k _ .none _ _ _ O' S .none h
end
section
variable {prog : Program} {w : World} {A : Around} {E : Value -> Shared -> Prop} {s : Shared}
theorem draw_list {it t : Addr} {items : Array Value} (hne : t ≠ it) : ∀ (n i : Nat) (s : Shared) (Q : List Value -> Shared -> Prop), s.heap.IsListIter it t i -> s.heap.IsList t items -> i + n <= items.size ->
    (∀ h', h'.IsListIter it t (i + n) -> Heap.SameBut it s.heap h' -> Q ((items.toList.drop i).take n) { s with heap := h' }) -> wpAny (model prog w) A (draw (.ref it) n) Q E s
  | 0, i, s, Q, hit, _, _, hQ => by
    show wpAny _ _ (pure []) Q E s
    exact wpAny_pure (by simpa using hQ s.heap hit (Heap.SameBut.refl ..))
  | n + 1, i, s, Q, hit, ht, hle, hQ => by
    have hlt : i < items.size := by lia
    show wpAny _ _ (pyNext (.ref it) >>= _) Q E s
    refine wpAny_bind (wpAny_pyNext_list_item hit ht (x := items[i]) (by simp [hlt]) fun h₁ hit₁ hs₁ => ?_)
    refine wpAny_bind (wpAny_holding (draw_list hne n (i + 1) _ _ hit₁ (ht.extBut hs₁.extBut hne) (by lia) fun h₂ hit₂ hs₂ => wpAny_pure ?_))
    have hd : items.toList.drop i = items[i] :: items.toList.drop (i + 1) := by simp [List.drop_eq_getElem_cons, hlt]
    have := hQ h₂ (by rw [show i + (n + 1) = i + 1 + n by lia]; exact hit₂) (hs₁.trans hs₂)
    rw [hd, List.take_succ_cons] at this
    exact this
theorem unpackItems_listM {t : Addr} {items : Array Value} {Q : List Value -> Shared -> Prop} (hh : A.handled = none) (ht : s.heap.IsList t items)
    (hQ : ∀ h', Heap.ExtBut s.heap.objs.size s.heap h' -> Q items.toList { s with heap := h' }) : wpAny (model prog w) A (unpackItems (.ref t) items.size none) Q E s := by
  have hlt : t ≠ s.heap.objs.size := by obtain ⟨o, ho, _⟩ := ht; exact Nat.ne_of_lt (Heap.lt_size ho)
  unfold unpackItems
  refine wpAny_bind ?_
  · unfold notIterableAtAll
    refine wpAny_bind (wpAny_specialOf ht.typeIs PySem.F.slot_list_iter.lookup ?_)
    refine wpAny_pure ?_
    simp only [Bool.false_eq_true, if_false]
    refine wpAny_bind (wpAny_holding (wpAny_pyIter_list ht ?_))
    refine wpAny_bind (wpAny_holding (draw_list hlt items.size 0 _ _ ⟨_, Heap.get?_push_size _ rfl, rfl, rfl⟩ (ht.push _) (by lia) fun h₁ hit₁ hs₁ => ?_))
    have hall : List.take items.size (List.drop 0 items.toList) = items.toList := by
      rw [List.drop_zero]; exact List.take_of_length_le (by simp)
    rw [hall]
    rw [if_neg (by simp)]
    have ht₁ : h₁.IsList t items := (ht.push _).extBut hs₁.extBut hlt
    refine wpAny_bind (wpAny_holding (wpAny_pyNext_list_end hh hit₁ ht₁ (by simp) fun h₂ he₂ => ?_))
    simp only [Option.isSome_none, Bool.false_eq_true, if_false]
    refine wpAny_pure (hQ h₂ fun b o hb e => he₂ b o hb (hs₁.extBut b o hb (Heap.get?_push_of_some _ e)))
end
section
variable {w : World} {hB : Heap} {A : Around} {env : Env} {vs : VS} {H : AHeap} {ρ : Rho} {s : Shared} {n : Nat}
noncomputable def updVs (vs : VS) : List Str -> List AV -> VS
  | x :: xs, a :: as => updVs (updV vs x a) xs as
  | _, _ => vs
noncomputable def nameOf : Expr -> Option Str
  | .Name x _ => some x
  | _ => none
noncomputable def namesOf : List Expr -> Option (List Str)
  | [] => some []
  | e :: es => (nameOf e).bind fun x => (namesOf es).map fun xs => x :: xs
theorem nameOf_ok {e : Expr} {x : Str} (h : nameOf e = some x) : ∃ p, e = .Name x p := by
  cases e with
  | Name y p => exact ⟨p, by rw [Option.some.inj h]⟩
  | _ => exact nomatch h
theorem ea_names {env : Env} {es : List Expr} : ∀ {xs : List Str}, namesOf es = some xs -> ∃ ps : List Pos, ps.length = xs.length /\ assignEach es env = (xs.zip ps).map fun p => (false, assign (.Name p.1 p.2) env) := by
  induction es with
  | nil => intro xs h; rw [<- Option.some.inj h]; exact ⟨[], rfl, rfl⟩
  | cons e es ih =>
    intro xs h
    obtain ⟨x, hx, h⟩ := Option.bind_eq_some_iff.mp h
    obtain ⟨ys, hy, rfl⟩ := Option.map_eq_some_iff.mp h
    obtain ⟨p, rfl⟩ := nameOf_ok hx
    obtain ⟨ps, h3, h4⟩ := ih hy
    refine ⟨p :: ps, congrArg Nat.succ h3, ?_⟩
    show (false, assign (.Name x p) env) :: assignEach es env = _
    rw [h4]
    rfl
theorem r_assigns {xs : List Str} : ∀ {fs : List (Value -> Sem Unit)} {as : List AV} {vals : List Value} {vs : VS} {ρ : Rho} {s : Shared} {K : Unit -> Shared -> Prop}, fs.length = xs.length ->
    (∀ (i : Nat) (x : Str) (f : Value -> Sem Unit), xs[i]? = some x -> fs[i]? = some f -> ∀ v, ∀ {Q : Unit -> Shared -> Prop} {s}, wpAny (model pw w) A (storeName env x v) Q (fun _ _ => False) s -> wpAny (model pw w) A (f v) Q (fun _ _ => False) s) -> (∀ x ∈ xs, isOwn env x = true) -> as.length = xs.length ->
    Ok w hB env vs H ρ s -> VRs s.heap ρ H as vals -> (∀ ρ' s', Ok w hB env (updVs vs xs as) H ρ' s' -> Step env ρ H s ρ' H s' -> K () s') -> wpAny (model pw w) A (assignInOrder fs vals) K (fun _ _ => False) s := by
  induction xs with
  | nil =>
    intro fs as vals vs ρ s K hf _ _ hl O r k
    cases fs with
    | nil => exact assignInOrder_nil (k ρ s (by cases as <;> exact O) .rfl)
    | cons _ _ => simp at hf
  | cons x xs ih =>
    intro fs as vals vs ρ s K hf hn ho hl O r k
    cases fs with
    | nil => simp at hf
    | cons f fs =>
      cases r with
      | nil => simp at hl
      | @cons a v as vals ha hs =>
        refine assignInOrder_cons (hn 0 x f rfl rfl v (r_store (Q := fun v1 H1 => v1 = updV vs x a /\ H1 = H) (ho x (.head _)) ⟨rfl, rfl⟩ O ha fun ρ1 v1 H1 s1 O1 S1 q1 => ?_))
        obtain ⟨rfl, rfl⟩ := q1
        refine ih (by simpa using hf) (fun i y g h1 h2 => hn (i + 1) y g (by simpa using h1) (by simpa using h2)) (fun y hy => ho y (.tail _ hy)) (by simpa using hl) O1 (hs.mono O S1) fun ρ2 s2 O2 S2 => k ρ2 s2 O2 (S1.trans S2)
theorem as_names {es : List Expr} {xs : List Str} (hx : namesOf es = some xs) : ∃ fs : List (Value -> Sem Unit), (assignEach es env).map (·.2) = fs /\ fs.length = xs.length /\ (assignEach es env).length = xs.length /\ (assignEach es env).findIdx? (·.1) = none /\
    (∀ (i : Nat) (x : Str) (f : Value -> Sem Unit), xs[i]? = some x -> fs[i]? = some f -> ∀ v, ∀ {Q : Unit -> Shared -> Prop} {s}, wpAny (model pw w) A (storeName env x v) Q (fun _ _ => False) s -> wpAny (model pw w) A (f v) Q (fun _ _ => False) s) := by
  obtain ⟨ps, h1, h2⟩ := ea_names (env := env) hx
  refine ⟨_, rfl, ?_, ?_, ?_, ?_⟩
  · rw [h2]; simp [h1]
  · rw [h2]; simp [h1]
  · rw [h2]; simp
  · intro i x f hi hf v Q s h
    rw [h2] at hf
    simp only [List.map_map, List.getElem?_map, Option.map_eq_some_iff] at hf
    obtain ⟨p, hp, rfl⟩ := hf
    rw [List.getElem?_zip_eq_some] at hp
    have : p.1 = x := by rw [hi] at hp; exact (Option.some.inj hp.1).symm
    subst this
    exact PySem.wpAny_assign_Name h
theorem s_tuple (hA : AOk n A) {elts : List Expr} {k0 : Nat} {tpos pos : Pos} {e : Expr} {xs : List Str} {Q} (hx : namesOf elts = some xs) (hown : xs.all (isOwn env) = true) (hs : swapsWithSole [.Tuple elts k0 tpos] e pos.line env = pure false) (hw : swappedStores [.Tuple elts k0 tpos] e env = pure none)
    (h : RV w hB A env (eval e env) vs H fun a v1 H1 => ∃ as, (a = .tup as ∨ ∃ o, a = .ref o /\ H1 o = some (.list as)) /\ as.length = xs.length /\ Q .next (updVs v1 xs as) H1) :
    RS w hB A env (exec (.Assign [.Tuple elts k0 tpos] e pos) env) vs H Q := fun ρ s K O k =>
  Assign_Tuple (hs := hs) (hw := hw) (h ρ s _ O fun v a ρ1 v1 H1 s1 O1 S1 r1 q1 => by
    obtain ⟨as, ha, hl, q⟩ := q1
    obtain ⟨fs, f1, f2, f3, f4, f5⟩ := as_names (w := w) (A := A) (env := env) hx
    have own : ∀ x ∈ xs, isOwn env x = true := fun x hx' => List.all_eq_true.mp hown x hx'
    have fin : ∀ (vals : List Value) h', VRs s1.heap ρ1 H1 as vals -> Heap.ExtBut s1.heap.objs.size s1.heap h' -> wpAny (model pw w) A (assignInOrder ((assignEach elts env).map (·.2)) vals) (fun _ => K .next) (fun _ _ => False) { s1 with heap := h' } := fun vals h' r he => by
      rw [f1]
      obtain ⟨O2, S2⟩ := O1.ext' (s' := { s1 with heap := h' }) (fun b x e => he b x (fun q => by have := Heap.lt_size e; rw [q] at this; exact Nat.lt_irrefl _ this) e) rfl rfl
      exact r_assigns f2 f5 own hl O2 (r.mono O1 S2) fun ρ3 s3 O3 S3 => k _ .next ρ3 _ _ s3 O3 ((S1.trans S2).trans S3) trivial q
    rcases ha with rfl | ⟨o, rfl, ho⟩
    · obtain ⟨t, us, m, rfl, ht, hs'⟩ := r1.inv
      refine assign_Tuple_tuple (items := us.toArray) hA.1 ⟨_, ht, rfl, _, rfl⟩ (by rw [f3, List.size_toArray, <- hs'.len, hl]) f4 fun h' he => ?_
      exact fin us h' hs' he
    · obtain ⟨rfl, hd⟩ := r1.inv
      obtain ⟨us, m, hl', hs'⟩ := O1.listAt ho
      rw [PyProof.Rows.assign_Tuple]
      refine wpAny_bind (wpAny_standAt ?_)
      unfold unpack
      rw [f3, f4, show xs.length = us.toArray.size by rw [List.size_toArray, <- hs'.len, hl]]
      exact wpAny_bind (wpAny_holding (unpackItems_listM hA.1 ⟨_, hl', rfl, _, rfl⟩ fun h' he => fin us h' hs' he)))
theorem s_tuple_swapped (hA : AOk n A) {elts : List Expr} {k0 : Nat} {tpos pos : Pos} {e : Expr} {xs : List Str} {Q} (hown : xs.all (isOwn env) = true) (hs : swapsWithSole [.Tuple elts k0 tpos] e pos.line env = pure false) (hw : swappedStores [.Tuple elts k0 tpos] e env = pure (some xs))
    (h : RV w hB A env (eval e env) vs H fun a v1 H1 => ∃ as, a = .tup as /\ as.length = xs.length /\ Q .next (updVs v1 xs.reverse as.reverse) H1) :
    RS w hB A env (exec (.Assign [.Tuple elts k0 tpos] e pos) env) vs H Q := fun ρ s K O k =>
  Assign_Tuple_swapped (hs := hs) (hw := hw) (h ρ s _ O fun v a ρ1 v1 H1 s1 O1 S1 r1 q1 => by
    obtain ⟨as, rfl, hl, q⟩ := q1
    have own : ∀ x ∈ xs.reverse, isOwn env x = true := fun x hx' => List.all_eq_true.mp hown x (by simpa using hx')
    obtain ⟨t, us, m, rfl, ht, hs'⟩ := r1.inv
    rw [show xs.length = us.toArray.size by rw [List.size_toArray, <- hs'.len, hl]]
    refine unpackItems_tuple hA.1 ⟨_, ht, rfl, _, rfl⟩ fun h' he => ?_
    obtain ⟨O2, S2⟩ := O1.ext' (s' := { s1 with heap := h' }) (fun b x e => he b x (fun q => by have := Heap.lt_size e; rw [q] at this; exact Nat.lt_irrefl _ this) e) rfl rfl
    have rev : ∀ {h ρ H} {xs : List AV} {ys : List Value}, VRs h ρ H xs ys -> VRs h ρ H xs.reverse ys.reverse := fun {h ρ H xs} => by
      induction xs with
      | nil => intro ys r; cases r; exact .nil
      | cons x xs ih => intro ys r; cases r with | cons hx hs => simp only [List.reverse_cons]; exact (ih hs).append (.cons hx .nil)
    exact r_assigns (by simp) (fun i x f h1 h2 v Q s h => by
      simp only [List.getElem?_map, h1, Option.map_some, Option.some.injEq] at h2
      subst h2
      exact wpAny_bindName h) own (by simp [hl]) O2 (rev (hs'.mono O1 S2)) fun ρ3 s3 O3 S3 => k _ .next ρ3 _ _ s3 O3 ((S1.trans S2).trans S3) trivial q)
end
noncomputable def v0Of (E : Env) (v : VS) : VS := fun y => if E.kindOf y = some .local then none else v y
noncomputable def testsOf (ifs : List Expr) (E : Env) : Sem Bool := forIn ifs true fun c r => if r = true then do let ok <- isTrue c E (eval c E); pure (ForInStep.yield ok) else pure (ForInStep.yield r)
structure ClOK (scope : Scope) (cl : List (Str × Addr)) (env : Env) : Prop where
  mem : ∀ p ∈ cl, cl.lookup p.1 = some p.2 /\ env.cells.lookup p.1 = some p.2 /\ ((compEnvC scope cl 0 env).kindOf p.1 = some .cell ∨ (compEnvC scope cl 0 env).kindOf p.1 = some .free)
  own : ∀ y, ((compEnvC scope cl 0 env).kindOf y = some .cell ∨ (compEnvC scope cl 0 env).kindOf y = some .free) -> ∃ c, cl.lookup y = some c /\ env.cells.lookup y = some c /\ (env.kindOf y = some .cell ∨ env.kindOf y = some .free)
section
variable {w : World} {hB : Heap} {A : Around} {env : Env} {vs : VS} {H : AHeap} {ρ : Rho} {s : Shared} {n : Nat}
theorem ts_nil {E : Env} {vs : VS} {Q} (h : Q true vs H) : RB w hB A E (testsOf [] E) vs H Q := fun ρ s K O k => by
  unfold testsOf
  rw [List.forIn_nil]
  exact wpAny_pure (k true true ρ vs H s O .rfl rfl h)
theorem ts_one {E : Env} {vs : VS} {c : Expr} {Q} (h : RB w hB A E (isTrue c E (eval c E)) vs H Q) : RB w hB A E (testsOf [c] E) vs H Q := fun ρ s K O k => by
  unfold testsOf
  rw [List.forIn_cons]
  rw [if_pos rfl]
  refine wpAny_bind (wpAny_bind (h ρ s _ O fun a b ρ' v' H' s' O' S r q => wpAny_pure ?_))
  dsimp only
  rw [List.forIn_nil]
  exact wpAny_pure (k a b ρ' v' H' s' O' S r q)
theorem Step.inner {E : Env} {ρ₀ H₀ s₀ ρ' H' s'} (S0 : Step env ρ₀ H₀ s₀ ρ H s) (S : Step E ρ H s ρ' H' s') (hC : s₀.heap.get? E.locals = none) (hcl : ∀ p ∈ E.cells, ∃ q ∈ env.cells, q.2 = p.2) : Step env ρ₀ H₀ s₀ ρ' H' s' where
  dom o h := S.dom o (S0.dom o h)
  rho o h := (S.rho o (S0.dom o h)).trans (S0.rho o h)
  new o h h' := by
    by_cases q : H o = none
    · have h1 := S.new o h q
      cases h2 : s₀.heap.get? (ρ' o) with
      | none => rfl
      | some x => obtain ⟨y, h3⟩ := S0.live _ _ h2; rw [h1] at h3; cases h3
    · rw [S.rho o q]; exact S0.new o q h'
  live b x h := let ⟨y, h1⟩ := S0.live b x h; S.live b y h1
  keep b o hb h1 h2 h3 := S.keep b o (S0.keep b o hb h1 h2 h3) (fun i hi e => by
    by_cases q : H₀ i = none
    · have h4 := S0.new i hi.1 q
      rw [<- e, hb] at h4; cases h4
    · rw [S0.rho i q] at e; exact h1 i ⟨q, hi.2⟩ e) (fun e => by rw [e, hC] at hb; cases hb) (fun p hp e => by
      obtain ⟨q, hq, h4⟩ := hcl p hp
      exact h3 q hq (e.trans h4.symm))
  os := S.os.trans S0.os
theorem Ok.into (O : Ok w hB env vs H ρ s) {scope : Scope} {cl : List (Str × Addr)} (hkind : scope.kind = .function) (hcl : ClOK scope cl env) {C : Addr} (hC : hB.objs.size <= C) (hnl : ∀ i, H i ≠ none -> ρ i ≠ C) {m : Str -> Option Value} (hn : s.heap.Ns C m) :
    Ok w hB (compEnvC scope cl C env) (v0Of (compEnvC scope cl C env) vs) H ρ s := by
  have nl : ∀ {y a}, v0Of (compEnvC scope cl C env) vs y = some a -> vs y = some a := fun {y a} h => by
    unfold v0Of at h
    split at h
    · cases h
    · exact h
  refine ⟨O.base, O.last, O.objs, O.big, O.inj, ⟨⟨m, hn, fun y a h1 h2 => ?_⟩, fun y hy => ?_, fun y a hy hv => ?_⟩, hnl, hC, fun p hp => ?_, fun x y c h1 h2 => ?_, hkind, O.glob, O.bi, O.gens⟩
  · unfold v0Of at h2; rw [if_pos h1] at h2; cases h2
  · obtain ⟨c, h1, h2, h3⟩ := hcl.own y (.inl hy)
    rcases h3 with h3 | h3
    · obtain ⟨c', v₀, g1, g2, g3⟩ := O.fr.cel y h3
      rw [h2] at g1; cases g1
      exact ⟨c, v₀, h1, g2, fun a ha => g3 a (nl ha)⟩
    · cases e : vs y with
      | some a =>
        obtain ⟨c', v, g1, g2, g3⟩ := O.fr.fre y a h3 e
        rw [h2] at g1; cases g1
        exact ⟨c, some v, h1, g2, fun b hb => by have := nl hb; rw [e] at this; cases this; exact ⟨v, rfl, g3⟩⟩
      | none =>
        obtain ⟨_, v, g⟩ := O.bigC (y, c) (lookup_mem h2)
        exact ⟨c, v, h1, g, fun b hb => by have := nl hb; rw [e] at this; cases this⟩
  · obtain ⟨c, h1, h2, h3⟩ := hcl.own y (.inr hy)
    have hv := nl hv
    rcases h3 with h3 | h3
    · obtain ⟨c', v₀, g1, g2, g3⟩ := O.fr.cel y h3
      rw [h2] at g1; cases g1
      obtain ⟨v, rfl, r⟩ := g3 a hv
      exact ⟨c, v, h1, g2, r⟩
    · obtain ⟨c', v, g1, g2, g3⟩ := O.fr.fre y a h3 hv
      rw [h2] at g1; cases g1
      exact ⟨c, v, h1, g2, g3⟩
  · exact O.bigC p (lookup_mem (hcl.mem p hp).2.1)
  · exact O.cinj x y c (hcl.mem _ (lookup_mem h1)).2.1 (hcl.mem _ (lookup_mem h2)).2.1
theorem Ok.outOf (O : Ok w hB env vs H ρ s) {scope : Scope} {cl : List (Str × Addr)} (hcl : ClOK scope cl env) {C : Addr} {v' : VS} {H' ρ' s'} (O' : Ok w hB (compEnvC scope cl C env) v' H' ρ' s') (hv : ∀ y, (compEnvC scope cl C env).kindOf y ≠ some .local -> v' y = vs y)
    (S : Step env ρ H s ρ' H' s') (K1 : ∀ b x, s.heap.get? b = some x -> (∀ i, H i ≠ none -> b ≠ ρ i) -> (∀ p ∈ cl, b ≠ p.2) -> s'.heap.get? b = some x) : Ok w hB env vs H' ρ' s' := by
  have inner : ∀ x c, cl.lookup x = some c -> ∃ v₀, s'.heap.IsCell c v₀ /\ ∀ a, vs x = some a -> ∃ v, v₀ = some v /\ VR s'.heap ρ' H' a v := fun x c h => by
    have hm := lookup_mem h
    rcases (hcl.mem _ hm).2.2 with hk | hk
    · obtain ⟨c', v₀, g1, g2, g3⟩ := O'.fr.cel x hk
      have g1 : cl.lookup x = some c' := g1
      rw [h] at g1; cases g1
      exact ⟨v₀, g2, fun a ha => g3 a (by rw [hv x (by show (compEnvC scope cl 0 env).kindOf x ≠ _; rw [hk]; simp)]; exact ha)⟩
    · have e0 := hv x (by show (compEnvC scope cl 0 env).kindOf x ≠ _; rw [hk]; simp)
      cases e : vs x with
      | some a =>
        obtain ⟨c', v, g1, g2, g3⟩ := O'.fr.fre x a hk (e0.trans e)
        have g1 : cl.lookup x = some c' := g1
        rw [h] at g1; cases g1
        exact ⟨some v, g2, fun b hb => by cases hb; exact ⟨v, rfl, g3⟩⟩
      | none =>
        obtain ⟨_, v, g⟩ := O'.bigC (x, c) hm
        exact ⟨v, g, fun b hb => by cases hb⟩
  have outer : ∀ x c v, env.cells.lookup x = some c -> cl.lookup x = none -> s.heap.IsCell c v -> s'.heap.IsCell c v := fun x c v h1 h2 hc => by
    have n1 := O.not_cell hc
    obtain ⟨o, h3, h4⟩ := hc
    refine ⟨o, K1 _ _ h3 n1.1 fun p hp e => ?_, h4⟩
    have h5 := hcl.mem p hp
    have := O.cinj p.1 x c (by rw [h5.2.1, e]) h1
    rw [this, h2] at h5
    exact nomatch h5.1
  refine ⟨O'.base, O'.last, O'.objs, O'.big, O'.inj, ⟨?_, fun x hx => ?_, fun x a hx ha => ?_⟩, fun i hi e => ?_, O.bigL, fun p hp => ?_, O.cinj, O.kind, O.glob, O.bi, O'.gens⟩
  · obtain ⟨m, hm, hl⟩ := O.fr.loc
    refine ⟨m, Heap.Ns.keepAt hm fun x e => K1 _ x e (fun i hi q => O.nL i hi q.symm) fun p hp q => ?_, fun x a h1 h2 => let ⟨v, e, r⟩ := hl x a h1 h2; ⟨v, e, r.mono O S⟩⟩
    obtain ⟨_, v, g⟩ := O.bigC p (lookup_mem (hcl.mem p hp).2.1)
    exact (O.not_cell g).2 q.symm
  · obtain ⟨c, v₀, g1, g2, g3⟩ := O.fr.cel x hx
    cases h : cl.lookup x with
    | some c' =>
      have := (hcl.mem _ (lookup_mem h)).2.1
      have e : env.cells.lookup x = some c' := this
      rw [g1] at e; cases e
      obtain ⟨v, h1, h2⟩ := inner x c h
      exact ⟨c, v, g1, h1, h2⟩
    | none => exact ⟨c, v₀, g1, outer x c v₀ g1 h g2, fun a ha => let ⟨v, e, r⟩ := g3 a ha; ⟨v, e, r.mono O S⟩⟩
  · obtain ⟨c, v₀, g1, g2, g3⟩ := O.fr.fre x a hx ha
    cases h : cl.lookup x with
    | some c' =>
      have := (hcl.mem _ (lookup_mem h)).2.1
      have e : env.cells.lookup x = some c' := this
      rw [g1] at e; cases e
      obtain ⟨v, h1, h2⟩ := inner x c h
      obtain ⟨u, rfl, r⟩ := h2 a ha
      exact ⟨c, u, g1, h1, r⟩
    | none => exact ⟨c, v₀, g1, outer x c _ g1 h g2, g3.mono O S⟩
  · by_cases q : H i = none
    · obtain ⟨x, _, _, h1, _⟩ := O.loc_lt
      have := S.new i hi q
      rw [e, h1] at this; cases this
    · rw [S.rho i q] at e; exact O.nL i q e
  · obtain ⟨g0, v, g⟩ := O.bigC p hp
    refine ⟨g0, ?_⟩
    by_cases q : ∃ r ∈ cl, r.2 = p.2
    · obtain ⟨r, hr, e⟩ := q
      rw [<- e]
      exact (O'.bigC r hr).2
    · have n1 := O.not_cell g
      obtain ⟨o, h3, h4⟩ := g
      exact ⟨v, o, K1 _ _ h3 n1.1 fun r hr e => q ⟨r, hr, e.symm⟩, h4⟩
noncomputable def KeepC (s1 : Shared) (ρ1 : Rho) (H1 : AHeap) (E : Env) (h' : Heap) : Prop := ∀ b x, s1.heap.get? b = some x -> (∀ i, H1 i ≠ none -> b ≠ ρ1 i) -> (∀ p ∈ E.cells, b ≠ p.2) -> h'.get? b = some x
noncomputable def Src.Dom (H : AHeap) : Src -> Prop
  | .list o _ => H o ≠ none
  | _ => True
theorem Src.Good.dom {c : Src} (g : c.Good H) : c.Dom H := by
  cases c with
  | list o xs => exact fun e => nomatch e.symm.trans g
  | _ => trivial
theorem Src.Dom.to {c : Src} {H' : AHeap} (d : c.Dom H) (h : ∀ o, H o ≠ none -> H' o ≠ none) : c.Dom H' := by
  cases c with
  | list o xs => exact h o d
  | _ => trivial
theorem Src.St.step' {c : Src} {ρ' : Rho} {it : Addr} {k : Nat} {h : Heap} (q : c.St ρ it k h) (d : c.Dom H) (e : ∀ o, H o ≠ none -> ρ' o = ρ o) : c.St ρ' it k h := by
  cases c with
  | list o xs => show h.IsListIter it (ρ' o) k; rw [e o d]; exact q
  | _ => exact q
structure CT (hB : Heap) (env E : Env) (c : Src) (o : Oid) (r0 : Addr) (H1 : AHeap) (ρ1 : Rho) (s1 : Shared) (k : Nat) (H' : AHeap) (ρ' : Rho) (s' : Shared) : Prop where
  st : Step env ρ1 H1 s1 ρ' H' s'
  sd : Side hB E H' ρ' s' s1.heap.objs.size
  src : c.St ρ' s1.heap.objs.size k s'.heap
  kp : KeepC s1 ρ1 H1 E s'.heap
  dm : c.Dom H'
  od : H' o ≠ none
  ro : ρ' o = r0
structure CE (env E : Env) (s1 : Shared) : Prop where
  loc : s1.heap.get? E.locals = none
  cells : ∀ p ∈ E.cells, ∃ q ∈ env.cells, q.2 = p.2
variable {E : Env} {c : Src} {o : Oid} {r0 : Addr} {H1 : AHeap} {ρ1 : Rho} {s1 : Shared} {k : Nat}
theorem CT.step (T : CT hB env E c o r0 H1 ρ1 s1 k H ρ s) (F : CE env E s1) (O : Ok w hB E vs H ρ s) {ρ' H' s'} (S : Step E ρ H s ρ' H' s') : CT hB env E c o r0 H1 ρ1 s1 k H' ρ' s' where
  st := Step.inner T.st S F.loc F.cells
  sd := T.sd.step S
  src := (T.src.frame (T.sd.fr O S)).step' T.dm S.rho
  kp b x e h1 h2 := S.keep b x (T.kp b x e h1 h2) (fun i hi q => by
    by_cases q' : H1 i = none
    · have h4 := T.st.new i hi.1 q'
      rw [<- q, e] at h4
      exact nomatch h4
    · rw [T.st.rho i q'] at q; exact h1 i q' q) (fun q => by rw [q, F.loc] at e; exact nomatch e) h2
  dm := T.dm.to S.dom
  od := S.dom o T.od
  ro := (S.rho o T.od).trans T.ro
theorem CT.but (T : CT hB env E c o r0 H1 ρ1 s1 k H ρ s) {k' : Nat} {s' : Shared} (kb : ∀ b x, s.heap.get? b = some x -> b ≠ s1.heap.objs.size -> s'.heap.get? b = some x) (hos : s'.os = s.os) (st : c.St ρ s1.heap.objs.size k' s'.heap) : CT hB env E c o r0 H1 ρ1 s1 k' H ρ s' where
  st := T.st.but it_none kb hos
  sd := ⟨st.side, T.sd.big, T.sd.rho, T.sd.loc, T.sd.cell⟩
  src := st
  kp b x e h1 h2 := kb b x (T.kp b x e h1 h2) fun q => by rw [q, it_none] at e; exact nomatch e
  dm := T.dm
  od := T.od
  ro := T.ro
noncomputable def TurnP (w : World) (hB : Heap) (A : Around) (elt : Expr) (x : Str) (ifs : List Expr) (o : Oid) (v1 : VS) (els : List AV) (I : Nat -> List AV -> AHeap -> Prop) (E : Env) : Prop := ∀ k e ys H2, I k ys H2 -> els[k]? = some e ->
  RB w hB A E (testsOf ifs E) (updV (v0Of E v1) x e) H2 fun b v3 H3 => v3 = updV (v0Of E v1) x e /\ (b = false -> I (k + 1) ys H3) /\ (b = true -> RV w hB A E (eval elt E) v3 H3 fun a v4 H4 =>
        v4 = updV (v0Of E v1) x e /\ H4 o = some (.list ys) /\ I (k + 1) (ys ++ [a]) (upd H4 o (.list (ys ++ [a]))))
noncomputable def GoodP (c : Src) (o : Oid) (I : Nat -> List AV -> AHeap -> Prop) : Prop := ∀ k ys H2, I k ys H2 -> c.Good H2 /\ H2 o = some (.list ys) /\ ys.length <= 1000000
variable {x : Str} {v1 : VS} {I : Nat -> List AV -> AHeap -> Prop}
structure CJ (w : World) (hB : Heap) (env E : Env) (c : Src) (o : Oid) (r0 : Addr) (H1 : AHeap) (ρ1 : Rho) (s1 : Shared) (x : Str) (v1 : VS) (I : Nat -> List AV -> AHeap -> Prop) (k : Nat) (ys : List AV) (v' : VS) (H' : AHeap) (ρ' : Rho) (s' : Shared) : Prop where
  ok : Ok w hB E v' H' ρ' s'
  vs : ∀ y, E.kindOf y ≠ some .local -> v' y = v1 y
  up : ∀ e, updV v' x e = updV (v0Of E v1) x e
  inv : I k ys H'
  ct : CT hB env E c o r0 H1 ρ1 s1 k H' ρ' s'
noncomputable def CJn (w : World) (hB : Heap) (env E : Env) (c : Src) (o : Oid) (r0 : Addr) (H1 : AHeap) (ρ1 : Rho) (s1 : Shared) (x : Str) (v1 : VS) (I : Nat -> List AV -> AHeap -> Prop) (j : Nat) (s' : Shared) : Prop := ∃ k ys v' H' ρ', k + j = c.els.length /\ CJ w hB env E c o r0 H1 ρ1 s1 x v1 I k ys v' H' ρ' s'
noncomputable def CLess (w : World) (hB : Heap) (env E : Env) (c : Src) (o : Oid) (r0 : Addr) (H1 : AHeap) (ρ1 : Rho) (s1 : Shared) (x : Str) (v1 : VS) (I : Nat -> List AV -> AHeap -> Prop) (j : Nat) (s' : Shared) : Prop := ∃ m, m < j /\ CJn w hB env E c o r0 H1 ρ1 s1 x v1 I m s'
theorem CJ.less {j k' : Nat} (hj : k' + j = c.els.length) (hk : k' < c.els.length) {ys : List AV} {v' : VS} {H' : AHeap} {ρ' : Rho} {s' : Shared} (J : CJ w hB env E c o r0 H1 ρ1 s1 x v1 I (k' + 1) ys v' H' ρ' s') : CLess w hB env E c o r0 H1 ρ1 s1 x v1 I j s' :=
  ⟨j - 1, by omega, k' + 1, ys, v', H', ρ', by omega, J⟩
theorem upv_upv (E : Env) (v1 : VS) (x : Str) (a e : AV) : updV (updV (v0Of E v1) x a) x e = updV (v0Of E v1) x e := by
  funext y; unfold updV; split <;> rfl
theorem upv_out (hkx : E.kindOf x = some .local) {e : AV} (y : Str) (hy : E.kindOf y ≠ some .local) : updV (v0Of E v1) x e y = v1 y := by
  unfold updV v0Of
  rw [if_neg (fun q : y = x => hy (by rw [q]; exact hkx)), if_neg hy]
noncomputable abbrev noE : Err -> Shared -> Prop := fun _ _ => False
theorem compLoop_ok {elt target iter : Expr} {ifs : List Expr} {scope : Scope} {pos : Pos} {it acc : Value} {R : Result -> Shared -> Prop} (J : Nat -> Shared -> Prop)
    (turn : ∀ n s, J n s -> wpAny (model pw w) A (pyNext it) (fun r s₁ => match r with
      | none => R (.ok .next) s₁
      | some v => wpAny (model pw w) A (assign target E v) (fun _ s₂ => wpAny (model pw w) A (testsOf ifs E) (fun ok s₃ =>
            if ok = true then wpAny (model pw w) A (eval elt E) (fun x s₄ => wpAny (model pw w) A (call (.builtin "list.append") [acc, x]) (fun _ s₅ => ∃ m, m < n /\ J m s₅) noE s₄) noE s₃
            else ∃ m, m < n /\ J m s₃) noE s₂) noE s₁) noE s)
    (n : Nat) (h : J n s) (ht : ∀ v, letOwnedTupleGo target it v = pure () := by intro _; rfl) :
    codeAny (model pw w) A (.compLoop (.ListComp elt [⟨target, iter, ifs, 0⟩] scope pos) 0 it acc E) R s := by
  refine codeAny_compLoop_tests J (fun n s hJ => wpAny_mono (turn n s hJ) (fun r s₁ h => ?_) fun _ _ e => False.elim e) n h ht
  cases r with
  | none => exact h
  | some v =>
    refine wpAny_mono h (fun _ s₂ h => wpAny_mono h (fun ok s₃ h => ?_) fun _ _ e => False.elim e) fun _ _ e => False.elim e
    cases ok with
    | false => exact h
    | true => exact wpAny_mono h (fun _ s₄ h => wpAny_mono h (fun _ _ h => h) fun _ _ e => False.elim e) fun _ _ e => False.elim e
theorem comp_turn (hA : AOk n A) (F : CE env E s1) (hkx : E.kindOf x = some .local) (nz : o ≠ zO) {elt : Expr} {xp : Pos} {ifs : List Expr} (good : GoodP c o I) (turn : TurnP w hB A elt x ifs o v1 c.els I E)
    {j k' : Nat} {ys : List AV} {v' : VS} {H' : AHeap} {ρ' : Rho} {s' : Shared} (J : CJ w hB env E c o r0 H1 ρ1 s1 x v1 I k' ys v' H' ρ' s') (hj : k' + j = c.els.length) (hk : k' < c.els.length) {h'' : Heap} {tk : Nat} {y : Value}
    (st : c.St ρ' s1.heap.objs.size (k' + 1) h'') (hsb : Heap.SameBut s1.heap.objs.size s'.heap h'') (ry : VR s'.heap ρ' H' c.els[k'] y) :
    wpAny (model pw w) A (assign (.Name x xp) E y) (fun _ s₂ => wpAny (model pw w) A (testsOf ifs E) (fun ok s₃ =>
            if ok = true then wpAny (model pw w) A (eval elt E) (fun z s₄ => wpAny (model pw w) A (call (.builtin "list.append") [.ref r0, z]) (fun _ s₅ => CLess w hB env E c o r0 H1 ρ1 s1 x v1 I j s₅) noE s₄) noE s₃
            else CLess w hB env E c o r0 H1 ρ1 s1 x v1 I j s₃) noE s₂) noE { s' with heap := h'', toks := tk } := by
  obtain ⟨gg, gl, gz⟩ := good _ _ _ J.inv
  have kb : ∀ b x, s'.heap.get? b = some x -> b ≠ s1.heap.objs.size -> h''.get? b = some x := fun b x e q => (hsb.2 b q).trans e
  have O5 : Ok w hB E v' H' ρ' { s' with heap := h'', toks := tk } := J.ok.but J.ct.sd kb rfl
  have T5 : CT hB env E c o r0 H1 ρ1 s1 (k' + 1) H' ρ' { s' with heap := h'', toks := tk } := J.ct.but kb rfl st
  have ry' : VR h'' ρ' H' c.els[k'] y := ry.keepT fun b x e q => kb b x e fun e' => by
    obtain ⟨z, h1, h2⟩ := J.ct.sd.obj
    rw [e', h1] at e
    rw [Option.some.inj e] at h2
    exact h2 q
  refine PySem.wpAny_assign_Name (r_store (Q := fun v3 H3 => v3 = updV v' x c.els[k'] /\ H3 = H') (by unfold isOwn; rw [hkx]; rfl) ⟨rfl, rfl⟩ O5 ry' fun ρ6 v6 H6 s6 O6 S6 q6 => ?_)
  have T6 := T5.step F O5 S6
  rw [q6.1, J.up] at O6
  rw [q6.2] at O6 T6
  refine turn k' _ ys H' J.inv (List.getElem?_eq_getElem hk) ρ6 s6 _ O6 fun b b' ρ7 v7 H7 s7 O7 S7 r7 ⟨q7, q7a, q7b⟩ => ?_
  have T7 := T6.step F O6 S7
  have r7 : b = b' := r7
  subst r7
  cases b with
  | false =>
    rw [if_neg Bool.false_ne_true]
    rw [q7] at O7
    exact CJ.less hj hk ⟨O7, upv_out hkx, upv_upv E v1 x _, q7a rfl, T7⟩
  | true =>
    rw [if_pos rfl]
    refine q7b rfl ρ7 s7 _ O7 fun z a ρ8 v8 H8 s8 O8 S8 r8 ⟨q8, h8, i8⟩ => ?_
    have T8 := T7.step F O7 S8
    rw [q8] at O8
    rw [<- T8.ro]
    exact sp_append (w := w) (hB := hB) (n := n) (a := a) (Q := fun _ H' => H' = upd H8 o (.list (ys ++ [a]))) h8 gz rfl nz A E _ ρ8 s8 _ [.ref (ρ8 o), z] hA O8 (.cons (.ref o T8.od) (.cons r8 .nil)) fun _ _ ρ9 H9 s9 O9 S9 _ q9 => by
      have T9 := T8.step F O8 S9
      rw [q9] at O9 T9
      rw [T8.ro]
      exact CJ.less hj hk ⟨O9, upv_out hkx, upv_upv E v1 x _, i8, T9⟩
theorem comp_done (hA : AOk n A) {scope : Scope} {cl : List (Str × Addr)} {C : Addr} (hcl : ClOK scope cl env) (O1 : Ok w hB env v1 H1 ρ1 s1) (F : CE env (compEnvC scope cl C env) s1) (good : GoodP c o I) {RR : Value -> Addr -> Result -> Shared -> Prop}
    (fin : ∀ ys H2 ρ2 s2 C, I c.els.length ys H2 -> Ok w hB env v1 H2 ρ2 s2 -> Step env ρ1 H1 s1 ρ2 H2 s2 -> Side hB env H2 ρ2 s2 C -> (∃ m, s2.heap.Ns C m) -> s1.heap.get? C = none -> RR (.ref (ρ2 o)) C (.ok .next) s2)
    {ys : List AV} {v' : VS} {H' : AHeap} {ρ' : Rho} {s' : Shared} (J : CJ w hB env (compEnvC scope cl C env) c o r0 H1 ρ1 s1 x v1 I c.els.length ys v' H' ρ' s') {h'' : Heap} (kb : ∀ b o, s'.heap.get? b = some o -> b ≠ s1.heap.objs.size -> h''.get? b = some o) : RR (.ref r0) C (.ok .next) { s' with heap := h'' } := by
  have O5 : Ok w hB (compEnvC scope cl C env) v' H' ρ' { s' with heap := h'' } := J.ok.but J.ct.sd kb rfl
  have S5 : Step env ρ1 H1 s1 ρ' H' { s' with heap := h'' } := J.ct.st.but it_none kb rfl
  have Of := O1.outOf hcl O5 J.vs S5 fun b x e h1 h2 => kb b x (J.ct.kp b x e h1 h2) fun q => by rw [q, it_none] at e; exact nomatch e
  obtain ⟨m5, hm5, _⟩ := O5.fr.loc
  rw [<- J.ct.ro]
  have hC : s1.heap.get? C = none := F.loc
  refine fin ys H' ρ' _ C J.inv Of S5 ⟨?_, O5.bigL, fun i hi q => O5.nL i hi q.symm, fun q => ?_, fun p hp q => ?_⟩ ⟨m5, hm5⟩ hC
  · obtain ⟨z, _, _, h1, h2, _⟩ := hm5
    exact ⟨z, h1, fun q => q.2 _ _ h2⟩
  · obtain ⟨z, _, _, h1, _⟩ := O1.loc_lt
    rw [<- q, hC] at h1; exact nomatch h1
  · obtain ⟨_, vv, z, h1, _⟩ := O1.bigC p hp
    rw [<- q, hC] at h1; exact nomatch h1
theorem comp_loop (hA : AOk n A) {elt iter : Expr} {xp pos : Pos} {ifs : List Expr} {scope : Scope} {cl : List (Str × Addr)} {C : Addr} (nz : o ≠ zO) (hx : (compEnvC scope cl 0 env).kindOf x = some .local) (hcl : ClOK scope cl env) (O1 : Ok w hB env v1 H1 ρ1 s1) (F : CE env (compEnvC scope cl C env) s1) (good : GoodP c o I)
    (turn : TurnP w hB A elt x ifs o v1 c.els I (compEnvC scope cl C env)) {RR : Value -> Addr -> Result -> Shared -> Prop}
    (fin : ∀ ys H2 ρ2 s2 C, I c.els.length ys H2 -> Ok w hB env v1 H2 ρ2 s2 -> Step env ρ1 H1 s1 ρ2 H2 s2 -> Side hB env H2 ρ2 s2 C -> (∃ m, s2.heap.Ns C m) -> s1.heap.get? C = none -> RR (.ref (ρ2 o)) C (.ok .next) s2)
    {ys : List AV} {v' : VS} {H' : AHeap} {ρ' : Rho} {s' : Shared} (J : CJ w hB env (compEnvC scope cl C env) c o r0 H1 ρ1 s1 x v1 I 0 ys v' H' ρ' s') :
    codeAny (model pw w) A (.compLoop (.ListComp elt [⟨.Name x xp, iter, ifs, 0⟩] scope pos) 0 (.ref s1.heap.objs.size) (.ref r0) (compEnvC scope cl C env)) (RR (.ref r0) C) s' := by
  refine compLoop_ok (CJn w hB env (compEnvC scope cl C env) c o r0 H1 ρ1 s1 x v1 I) (fun j s' hj => ?_) c.els.length ⟨0, ys, v', H', ρ', Nat.zero_add _, J⟩
  obtain ⟨k', ys, v', H', ρ', e, J⟩ := hj
  have gg := (good _ _ _ J.inv).1
  by_cases hk : k' < c.els.length
  · exact Src.item J.ok gg (List.getElem?_eq_getElem hk) J.ct.src fun y h'' tk st hsb ry => comp_turn hA F hx nz good turn J e hk st hsb ry
  · have hk2 : k' = c.els.length := Nat.le_antisymm (e ▸ Nat.le_add_right _ _) (Nat.le_of_not_lt hk)
    subst hk2
    exact Src.done hA.1 J.ok gg J.ct.src fun h'' kb => comp_done hA hcl O1 F good fin J kb
theorem comp_in (hA : AOk n A) {elt iter : Expr} {xp pos : Pos} {ifs : List Expr} {scope : Scope} {cl : List (Str × Addr)} (nz : o ≠ zO)
    (hkind : scope.kind = .function) (hcell : ∀ y ∈ scope.names, y.2 ≠ .cell) (hx : (compEnvC scope cl 0 env).kindOf x = some .local) (hcl : ClOK scope cl env) (O1 : Ok w hB env v1 H1 ρ1 s1)
    (i0 : I 0 [] (upd H1 o (.list []))) (good : GoodP c o I) (g1 : c.Good H1)
    (turn : ∀ C, TurnP w hB A elt x ifs o v1 c.els I (compEnvC scope cl C env))
    {RR : Value -> Addr -> Result -> Shared -> Prop}
    (fin : ∀ ys H2 ρ2 s2 C, I c.els.length ys H2 -> Ok w hB env v1 H2 ρ2 s2 -> Step env ρ1 H1 s1 ρ2 H2 s2 -> Side hB env H2 ρ2 s2 C -> (∃ m, s2.heap.Ns C m) -> s1.heap.get? C = none -> RR (.ref (ρ2 o)) C (.ok .next) s2)
    {ρ3 : Rho} {s3 : Shared} (O3 : Ok w hB env v1 (upd H1 o (.list [])) ρ3 s3) (S13 : Step env ρ1 H1 s1 ρ3 (upd H1 o (.list [])) s3) (d3 : Side hB env (upd H1 o (.list [])) ρ3 s3 s1.heap.objs.size) (st3 : c.St ρ3 s1.heap.objs.size 0 s3.heap)
    (kp : ∀ b x, s1.heap.get? b = some x -> s3.heap.get? b = some x) {r0 : Addr} (hr : r0 = ρ3 o) :
    wpAny (model pw w) A (newFunctionEnv scope env.globals cl [] env.qual none .none (some env)) (fun cenv s₄ =>
      codeAny (model pw w) A (.compStart (.ListComp elt [⟨.Name x xp, iter, ifs, 0⟩] scope pos) 0 (.ref s1.heap.objs.size) (.ref r0) { cenv with scope := relabel scope env }) (RR (.ref r0) cenv.locals) s₄) (fun _ _ => False) s3 := by
  refine wpAny_newFunctionEnv hcell (fun _ h => nomatch h) (fun h' hn hs => ?_) hkind
  have hC : s3.heap.get? s3.heap.objs.size = none := none_of_le (Nat.le_refl _)
  have hk : ∀ b x, s3.heap.get? b = some x -> h'.get? b = some x := fun b x e => (hs.2 b (fun q => by rw [q, hC] at e; exact nomatch e)).trans (Heap.get?_push_of_some _ e)
  obtain ⟨O4, S4⟩ := O3.ext' (s' := { s3 with heap := h', toks := s3.toks + ([] : List (Str × Value)).length }) hk rfl rfl
  have d4 := d3.step S4
  have hCs1 : s1.heap.get? s3.heap.objs.size = none := by
    cases e : s1.heap.get? s3.heap.objs.size with
    | none => rfl
    | some x => rw [kp _ _ e] at hC; exact nomatch hC
  have hod : upd H1 o (.list []) o ≠ none := by rw [upd_self]; exact Option.some_ne_none _
  have F : CE env (compEnvC scope cl s3.heap.objs.size env) s1 := ⟨hCs1, fun p hp => ⟨p, lookup_mem (hcl.mem p hp).2.1, rfl⟩⟩
  have Oi := O4.into hkind hcl (C := s3.heap.objs.size) O3.size (fun i hi e => by
    obtain ⟨x, hx⟩ := O3.oat hi
    rw [e, hC] at hx; exact nomatch hx) (m := fun x => ([] : List (Str × Value)).reverse.lookup x) hn
  have st4 : c.St ρ3 s1.heap.objs.size 0 h' := st3.frame fun b x _ e => hk b x e
  have J : CJ w hB env (compEnvC scope cl s3.heap.objs.size env) c o r0 H1 ρ1 s1 x v1 I 0 [] _ _ ρ3 { s3 with heap := h', toks := s3.toks + ([] : List (Str × Value)).length } := ⟨Oi, fun y hy => if_neg hy, fun _ => rfl, i0,
    ⟨S13.trans S4, ⟨d4.obj, d4.big, d4.rho, (fun e => by
      obtain ⟨x, h1, _⟩ := d3.obj
      have e : s1.heap.objs.size = s3.heap.objs.size := e
      rw [e, hC] at h1; exact nomatch h1), fun p hp e => d4.cell _ (lookup_mem (hcl.mem p hp).2.1) e⟩, st4, fun b x e _ _ => hk b x (kp b x e), (good _ _ _ i0).1.dom, hod, hr.symm⟩⟩
  have main := comp_loop (elt := elt) (iter := iter) (xp := xp) (pos := pos) hA nz hx hcl O1 F good (turn _) fin J
  refine codeAny_compStart_list main ?_
  cases c with
  | list o' xs' => exact wpAny_pyIter_listiter st4 main
  | rng a b c' => exact wpAny_pyIter_rangeiter st4 main
  | tupI l =>
    obtain ⟨t, us, m, h1, _⟩ := st4
    exact wpAny_pyIter_tupleiter h1 main
theorem comp_core (hA : AOk n A) {elt iter : Expr} {xp pos : Pos} {ifs : List Expr} {scope : Scope} {cl : List (Str × Addr)} (o : Oid) (nz : o ≠ zO) {v : Value}
    (hkind : scope.kind = .function) (hcell : ∀ y ∈ scope.names, y.2 ≠ .cell) (hx : (compEnvC scope cl 0 env).kindOf x = some .local) (hcl : ClOK scope cl env) (O1 : Ok w hB env v1 H1 ρ1 s1) (r1 : VR s1.heap ρ1 H1 c.av v) (ho : H1 o = none)
    (i0 : I 0 [] (upd H1 o (.list []))) (good : GoodP c o I) (g1 : c.Good H1)
    (turn : ∀ C, TurnP w hB A elt x ifs o v1 c.els I (compEnvC scope cl C env))
    {RR : Value -> Addr -> Result -> Shared -> Prop}
    (fin : ∀ ys H2 ρ2 s2 C, I c.els.length ys H2 -> Ok w hB env v1 H2 ρ2 s2 -> Step env ρ1 H1 s1 ρ2 H2 s2 -> Side hB env H2 ρ2 s2 C -> (∃ m, s2.heap.Ns C m) -> s1.heap.get? C = none -> RR (.ref (ρ2 o)) C (.ok .next) s2) :
    wpAny (model pw w) A (pyIter v) (fun it s₂ => wpAny (model pw w) A (newList []) (fun acc s₃ => wpAny (model pw w) A (newFunctionEnv scope env.globals cl [] env.qual none .none (some env)) (fun cenv s₄ =>
      codeAny (model pw w) A (.compStart (.ListComp elt [⟨.Name x xp, iter, ifs, 0⟩] scope pos) 0 it acc { cenv with scope := relabel scope env }) (RR acc cenv.locals) s₄) (fun _ _ => False) s₃) (fun _ _ => False) s₂) (fun _ _ => False) s1 := by
  refine Src.iter O1 g1 r1 fun ob hob hno st => ?_
  obtain ⟨O2, S2⟩ := O1.ext' (s' := { s1 with heap := s1.heap.push ob }) (fun b x e => Heap.get?_push_of_some _ e) rfl rfl
  have d2 := Side.new O1 hno hob s1.toks
  refine wpAny_newList ?_
  obtain ⟨O3, S3⟩ := O2.newList (o := o) (xs := []) (ys := []) ho .nil s1.toks
  exact comp_in hA nz hkind hcell hx hcl O1 i0 good g1 turn fin (s3 := { s1 with heap := (s1.heap.push ob).push { cls := .type "list", data := .seq ([] : List Value).toArray } }) O3 (S2.trans S3) (d2.step S3) ((st.frame fun b x _ e => Heap.get?_push_of_some _ e).step g1 S3.rho) (fun b x e => Heap.get?_push_of_some _ (Heap.get?_push_of_some _ e)) (updR_self ..).symm
noncomputable def CompQ (w : World) (hB : Heap) (n : Nat) (A : Around) (env : Env) (elt : Expr) (x : Str) (ifs : List Expr) (scope : Scope) (cl : List (Str × Addr)) (o : Oid) (a : AV) (v1 : VS) (H1 : AHeap) (Q : AHeap -> Prop) : Prop :=
  ∃ c : Src, a = c.av /\ H1 o = none /\ o ≠ zO /\ c.Good H1 /\ ∃ I : Nat -> List AV -> AHeap -> Prop, I 0 [] (upd H1 o (.list [])) /\ GoodP c o I /\ (∀ C, TurnP w hB A elt x ifs o v1 c.els I (compEnvC scope cl C env)) /\ (∀ ys H2, I c.els.length ys H2 -> Q H2)
theorem CompQ.mono {elt : Expr} {x : Str} {ifs : List Expr} {scope : Scope} {cl : List (Str × Addr)} {o : Oid} {a : AV} {v1 : VS} {H1 : AHeap} {Q Q' : AHeap -> Prop} (h : CompQ w hB n A env elt x ifs scope cl o a v1 H1 Q) (m : ∀ H, Q H -> Q' H) : CompQ w hB n A env elt x ifs scope cl o a v1 H1 Q' :=
  let ⟨c, e, ho, nz, g, I, i0, good, turn, q⟩ := h; ⟨c, e, ho, nz, g, I, i0, good, turn, fun ys H2 i => m _ (q ys H2 i)⟩
theorem e_comp (hA : AOk n A) {elt iter : Expr} {x : Str} {xp pos : Pos} {ifs : List Expr} {scope : Scope} {cl : List (Str × Addr)} {Q} (hclos : closureFor scope env = pure cl) (hkind : scope.kind = .function) (hcell : ∀ y ∈ scope.names, y.2 ≠ .cell)
    (hnames : ∀ y ∈ scope.names, y.2 = .local -> scope.names.lookup y.1 = some .local) (hx : (compEnvC scope cl 0 env).kindOf x = some .local) (hcl : ClOK scope cl env) (hf : ∀ v, foldedSetIterable iter env v = pure v)
    (h : RV w hB A env (eval iter env) vs H fun a v1 H1 => ∃ o, CompQ w hB n A env elt x ifs scope cl o a v1 H1 fun H2 => Q (.ref o) v1 H2) :
    RV w hB A env (eval (.ListComp elt [⟨.Name x xp, iter, ifs, 0⟩] scope pos) env) vs H Q := fun ρ s K O k => by
  rw [eval_ListComp]
  refine wpAny_comprehension_free (use := none) rfl hf hclos hkind hnames (h ρ s _ O fun v a ρ1 v1 H1 s1 O1 S1 r1 q1 => ?_)
  obtain ⟨o, c, rfl, ho, nz, g1, I, i0, good, turn, q⟩ := q1
  refine comp_core hA o nz hkind hcell hx hcl O1 r1 ho i0 good g1 turn (RR := fun acc C => compPost (model pw w) A (fun _ _ => False) none K acc C) fun ys H2 ρ2 s2 C i2 O2 S2 d2 hC hC1 => ?_
  obtain ⟨m, hm⟩ := hC
  refine ⟨m, hm, fun h' hs => ?_⟩
  have kb : ∀ b x, s2.heap.get? b = some x -> b ≠ C -> h'.get? b = some x := fun b x e q => (hs.2 b q).trans e
  exact k _ (.ref o) ρ2 v1 H2 _ (O2.but d2 kb rfl) (S1.trans (S2.but hC1 kb rfl)) (.ref o (by rw [(good _ _ _ i2).2.1]; simp)) (q ys H2 i2)
set_option tactic.hygienic true in
theorem s_name_comp (hA : AOk n A) {elt iter : Expr} {x y : Str} {xp yp pos spos : Pos} {ifs : List Expr} {scope : Scope} {cl : List (Str × Addr)} {Q} (hsw : swapsWith (.ListComp elt [⟨.Name x xp, iter, ifs, 0⟩] scope pos) (some (.Name y yp)) spos.line env = pure true) (hy : isOwn env y = true)
    (hclos : closureFor scope env = pure cl) (hkind : scope.kind = .function) (hcell : ∀ y ∈ scope.names, y.2 ≠ .cell)
    (hnames : ∀ y ∈ scope.names, y.2 = .local -> scope.names.lookup y.1 = some .local) (hx : (compEnvC scope cl 0 env).kindOf x = some .local) (hcl : ClOK scope cl env) (hf : ∀ v, foldedSetIterable iter env v = pure v)
    (h : RV w hB A env (eval iter env) vs H fun a v1 H1 => ∃ o, CompQ w hB n A env elt x ifs scope cl o a v1 H1 fun H2 => Q .next (updV v1 y (.ref o)) H2) :
    RS w hB A env (exec (.Assign [.Name y yp] (.ListComp elt [⟨.Name x xp, iter, ifs, 0⟩] scope pos) spos) env) vs H Q := fun ρ s K O k => by
  rw [exec_Assign_Name_used _ _ _ _ hsw]
  refine wpAny_bind (wpAny_standAt (wpAny_bind ?_))
  show wpAny _ A (do let _ <- comprehension (.ListComp elt [⟨.Name x xp, iter, ifs, 0⟩] scope pos) scope env _ (newList []) false (eval iter env) (some (assign (.Name y yp) env))) _ _ s
  refine wpAny_bind (wpAny_mono (wpAny_comprehension_free (use := some (assign (.Name y yp) env)) (Q := fun _ s' => K .next s') rfl hf hclos hkind hnames (h ρ s _ O fun v a ρ1 v1 H1 s1 O1 S1 r1 q1 => ?_)) (fun _ s' hq => wpAny_pure (wpAny_pure hq)) fun _ _ e => e)
  obtain ⟨o, c, rfl, ho, nz, g1, I, i0, good, turn, q⟩ := q1
  refine comp_core hA o nz hkind hcell hx hcl O1 r1 ho i0 good g1 turn (RR := fun acc C => compPost (model pw w) A (fun _ _ => False) (some (assign (.Name y yp) env)) (fun _ s' => K .next s') acc C) fun ys H2 ρ2 s2 C i2 O2 S2 d2 hC hC1 => ?_
  obtain ⟨m, hm⟩ := hC
  show wpAny _ A (assign (.Name y yp) env (.ref (ρ2 o))) _ _ s2
  refine PySem.wpAny_assign_Name (r_store (Q := fun v3 H3 => v3 = updV v1 y (.ref o) /\ H3 = H2) hy ⟨rfl, rfl⟩ O2 (.ref o (by rw [(good _ _ _ i2).2.1]; simp)) fun ρ3 v3 H3 s3 O3 S3 q3 => ?_)
  obtain ⟨rfl, rfl⟩ := q3
  have d3 := d2.step S3
  have hm3 : s3.heap.Ns C m := Heap.Ns.keepAt hm fun z hz => S3.keep _ z hz (fun i hi => d2.rho i hi.1) d2.loc d2.cell
  refine ⟨m, hm3, fun h' hs => ?_⟩
  have kb : ∀ b x, s3.heap.get? b = some x -> b ≠ C -> h'.get? b = some x := fun b x e q => (hs.2 b q).trans e
  exact k _ .next ρ3 _ H3 _ (O3.but d3 kb rfl) (S1.trans ((S2.trans S3).but hC1 kb rfl)) trivial (q ys H3 i2)
end
section
variable {w : World} {hB : Heap} {A : Around} {env : Env} {vs : VS} {H : AHeap} {ρ : Rho} {s : Shared} {n : Nat}
theorem Spec.lift {f : Value} {as : List AV} {Q : AV -> AHeap -> Prop} {m : Nat} (h : Spec w hB n f as H Q) (l : n <= m) : Spec w hB m f as H Q := fun A env vs ρ s K vals hA => h A env vs ρ s K vals (hA.mono l)
theorem Spec.mono {f : Value} {as : List AV} {Q Q' : AV -> AHeap -> Prop} (h : Spec w hB n f as H Q) (hq : ∀ a H', Q a H' -> Q' a H') : Spec w hB n f as H Q' := fun A env vs ρ s K vals hA O hv k =>
  h A env vs ρ s K vals hA O hv fun v a ρ' H' s' O' S r q => k v a ρ' H' s' O' S r (hq _ _ q)
theorem SpecC.mono {f : Value} {as : List AV} {Q Q' : AV -> AHeap -> Prop} (h : SpecC w hB n f as H Q) (hq : ∀ a H', Q a H' -> Q' a H') : SpecC w hB n f as H Q' := fun A env vs ρ s K vals hA O hv k =>
  h A env vs ρ s K vals hA O hv fun v a ρ' H' s' O' S r q => k v a ρ' H' s' O' S r (hq _ _ q)
theorem AOk.under {c : Code} (h : AOk (n + 1) A) (hw : c.weight <= 1) (hu : c.cUnits <= 3) : AOk n (A.under c) :=
  ⟨h.1, by have := h.2.1; show A.depth + c.weight + 2 * n <= 900; lia, by have := h.2.2; show A.units + c.cUnits + 20 * n <= 9000; lia⟩
theorem Ok.newFields (O : Ok w hB env vs H ρ s) {o : Oid} (ho : H o = Option.none) :
    let s' : Shared := { s with heap := s.heap.push emptyDict }
    Ok w hB env vs (upd H o (.fields [])) (updR ρ o s.heap.objs.size) s' /\ Step env ρ H s (updR ρ o s.heap.objs.size) (upd H o (.fields [])) s' :=
  O.setObj (fun i q => updR_ne q) (.inr ⟨ho, by rw [updR_self]; exact Nat.le_refl _⟩) (fun b x hx _ => Heap.get?_push_of_some _ hx) ⟨_, by rw [updR_self]; exact Heap.get?_push_size _ rfl⟩ rfl rfl
    fun S => ⟨[], 0, by rw [updR_self]; exact Heap.get?_push_size _ rfl, .nil⟩
theorem Ok.newInst (O : Ok w hB env vs H ρ s) {o d : Oid} {C : Addr} (ho : H o = Option.none) (hd : H d ≠ Option.none) :
    let s' : Shared := { s with heap := s.heap.push (instObj C (ρ d)) }
    Ok w hB env vs (upd H o (.inst C d)) (updR ρ o s.heap.objs.size) s' /\ Step env ρ H s (updR ρ o s.heap.objs.size) (upd H o (.inst C d)) s' :=
  have ne : d ≠ o := fun e => by subst e; exact hd ho
  O.setObj (fun i q => updR_ne q) (.inr ⟨ho, by rw [updR_self]; exact Nat.le_refl _⟩) (fun b x hx _ => Heap.get?_push_of_some _ hx) ⟨_, by rw [updR_self]; exact Heap.get?_push_size _ rfl⟩ rfl rfl
    fun S => ⟨by rw [updR_self, updR_ne ne]; exact Heap.get?_push_size _ rfl, by rw [upd_ne ne]; exact hd⟩
theorem sp_new (b : Base w hB) {C fI : Addr} (o d : Oid) {as : List AV} {Q : AV -> AHeap -> Prop} (ho : H o = none) (hd : H d = none) (hne : o ≠ d) (hm : makesIn (Kf w.params) C = true) (hi : findIn (Kf w.params) (.ref C) "__init__" = some (some (.ref fI)))
    (hf : typeIn (Kf w.params) (.ref fI) = some (.type "function"))
    (h : SpecC w hB n (.ref fI) (.ref o :: as) (upd (upd H d (.fields [])) o (.inst C d)) fun a H' => a = .none /\ Q (.ref o) H') : SpecC w hB (n + 1) (.ref C) as H Q := fun A env vs ρ s K vals hA O hv k => by
  have X := O.kin b
  refine make_core (makes_of X hm) (looks_findIn X hi) (fun self => bind_fn X self hf) (.inl rfl) ?_
  obtain ⟨O1, S1⟩ := O.newFields hd
  obtain ⟨O2, S2⟩ := O1.newInst (C := C) (d := d) (by rw [upd_ne hne]; exact ho) (by rw [upd_self]; simp)
  have e1 : updR ρ d s.heap.objs.size d = s.heap.objs.size := updR_self
  rw [e1] at O2 S2
  have hsz : ({ s with heap := s.heap.push emptyDict } : Shared).heap.objs.size = s.heap.objs.size + 1 := Heap.size_push ..
  have S := S1.trans S2
  rw [hsz] at O2 S2 S
  have hx : VR ((s.heap.push emptyDict).push (instObj C s.heap.objs.size)) (updR (updR ρ d s.heap.objs.size) o (s.heap.objs.size + 1)) (upd (upd H d (.fields [])) o (.inst C d)) (.ref o) (.ref (s.heap.objs.size + 1)) := by
    have := VR.ref (h := (s.heap.push emptyDict).push (instObj C s.heap.objs.size)) (ρ := updR (updR ρ d s.heap.objs.size) o (s.heap.objs.size + 1)) (H := upd (upd H d (.fields [])) o (.inst C d)) o (by rw [upd_self]; simp)
    rwa [updR_self] at this
  have main := h (A.under (.builtin "type.__call__" ⟨.ref C :: vals, []⟩)) env vs _ _ (fun v s' => v = .none /\ K (.ref (s.heap.objs.size + 1)) s') (.ref (s.heap.objs.size + 1) :: vals) (hA.under (Nat.le_of_eq (by kernel_rfl)) (Nat.le_trans (Nat.le_of_eq (show _ = 1 by kernel_rfl)) (by decide))) O2 (.cons hx (VRs.mono O S hv)) fun v a ρ' H' s' O' S' r q => by
    obtain ⟨rfl, q⟩ := q
    cases r
    refine ⟨rfl, ?_⟩
    have e : (s.heap.objs.size + 1) = ρ' o := by rw [S'.rho o (by rw [upd_self]; simp), updR_self]
    rw [e]
    exact k _ (.ref o) ρ' H' s' O' (S.trans S') (.ref o (S'.dom o (by rw [upd_self]; simp))) q
  refine codeAny_mono main fun r s' z => ?_
  rcases r with e | (v | _ | _ | _) <;> first | exact z.elim | exact z
end
section
variable {prog : Program} {w : World} {A : Around} {E : Value -> Shared -> Prop} {s : Shared}
theorem adjust_upto (b n : Nat) (hb : b <= n) : Builtin.Slice.sliceAdjust none (some (b : Int)) 1 (n : Int) = (0, (b : Int)) := by
  unfold Builtin.Slice.sliceAdjust
  have h1 : ¬ ((1 : Int) < 0) := by lia
  have h2 : ¬ ((b : Int) < 0) := by lia
  simp only [h1, h2, if_false]
  congr 1
  lia
theorem places_upto (b : Nat) : Builtin.Slice.slicePlaces 0 (b : Int) 1 = b := by
  unfold Builtin.Slice.slicePlaces
  have h1 : (1 : Int) > 0 := by lia
  simp only [h1, if_true, Int.ediv_one]
  split <;> lia
theorem sliceApplied_upto {sl : Addr} {b n : Nat} {u : Tok} {Q : Int × Int × Nat -> Shared -> Prop} (hs : s.heap.IsSliceOf sl .none (.int b u) .none) (hb : b <= n) (h : Q (0, 1, b) s) :
    wpAny (model prog w) A (Builtin.Slice.sliceApplied (.ref sl) (pure (n : Int))) Q E s := by
  obtain ⟨os, hos, hcs, hds⟩ := id hs
  unfold Builtin.Slice.sliceApplied Builtin.Slice.sliceFields
  refine wpAny_bind (wpAny_bind (wpAny_field hos hds (x := .none) rfl (wpAny_bind (wpAny_field hos hds (x := .int b u) rfl (wpAny_bind (wpAny_field hos hds (x := .none) rfl (wpAny_pure ?_)))))))
  refine wpAny_bind (slicePart_none ?_)
  show wpAny _ _ (if ((1 : Int) == 0) = true then _ else _) _ _ s
  rw [if_neg (by decide)]
  refine wpAny_bind (slicePart_none (wpAny_bind (slicePart_int (wpAny_bind (wpAny_pure ?_)))))
  show wpAny _ _ (match Builtin.Slice.sliceAdjust none (some (b : Int)) 1 (n : Int) with | (lo, hi) => pure (lo, (1 : Int), Builtin.Slice.slicePlaces lo hi 1)) _ _ s
  rw [adjust_upto b n hb]
  show wpAny _ _ (pure ((0 : Int), (1 : Int), Builtin.Slice.slicePlaces 0 (b : Int) 1)) _ _ s
  rw [places_upto b]
  exact wpAny_pure h
theorem pick_upto (xs : Array Value) (b : Nat) (hb : b <= xs.size) : ((List.range b).filterMap fun (k : Nat) => xs[((0 : Int) + (k : Int) * 1).toNat]?).toArray = (xs.toList.take b).toArray := by
  have e : (fun (k : Nat) => xs[((0 : Int) + (k : Int) * 1).toNat]?) = fun k => xs[k]? := by
    funext k
    have : ((0 : Int) + (k : Int) * 1).toNat = k := by lia
    rw [this]
  rw [e]
  congr 1
  induction b with
  | zero => simp
  | succ b ih =>
    rw [List.range_succ, List.filterMap_append, ih (by lia)]
    have hlt : b < xs.size := hb
    rw [List.take_add_one]
    simp [hlt]
theorem getItem_tuple_upto {t sl : Addr} {items : Array Value} {b : Nat} {u : Tok} {Q : Value -> Shared -> Prop} (ht : IsTup s.heap t items) (hs : s.heap.IsSliceOf sl .none (.int b u) .none) (hb : b <= items.size)
    (h0 : b = items.size -> Q (.ref t) s)
    (h : Q (.ref s.heap.objs.size) { s with heap := s.heap.push { cls := .type "tuple", data := .seq (items.toList.take b).toArray } })
    (hsz : items.size <= sizeLine) : wpAny (model prog w) A (getItem (.ref t) (.ref sl)) Q E s := by
  have hdrop : sizeOk (.seq (items.toList.take b).toArray) := by
    show (items.toList.take b).toArray.size <= sizeLine
    rw [List.size_toArray, List.length_take, Array.length_toList]
    lia
  obtain ⟨os, hos, hcs, hds⟩ := id hs
  have hTs : s.TypeIs (.ref sl) "slice" := ⟨os, hos, hcs⟩
  unfold getItem
  try with_reducible refine wpAny_holding ?_
  first | refine wpAny_bind (wpAny_pure ?_) | skip
  refine wpAny_bind (wpAny_sequenceKey ht.typeIs (by decide) ?_)
  refine wpAny_bind (wpAny_callSpecial?_slot (name := Str.ofString "__getitem__") ht.typeIs slot_tuple_getitem
    (wpAny_call_entry slot_tuple_getitem ht.typeIs entry_tuple_getitem ?_ (args_tuple_getitem _ _)))
  show wpAny _ _ (Builtin.Tuple.tupleItemsOf (.ref t) >>= _) _ _ s
  refine wpAny_bind (tupleItemsOf_ ht ?_)
  refine wpAny_bind (wpAny_typeOf hTs ?_)
  rw [if_pos (by decide)]
  refine wpAny_bind (sliceApplied_upto hs hb ?_)
  by_cases q : b = items.size
  · have hno : (((0 : Int) == 0 && (1 : Int) == 1 && b == items.size) = true) := by simp [q]
    show wpAny _ _ (if ((0 : Int) == 0 && (1 : Int) == 1 && b == items.size) = true then _ else _) _ _ s
    rw [if_pos hno]
    unfold Builtin.Tuple.tupleIsExact
    refine wpAny_bind (wpAny_bind (wpAny_typeOf ht.typeIs (wpAny_pure ?_)))
    rw [if_pos (by decide)]
    refine wpAny_bind (m := rule "tuple.getitem.whole") ?_
    refine wpAny_rule ?_
    refine wpAny_pure ⟨_, rfl, ?_⟩
    exact wpAny_pure (h0 q)
  · have hno : ¬ (((0 : Int) == 0 && (1 : Int) == 1 && b == items.size) = true) := by simp [q]
    show wpAny _ _ (if ((0 : Int) == 0 && (1 : Int) == 1 && b == items.size) = true then _ else _) _ _ s
    rw [if_neg hno, pick_upto items b hb]
    first
      | exact wpAny_bind (m := Builtin.Tuple.tupleExact _) (wpAny_newObj_type (wpAny_pure ⟨_, rfl, wpAny_pure h⟩) hdrop)
      | exact wpAny_bind (m := Builtin.Tuple.tupleExact _) (wpAny_newObj_type (wpAny_bind (wpAny_pure (wpAny_pure ⟨_, rfl, wpAny_pure h⟩))) hdrop)
      | exact wpAny_bind (wpAny_bind (m := Builtin.Tuple.tupleExact _) (wpAny_newObj_type (wpAny_pure (wpAny_pure ⟨_, rfl, wpAny_pure h⟩)) hdrop))
      | exact wpAny_bind (wpAny_bind (m := Builtin.Tuple.tupleExact _) (wpAny_newObj_type (wpAny_pure ⟨_, rfl, wpAny_pure h⟩) hdrop))
theorem Subscript_SliceG {env : Env} {value : Expr} {lower upper : Option Expr} {p pos : Pos} {T id : String} {Q : Value -> Shared -> Prop}
    (hl : typeLookup (.type T) "__getitem__" = pure (some (.builtin id)))
    (h : wpAny (model prog w) A (eval value env) (fun o s₁ => wpAny (model prog w) A (eval (.Slice lower upper none p) env) (fun i s₂ => s₂.TypeIs o T /\ wpAny (model prog w) A (getItem o i) Q E s₂) E s₁) E s) :
    wpAny (model prog w) A (eval (.Subscript value (.Slice lower upper none p) pos) env) Q E s := by
  rw [eval_Subscript]
  refine wpAny_bind (wpAny_mono h (fun o s₁ h₁ => wpAny_bind (wpAny_holding (wpAny_mono h₁ (fun i s₂ h₂ => wpAny_bind (wpAny_standAt ?_)) fun _ _ x => x)))
    fun _ _ x => x)
  have fin : wpAny (model prog w) A (operate [i, o] (getItem o i)) (fun r s₃ => wpAny (model prog w) A (letTemporaryGo value o r >>= fun _ => pure r) Q E s₃) E s₂ :=
    wpAny_operating (wpAny_mono h₂.2 (fun r s₃ h₃ => wpAny_bind (wpAny_letTemporaryGo (wpAny_pure h₃))) fun _ _ x => x)
  first
    | (refine wpAny_bind ?_
       rw [getitemInPython_of_ne h₂.1.not_modules]
       refine wpAny_bind (wpAny_specialOf h₂.1 hl ?_)
       first
         | exact wpAny_pure (wpAny_bind fin)
         | exact wpAny_bind (wpAny_pure (wpAny_bind fin))
         | exact wpAny_bind fin)
    | (refine wpAny_bind (wpAny_specialOf h₂.1 hl ?_)
       first
         | exact wpAny_bind (wpAny_pure (wpAny_bind fin))
         | exact wpAny_bind fin)
end
section
variable {w : World} {hB : Heap} {A : Around} {env : Env} {vs : VS} {H : AHeap} {ρ : Rho} {s : Shared} {n : Nat}
theorem e_cut {value hi : Expr} {p pos : Pos} {Q} (h : RV w hB A env (eval value env) vs H fun a v1 H1 => RV w hB A env (eval hi env) v1 H1 fun b v2 H2 => ∃ xs j, a = .tup xs /\ b = .int j /\ 0 <= j /\ j <= xs.length /\ xs.length <= 1000000 /\ Q (.tup (xs.take j.toNat)) v2 H2) :
    RV w hB A env (eval (.Subscript value (.Slice none (some hi) none p) pos) env) vs H Q := fun ρ s K O k => by
  refine Subscript_SliceG (T := "tuple") slot_tuple_getitem.lookup (h ρ s _ O fun v a ρ1 v1 H1 s1 O1 S1 r1 q1 => ?_)
  refine wpAny_Slice ?_
  rw [evalPart_none]
  refine wpAny_pure ?_
  rw [evalPart_some]
  refine q1 ρ1 s1 _ O1 fun u b ρ2 v2 H2 s2 O2 S2 r2 q2 => ?_
  refine wpAny_pure ?_
  obtain ⟨xs, j, rfl, rfl, h0, h1, h2, q⟩ := q2
  obtain ⟨t, us, m, rfl, ho, hs⟩ := r1.inv; obtain ⟨tk, rfl⟩ := r2.inv
  have ho2 := O1.tup_keep S2 ho (.inl rfl) (.inl ⟨_, _, rfl⟩)
  have hs2 := VRs.mono O1 S2 hs
  obtain ⟨b, rfl⟩ := Int.eq_ofNat_of_zero_le h0
  obtain ⟨O3, S3⟩ := O2.pushed { cls := .type "slice", data := .fields #[.none, .int (b : Int) tk, .none] } s2.toks
  have ho3 : (s2.heap.push { cls := .type "slice", data := .fields #[.none, .int (b : Int) tk, .none] }).get? t = some (tupObj us m) := Heap.get?_push_of_some _ ho2
  have hlen : b <= us.toArray.size := by rw [List.size_toArray, <- hs.len]; lia
  have ht : IsTup (s2.heap.push { cls := .type "slice", data := .fields #[.none, .int (b : Int) tk, .none] }) t us.toArray := ⟨_, ho3, rfl, _, rfl⟩
  refine ⟨ht.typeIs, getItem_tuple_upto ht (Heap.IsSliceOf.new ..) hlen (fun q' => ?_) ?_ (by rw [List.size_toArray, <- hs.len]; exact sizeLine_big h2)⟩
  · refine k _ (.tup (xs.take b)) ρ2 v2 H2 _ O3 ((S1.trans S2).trans S3) ?_ q
    have : xs.take b = xs := List.take_of_length_le (by rw [q', List.size_toArray, <- hs.len]; exact Nat.le_refl _)
    rw [this]
    exact .tup xs t us m ho3 (VRs.mono O2 S3 hs2)
  · obtain ⟨O4, S4⟩ := O3.pushed { cls := .type "tuple", data := .seq (us.take b).toArray } s2.toks
    refine k _ (.tup (xs.take b)) ρ2 v2 H2 _ O4 (((S1.trans S2).trans S3).trans S4) (.tup _ _ (us.take b) 0 (Heap.get?_push_size _ rfl) (VRs.mono O3 S4 ((VRs.mono O2 S3 hs2).take b))) q
theorem vrs_strsFrom {h : Heap} : ∀ (tk : Nat) (xs : List Str), VRs h ρ H (xs.map .str) (strsFrom tk xs)
  | _, [] => .nil
  | tk, x :: r => .cons (.str x tk) (vrs_strsFrom (tk + 1) r)
theorem sp_split (o2 : Oid) {x : Str} {Q : AV -> AHeap -> Prop} (hx : x.length <= 1000000) (hn : (Builtin.Str.spaceWords x (x.length + 1)).length <= 1000000) (ho : H o2 = none) (h : Q (.ref o2) (upd H o2 (.list ((Txt.words x).map .str)))) :
    Spec w hB n (.builtin "str.split") [.str x] H Q := sp_1 fun A env vs ρ s K v hA O ra k => by
  obtain ⟨t, rfl⟩ := ra.inv
  have fin : ∀ (ys : List Value) tk, VRs s.heap ρ H ((Txt.words x).map .str) ys -> K (.ref s.heap.objs.size) { s with toks := tk, heap := s.heap.push { cls := .type "list", data := .seq ys.toArray } } := fun ys tk r => by
    obtain ⟨O2, S2⟩ := O.newList ho r tk
    have e : Value.ref s.heap.objs.size = Value.ref (updR ρ o2 s.heap.objs.size o2) := by rw [updR_self]
    rw [e]
    exact k _ (.ref o2) _ _ _ O2 S2 (.ref o2 (by rw [upd_self]; simp)) h
  refine call_meets PySem.F.slot_str_split (show typeOf (.str x t) = pure (.type "str") from rfl) PySem.F.entry_str_split (PySem.F.args_str_split_1 _) (meets_str_split_space x t (sizeLine_big hx) (sizeLine_big hn)) ?_
  cases hw : Builtin.Str.spaceWords x (x.length + 1) == [(0, x.length)]
  · simp only [Bool.false_eq_true, if_false]
    have e : Txt.words x = PySem.wordsOf x := if_neg (ne_true_of_eq_false hw)
    exact fin _ _ (by rw [e]; exact vrs_strsFrom _ _)
  · simp only [if_true]
    have e : Txt.words x = [x] := if_pos hw
    exact fin [.str x t] s.toks (by rw [e]; exact .cons (.str x t) .nil)
end
inductive SV where
  | none
  | bool (b : Bool)
  | sb (c : Bool)
  | int (i : Int)
  | si (i : Int)
  | str (s : Str)
  | ss (s : Str)
  | ref (o : Oid)
  | tup (xs : List SV)
  | rng (a b c : Int)
  | val (v : Value)
mutual
noncomputable def SV.av : SV -> AV
  | .none => .none
  | .bool b => .bool b
  | .sb c => .bool c
  | .int i => .int i
  | .si i => .int i
  | .str s => .str s
  | .ss s => .str s
  | .ref o => .ref o
  | .tup xs => .tup (avs xs)
  | .rng a b c => .rng a b c
  | .val v => .val v
noncomputable def avs : List SV -> List AV
  | [] => []
  | x :: xs => x.av :: avs xs
end
inductive SO where
  | list (xs : List SV)
  | il (l : List Int)
  | sl (l : List Str)
  | kr (n : Nat)
  | ar (n : Nat)
  | fields (es : List (Str × SV))
  | sdict (es : List (Str × SV))
  | ndict (es : List (Int × Int))
  | inst (c : Addr) (d : Oid)
noncomputable def SO.lst : SO -> Option (List AV)
  | .list xs => some (avs xs)
  | .il l => some (l.map .int)
  | .sl l => some (l.map .str)
  | .kr n => some ((List.range n).map fun k => .ref (.kid k))
  | .ar n => some ((List.range n).map fun k => .ref (.att k))
  | _ => none
noncomputable def SO.ao : SO -> AO
  | .list xs => .list (avs xs)
  | .il l => .list (l.map .int)
  | .sl l => .list (l.map .str)
  | .kr n => .list ((List.range n).map fun k => .ref (.kid k))
  | .ar n => .list ((List.range n).map fun k => .ref (.att k))
  | .fields es => .fields (es.map fun p => (p.1, p.2.av))
  | .sdict es => .sdict (es.map fun p => (p.1, p.2.av))
  | .ndict es => .ndict (es.map fun p => (p.1, .int p.2))
  | .inst c d => .inst c d
structure St where
  kinds : List Str
  spaces : List Str
  names : List Str
  texts : List Str
  nat : Nat
  nch : Nat
  parents : List Int
  contents : List (Int × Int)
  items : List Int
  marks : List Int
  mode : Str
  ack : Bool
  errors : List SV
noncomputable def bldFs (mode : Str) (ack : Bool) : List (Str × SV) := [("rules", .ref (.s .rules)), ("tree", .ref (.s .tree)), ("stack", .ref (.s .stk)), ("formatting", .ref (.s .fmt)), ("mode", .str mode), ("original", .str ""), ("modes", .ref (.s .modes)), ("head", .int (-1)), ("form", .int (-1)), ("owners", .ref (.s .owners)),
    ("is_frameset_ok", .bool true), ("is_scripting", .bool false), ("is_foster", .bool false), ("context", .int (-1)), ("quirks", .str "no-quirks"), ("errors", .ref (.s .errors)), ("pending", .ref (.s .pending)), ("wish", .str ""), ("is_skipping", .bool false), ("is_acknowledged", .bool ack), ("is_done", .bool false)]
noncomputable def rulesL : List (Str × SV) := [("in body", .val (.ref 710)), ("in head", .val (.ref 717)), ("in table", .val (.ref 724)), ("in table body", .val (.ref 731)), ("foreign content", .val (.ref 738))]
noncomputable def St.get (S : St) : Fix -> SO
  | .bld => .inst 692 (.s .bldF)
  | .bldF => .fields (bldFs S.mode S.ack)
  | .tree => .inst 614 (.s .treeF)
  | .treeF => .fields [("kinds", .ref (.s .kinds)), ("spaces", .ref (.s .spaces)), ("names", .ref (.s .names)), ("attrs", .ref (.s .attrs)), ("texts", .ref (.s .texts)), ("parents", .ref (.s .parents)), ("children", .ref (.s .children)), ("contents", .ref (.s .contents))]
  | .stk => .inst 246 (.s .stkF)
  | .stkF => .fields [("tree", .ref (.s .tree)), ("items", .ref (.s .items))]
  | .fmt => .inst 490 (.s .fmtF)
  | .fmtF => .fields [("tree", .ref (.s .tree)), ("items", .ref (.s .marks))]
  | .kinds => .sl S.kinds
  | .spaces => .sl S.spaces
  | .names => .sl S.names
  | .attrs => .ar S.nat
  | .texts => .sl S.texts
  | .parents => .il S.parents
  | .children => .kr S.nch
  | .contents => .ndict S.contents
  | .items => .il S.items
  | .marks => .il S.marks
  | .modes => .list []
  | .owners => .ndict []
  | .errors => .list S.errors
  | .pending => .list []
  | .rules => .sdict rulesL
structure HS where
  st : Option St
  al : List (Oid × SO)
  kids : List (List Int)
  atts : List (List SV)
  cops : List (List Int)
  ab : Option (List Int)
  tm : List SO
noncomputable def HS.get (h : HS) : Oid -> Option SO
  | .kid k => (h.kids[k]?).map .il
  | .att k => (h.atts[k]?).map .list
  | .c k => (h.cops[k]?).map .il
  | .s k => match h.st with
    | some S => some (S.get k)
    | none => h.al.lookup (.s k)
  | .t k => h.al.lookup (.t k)
  | .ab => h.ab.map .il
  | .m k => h.tm[k]?
noncomputable def fits : Fix -> SO -> Bool
  | .items, .il _ => true
  | .marks, .il _ => true
  | .parents, .il _ => true
  | .kinds, .sl _ => true
  | .spaces, .sl _ => true
  | .names, .sl _ => true
  | .texts, .sl _ => true
  | .attrs, .ar _ => true
  | .children, .kr _ => true
  | .contents, .ndict _ => true
  | .errors, .list _ => true
  | _, _ => false
noncomputable def St.put (S : St) : Fix -> SO -> St
  | .items, .il l => { S with items := l }
  | .marks, .il l => { S with marks := l }
  | .parents, .il l => { S with parents := l }
  | .kinds, .sl l => { S with kinds := l }
  | .spaces, .sl l => { S with spaces := l }
  | .names, .sl l => { S with names := l }
  | .texts, .sl l => { S with texts := l }
  | .attrs, .ar n => { S with nat := n }
  | .children, .kr n => { S with nch := n }
  | .contents, .ndict l => { S with contents := l }
  | .errors, .list l => { S with errors := l }
  | _, _ => S
noncomputable def canPut (h : HS) (o : Oid) (x : SO) : Bool := match o with
  | .t _ => true
  | .s k => match h.st with
    | some _ => fits k x
    | none => true
  | .ab => match x with
    | .il _ => true
    | _ => false
  | _ => false
noncomputable def mkH (h : HS) : AHeap := fun o => (h.get o).map SO.ao
noncomputable def putA (o : Oid) (x : SO) : List (Oid × SO) -> List (Oid × SO)
  | [] => [(o, x)]
  | p :: r => if p.1 = o then (p.1, x) :: r else p :: putA o x r
noncomputable def HS.put (h : HS) (o : Oid) (x : SO) : HS := match o with
  | .s k => match h.st with
    | some S => { h with st := some (S.put k x) }
    | none => { h with al := putA (.s k) x h.al }
  | .ab => match x with
    | .il l => { h with ab := some l }
    | _ => h
  | o => { h with al := putA o x h.al }
noncomputable def HS.newKid (h : HS) (l : List Int) : HS := { h with kids := h.kids ++ [l] }
noncomputable def HS.newM (h : HS) (x : SO) : HS := { h with tm := h.tm ++ [x] }
noncomputable def HS.newAtt (h : HS) (l : List SV) : HS := { h with atts := h.atts ++ [l] }
noncomputable def Small (h : HS) : Prop := ∀ o x, h.get o = some x -> (∀ l, x.lst = some l -> l.length <= 1000000) /\ (∀ es, x = .ndict es -> es.length <= 1000000)
noncomputable abbrev SVS := List (Str × SV)
noncomputable def vsf (l : SVS) : VS := fun x => (l.lookup x).map SV.av
inductive SOut where
  | next | brk | cont
  | ret (a : SV)
noncomputable def SOut.out : SOut -> Out
  | .next => .next
  | .brk => .brk
  | .cont => .cont
  | .ret a => .ret a.av
noncomputable def chk (b : Bool) (p : Prop) : Prop := match b with
  | true => p
  | false => False
theorem chk_ok {b : Bool} {p : Prop} (h : chk b p) : b = true /\ p := by
  cases b with
  | true => exact ⟨rfl, h⟩
  | false => exact h.elim
noncomputable abbrev OrcF := List SV -> HS -> (SV -> HS -> Prop) -> Prop
structure Orc where
  fa : Nat
  rank : Nat
  F : OrcF
structure Rec where
  e : PySem.Expr -> SVS -> HS -> (SV -> SVS -> HS -> Prop) -> Prop
  t : PySem.Expr -> SVS -> HS -> (Bool -> SVS -> HS -> Prop) -> Prop
  s : List Stmt -> SVS -> HS -> (SOut -> SVS -> HS -> Prop) -> Prop
noncomputable def evL (r : Rec) : List PySem.Expr -> SVS -> HS -> (List SV -> SVS -> HS -> Prop) -> Prop
  | [], l, h, Q => Q [] l h
  | e :: es, l, h, Q => chk (notStar e) (r.e e l h fun a l1 h1 => evL r es l1 h1 fun as l2 h2 => Q (a :: as) l2 h2)
noncomputable def isSome' {α : Type} : Option α -> Bool
  | some _ => true
  | none => false
noncomputable def truY (y : SO) (k : Bool -> Prop) : Prop := match y with
  | .list xs => match xs with
    | [] => k false
    | _ :: _ => k true
  | .il l => (l = [] -> k false) /\ (l ≠ [] -> k true)
  | _ => False
noncomputable def truS (a : SV) (h : HS) (k : Bool -> Prop) : Prop := match a with
  | .bool b => k b
  | .sb c => (c = true -> k true) /\ (c = false -> k false)
  | .ref o => match o with
    | .kid j => ∃ l, h.kids[j]? = some l /\ (l = [] -> k false) /\ (l ≠ [] -> k true)
    | o => match h.get o with
      | some y => truY y k
      | none => False
  | _ => False
noncomputable def strOf : SV -> Option (Bool × Str)
  | .str s => some (true, s)
  | .ss s => some (false, s)
  | _ => none
noncomputable def intOf : SV -> Option (Bool × Int)
  | .int i => some (true, i)
  | .si i => some (false, i)
  | _ => none
theorem no_some {α : Type} {a : α} {P : Prop} (h : (none : Option α) = some a) : P := Option.noConfusion rfl (heq_of_eq h)
noncomputable def gP {α : Type} (x : Option α) (K : α -> Prop) : Prop := match x with
  | some p => K p
  | none => False
theorem gP_inv {α : Type} {x : Option α} {K : α -> Prop} (e : gP x K) : ∃ p, x = some p /\ K p := by
  cases x with
  | none => exact e.elim
  | some p => exact ⟨p, rfl, e⟩
noncomputable def both {α β : Type} (x : Option α) (y : Option β) : Option (α × β) := match x with
  | some a => match y with
    | some b => some (a, b)
    | none => none
  | none => none
theorem both_some {α β : Type} {x : Option α} {y : Option β} {p : α × β} (e : both x y = some p) : x = some p.1 /\ y = some p.2 := by
  cases x with
  | none => exact no_some e
  | some a => cases y with
    | none => exact no_some e
    | some b => exact Option.some.inj e ▸ ⟨rfl, rfl⟩
noncomputable def gI (x : SV) (K : Bool -> Int -> Prop) : Prop := gP (intOf x) fun p => K p.1 p.2
theorem gI_inv {x : SV} {K : Bool -> Int -> Prop} (e : gI x K) : ∃ u i, intOf x = some (u, i) /\ K u i := by
  obtain ⟨p, q, e⟩ := gP_inv e; exact ⟨_, _, q, e⟩
noncomputable def gS (x : SV) (K : Bool -> Str -> Prop) : Prop := gP (strOf x) fun p => K p.1 p.2
theorem gS_inv {x : SV} {K : Bool -> Str -> Prop} (e : gS x K) : ∃ u i, strOf x = some (u, i) /\ K u i := by
  obtain ⟨p, q, e⟩ := gP_inv e; exact ⟨_, _, q, e⟩
noncomputable def gO (h : HS) (o : Oid) (K : SO -> Prop) : Prop := gP (h.get o) K
theorem gO_inv {h : HS} {o : Oid} {K : SO -> Prop} (e : gO h o K) : ∃ x, h.get o = some x /\ K x := gP_inv e
noncomputable def gIl (h : HS) (o : Oid) (K : List Int -> Prop) : Prop := gO h o fun x => match x with
  | .il l => K l
  | _ => False
theorem gIl_inv {h : HS} {o : Oid} {K : List Int -> Prop} (e : gIl h o K) : ∃ l, h.get o = some (.il l) /\ K l := by
  obtain ⟨x, q, e⟩ := gO_inv e
  cases x with
  | il l => exact ⟨l, q, e⟩
  | _ => exact e.elim
noncomputable def gSl (h : HS) (o : Oid) (K : List Str -> Prop) : Prop := gO h o fun x => match x with
  | .sl l => K l
  | _ => False
theorem gSl_inv {h : HS} {o : Oid} {K : List Str -> Prop} (e : gSl h o K) : ∃ l, h.get o = some (.sl l) /\ K l := by
  obtain ⟨x, q, e⟩ := gO_inv e
  cases x with
  | sl l => exact ⟨l, q, e⟩
  | _ => exact e.elim
noncomputable def gNd (h : HS) (o : Oid) (K : List (Int × Int) -> Prop) : Prop := gO h o fun x => match x with
  | .ndict l => K l
  | _ => False
theorem gNd_inv {h : HS} {o : Oid} {K : List (Int × Int) -> Prop} (e : gNd h o K) : ∃ l, h.get o = some (.ndict l) /\ K l := by
  obtain ⟨x, q, e⟩ := gO_inv e
  cases x with
  | ndict l => exact ⟨l, q, e⟩
  | _ => exact e.elim
noncomputable def bI (b : Bool) (P Q : Prop) : Prop := match b with
  | true => P
  | false => Q
theorem bI_inv {b : Bool} {P Q : Prop} (e : bI b P Q) : b = true /\ P ∨ b = false /\ Q := by
  cases b with
  | true => exact .inl ⟨rfl, e⟩
  | false => exact .inr ⟨rfl, e⟩
noncomputable def gR (x : SV) (K : Oid -> Prop) : Prop := match x with
  | .ref o => K o
  | _ => False
theorem gR_inv {x : SV} {K : Oid -> Prop} (e : gR x K) : ∃ o, x = .ref o /\ K o := by
  cases x with
  | ref o => exact ⟨o, rfl, e⟩
  | _ => exact e.elim
noncomputable def gT (x : SV) (K : List SV -> Prop) : Prop := match x with
  | .tup o => K o
  | _ => False
theorem gT_inv {x : SV} {K : List SV -> Prop} (e : gT x K) : ∃ o, x = .tup o /\ K o := by
  cases x with
  | tup o => exact ⟨o, rfl, e⟩
  | _ => exact e.elim
noncomputable def gC (x : SV) (K : Str -> Prop) : Prop := match x with
  | .str o => K o
  | _ => False
theorem gC_inv {x : SV} {K : Str -> Prop} (e : gC x K) : ∃ o, x = .str o /\ K o := by
  cases x with
  | str o => exact ⟨o, rfl, e⟩
  | _ => exact e.elim
noncomputable def gN (x : SV) (K : Int -> Prop) : Prop := match x with
  | .int o => K o
  | _ => False
theorem gN_inv {x : SV} {K : Int -> Prop} (e : gN x K) : ∃ o, x = .int o /\ K o := by
  cases x with
  | int o => exact ⟨o, rfl, e⟩
  | _ => exact e.elim
noncomputable def gV (x : SV) (K : Int -> Prop) : Prop := match x with
  | .si o => K o
  | _ => False
theorem gV_inv {x : SV} {K : Int -> Prop} (e : gV x K) : ∃ o, x = .si o /\ K o := by
  cases x with
  | si o => exact ⟨o, rfl, e⟩
  | _ => exact e.elim
noncomputable def a1 {α : Type} (as : List α) (K : α -> Prop) : Prop := match as with
  | [x] => K x
  | _ => False
theorem a1_inv {α : Type} {as : List α} {K : α -> Prop} (e : a1 as K) : ∃ x, as = [x] /\ K x := by
  rcases as with _ | ⟨x, _ | ⟨y, as⟩⟩
  · exact e.elim
  · exact ⟨x, rfl, e⟩
  · exact e.elim
noncomputable def a2 {α : Type} (as : List α) (K : α -> α -> Prop) : Prop := match as with
  | x :: as => a1 as (K x)
  | _ => False
theorem a2_inv {α : Type} {as : List α} {K : α -> α -> Prop} (e : a2 as K) : ∃ x y, as = [x, y] /\ K x y := by
  rcases as with _ | ⟨x, as⟩
  · exact e.elim
  · obtain ⟨y, rfl, e⟩ := a1_inv e; exact ⟨x, y, rfl, e⟩
noncomputable def a3 (as : List SV) (K : SV -> SV -> SV -> Prop) : Prop := match as with
  | x :: as => a2 as (K x)
  | _ => False
theorem a3_inv {as : List SV} {K : SV -> SV -> SV -> Prop} (e : a3 as K) : ∃ x y z, as = [x, y, z] /\ K x y z := by
  rcases as with _ | ⟨x, as⟩
  · exact e.elim
  · obtain ⟨y, z, rfl, e⟩ := a2_inv e; exact ⟨x, y, z, rfl, e⟩
noncomputable def isFx (f : Fix) (o : Oid) : Bool := match o with
  | .s g => match decEq g f with
    | .isTrue _ => true
    | .isFalse _ => false
  | _ => false
theorem isFx_inv {f : Fix} {o : Oid} (e : isFx f o = true) : o = .s f := by
  cases o with
  | s g =>
    unfold isFx at e
    dsimp only at e
    cases q : decEq g f with
    | isTrue h => rw [h]
    | isFalse h => rw [q] at e; exact Bool.noConfusion e
  | _ => exact Bool.noConfusion e
noncomputable def gF (f : Fix) (x : SV) (P : Prop) : Prop := gR x fun o => chk (isFx f o) P
theorem gF_inv {f : Fix} {x : SV} {P : Prop} (e : gF f x P) : x = .ref (.s f) /\ P := by
  obtain ⟨o, rfl, e⟩ := gR_inv e
  obtain ⟨e1, e2⟩ := chk_ok e
  exact ⟨by rw [isFx_inv e1], e2⟩
noncomputable def gSt (h : HS) (K : St -> Prop) : Prop := gP h.st K
theorem gSt_inv {h : HS} {K : St -> Prop} (e : gSt h K) : ∃ S, h.st = some S /\ K S := gP_inv e
noncomputable def mkB (known : Bool) (c : Bool) : SV := match known with
  | true => .bool c
  | false => .sb c
noncomputable def strC : SV -> Option Str
  | .str s => some s
  | _ => none
noncomputable def strsOf : List SV -> Option (List Str)
  | [] => some []
  | x :: r => (strC x).bind fun s => (strsOf r).map fun l => s :: l
mutual
noncomputable def datOf : SV -> Option PyData
  | .none => some .none
  | .bool b => some (.bool b)
  | .int i => some (.int i)
  | .str s => some (.str s)
  | .tup xs => (datsOf xs).map .tuple
  | _ => none
noncomputable def datsOf : List SV -> Option (List PyData)
  | [] => some []
  | x :: xs => (datOf x).bind fun d => (datsOf xs).map fun ds => d :: ds
end
noncomputable def datOK (d : PyData) : Bool := d.canLay0 && Nat.ble d.depth 60
noncomputable def noneS : SV -> Option Bool
  | .none => some true
  | .bool _ => some false
  | .int _ => some false
  | .str _ => some false
  | .ss _ => some false
  | .si _ => some false
  | .ref _ => some false
  | .tup _ => some false
  | _ => none
noncomputable def negB (neg c : Bool) : Bool := match neg with
  | true => !c
  | false => c
noncomputable def eqD (neg : Bool) (a b : SV) : Option SV := match both (datOf a) (datOf b) with
  | some p => match datOK p.1 && datOK p.2 with
    | true => some (.bool (negB neg (PyData.eqv p.1 p.2)))
    | false => none
  | none => none
noncomputable def eqS (neg : Bool) (a b : SV) : Option SV := match both (strOf a) (strOf b) with
  | some p => some (mkB (p.1.1 && p.2.1) (negB neg (p.1.2 == p.2.2)))
  | none => match both (intOf a) (intOf b) with
    | some p => some (mkB (p.1.1 && p.2.1) (negB neg (p.1.2 == p.2.2)))
    | none => eqD neg a b
noncomputable def inY (a : SV) (y : SO) : Option (Bool × Bool) := match y with
  | .il l => (intOf a).map fun p => (false, l.contains p.2)
  | .sdict es => match a with
    | .str s => some (true, isSome' (es.lookup s))
    | _ => none
  | .ndict es => (intOf a).map fun p => (false, (es.lookup p.2).isSome)
  | _ => none
noncomputable def inT (a : SV) (xs : List SV) : Option (Bool × Bool) := match both (strOf a) (strsOf xs) with
  | some p => some (p.1.1, p.2.contains p.1.2)
  | none => match both (datOf a) (datsOf xs) with
    | some p => match datOK p.1 && PyData.canLayAll0 p.2 with
      | true => some (true, p.2.any fun y => PyData.eqv y p.1)
      | false => none
    | none => none
noncomputable def inS (a b : SV) (h : HS) : Option (Bool × Bool) := match b with
  | .tup xs => inT a xs
  | .ref o => (h.get o).bind (inY a)
  | _ => none
noncomputable def ninS (a b : SV) (h : HS) : Option (Bool × Bool) := match b with
  | .tup xs => (both (strOf a) (strsOf xs)).map fun p => (p.1.1, !p.2.contains p.1.2)
  | .ref o => (h.get o).bind fun y => match y with
    | .sdict es => match a with
      | .str s => some (true, !isSome' (es.lookup s))
      | _ => none
    | _ => none
  | _ => none
noncomputable def isNn : SV -> Bool
  | .none => true
  | _ => false
noncomputable def cmpS (op : CmpOp) (a b : SV) (h : HS) : Option SV := match op with
  | .Eq => eqS false a b
  | .NotEq => eqS true a b
  | .Lt => (both (intOf a) (intOf b)).map fun p => mkB (p.1.1 && p.2.1) (decide (p.1.2 < p.2.2))
  | .Gt => (both (intOf a) (intOf b)).map fun p => mkB (p.1.1 && p.2.1) (decide (p.1.2 > p.2.2))
  | .In => (inS a b h).map fun p => mkB p.1 p.2
  | .NotIn => (ninS a b h).map fun p => mkB p.1 p.2
  | .IsNot => match isNn b with
    | true => (noneS a).map fun c => .bool (!c)
    | false => none
  | _ => none
noncomputable section
structure FnE where
  fa : Nat
  st : Stmt
  q : String
  dV : Value
  md : Value
  code : Nat
  na : Nat
  df : List SV
noncomputable def fnL0 : List FnE := [
  ⟨28, stAt 2, "is_space", .none, (S "htmltree.signs" 194), 27, 1, []⟩,
  ⟨63, stAt 8, "is_math_point", .none, (S "htmltree.names" 226), 62, 2, []⟩,
  ⟨70, stAt 9, "is_html_point", .none, (S "htmltree.names" 226), 69, 2, []⟩,
  ⟨77, stAt 10, "implied_names", .none, (S "htmltree.names" 226), 76, 0, []⟩,
  ⟨99, stAt 14, "insert_sign", .none, (S "htmltree.inserting" 258), 98, 2, []⟩,
  ⟨131, stAt 18, "insert_token", .none, (S "htmltree.inserting" 258), 130, 2, []⟩,
  ⟨138, stAt 19, "insert_void", .none, (S "htmltree.inserting" 258), 137, 2, []⟩,
  ⟨145, stAt 20, "associate", .none, (S "htmltree.inserting" 258), 144, 2, []⟩,
  ⟨159, stIn 22 0, "OpenStack.__init__", .none, (S "htmltree.openstack" 362), 158, 2, []⟩,
  ⟨166, stIn 22 1, "OpenStack.push", .none, (S "htmltree.openstack" 362), 165, 2, []⟩,
  ⟨173, stIn 22 2, "OpenStack.pop", .none, (S "htmltree.openstack" 362), 172, 1, []⟩,
  ⟨180, stIn 22 3, "OpenStack.current", .none, (S "htmltree.openstack" 362), 179, 1, []⟩,
  ⟨187, stIn 22 4, "OpenStack.many", .none, (S "htmltree.openstack" 362), 186, 1, []⟩,
  ⟨222, stIn 22 9, "OpenStack.name", .none, (S "htmltree.openstack" 362), 221, 1, []⟩,
  ⟨236, stIn 22 11, "OpenStack.pop_until", .none, (S "htmltree.openstack" 362), 235, 2, []⟩,
  ⟨243, stIn 22 12, "OpenStack.pop_to", .none, (S "htmltree.openstack" 362), 242, 2, []⟩,
  ⟨257, stAt 23, "stops_scope", .none, (S "htmltree.openstack" 362), 256, 3, []⟩,
  ⟨280, stAt 27, "pop_to_row", .none, (S "htmltree.tablemodes" 525), 279, 1, []⟩,
  ⟨287, stAt 29, "is_space_token", .none, (S "htmltree.tokens" 534), 286, 1, []⟩,
  ⟨294, stAt 31, "unexpected", .none, (S "htmltree.tablerows" 543), 293, 1, []⟩,
  ⟨301, stAt 32, "is_table_child", .none, (S "htmltree.tablerows" 543), 300, 1, []⟩,
  ⟨308, stAt 33, "has_in_table", .none, (S "htmltree.tablerows" 543), 307, 3, []⟩,
  ⟨315, stAt 34, "pop_marked", .none, (S "htmltree.tablerows" 543), 314, 3, []⟩,
  ⟨322, stAt 35, "close_caption", .none, (S "htmltree.tablerows" 543), 321, 2, []⟩,
  ⟨329, stAt 36, "in_caption", .none, (S "htmltree.tablerows" 543), 328, 2, []⟩,
  ⟨336, stAt 37, "leave_columns", .none, (S "htmltree.tablerows" 543), 335, 3, []⟩,
  ⟨343, stAt 38, "tag_in_columns", .none, (S "htmltree.tablerows" 543), 342, 2, []⟩,
  ⟨350, stAt 39, "in_column_group", .none, (S "htmltree.tablerows" 543), 349, 2, []⟩,
  ⟨357, stAt 40, "close_row", .none, (S "htmltree.tablerows" 543), 356, 2, []⟩,
  ⟨364, stAt 41, "start_in_row", .none, (S "htmltree.tablerows" 543), 363, 2, []⟩,
  ⟨371, stAt 42, "end_in_row", .none, (S "htmltree.tablerows" 543), 370, 2, []⟩,
  ⟨378, stAt 43, "in_row", .none, (S "htmltree.tablerows" 543), 377, 2, []⟩,
  ⟨424, stIn 48 0, "Formatting.__init__", .none, (S "htmltree.formatting" 703), 423, 2, []⟩,
  ⟨438, stIn 48 2, "Formatting.mark", .none, (S "htmltree.formatting" 703), 437, 1, []⟩,
  ⟨445, stIn 48 3, "Formatting.clear_to_mark", .none, (S "htmltree.formatting" 703), 444, 1, []⟩,
  ⟨515, stIn 51 0, "Tree.__init__", .none, (S "htmltree.tree" 820), 514, 1, []⟩,
  ⟨540, stIn 51 3, "Tree.text", .none, (S "htmltree.tree" 820), 539, 2, []⟩,
  ⟨547, stIn 51 4, "Tree.comment", .none, (S "htmltree.tree" 820), 546, 2, []⟩,
  ⟨569, stIn 51 7, "Tree.append", .none, (S "htmltree.tree" 820), 568, 3, []⟩,
  ⟨576, stIn 51 8, "Tree.remove", .none, (S "htmltree.tree" 820), 575, 2, []⟩,
  ⟨597, stIn 51 11, "Tree.last", .none, (S "htmltree.tree" 820), 596, 2, []⟩,
  ⟨625, stAt 52, "above", .none, (S "htmltree.tree" 820), 624, 2, []⟩,
  ⟨647, stIn 54 1, "Builder.error", .none, (S "htmltree.builder" 994), 646, 2, []⟩,
  ⟨654, stIn 54 2, "Builder.to", .none, (S "htmltree.builder" 994), 653, 2, []⟩,
  ⟨661, stIn 54 3, "Builder.use", .none, (S "htmltree.builder" 994), 660, 3, []⟩,
  ⟨668, stIn 54 4, "Builder.process", .none, (S "htmltree.builder" 994), 667, 2, []⟩,
  ⟨682, stIn 54 6, "Builder.adjusted", .none, (S "htmltree.builder" 994), 681, 1, []⟩,
  ⟨689, stIn 54 7, "Builder.is_foreign", .none, (S "htmltree.builder" 994), 688, 1, []⟩,
  ⟨703, stAt 55, "is_html_turn", .none, (S "htmltree.builder" 994), 702, 2, []⟩,
  ⟨710, stAt 57, "_law_in_body", .none, (S "law_nt0619_01" 1113), 709, 2, []⟩,
  ⟨717, stAt 58, "_law_in_head", .none, (S "law_nt0619_01" 1113), 716, 2, []⟩,
  ⟨724, stAt 59, "_law_in_table", .none, (S "law_nt0619_01" 1113), 723, 2, []⟩,
  ⟨731, stAt 60, "_law_in_table_body", .none, (S "law_nt0619_01" 1113), 730, 2, []⟩,
  ⟨738, stAt 61, "_law_foreign", .none, (S "law_nt0619_01" 1113), 737, 2, []⟩,
  ⟨745, stAt 62, "_law_told", .none, (S "law_nt0619_01" 1113), 744, 0, []⟩,
  ⟨757, stAt 64, "_law_token", .none, (S "law_nt0619_01" 1113), 756, 1, []⟩,
  ⟨764, stAt 65, "_law_is_part", .none, (S "law_nt0619_01" 1113), 763, 1, []⟩,
  ⟨776, stAt 67, "_law_note", .none, (S "law_nt0619_01" 1113), 775, 2, []⟩,
  ⟨788, stAt 69, "_law_caption", .none, (S "law_nt0619_01" 1113), 787, 3, []⟩,
  ⟨795, stAt 70, "_law_columns", .none, (S "law_nt0619_01" 1113), 794, 3, []⟩]
noncomputable def fnLd : List FnE := [
  ⟨92, stAt 13, "place_for", (R 85), (S "htmltree.inserting" 258), 91, 1, [.int (-1)]⟩,
  ⟨107, stAt 15, "insert_comment", (R 100), (S "htmltree.inserting" 258), 106, 2, [.int (-1)]⟩,
  ⟨115, stAt 16, "make", (R 108), (S "htmltree.inserting" 258), 114, 4, []⟩,
  ⟨124, stAt 17, "insert_element", (R 117), (S "htmltree.inserting" 258), 123, 3, [.str "html"]⟩,
  ⟨265, stAt 24, "in_scope", (R 258), (S "htmltree.openstack" 362), 264, 3, []⟩,
  ⟨273, stAt 25, "pop_implied", (R 266), (S "htmltree.openstack" 362), 272, 1, [.str ""]⟩,
  ⟨524, stIn 51 1, "Tree.add", (R 517), (S "htmltree.tree" 820), 523, 2, [.str "", .str "", .tup [], .str ""]⟩,
  ⟨524, stIn 51 1, "Tree.add", (R 517), (S "htmltree.tree" 820), 523, 5, [.str ""]⟩,
  ⟨524, stIn 51 1, "Tree.add", (R 517), (S "htmltree.tree" 820), 523, 6, []⟩,
  ⟨533, stIn 51 2, "Tree.element", (R 526), (S "htmltree.tree" 820), 532, 3, [.tup []]⟩,
  ⟨533, stIn 51 2, "Tree.element", (R 526), (S "htmltree.tree" 820), 532, 4, []⟩,
  ⟨562, stIn 51 6, "Tree.insert", (R 555), (S "htmltree.tree" 820), 561, 4, []⟩,
  ⟨562, stIn 51 6, "Tree.insert", (R 555), (S "htmltree.tree" 820), 561, 3, [.int (-1)]⟩,
  ⟨640, stIn 54 0, "Builder.__init__", (R 633), (S "htmltree.builder" 994), 639, 2, [.bool false]⟩]
noncomputable def fnL : List FnE := fnL0 ++ fnLd
noncomputable def fnC : List FnE := [
  ⟨750, stAt 63, "_law_drawn", .none, (S "law_nt0619_01" 1113), 749, 2, []⟩,
  ⟨769, stAt 66, "_law_scope", .none, (S "law_nt0619_01" 1113), 768, 2, []⟩,
  ⟨781, stAt 68, "_law_close", .none, (S "law_nt0619_01" 1113), 780, 5, []⟩,
  ⟨800, stAt 71, "_law_row", .none, (S "law_nt0619_01" 1113), 799, 3, []⟩,
  ⟨805, stAt 72, "_law_case", .none, (S "law_nt0619_01" 1113), 804, 4, []⟩]
noncomputable def methL : List (Nat × List (Str × Nat)) := [
  (246, [(Str.ofString "push", 166), (Str.ofString "pop", 173), (Str.ofString "current", 180), (Str.ofString "many", 187), (Str.ofString "has", 194), (Str.ofString "remove", 201), (Str.ofString "place", 208), (Str.ofString "put_at", 215), (Str.ofString "name", 222), (Str.ofString "has_name", 229), (Str.ofString "pop_until", 236), (Str.ofString "pop_to", 243)]),
  (490, [(Str.ofString "push", 431), (Str.ofString "mark", 438), (Str.ofString "clear_to_mark", 445), (Str.ofString "find", 452), (Str.ofString "has", 459), (Str.ofString "place", 466), (Str.ofString "remove", 473), (Str.ofString "replace", 480), (Str.ofString "put_at", 487)]),
  (614, [(Str.ofString "add", 524), (Str.ofString "element", 533), (Str.ofString "text", 540), (Str.ofString "comment", 547), (Str.ofString "doctype", 554), (Str.ofString "insert", 562), (Str.ofString "append", 569), (Str.ofString "remove", 576), (Str.ofString "move_children", 583), (Str.ofString "place", 590), (Str.ofString "last", 597), (Str.ofString "value", 604), (Str.ofString "is_html", 611)]),
  (692, [(Str.ofString "error", 647), (Str.ofString "to", 654), (Str.ofString "use", 661), (Str.ofString "process", 668), (Str.ofString "feed", 675), (Str.ofString "adjusted", 682), (Str.ofString "is_foreign", 689)])]
noncomputable def attrL : List (Nat × List Str) := [
  (246, [Str.ofString "tree", Str.ofString "items"]),
  (490, [Str.ofString "tree", Str.ofString "items"]),
  (614, [Str.ofString "kinds", Str.ofString "spaces", Str.ofString "names", Str.ofString "attrs", Str.ofString "texts", Str.ofString "parents", Str.ofString "children", Str.ofString "contents"]),
  (692, [Str.ofString "rules", Str.ofString "tree", Str.ofString "stack", Str.ofString "formatting", Str.ofString "mode", Str.ofString "original", Str.ofString "modes", Str.ofString "head", Str.ofString "form", Str.ofString "owners", Str.ofString "is_frameset_ok", Str.ofString "is_scripting", Str.ofString "is_foster", Str.ofString "context", Str.ofString "quirks", Str.ofString "errors", Str.ofString "pending", Str.ofString "wish", Str.ofString "is_skipping", Str.ofString "is_acknowledged", Str.ofString "is_done"])]
noncomputable def clsL : List (Nat × Fix × Fix × Nat) := [(246, .stk, .stkF, 159), (490, .fmt, .fmtF, 424), (614, .tree, .treeF, 515), (692, .bld, .bldF, 640)]
noncomputable def keepL : List Nat := [28, 35, 42, 49, 56, 63, 70, 77, 84, 92, 99, 107, 115, 124, 131, 138, 145, 159, 166, 173, 180, 187, 194, 201, 208, 215, 222, 229, 236, 243, 257, 265, 273, 280, 287, 294, 301, 308, 315, 322, 329, 336, 343, 350, 357, 364, 371, 378, 424, 431, 438, 445, 452, 459, 466, 473, 480, 487, 501, 515, 524, 533, 540, 547, 554, 562, 569, 576, 583, 590, 597, 604, 611, 625, 640, 647, 654, 661, 668, 675, 682, 689, 703, 710, 717, 724, 731, 738, 745, 750, 757, 764, 769, 776, 781, 788, 795, 800, 805, 812, 246, 490, 614, 692]
noncomputable def gL : List (Str × Value) := [(Str.ofString "_wall", Value.ref 21), (Str.ofString "is_space", Value.ref 28), (Str.ofString "is_upper", Value.ref 35), (Str.ofString "lower", Value.ref 42), (Str.ofString "lower_text", Value.ref 49), (Str.ofString "is_table_part", Value.ref 56), (Str.ofString "is_math_point", Value.ref 63), (Str.ofString "is_html_point", Value.ref 70), (Str.ofString "implied_names", Value.ref 77), (Str.ofString "foster_place", Value.ref 84), (Str.ofString "place_for", Value.ref 92), (Str.ofString "insert_sign", Value.ref 99), (Str.ofString "insert_comment", Value.ref 107), (Str.ofString "make", Value.ref 115), (Str.ofString "insert_element", Value.ref 124), (Str.ofString "insert_token", Value.ref 131), (Str.ofString "insert_void", Value.ref 138), (Str.ofString "associate", Value.ref 145), (Str.ofString "stops_scope", Value.ref 257), (Str.ofString "in_scope", Value.ref 265), (Str.ofString "pop_implied", Value.ref 273), (Str.ofString "pop_to_row", Value.ref 280), (Str.ofString "is_space_token", Value.ref 287), (Str.ofString "unexpected", Value.ref 294), (Str.ofString "is_table_child", Value.ref 301), (Str.ofString "has_in_table", Value.ref 308), (Str.ofString "pop_marked", Value.ref 315), (Str.ofString "close_caption", Value.ref 322), (Str.ofString "in_caption", Value.ref 329), (Str.ofString "leave_columns", Value.ref 336), (Str.ofString "tag_in_columns", Value.ref 343), (Str.ofString "in_column_group", Value.ref 350), (Str.ofString "close_row", Value.ref 357), (Str.ofString "start_in_row", Value.ref 364), (Str.ofString "end_in_row", Value.ref 371), (Str.ofString "in_row", Value.ref 378), (Str.ofString "alike", Value.ref 501), (Str.ofString "above", Value.ref 625), (Str.ofString "is_html_turn", Value.ref 703), (Str.ofString "_law_in_body", Value.ref 710), (Str.ofString "_law_in_head", Value.ref 717), (Str.ofString "_law_in_table", Value.ref 724), (Str.ofString "_law_in_table_body", Value.ref 731), (Str.ofString "_law_foreign", Value.ref 738), (Str.ofString "_law_told", Value.ref 745), (Str.ofString "_law_drawn", Value.ref 750), (Str.ofString "_law_token", Value.ref 757), (Str.ofString "_law_is_part", Value.ref 764), (Str.ofString "_law_scope", Value.ref 769), (Str.ofString "_law_note", Value.ref 776), (Str.ofString "_law_close", Value.ref 781), (Str.ofString "_law_caption", Value.ref 788), (Str.ofString "_law_columns", Value.ref 795), (Str.ofString "_law_row", Value.ref 800), (Str.ofString "_law_case", Value.ref 805), (Str.ofString "law", Value.ref 812), (Str.ofString "OpenStack", Value.ref 246), (Str.ofString "Formatting", Value.ref 490), (Str.ofString "Tree", Value.ref 614), (Str.ofString "Builder", Value.ref 692),
  (Str.ofString "len", Value.builtin "len"), (Str.ofString "max", Value.builtin "max"), (Str.ofString "chr", Value.builtin "chr"), (Str.ofString "sum", Value.builtin "sum"), (Str.ofString "range", Value.type "range"), (Str.ofString "list", Value.type "list"), (Str.ofString "int", Value.type "int"), (Str.ofString "str", Value.type "str")]
noncomputable def argNames : Stmt -> List Str
  | .FunctionDef _ a _ _ _ _ _ _ _ _ => a.args.map (·.arg)
  | _ => []
noncomputable def scopeOf : Stmt -> Scope
  | .FunctionDef _ _ _ _ _ _ s _ _ _ => s
  | _ => ⟨.function, [], false, false, []⟩
noncomputable def bodyOf : Stmt -> List Stmt
  | .FunctionDef _ _ b _ _ _ _ _ _ _ => b
  | _ => []
noncomputable def fnAt (fa na : Nat) : List FnE -> Option FnE
  | [] => none
  | e :: r => match Nat.beq e.fa fa && Nat.beq e.na na with
    | true => some e
    | false => fnAt fa na r
noncomputable def lookN {α : Type} (k : Nat) : List (Nat × α) -> Option α
  | [] => none
  | p :: r => match Nat.beq p.1 k with
    | true => some p.2
    | false => lookN k r
inductive Site where
  | fix (k : Fix) (x : SO)
  | kid | att | ab
  | tmp (k : Nat) (ty : Nat)
  | tm (ty : Nat)
noncomputable def siteAt (p : Pos) : Site := match p.line with
  | 113 => .fix .items (.il [])
  | 330 => .fix .marks (.il [])
  | 387 => .fix .kinds (.sl [])
  | 388 => .fix .spaces (.sl [])
  | 389 => .fix .names (.sl [])
  | 390 => .fix .attrs (.ar 0)
  | 391 => .fix .texts (.sl [])
  | 392 => .fix .parents (.il [])
  | 393 => .fix .children (.kr 0)
  | 394 => .fix .contents (.ndict [])
  | 482 => .fix .modes (.list [])
  | 485 => .fix .owners (.ndict [])
  | 491 => .fix .errors (.list [])
  | 492 => .fix .pending (.list [])
  | 401 => .att
  | 404 => .kid
  | 646 => .fix .rules (.sdict [])
  | 466 => .ab
  | 649 => match p.col with
    | 27 => .tmp (649 * 256) 2
    | 31 => .tmp (649 * 256 + 1) 1
    | _ => .tmp (649 * 256 + 2) 1
  | 650 => .tmp (650 * 256) 2
  | 660 => .tmp (660 * 256 + p.col) 0
  | 661 => .tmp (661 * 256) 0
  | 663 => .tmp (663 * 256) 0
  | 679 => .tmp (679 * 256) 1
  | 583 => .tm 1
  | 633 => .tm 1
  | 563 => .tm 2
  | 689 => .tm 1
  | 685 => .tm 1
  | 687 => .tm 1
  | 555 => .tmp (555 * 256) 1
  | 698 => .tm 1
  | l => .tm 0
noncomputable def intsOf : List SV -> Option (List Int)
  | [] => some []
  | x :: r => (intOf x).bind fun p => (intsOf r).map fun l => p.2 :: l
noncomputable def strsOf' : List SV -> Option (List Str)
  | [] => some []
  | x :: r => (strOf x).bind fun p => (strsOf' r).map fun l => p.2 :: l
noncomputable def typed (ty : Nat) (as : List SV) : Option SO := match ty with
  | 0 => some (.list as)
  | 1 => (intsOf as).map .il
  | _ => (strsOf' as).map .sl
noncomputable def isNone' {α : Type} : Option α -> Bool
  | some _ => false
  | none => true
noncomputable def lst0 : SO -> Bool
  | .list [] => true
  | .il [] => true
  | .sl [] => true
  | .kr 0 => true
  | .ar 0 => true
  | _ => false
noncomputable def newL (p : Pos) (as : List SV) (h : HS) (k : SV -> HS -> Prop) : Prop := chk (Nat.ble as.length 1000) (match siteAt p with
  | .fix f x => match as with
    | [] => chk (lst0 x) (chk (isNone' (h.get (.s f)) && canPut h (.s f) x) (k (.ref (.s f)) (h.put (.s f) x)))
    | _ => False
  | .kid => match as with
    | [] => k (.ref (.kid h.kids.length)) (h.newKid [])
    | _ => False
  | .ab => match as with
    | [] => chk (isNone' h.ab) (k (.ref .ab) (h.put .ab (.il [])))
    | _ => False
  | .att => k (.ref (.att h.atts.length)) (h.newAtt as)
  | .tmp j ty => match typed ty as with
    | some x => chk (isNone' (h.get (.t j))) (k (.ref (.t j)) (h.put (.t j) x))
    | none => False
  | .tm ty => match typed ty as with
    | some x => k (.ref (.m h.tm.length)) (h.newM x)
    | none => False)
noncomputable def copyL (p : Pos) (o : Oid) (h : HS) (k : SV -> HS -> Prop) : Prop := gO h o fun x => gP x.lst fun _ => match siteAt p with
  | .tmp j _ => chk (isNone' (h.get (.t j))) (k (.ref (.t j)) (h.put (.t j) x))
  | .tm _ => k (.ref (.m h.tm.length)) (h.newM x)
  | _ => False
noncomputable def notVal : SV -> Bool
  | .val _ => false
  | _ => true
noncomputable def gInst (h : HS) (o : Oid) (K : Addr -> Oid -> List (Str × SV) -> Prop) : Prop := gO h o fun x => match x with
  | .inst c d => gO h d fun y => match y with
    | .fields fs => K c d fs
    | _ => False
  | _ => False
noncomputable def attrS (a : SV) (x : Str) (h : HS) (k : SV -> Prop) : Prop := gR a fun o => gInst h o fun c _ fs => gP (fs.lookup x) fun v => gP (lookN c attrL) fun l => chk (notVal v) (chk (l.contains x) (k v))
noncomputable def putFS (x : Str) (a : SV) : List (Str × SV) -> List (Str × SV)
  | [] => [(x, a)]
  | p :: r => if p.1 = x then (p.1, a) :: r else p :: putFS x a r
noncomputable def notZ : Oid -> Bool
  | .t k => !(Nat.beq k 2)
  | _ => true
noncomputable def gB (x : SV) (K : Bool -> Prop) : Prop := match x with
  | .bool o => K o
  | _ => False
noncomputable def setattrB (S : St) (x : Str) (v : SV) (h : HS) (k : HS -> Prop) : Prop :=
  bI (x == ("mode" : Str)) (gC v fun m => k { h with st := some { S with mode := m } })
    (chk (x == ("is_acknowledged" : Str)) (gB v fun c => k { h with st := some { S with ack := c } }))
noncomputable def setattrS (a : SV) (x : Str) (v : SV) (h : HS) (k : HS -> Prop) : Prop := match h.st with
  | some S => gF .bld a (setattrB S x v h k)
  | none => gR a fun o => gInst h o fun c d fs => gP (lookN c attrL) fun l => chk (notVal v) (chk (l.contains x && Nat.ble fs.length 900 && canPut h d (.fields (putFS x v fs)) && notZ d) (k (h.put d (.fields (putFS x v fs)))))
noncomputable def listM : List (Str × String) := [("append", "list.append"), ("pop", "list.pop"), ("insert", "list.insert")]
noncomputable def strM : List (Str × String) := [("split", "str.split"), ("join", "str.join"), ("replace", "str.replace")]
noncomputable def methL' (x : SO) (o : Oid) (name : Str) (k : Value -> List SV -> Prop) : Prop := gP x.lst fun _ => gP (listM.lookup name) fun id => k (.builtin id) [.ref o]
noncomputable def noneB {α : Type} (x : Option α) : Bool := match x with
  | none => true
  | some _ => false
noncomputable def methO (o : Oid) (name : Str) (h : HS) (k : Value -> List SV -> Prop) : Prop := gO h o fun x => match x with
  | .inst _ _ => gInst h o fun c _ fs => chk (noneB (fs.lookup name)) (gP (lookN c methL) fun l => gP (l.lookup name) fun fa => k (.ref fa) [.ref o])
  | .ndict _ => chk (name == "get") (k (.builtin "dict.get") [.ref o])
  | x => methL' x o name k
noncomputable def methS (a : SV) (name : Str) (h : HS) (k : Value -> List SV -> Prop) : Prop := match a with
  | .ref o => match o with
    | .kid j => gP (listM.lookup name) fun id => (h.kids[j]?).isSome = true /\ k (.builtin id) [.ref (.kid j)]
    | o => methO o name h k
  | .str s => gP (strM.lookup name) fun id => k (.builtin id) [.str s]
  | .ss s => gP (strM.lookup name) fun id => k (.builtin id) [.ss s]
  | _ => False
noncomputable def lim (n : Nat) : Prop := n <= 1000000
noncomputable def mkI (known : Bool) (i : Int) : SV := match known with
  | true => .int i
  | false => .si i
noncomputable def mkS (known : Bool) (i : Str) : SV := match known with
  | true => .str i
  | false => .ss i
noncomputable def nonE {α : Type} : List α -> Bool
  | [] => false
  | _ => true
noncomputable def sumL (p : Pos) (x : SO) (h : HS) (k : SV -> HS -> Prop) : Prop := bI (Nat.beq p.line 650)
  (chk (isNone' (h.get (.t (650 * 256 + 1)))) (k (.ref (.t (650 * 256 + 1))) (h.put (.t (650 * 256 + 1)) x)))
  (k (.ref (.m h.tm.length)) (h.newM x))
noncomputable def addS (p : Pos) (a b : SV) (h : HS) (k : SV -> HS -> Prop) : Prop := match a with
  | .tup xs => gT b fun ys => chk (nonE xs && nonE ys && Nat.ble (xs.length + ys.length) 1000) (k (.tup (xs ++ ys)) h)
  | .ref o => gR b fun o' => gO h o fun x => match x with
    | .sl l => gSl h o' fun l' => lim (l.length + l'.length) /\ sumL p (.sl (l ++ l')) h k
    | .il l => gIl h o' fun l' => lim (l.length + l'.length) /\ sumL p (.il (l ++ l')) h k
    | _ => False
  | _ => False
noncomputable def isAdd : Operator -> Bool
  | .Add => true
  | _ => false
noncomputable def binI (op : Operator) (u v : Bool) (x y : Int) (h : HS) (k : SV -> HS -> Prop) : Prop := match op with
  | .Mult => IntMulOk x y /\ k (mkI (u && v) (x * y)) h
  | .Mod => y ≠ 0 /\ k (mkI (u && v) (Int.fmod x y)) h
  | .Add => k (mkI (u && v) (x + y)) h
  | .Sub => k (mkI (u && v) (x - y)) h
  | _ => False
noncomputable def binS (p : Pos) (op : Operator) (a b : SV) (h : HS) (k : SV -> HS -> Prop) : Prop := match both (intOf a) (intOf b) with
  | some q => binI op q.1.1 q.2.1 q.1.2 q.2.2 h k
  | none => chk (isAdd op) (match both (strOf a) (strOf b) with
    | some q => lim (q.1.2.length + q.2.2.length) /\ k (mkS (q.1.1 && q.2.1) (q.1.2 ++ q.2.2)) h
    | none => addS p a b h k)
noncomputable def isM1 : SV -> Bool
  | .int j => j == -1
  | _ => false
noncomputable def subX (x : SO) (i : SV) (k : SV -> Prop) : Prop := match x with
  | .il l => bI (isM1 i) (l ≠ [] /\ k (.si (l.getLastD 0))) (gI i fun _ j => (0 <= j /\ j < l.length) /\ k (.si (l.getD j.toNat 0)))
  | .sl l => bI (isM1 i) (l ≠ [] /\ k (.ss (l.getLastD Str.empty))) (gI i fun _ j => (0 <= j /\ j < l.length) /\ k (.ss (l.getD j.toNat Str.empty)))
  | .kr n => gI i fun _ j => (0 <= j /\ j < n) /\ k (.ref (.kid j.toNat))
  | .list xs => match i with
    | .int j => gP (placeOf j xs.length) fun n => gP xs[n]? k
    | .si j => gP (strsOf xs) fun l => (0 <= j /\ j < l.length) /\ k (.ss (l.getD j.toNat Str.empty))
    | _ => False
  | .sdict es => gC i fun s => gP (es.lookup s) k
  | .ndict es => gI i fun _ j => (es.lookup j).isSome = true /\ k (.si ((es.lookup j).getD 0))
  | _ => False
noncomputable def allL {α : Type} (k : α -> Prop) : List α -> Prop
  | [] => True
  | x :: xs => k x /\ allL k xs
noncomputable def subS (a i : SV) (h : HS) (k : SV -> Prop) : Prop := match a with
  | .ref o => match o with
    | .kid j => chk (isM1 i) (∃ l, h.kids[j]? = some l /\ l ≠ [] /\ k (.si (l.getLastD 0)))
    | o => gO h o fun x => subX x i k
  | .tup xs => chk (Nat.ble xs.length 1000) (match i with
    | .int j => gP (placeOf j xs.length) fun n => gP xs[n]? k
    | .si j => (0 <= j /\ j < xs.length) /\ allL k xs
    | _ => False)
  | _ => False
noncomputable def storeS {K : Type} [BEq K] (es : List (K × SV)) (x : K) (a : SV) : List (K × SV) := match es with
  | [] => [(x, a)]
  | p :: r => match p.1 == x with
    | true => (p.1, a) :: r
    | false => p :: storeS r x a
noncomputable def storeN (es : List (Int × Int)) (x a : Int) : List (Int × Int) := if es.any (fun kv => kv.1 = x) then es.map (fun kv => if kv.1 = x then (kv.1, a) else kv) else es ++ [(x, a)]
noncomputable def nodupK : List (Str × SV) -> Bool
  | [] => true
  | p :: r => !(r.any fun q => q.1 == p.1) && nodupK r
noncomputable def setS (a i v : SV) (h : HS) (k : HS -> Prop) : Prop := gR a fun o => gO h o fun y => match y with
  | .sdict es => gC i fun s => chk (canPut h o (.sdict (storeS es s v)) && nodupK es && Nat.ble es.length 1000 && notZ o) (k (h.put o (.sdict (storeS es s v))))
  | .ndict es => gI i fun _ x => gI v fun _ y => chk (canPut h o (.ndict (storeN es x y)) && notZ o) (lim (es.length + 1) /\ k (h.put o (.ndict (storeN es x y))))
  | .il l => gI i fun _ x => gI v fun _ y => chk (canPut h o (.il (l.set x.toNat y)) && notZ o) ((0 <= x /\ x < l.length) /\ k (h.put o (.il (l.set x.toNat y))))
  | _ => False
noncomputable def appS (o : Oid) (a : SV) (h : HS) (k : HS -> Prop) : Prop := gO h o fun y => match y with
  | .list xs => chk (canPut h o (.list (xs ++ [a])) && notZ o) (lim (xs.length + 1) /\ k (h.put o (.list (xs ++ [a]))))
  | .il l => gI a fun _ i => chk (canPut h o (.il (l ++ [i])) && notZ o) (lim (l.length + 1) /\ k (h.put o (.il (l ++ [i]))))
  | .sl l => gS a fun _ i => chk (canPut h o (.sl (l ++ [i])) && notZ o) (lim (l.length + 1) /\ k (h.put o (.sl (l ++ [i]))))
  | .kr n => gR a fun q => match q with
    | .kid m => chk (canPut h o (.kr (n + 1)) && notZ o) ((m = n /\ lim (n + 1)) /\ k (h.put o (.kr (n + 1))))
    | _ => False
  | .ar n => gR a fun q => match q with
    | .att m => chk (canPut h o (.ar (n + 1)) && notZ o) ((m = n /\ lim (n + 1)) /\ k (h.put o (.ar (n + 1))))
    | _ => False
  | _ => False
noncomputable def lenOf : SO -> Option (Nat × Bool)
  | .il l => some (l.length, false)
  | .sl l => some (l.length, false)
  | .kr n => some (n, false)
  | .ar n => some (n, false)
  | .list xs => some (xs.length, false)
  | _ => none
noncomputable def builtO (id : String) (o : Oid) (h : HS) (k : SV -> HS -> Prop) : Prop :=
  bI (id == "list.pop") (gIl h o fun l => chk (canPut h o (.il l.dropLast) && notZ o) (l ≠ [] /\ k (.si (l.getLastD 0)) (h.put o (.il l.dropLast))))
    (bI (id == "max") (gIl h o fun l => l ≠ [] /\ ∀ M, M ∈ l -> (∀ a, a ∈ l -> a <= M) -> k (.si M) h)
      (bI (id == "sum") (gIl h o fun _ => ∀ M, k (.si M) h)
        (chk (id == "len") (gO h o fun x => match lenOf x with
            | some p => k (mkI p.2 p.1) h
            | none => False))))
noncomputable def builtG (id : String) (o : Oid) (i a : SV) (h : HS) (k : SV -> HS -> Prop) : Prop :=
  gV i fun i => chk (id == "dict.get") (gNd h o fun es => gI a fun _ y => k (.si ((es.lookup i).getD y)) h)
noncomputable def builtS (id : String) (as : List SV) (h : HS) (k : SV -> HS -> Prop) : Prop := match as with
  | [a] => match a with
    | .ref o => match o with
      | .kid j => chk (id == "len") (∃ l, h.kids[j]? = some l /\ k (.si l.length) h)
      | o => builtO id o h k
    | .ss x => chk (id == "str.split") (x.length <= 1000 /\ (Builtin.Str.spaceWords x (x.length + 1)).length <= 1000 /\ k (.ref (.m h.tm.length)) (h.newM (.sl (Txt.words x))))
    | .tup xs => chk (id == "len" && Nat.ble xs.length 1000) (k (.int xs.length) h)
    | .str x => chk (id == "str.split" && Nat.ble x.length 1000 && Nat.ble (Builtin.Str.spaceWords x (x.length + 1)).length 1000) (k (.ref (.m h.tm.length)) (h.newM (.list ((Txt.words x).map .str))))
    | .int i => chk (id == "chr") ((0 <= i /\ i <= 1114111) /\ k (.str ⟨#[i.toNat]⟩) h)
    | _ => False
  | [a, b] => match a with
    | .ref o => chk (id == "list.append") (appS o b h fun h1 => k .none h1)
    | .str x => gR b fun o => chk (id == "str.join" && Nat.ble x.length 10) (gSl h o fun l => (l.length <= 1000 /\ ∀ y, y ∈ l -> y.length <= 1000) /\ k (.ss (Txt.join x l)) h)
    | _ => False
  | [a, i, b] => gR a fun o => match o with
    | .kid j => chk (id == "list.insert") (gI i fun _ x => gI b fun _ y => ∃ l, h.kids[j]? = some l /\ x = l.length /\ lim (l.length + 1) /\ k .none { h with kids := h.kids.set j (l ++ [y]) })
    | o => builtG id o i b h k
  | _ => False
noncomputable def typeS (p : Pos) (id : String) (as : List SV) (h : HS) (k : SV -> HS -> Prop) : Prop := match as with
  | [a] => match a with
    | .tup xs => chk (id == "list") (newL p xs h k)
    | .str s => chk (id == "int" && Nat.ble s.length 640) (match PySem.intText? s with
      | some i => k (.int i) h
      | none => False)
    | .int i => bI (id == "str") (chk (Nat.blt i.natAbs.log2 1900) (k (.str (Str.ofString (toString i))) h)) (chk (id == "range") (k (.rng 0 i 1) h))
    | .ref o => chk (id == "list") (copyL p o h k)
    | a => chk (id == "range") (gI a fun _ i => k (.rng 0 i 1) h)
  | [a, b] => chk (id == "range") (gI a fun _ i => gI b fun _ j => k (.rng i j 1) h)
  | [a, b, c] => gN c fun c => chk (id == "range" && !(c == 0) && decide (-1000 <= c) && decide (c <= 1000)) (gI a fun _ i => gI b fun _ j => k (.rng i j c) h)
  | _ => False
noncomputable def orcAt (fa k : Nat) : List Orc -> Option OrcF
  | [] => none
  | o :: r => match Nat.beq o.fa fa && Nat.ble o.rank k with
    | true => some o.F
    | false => orcAt fa k r
noncomputable def retS (Q : SV -> HS -> Prop) : SOut -> SVS -> HS -> Prop := fun o _ h => match o with
  | .ret a => Q a h
  | .next => Q .none h
  | _ => False
noncomputable def callF (rr : Scope -> Rec) (fa : Nat) (as : List SV) (h : HS) (Q : SV -> HS -> Prop) : Prop := match fnAt fa as.length fnL with
  | some e => (rr (scopeOf e.st)).s (bodyOf e.st) (((argNames e.st).zip (as ++ e.df)).reverse) h (retS Q)
  | none => match fnAt fa as.length fnC with
    | some e => (rr (scopeOf e.st)).s (bodyOf e.st) (((argNames e.st).zip as).reverse) h (retS Q)
    | none => False
noncomputable def slS : SO -> Option (List Str)
  | .sl l => some l
  | _ => none
noncomputable def nilS : SO -> Option Unit
  | .list [] => some ()
  | _ => none
noncomputable def neL (op : CmpOp) (a b : SV) (h : HS) (k : SV -> Prop) : Prop := match op with
  | .NotEq => gR a fun o => gR b fun o' => match both ((h.get o).bind slS) ((h.get o').bind nilS) with
    | some p => (p.1.all PyData.strOk = true /\ p.1.length <= 1000) /\ k (.sb (!p.1.isEmpty))
    | none => ∃ da db, DR (mkH h) (SV.ref o).av da /\ DR (mkH h) (SV.ref o').av db /\ (da.canLay0 = true /\ db.canLay0 = true /\ da.depth <= 64) /\ k (.sb (!PyData.eqv da db))
  | .Eq => ∃ da db, DR (mkH h) a.av da /\ DR (mkH h) b.av db /\ (da.canLay0 = true /\ db.canLay0 = true /\ da.depth <= 64) /\ k (.sb (PyData.eqv da db))
  | _ => False
noncomputable def callS (O : List Orc) (k : Nat) (rr : Scope -> Rec) (p : Pos) (f : Value) (as : List SV) (h : HS) (Q : SV -> HS -> Prop) : Prop := match f with
  | .builtin id => builtS id as h Q
  | .type id => typeS p id as h Q
  | .ref fa => match orcAt fa k O with
    | some F => F as h Q
    | none => match lookN fa clsL with
      | some (o, d, fI) => chk (isNone' (h.get (.s o)) && isNone' (h.get (.s d)) && isNone' h.st) (callF rr fI (.ref (.s o) :: as) ((h.put (.s d) (.fields [])).put (.s o) (.inst fa (.s d))) fun a h1 => match a with
        | .none => Q (.ref (.s o)) h1
        | _ => False)
      | none => callF rr fa as h Q
  | _ => False
noncomputable def keepV : Value -> Bool
  | .ref fa => keepL.any (Nat.beq fa)
  | .builtin _ => true
  | .type _ => true
  | _ => false
noncomputable def evP (r : Rec) : List (Option PySem.Expr) -> List PySem.Expr -> SVS -> HS -> (List (Str × SV) -> SVS -> HS -> Prop) -> Prop
  | [], [], l, h, Q => Q [] l h
  | some ke :: ks, ve :: es, l, h, Q => r.e ke l h fun a l1 h1 => gC a fun x => r.e ve l1 h1 fun b l2 h2 => evP r ks es l2 h2 fun ps l3 h3 => Q ((x, b) :: ps) l3 h3
  | _, _, _, _, _ => False
noncomputable def dictO (p : Pos) : Oid := match siteAt p with
  | .fix f _ => .s f
  | _ => .t (p.line * 256 + p.col)
noncomputable def isSd0 : SO -> Bool
  | .sdict [] => true
  | _ => false
noncomputable def isNd0 : SO -> Bool
  | .ndict [] => true
  | _ => false
noncomputable def evDict0 (p : Pos) (l : SVS) (h : HS) (Q : SV -> SVS -> HS -> Prop) : Prop := match siteAt p with
  | .fix f x => chk (isNd0 x) (chk (isNone' (h.get (.s f)) && canPut h (.s f) (.ndict [])) (Q (.ref (.s f)) l (h.put (.s f) (.ndict []))))
  | _ => False
noncomputable def evDict1 (r : Rec) (ks : List (Option PySem.Expr)) (vs : List PySem.Expr) (o : Oid) (l : SVS) (h : HS) (Q : SV -> SVS -> HS -> Prop) : Prop :=
  chk (ks.all (·.isSome) && Nat.beq ks.length vs.length && Nat.ble ks.length 15 && isNone' (h.get o) && canPut h o (.sdict []) && notZ o) (evP r ks vs l (h.put o (.sdict [])) fun es l1 h1 => gO h1 o fun y => chk (isSd0 y) (chk (nodupK es && canPut h1 o (.sdict es)) (Q (.ref o) l1 (h1.put o (.sdict es)))))
noncomputable def evDict (r : Rec) (ks : List (Option PySem.Expr)) (vs : List PySem.Expr) (p : Pos) (l : SVS) (h : HS) (Q : SV -> SVS -> HS -> Prop) : Prop := match ks with
  | [] => match vs with
    | [] => evDict0 p l h Q
    | _ :: _ => False
  | _ :: _ => evDict1 r ks vs (dictO p) l h Q
noncomputable def allS (r : Rec) : BoolOp -> List PySem.Expr -> SVS -> HS -> (Bool -> SVS -> HS -> Prop) -> Prop
  | .And, [], l, h, Q => Q true l h
  | .Or, [], l, h, Q => Q false l h
  | .And, e :: es, l, h, Q => r.t e l h fun c l1 h1 => bI c (allS r .And es l1 h1 Q) (Q false l1 h1)
  | .Or, e :: es, l, h, Q => r.t e l h fun c l1 h1 => bI c (Q true l1 h1) (allS r .Or es l1 h1 Q)
noncomputable def constS : Const -> Option SV
  | .none => some .none
  | .bool b => some (.bool b)
  | .int i => some (.int i)
  | .str s => some (.str s)
  | _ => none
noncomputable def nameS (sc : Scope) (x : Str) (l : SVS) : Option SV := match !(x == ("__debug__" : Str)) && !(x == ("__classdict__" : Str)) with
  | true => match sc.names.lookup x with
    | some .globalImplicit => match gL.lookup x with
      | some v => some (.val v)
      | none => none
    | some .globalExplicit => none
    | some _ => l.lookup x
    | none => none
  | false => none
noncomputable def notSet : PySem.Expr -> Bool
  | .Set .. => false
  | _ => true
noncomputable def cutS (a : SV) (n : SV) (k : SV -> Prop) : Prop := gT a fun xs => gN n fun j => chk (decide (0 <= j) && decide (j <= xs.length) && Nat.ble xs.length 1000) (k (.tup (xs.take j.toNat)))
noncomputable def isName (e : PySem.Expr) : Bool := match nameOf e with
  | some _ => true
  | none => false
noncomputable def cutAt {α : Type} (from' : Bool) (l : List α) (i : Nat) : List α := match from' with
  | true => l.drop i
  | false => l.take i
noncomputable def sliceS (from' : Bool) (a b : SV) (h : HS) (k : SV -> HS -> Prop) : Prop := gR a fun o => gI b fun _ i => gO h o fun x => match x with
    | .il l => 0 <= i /\ k (.ref (.m h.tm.length)) (h.newM (.il (cutAt from' l i.toNat)))
    | .sl l => 0 <= i /\ k (.ref (.m h.tm.length)) (h.newM (.sl (cutAt from' l i.toNat)))
    | _ => False
noncomputable def relS (sc' sc : Scope) : Scope := { sc' with names := sc'.names.map fun (n, k) => if (k == .free && sc.kind == .function && sc.names.lookup n == some .cell) then (n, .cell) else (n, k) }
noncomputable def nodupN : List (Str × NameKind) -> Bool
  | [] => true
  | p :: r => !(r.any fun q => q.1 == p.1) && nodupN r
noncomputable def compOK (sc' sc : Scope) (x : Str) : Bool := (sc'.kind == .function) && nodupN sc'.names && sc'.names.all (fun p => !(p.2 == .cell) && (!(p.2 == .free) || sc.names.lookup p.1 == some .cell)) && (sc'.names.lookup x == some .local) && !(x == ("__debug__" : Str))
noncomputable def innerL (sc' : Scope) (l : SVS) : SVS := l.filter fun p => !(sc'.names.lookup p.1 == some .local)
noncomputable def isX (x : Str) (e : PySem.Expr) : Bool := match nameOf e with
  | some y => y == x
  | none => false
noncomputable def compI (r : Rec) (sc' : Scope) (x : Str) (c : PySem.Expr) (es : List Int) (l : SVS) (h : HS) (k : HS -> Prop) : Prop :=
  ∃ P : Int -> Bool, (∀ i, i ∈ es -> ∀ part : List Int, r.t c ((x, .si i) :: innerL sc' l) (h.newM (.il part)) fun b l2 h2 => b = P i /\ l2 = (x, .si i) :: innerL sc' l /\ h2 = h.newM (.il part)) /\ lim es.length /\ k (h.newM (.il (es.filter P)))
noncomputable def compT (r : Rec) (sc' : Scope) (x : Str) (c : PySem.Expr) (es : List Str) (l : SVS) (h : HS) (k : HS -> Prop) : Prop :=
  ∃ P : Str -> Bool, (∀ i, i ∈ es -> ∀ part : List Str, r.t c ((x, .ss i) :: innerL sc' l) (h.newM (.sl part)) fun b l2 h2 => b = P i /\ l2 = (x, .ss i) :: innerL sc' l /\ h2 = h.newM (.sl part)) /\ lim es.length /\ k (h.newM (.sl (es.filter P)))
noncomputable def compM (r : Rec) (sc' : Scope) (x : Str) (elt : PySem.Expr) : List SV -> List SV -> SVS -> HS -> (List SV -> Prop) -> Prop
  | [], part, _, _, k => k part
  | e :: es, part, l, h, k => r.e elt ((x, e) :: innerL sc' l) (h.newM (.list part)) fun v l2 h2 => (l2 = (x, e) :: innerL sc' l /\ h2 = h.newM (.list part)) /\ compM r sc' x elt es (part ++ [v]) l h k
noncomputable def elsOf (a : SV) (h : HS) : Option (List SV) := match a with
  | .tup xs => match intsOf xs with
    | some _ => some xs
    | none => none
  | .ref o => match h.get o with
    | some (.list xs) => some xs
    | some (.il l) => some (l.map .si)
    | some (.sl l) => some (l.map .ss)
    | _ => none
  | _ => none
noncomputable def typed' (xs : List SV) : SO := match strsOf' xs with
  | some l => .sl l
  | none => .list xs
noncomputable def compF (r' : Rec) (sc' : Scope) (x : Str) (c : PySem.Expr) (a : SV) (l1 : SVS) (h1 : HS) (k : HS -> Prop) : Prop := match a with
  | .rng a b z => Builtin.Range.small a b z = true /\ compI r' sc' x c (rngEls a b z) l1 h1 k
  | .ref o => gO h1 o fun y => match y with
    | .il es => compI r' sc' x c es l1 h1 k
    | .sl es => compT r' sc' x c es l1 h1 k
    | _ => False
  | _ => False
noncomputable def compS (r r' : Rec) (sc' : Scope) (x : Str) (iter elt : PySem.Expr) (ifs : List PySem.Expr) (l : SVS) (h : HS) (k : SV -> SVS -> HS -> Prop) : Prop := match ifs with
  | [] => r.e iter l h fun a l1 h1 => gP (elsOf a h1) fun es => chk (Nat.ble es.length 1000) (compM r' sc' x elt es [] l1 h1 fun part => k (.ref (.m h1.tm.length)) l1 (h1.newM (typed' part)))
  | c :: cs => match cs with
    | [] => chk (isX x elt) (r.e iter l h fun a l1 h1 => compF r' sc' x c a l1 h1 fun h2 => k (.ref (.m h1.tm.length)) l1 h2)
    | _ :: _ => False
noncomputable def gW (x : SV) (K : Value -> Prop) : Prop := match x with
  | .val o => K o
  | _ => False
noncomputable def stepCall (O : List Orc) (k : Nat) (rr : Scope -> Rec) (sc : Scope) (f : PySem.Expr) (args : List PySem.Expr) (kws : List Keyword) (p : Pos) (l : SVS) (h : HS) (Q : SV -> SVS -> HS -> Prop) : Prop := match kws with
  | [] => match f with
    | .Name x np => chk (noStars args) ((rr sc).e (.Name x np) l h fun a l1 h1 => gW a fun f => chk (keepV f) (evL (rr sc) args l1 h1 fun as l2 h2 => callS O k rr p f as h2 fun c h3 => Q c l2 h3))
    | .Attribute o name ap => chk (notCallName o && noStars args && Nat.blt args.length 30 && Nat.beq ap.endLine p.line) ((rr sc).e o l h fun a l1 h1 => methS a name h1 fun f fas =>
      chk (keepV f) (evL (rr sc) args l1 h1 fun as l2 h2 => callS O k rr p f (fas ++ as) h2 fun c h3 => Q c l2 h3))
    | _ => False
  | _ :: _ => False
noncomputable def cmpV (op : CmpOp) (x y : SV) (h : HS) (k : SV -> Prop) : Prop := match cmpS op x y h with
  | some c => k c
  | none => neL op x y h k
noncomputable def stepCmp (r : Rec) (a : PySem.Expr) (ops : List CmpOp) (bs : List PySem.Expr) (l : SVS) (h : HS) (K : SV -> SVS -> HS -> Prop) : Prop := a1 ops fun op => a1 bs fun b => chk (!behindInMarks op b) (r.e a l h fun x l1 h1 => r.e b l1 h1 fun y l2 h2 => cmpV op x y h2 fun c => K c l2 h2)
noncomputable def slOf (e : PySem.Expr) (o : PySem.Expr) (r : Rec) (l : SVS) (h : HS) (Q : SV -> SVS -> HS -> Prop) (lo hi st : Option PySem.Expr) : Prop := match st with
  | none => match lo with
    | none => gP hi fun hi => bI (isName o) (r.e o l h fun a l1 h1 => r.e hi l1 h1 fun b l2 h2 => sliceS false a b h2 fun v h3 => Q v l2 h3) (r.e o l h fun a l1 h1 => r.e hi l1 h1 fun b l2 h2 => cutS a b fun v => Q v l2 h2)
    | some lo => match hi with
      | none => chk (isName o) (r.e o l h fun a l1 h1 => r.e lo l1 h1 fun b l2 h2 => sliceS true a b h2 fun v h3 => Q v l2 h3)
      | some _ => False
  | some _ => False
noncomputable def isSlice : PySem.Expr -> Bool
  | .Slice .. => true
  | _ => false
noncomputable def stepSub (r : Rec) (o i : PySem.Expr) (l : SVS) (h : HS) (Q : SV -> SVS -> HS -> Prop) : Prop := match isSlice i with
  | true => match i with
    | .Slice lo hi st _ => slOf i o r l h Q lo hi st
    | _ => False
  | false => r.e o l h fun a l1 h1 => r.e i l1 h1 fun b l2 h2 => subS a b h2 fun v => Q v l2 h2
noncomputable def stepUn (r : Rec) (op : UnaryOp) (e : PySem.Expr) (l : SVS) (h : HS) (Q : SV -> SVS -> HS -> Prop) : Prop := match op with
  | .USub => r.e e l h fun a l1 h1 => gI a fun u i => Q (mkI u (-i)) l1 h1
  | .Not => r.e e l h fun a l1 h1 => truS a h1 fun c => Q (.bool (!c)) l1 h1
  | _ => False
noncomputable def stepBool (r : Rec) (op : BoolOp) (es : List PySem.Expr) (l : SVS) (h : HS) (Q : SV -> SVS -> HS -> Prop) : Prop := a2 es fun x y => r.e x l h fun a l1 h1 => truS a h1 fun c => match op with
  | .And => bI c (r.e y l1 h1 Q) (Q a l1 h1)
  | .Or => bI c (Q a l1 h1) (r.e y l1 h1 Q)
noncomputable def stepComp (rr : Scope -> Rec) (sc : Scope) (elt : PySem.Expr) (gens : List Comprehension) (sc' : Scope) (l : SVS) (h : HS) (Q : SV -> SVS -> HS -> Prop) : Prop := a1 gens fun g => gP (nameOf g.target) fun x => chk (g.is_async == 0) (chk (notSet g.iter && compOK sc' sc x) (compS (rr sc) (rr (relS sc' sc)) sc' x g.iter elt g.ifs l h Q))
noncomputable def stepE (O : List Orc) (k : Nat) (rr : Scope -> Rec) (sc : Scope) (x : PySem.Expr) (l : SVS) (h : HS) (Q : SV -> SVS -> HS -> Prop) : Prop := match x with
  | .Constant c _ _ => gP (constS c) fun v => Q v l h
  | .Name x _ => gP (nameS sc x l) fun v => Q v l h
  | .Attribute o x _ => chk (notCallName o) ((rr sc).e o l h fun a l1 h1 => attrS a x h1 fun v => Q v l1 h1)
  | .Call f args kws p => stepCall O k rr sc f args kws p l h Q
  | .BinOp a op b p => (rr sc).e a l h fun x l1 h1 => (rr sc).e b l1 h1 fun y l2 h2 => binS p op x y h2 fun z h3 => Q z l2 h3
  | .Compare a ops bs _ => stepCmp (rr sc) a ops bs l h Q
  | .UnaryOp op e _ => stepUn (rr sc) op e l h Q
  | .BoolOp op es _ => stepBool (rr sc) op es l h Q
  | .IfExp t b o _ => (rr sc).t t l h fun c l1 h1 => bI c ((rr sc).e b l1 h1 Q) ((rr sc).e o l1 h1 Q)
  | .Tuple es _ _ => evL (rr sc) es l h fun as l1 h1 => chk (Nat.ble as.length 1000) (Q (.tup as) l1 h1)
  | .List es p => evL (rr sc) es l h fun as l1 h1 => newL p as h1 fun o h2 => Q o l1 h2
  | .Dict ks vs p => evDict (rr sc) ks vs p l h Q
  | .ListComp elt gens sc' _ => stepComp rr sc elt gens sc' l h Q
  | .Subscript o i _ => stepSub (rr sc) o i l h Q
  | _ => False
noncomputable def isTru : PySem.Expr -> Bool
  | .Name .. => true
  | .Attribute .. => true
  | .Call .. => true
  | .Subscript .. => true
  | _ => false
noncomputable def stepT (rr : Scope -> Rec) (sc : Scope) (x : PySem.Expr) (l : SVS) (h : HS) (Q : Bool -> SVS -> HS -> Prop) : Prop := match isTru x with
  | true => (rr sc).e x l h fun a l1 h1 => truS a h1 fun c => Q c l1 h1
  | false => match x with
    | .UnaryOp op e _ => match op with
      | .Not => (rr sc).t e l h fun c l1 h1 => Q (!c) l1 h1
      | _ => False
    | .Compare a ops bs _ => stepCmp (rr sc) a ops bs l h fun c l2 h2 => truS c h2 fun d => Q d l2 h2
    | .BoolOp op es _ => allS (rr sc) op es l h Q
    | _ => False
noncomputable def notComp : PySem.Expr -> Bool
  | .ListComp .. => false
  | .SetComp .. => false
  | .DictComp .. => false
  | _ => true
noncomputable def ownS (sc : Scope) (x : Str) : Bool := match sc.names.lookup x with
  | some .local => true
  | some .cell => true
  | _ => false
noncomputable def updSs (l : SVS) : List Str -> List SV -> SVS
  | x :: xs, a :: as => updSs ((x, a) :: l) xs as
  | _, _ => l
noncomputable def notTup : PySem.Expr -> Bool
  | .Tuple .. => false
  | _ => true
noncomputable def tupE (a : SV) (h : HS) (K : List SV -> Prop) : Prop := match a with
  | .tup as => K as
  | .ref o => gO h o fun y => match y with
    | .list as => K as
    | _ => False
  | _ => False
noncomputable def stepA (r : Rec) (sc : Scope) (t e : PySem.Expr) (l : SVS) (h : HS) (Q : SVS -> HS -> Prop) : Prop := chk (notComp e) (match t with
  | .Name x _ => chk (ownS sc x) (r.e e l h fun a l1 h1 => Q ((x, a) :: l1) h1)
  | .Attribute oe x _ => r.e e l h fun a l1 h1 => r.e oe l1 h1 fun ob l2 h2 => setattrS ob x a h2 fun h3 => Q l2 h3
  | .Subscript oe ie _ => r.e e l h fun a l1 h1 => r.e oe l1 h1 fun ob l2 h2 => r.e ie l2 h2 fun i l3 h3 => setS ob i a h3 fun h4 => Q l3 h4
  | .Tuple elts _ _ => gP (namesOf elts) fun xs => chk (notTup e && xs.all (ownS sc)) (r.e e l h fun a l1 h1 => tupE a h1 fun as => chk (Nat.beq as.length xs.length) (Q (updSs l1 xs as) h1))
  | _ => False)
set_option tactic.hygienic true in
noncomputable def stepS (rr : Scope -> Rec) (sc : Scope) (st : Stmt) (l : SVS) (h : HS) (Q : SOut -> SVS -> HS -> Prop) : Prop := match st with
  | .Pass _ => Q .next l h
  | .Return e _ => match e with
    | none => Q (.ret .none) l h
    | some e => (rr sc).e e l h fun a l1 h1 => Q (.ret a) l1 h1
  | .If t b o _ => (rr sc).t t l h fun c l1 h1 => bI c ((rr sc).s b l1 h1 Q) ((rr sc).s o l1 h1 Q)
  | .Expr e _ => chk (notComp e) ((rr sc).e e l h fun _ l1 h1 => Q .next l1 h1)
  | .Assign ts e _ => a1 ts fun t => stepA (rr sc) sc t e l h (Q .next)
  | _ => False
set_option tactic.hygienic true in
noncomputable def stepB (rr : Scope -> Rec) (sc : Scope) (b : List Stmt) (l : SVS) (h : HS) (Q : SOut -> SVS -> HS -> Prop) : Prop := match b with
  | [] => Q .next l h
  | st :: rest => stepS rr sc st l h fun o l1 h1 => match o with
    | .next => (rr sc).s rest l1 h1 Q
    | o => Q o l1 h1
noncomputable def EV (O : List Orc) : Nat -> Scope -> Rec
  | 0, _ => ⟨fun _ _ _ _ => False, fun _ _ _ _ => False, fun _ _ _ _ => False⟩
  | k + 1, sc => ⟨stepE O (2 * k) (EV O k) sc, stepT (EV O k) sc, stepB (EV O k) sc⟩
end
noncomputable def glk (P : Params) (x : Str) : Option Value := match gmap P x with
  | some v => some v
  | none => bmap P x
theorem gL_ok (P : Params) : gL.map (fun p => glk P p.1) = gL.map (fun p => some p.2) := by kernel_rfl
noncomputable def fdE (e : FnE) : FuncData := fdOf e.st (Str.ofString e.q) 3 e.dV e.md (R e.code)
noncomputable def codeQ (P : Params) (c : Nat) : Option Str := match (hl P)[c]? with
  | some ⟨_, _, .fields vs, _⟩ => match vs.toList with
    | _ :: .str q _ :: _ => some q
    | _ => none
  | _ => none
theorem fn_at (P : Params) : fnL.map (fun e => (hl P)[e.fa]?) = fnL.map (fun e => some (Fn e.st e.q e.dV e.md (R e.code))) := by kernel_rfl
theorem fn_code (P : Params) : fnL.map (fun e => codeQ P e.code) = fnL.map (fun e => some (Str.ofString e.q)) := by kernel_rfl
noncomputable def isDef : Stmt -> Bool
  | .FunctionDef .. => true
  | _ => false
noncomputable def scopeGood (st : Stmt) : Bool := isDef st && !(scopeOf st).isCoroutine && !(scopeOf st).isGenerator && ((scopeOf st).kind == .function) && (scopeOf st).names.all (fun x => !(x.2 == .cell)) && (argNames st).all (fun x => (scopeOf st).names.lookup x == some .local)
theorem fn_scope : fnL.all (fun e => scopeGood e.st) = true := by kernel_rfl
noncomputable def attrOK (P : Params) (c : Nat) (x : Str) : Bool := plainGet (Kf P) c x && hasDictIn (Kf P) c && (match findIn (Kf P) (.ref c) x with | some attr => noGet (Kf P) attr | none => false) && (takerIn (Kf P) c x == some none)
theorem attr_ok (P : Params) : attrL.all (fun p => p.2.all (fun x => attrOK P p.1 x)) = true := by kernel_rfl
theorem attr_set (P : Params) : attrL.all (fun p => (findIn (Kf P) (.ref p.1) "__setattr__" == some (some (.builtin "object.__setattr__"))) && plainOver (Kf P) p.1 && hasDictIn (Kf P) p.1) = true := by kernel_rfl
theorem meth_ok (P : Params) : methL.all (fun p => p.2.all (fun x => plainGet (Kf P) p.1 x.1 && (findIn (Kf P) (.ref p.1) x.1 == some (some (.ref x.2))) && isFn (Kf P) (.ref x.2))) = true := by kernel_rfl
theorem keep_ok (P : Params) : keepL.all (fun fa => keepIn (Kf P) (.ref fa)) = true := by kernel_rfl
theorem cls_ok (P : Params) : clsL.all (fun p => makesIn (Kf P) p.1 && (findIn (Kf P) (.ref p.1) "__init__" == some (some (.ref p.2.2.2))) && (typeIn (Kf P) (.ref p.2.2.2) == some (.type "function"))) = true := by kernel_rfl
noncomputable def ofNa (k : Nat) (l : List FnE) : List FnE := l.filter fun e => Nat.beq e.na k
theorem ofNa_mem {k : Nat} {l : List FnE} {e : FnE} (h : e ∈ l) (hk : e.na = k) : e ∈ ofNa k l := List.mem_filter.mpr ⟨h, by subst hk; exact Nat.beq_refl _⟩
theorem bind0_0 : (ofNa 0 fnL0).map (fun e => bindArgs (fdE e) ⟨[], []⟩) = (ofNa 0 fnL0).map (fun e => pure ((argNames e.st).zip [])) := by kernel_rfl
theorem bind0_1 (a : Value) : (ofNa 1 fnL0).map (fun e => bindArgs (fdE e) ⟨[a], []⟩) = (ofNa 1 fnL0).map (fun e => pure ((argNames e.st).zip [a])) := by kernel_rfl
theorem bind0_2 (a b : Value) : (ofNa 2 fnL0).map (fun e => bindArgs (fdE e) ⟨[a, b], []⟩) = (ofNa 2 fnL0).map (fun e => pure ((argNames e.st).zip [a, b])) := by kernel_rfl
theorem bind0_3 (a b c : Value) : (ofNa 3 fnL0).map (fun e => bindArgs (fdE e) ⟨[a, b, c], []⟩) = (ofNa 3 fnL0).map (fun e => pure ((argNames e.st).zip [a, b, c])) := by kernel_rfl
theorem na0 : fnL0.all (fun e => Nat.ble e.na 3 && (match e.df with | [] => true | _ => false)) = true := by kernel_rfl
theorem bind0_ok {e : FnE} (h : e ∈ fnL0) {vals : List Value} (hl : vals.length = e.na) : bindArgs (fdE e) ⟨vals, []⟩ = pure ((argNames e.st).zip vals) /\ e.df = [] := by
  have hb := List.all_eq_true.mp na0 e h
  rw [Bool.and_eq_true] at hb
  obtain ⟨hb, hd⟩ := hb
  refine ⟨?_, by revert hd; cases e.df <;> simp⟩
  have hb : e.na <= 3 := Nat.le_of_ble_eq_true hb
  have hm := ofNa_mem h hl.symm
  match vals, hl, hm with
  | [], _, hm => exact List.map_inj_left.mp bind0_0 e hm
  | [a], _, hm => exact List.map_inj_left.mp (bind0_1 a) e hm
  | [a, b], _, hm => exact List.map_inj_left.mp (bind0_2 a b) e hm
  | [a, b, c], _, hm => exact List.map_inj_left.mp (bind0_3 a b c) e hm
  | _ :: _ :: _ :: _ :: _, hl, _ => simp at hl; lia
noncomputable def bindK (fd : FuncData) (vals : List Value) : { k : Option (Array Value) -> Sem (List (Str × Value)) // bindArgs fd ⟨vals, []⟩ = seqItems? fd.defaults >>= k } := ⟨_, rfl⟩
noncomputable def dTup (e : FnE) : Nat := match e.dV with
  | .ref T => T
  | _ => 0
noncomputable def dItems (P : Params) (e : FnE) : List Value := match (hl P)[dTup e]? with
  | some ⟨_, _, .seq xs _, _⟩ => xs.toList
  | _ => []
noncomputable def dvals (P : Params) (e : FnE) : List Value := (dItems P e).drop ((dItems P e).length - e.df.length)
theorem d_ref : fnLd.map (fun e => e.dV) = fnLd.map (fun e => .ref (dTup e)) := by kernel_rfl
theorem d_tup (P : Params) : fnLd.map (fun e => ((hl P)[dTup e]?).map (·.data)) = fnLd.map (fun e => some (.seq (dItems P e).toArray 0)) := by kernel_rfl
theorem bindd_1 (P : Params) (a : Value) : (ofNa 1 fnLd).map (fun e => (bindK (fdE e) [a]).1 (some (dItems P e).toArray)) = (ofNa 1 fnLd).map (fun e => pure ((argNames e.st).zip ([a] ++ dvals P e))) := by kernel_rfl
theorem bindd_2 (P : Params) (a b : Value) : (ofNa 2 fnLd).map (fun e => (bindK (fdE e) [a, b]).1 (some (dItems P e).toArray)) = (ofNa 2 fnLd).map (fun e => pure ((argNames e.st).zip ([a, b] ++ dvals P e))) := by kernel_rfl
theorem bindd_3 (P : Params) (a b c : Value) : (ofNa 3 fnLd).map (fun e => (bindK (fdE e) [a, b, c]).1 (some (dItems P e).toArray)) = (ofNa 3 fnLd).map (fun e => pure ((argNames e.st).zip ([a, b, c] ++ dvals P e))) := by kernel_rfl
theorem bindd_4 (P : Params) (a b c d : Value) : (ofNa 4 fnLd).map (fun e => (bindK (fdE e) [a, b, c, d]).1 (some (dItems P e).toArray)) = (ofNa 4 fnLd).map (fun e => pure ((argNames e.st).zip ([a, b, c, d] ++ dvals P e))) := by kernel_rfl
theorem bindd_5 (P : Params) (a b c d f : Value) : (ofNa 5 fnLd).map (fun e => (bindK (fdE e) [a, b, c, d, f]).1 (some (dItems P e).toArray)) = (ofNa 5 fnLd).map (fun e => pure ((argNames e.st).zip ([a, b, c, d, f] ++ dvals P e))) := by kernel_rfl
theorem bindd_6 (P : Params) (a b c d f g : Value) : (ofNa 6 fnLd).map (fun e => (bindK (fdE e) [a, b, c, d, f, g]).1 (some (dItems P e).toArray)) = (ofNa 6 fnLd).map (fun e => pure ((argNames e.st).zip ([a, b, c, d, f, g] ++ dvals P e))) := by kernel_rfl
theorem nad : fnLd.all (fun e => Nat.ble e.na 6 && Nat.ble 1 e.na) = true := by kernel_rfl
theorem bindd_ok (P : Params) {e : FnE} (h : e ∈ fnLd) {vals : List Value} (hl : vals.length = e.na) : (bindK (fdE e) vals).1 (some (dItems P e).toArray) = pure ((argNames e.st).zip (vals ++ dvals P e)) := by
  have hb := List.all_eq_true.mp nad e h
  rw [Bool.and_eq_true] at hb
  have hb1 : e.na <= 6 := Nat.le_of_ble_eq_true hb.1
  have hb2 : 1 <= e.na := Nat.le_of_ble_eq_true hb.2
  have hm := ofNa_mem h hl.symm
  match vals, hl, hm with
  | [], hl, _ => simp at hl; lia
  | [a], _, hm => exact List.map_inj_left.mp (bindd_1 P a) e hm
  | [a, b], _, hm => exact List.map_inj_left.mp (bindd_2 P a b) e hm
  | [a, b, c], _, hm => exact List.map_inj_left.mp (bindd_3 P a b c) e hm
  | [a, b, c, d], _, hm => exact List.map_inj_left.mp (bindd_4 P a b c d) e hm
  | [a, b, c, d, f], _, hm => exact List.map_inj_left.mp (bindd_5 P a b c d f) e hm
  | [a, b, c, d, f, g], _, hm => exact List.map_inj_left.mp (bindd_6 P a b c d f g) e hm
  | _ :: _ :: _ :: _ :: _ :: _ :: _ :: _, hl, _ => simp at hl; lia
noncomputable def refA : Value -> Option Nat
  | .ref t => some t
  | _ => none
noncomputable def t0L (P : Params) : List Nat := fnLd.flatMap fun e => (dvals P e).filterMap refA
theorem t0_all (P : Params) : (t0L P).map (fun t => (hl P)[t]?) = (t0L P).map fun _ => some (tupObj [] 0) := by kernel_rfl
theorem isT0_ok {P : Params} {a : Nat} (h : (t0L P).contains a = true) : (hl P)[a]? = some (tupObj [] 0) := List.map_inj_left.mp (t0_all P) a (List.contains_iff_mem.mp h)
noncomputable def dEq1 (P : Params) (a : SV) (v : Value) : Bool := match a with
  | .int i => (match v with
    | .int j _ => i == j
    | _ => false)
  | .str x => (match v with
    | .str y _ => x == y
    | _ => false)
  | .bool b => (match v with
    | .bool c => b == c
    | _ => false)
  | .tup xs => (match xs with
    | [] => (match v with
      | .ref t => (t0L P).contains t
      | _ => false)
    | _ :: _ => false)
  | _ => false
noncomputable def dEq (P : Params) : List SV -> List Value -> Bool
  | [], [] => true
  | a :: as, v :: vs => dEq1 P a v && dEq P as vs
  | _, _ => false
theorem d_eq (P : Params) : fnLd.all (fun e => dEq P e.df (dvals P e)) = true := by kernel_rfl
theorem dEq1_rel {P : Params} {h : Heap} {ρ : Rho} {H : AHeap} (k : ∀ i o, (hl P)[i]? = some o -> h.get? i = some o) {a : SV} {v : Value} (e : dEq1 P a v = true) : VR h ρ H a.av v := by
  cases a with
  | int i => cases v with
    | int j t => rw [eq_of_beq e]; exact .int _ _
    | _ => exact Bool.noConfusion e
  | str i => cases v with
    | str j t => rw [eq_of_beq e]; exact .str _ _
    | _ => exact Bool.noConfusion e
  | bool i => cases v with
    | bool j => rw [eq_of_beq e]; exact .bool _
    | _ => exact Bool.noConfusion e
  | tup xs => cases xs with
    | nil => cases v with
      | ref t => exact .tup [] _ [] 0 (k _ _ (isT0_ok e)) .nil
      | _ => exact Bool.noConfusion e
    | cons _ _ => exact Bool.noConfusion e
  | _ => exact Bool.noConfusion e
theorem dEq_rel {P : Params} {h : Heap} {ρ : Rho} {H : AHeap} (k : ∀ i o, (hl P)[i]? = some o -> h.get? i = some o) {as : List SV} : ∀ {vs : List Value}, dEq P as vs = true -> VRs h ρ H (avs as) vs := by
  induction as with
  | nil =>
    intro vs e
    cases vs with
    | nil => exact .nil
    | cons _ _ => exact Bool.noConfusion e
  | cons a as ih =>
    intro vs e
    cases vs with
    | nil => exact Bool.noConfusion e
    | cons v vs =>
      obtain ⟨e1, e2⟩ := Bool.and_eq_true_iff.mp e
      exact .cons (dEq1_rel k e1) (ih e2)
theorem fn_bind {w : World} {hB : Heap} (b : Base w hB) {e : FnE} (h : e ∈ fnL) {s : Shared} {ρ : Rho} {H : AHeap} (k : ∀ b o, hB.get? b = some o -> s.heap.get? b = some o) {as : List AV} {vals : List Value} (hl' : vals.length = e.na) (r : VRs s.heap ρ H as vals) :
    ∃ bv, BindsTo s (fdE e) ⟨vals, []⟩ ((argNames e.st).zip bv) /\ VRs s.heap ρ H (as ++ avs e.df) bv := by
  rcases List.mem_append.mp h with h | h
  · obtain ⟨h1, h2⟩ := bind0_ok h hl'
    exact ⟨vals, BindsTo.of_eq h1, by rw [h2]; simpa [avs] using r⟩
  · have h1 := bindd_ok w.params h hl'
    have h2 := List.map_inj_left.mp d_ref e h
    have h3 := List.map_inj_left.mp (d_tup w.params) e h
    have hall : ∀ i o, (hl w.params)[i]? = some o -> s.heap.get? i = some o := fun i o e => k _ _ (b i o e)
    obtain ⟨o, ho, hd⟩ := Option.map_eq_some_iff.mp h3
    have hdf : (fdE e).defaults = .ref (dTup e) := by
      show (fdOf e.st (Str.ofString e.q) 3 e.dV e.md (R e.code)).defaults = _
      have hs : isDef e.st = true := by
        have := (Bool.and_eq_true_iff.mp (List.all_eq_true.mp fn_scope e (List.mem_append_right _ h))).1
        have := (Bool.and_eq_true_iff.mp (Bool.and_eq_true_iff.mp this).1).1
        exact (Bool.and_eq_true_iff.mp (Bool.and_eq_true_iff.mp this).1).1
      generalize e.st = st at hs ⊢
      cases st with
      | FunctionDef => exact h2
      | _ => exact Bool.noConfusion hs
    refine ⟨vals ++ dvals w.params e, BindsTo.of_defaults hdf (hall _ _ ho) hd (bindK (fdE e) vals).2 h1, r.append (dEq_rel hall (List.all_eq_true.mp (d_eq w.params) e h))⟩
theorem avs_append : ∀ (xs ys : List SV), avs (xs ++ ys) = avs xs ++ avs ys
  | [], ys => rfl
  | x :: xs, ys => by show x.av :: avs (xs ++ ys) = _; rw [avs_append xs ys]; rfl
theorem avs_map : ∀ (xs : List SV), avs xs = xs.map SV.av
  | [] => rfl
  | x :: xs => by show x.av :: avs xs = _; rw [avs_map xs]; rfl
theorem avs_len (xs : List SV) : (avs xs).length = xs.length := by rw [avs_map, List.length_map]
theorem avs_get {xs : List SV} {k : Nat} {a : SV} (h : xs[k]? = some a) : (avs xs)[k]? = some a.av := by rw [avs_map, List.getElem?_map, h]; rfl
theorem lookup_putA {o i : Oid} {x : SO} : ∀ {l : List (Oid × SO)}, (putA o x l).lookup i = if i = o then some x else l.lookup i
  | [] => by
    show List.lookup i [(o, x)] = _
    rw [List.lookup_cons]
    by_cases q : i = o
    · subst q; simp
    · have : (i == o) = false := by simpa using q
      rw [this, if_neg q]
  | p :: r => by
    unfold putA
    by_cases q : p.1 = o
    · rw [if_pos q, List.lookup_cons]
      by_cases q' : i = o
      · subst q'; rw [if_pos rfl]; have : (i == p.1) = true := by rw [q]; simp
        simp only [this]
      · have : (i == p.1) = false := by rw [q]; simpa using q'
        obtain ⟨p1, p2⟩ := p
        simp only [this, if_neg q']
        rw [List.lookup_cons]
        simp only at this
        rw [this]
    · rw [if_neg q]
      obtain ⟨p1, p2⟩ := p
      rw [List.lookup_cons, List.lookup_cons, lookup_putA]
      by_cases q' : i = p1
      · subst q'; simp only at q; rw [if_neg q]; simp [q]
      · have : (i == p1) = false := by simpa using q'
        rw [this]
theorem fits_cases {P : Fix -> SO -> Prop} (h0 : ∀ l, P .items (.il l)) (h1 : ∀ l, P .marks (.il l)) (h2 : ∀ l, P .parents (.il l)) (h3 : ∀ l, P .kinds (.sl l)) (h4 : ∀ l, P .spaces (.sl l)) (h5 : ∀ l, P .names (.sl l)) (h6 : ∀ l, P .texts (.sl l)) (h7 : ∀ l, P .attrs (.ar l)) (h8 : ∀ l, P .children (.kr l)) (h9 : ∀ l, P .contents (.ndict l)) (h10 : ∀ l, P .errors (.list l)) {k : Fix} {x : SO} (f : fits k x = true) : P k x := by
  cases k <;> first | exact Bool.noConfusion f | (cases x <;> first | exact Bool.noConfusion f | exact h0 _ | exact h1 _ | exact h2 _ | exact h3 _ | exact h4 _ | exact h5 _ | exact h6 _ | exact h7 _ | exact h8 _ | exact h9 _ | exact h10 _)
theorem St_get_put {S : St} {k j : Fix} {x : SO} (f : fits k x = true) : (S.put k x).get j = if j = k then x else S.get j := by
  refine fits_cases (P := fun k x => (S.put k x).get j = if j = k then x else S.get j) (fun l => ?_) (fun l => ?_) (fun l => ?_) (fun l => ?_) (fun l => ?_) (fun l => ?_) (fun l => ?_) (fun l => ?_) (fun l => ?_) (fun l => ?_) (fun l => ?_) f <;> cases j <;> rfl
theorem get_put {h : HS} {o i : Oid} {x : SO} (ho : canPut h o x = true) : (h.put o x).get i = if i = o then some x else h.get i := by
  obtain ⟨st, al, kids, atts, cops, ab⟩ := h
  cases o with
  | s k =>
    cases st with
    | none =>
      cases i with
      | s j => exact lookup_putA
      | t j => show List.lookup _ (putA _ _ _) = _; exact lookup_putA
      | _ => rfl
    | some S =>
      cases i with
      | s j =>
        show some ((S.put k x).get j) = _
        rw [St_get_put ho]
        by_cases q : j = k
        · subst q; rw [if_pos rfl, if_pos rfl]
        · rw [if_neg q, if_neg fun e => q (Oid.s.inj e)]; rfl
      | _ => rfl
  | t k =>
    cases i with
    | s j => cases st with
      | none => exact lookup_putA
      | some S => rfl
    | t j => exact lookup_putA
    | _ => rfl
  | ab =>
    cases x with
    | il l => cases i <;> rfl
    | _ => exact Bool.noConfusion ho
  | _ => exact Bool.noConfusion ho
theorem mkH_put {h : HS} {o : Oid} {x : SO} (ho : canPut h o x = true) : mkH (h.put o x) = upd (mkH h) o x.ao := by
  funext i
  unfold mkH upd
  rw [get_put ho]
  by_cases q : i = o
  · rw [if_pos q, if_pos q]; rfl
  · rw [if_neg q, if_neg q]
theorem get_newKid {h : HS} {l : List Int} {i : Oid} : (h.newKid l).get i = if i = .kid h.kids.length then some (.il l) else h.get i := by
  cases i with
  | s k => rfl
  | t k => rfl
  | kid k =>
    show ((h.kids ++ [l])[k]?).map SO.il = _
    by_cases q : k = h.kids.length
    · subst q; rw [if_pos rfl]; simp
    · rw [if_neg (by intro e; cases e; exact q rfl)]
      show _ = (h.kids[k]?).map SO.il
      by_cases q' : k < h.kids.length
      · rw [List.getElem?_append_left q']
      · rw [List.getElem?_eq_none (by simp; lia), List.getElem?_eq_none (by lia)]
  | att k => rfl
  | c k => rfl
  | ab => rfl
  | m k => rfl
theorem get_newAtt {h : HS} {l : List SV} {i : Oid} : (h.newAtt l).get i = if i = .att h.atts.length then some (.list l) else h.get i := by
  cases i with
  | s k => rfl
  | t k => rfl
  | kid k => rfl
  | c k => rfl
  | ab => rfl
  | m k => rfl
  | att k =>
    show ((h.atts ++ [l])[k]?).map SO.list = _
    by_cases q : k = h.atts.length
    · subst q; rw [if_pos rfl]; simp
    · rw [if_neg (by intro e; cases e; exact q rfl)]
      show _ = (h.atts[k]?).map SO.list
      by_cases q' : k < h.atts.length
      · rw [List.getElem?_append_left q']
      · rw [List.getElem?_eq_none (by simp; lia), List.getElem?_eq_none (by lia)]
theorem get_newM {h : HS} {x : SO} {i : Oid} : (h.newM x).get i = if i = .m h.tm.length then some x else h.get i := by
  cases i with
  | s k => rfl
  | t k => rfl
  | kid k => rfl
  | att k => rfl
  | c k => rfl
  | ab => rfl
  | m k =>
    show (h.tm ++ [x])[k]? = _
    by_cases q : k = h.tm.length
    · subst q; rw [if_pos rfl]; simp
    · rw [if_neg (by intro e; cases e; exact q rfl)]
      show _ = h.tm[k]?
      by_cases q' : k < h.tm.length
      · rw [List.getElem?_append_left q']
      · rw [List.getElem?_eq_none (by simp; lia), List.getElem?_eq_none (by lia)]
theorem mkH_get {h h' : HS} {o : Oid} {x : SO} (e : ∀ i, h'.get i = if i = o then some x else h.get i) : mkH h' = upd (mkH h) o x.ao := by
  funext i
  unfold mkH upd
  rw [e]
  by_cases q : i = o
  · rw [if_pos q, if_pos q]; rfl
  · rw [if_neg q, if_neg q]
noncomputable def SOK (x : SO) : Prop := (∀ l, x.lst = some l -> l.length <= 1000000) /\ (∀ es, x = .ndict es -> es.length <= 1000000)
theorem small_get {h h' : HS} {o : Oid} {x : SO} (s : Small h) (k : SOK x) (e : ∀ i, h'.get i = if i = o then some x else h.get i) : Small h' := fun i y hy => by
  rw [e] at hy
  by_cases q : i = o
  · rw [if_pos q] at hy; cases hy; exact k
  · rw [if_neg q] at hy; exact s i y hy
theorem small_put {h : HS} {o : Oid} {x : SO} (s : Small h) (ho : canPut h o x = true) (k : SOK x) : Small (h.put o x) := small_get s k fun i => get_put ho
theorem sok_fields {es} : SOK (.fields es) := ⟨fun l h => (by cases h), fun _ h => (by cases h)⟩
theorem sok_sdict {es} : SOK (.sdict es) := ⟨fun l h => (by cases h), fun _ h => (by cases h)⟩
theorem sok_inst {c d} : SOK (.inst c d) := ⟨fun l h => (by cases h), fun _ h => (by cases h)⟩
theorem sok_list {xs : List SV} (h : xs.length <= 1000000) : SOK (.list xs) := ⟨fun l e => (by cases e; rw [avs_len]; exact h), fun _ h => (by cases h)⟩
theorem sok_il {l : List Int} (h : l.length <= 1000000) : SOK (.il l) := ⟨fun l e => (by cases e; rw [List.length_map]; exact h), fun _ h => (by cases h)⟩
theorem sok_sl {l : List Str} (h : l.length <= 1000000) : SOK (.sl l) := ⟨fun l e => (by cases e; rw [List.length_map]; exact h), fun _ h => (by cases h)⟩
theorem sok_kr {n : Nat} (h : n <= 1000000) : SOK (.kr n) := ⟨fun l e => (by cases e; rw [List.length_map, List.length_range]; exact h), fun _ h => (by cases h)⟩
theorem sok_ar {n : Nat} (h : n <= 1000000) : SOK (.ar n) := ⟨fun l e => (by cases e; rw [List.length_map, List.length_range]; exact h), fun _ h => (by cases h)⟩
theorem sok_ndict {es : List (Int × Int)} (h : es.length <= 1000000) : SOK (.ndict es) := ⟨fun l h => (by cases h), fun _ e => (by cases e; exact h)⟩
theorem mkH_some {h : HS} {o : Oid} {x : SO} (e : h.get o = some x) : mkH h o = some x.ao := by unfold mkH; rw [e]; rfl
theorem mkH_none {h : HS} {o : Oid} (e : isNone' (h.get o) = true) : mkH h o = none := by
  unfold mkH
  cases q : h.get o with
  | none => rfl
  | some x => rw [q] at e; cases e
theorem lst_ao {x : SO} {l : List AV} (e : x.lst = some l) : x.ao = .list l := by cases x <;> cases e <;> rfl
theorem vsf_cons (l : SVS) (x : Str) (a : SV) : vsf ((x, a) :: l) = updV (vsf l) x a.av := by
  funext y
  unfold vsf updV
  rw [List.lookup_cons]
  by_cases q : y = x
  · subst q; simp
  · have : (y == x) = false := by simpa using q
    rw [this, if_neg q]
theorem vsf_some {l : SVS} {x : Str} {a : SV} (e : l.lookup x = some a) : vsf l x = some a.av := by unfold vsf; rw [e]; rfl
theorem lookup_mapA {K : Type} [BEq K] {α β : Type} {f : α -> β} {x : K} : ∀ {l : List (K × α)}, (l.map fun p => (p.1, f p.2)).lookup x = (l.lookup x).map f
  | [] => rfl
  | p :: r => by
    obtain ⟨y, a⟩ := p
    rw [List.map_cons, List.lookup_cons, List.lookup_cons]
    cases q : x == y with
    | true => rfl
    | false => exact lookup_mapA
theorem strOf_av {a : SV} {k : Bool} {x : Str} (e : strOf a = some (k, x)) : a.av = .str x := by cases a <;> cases e <;> rfl
theorem intOf_av {a : SV} {k : Bool} {x : Int} (e : intOf a = some (k, x)) : a.av = .int x := by cases a <;> cases e <;> rfl
theorem mkB_av {k c : Bool} : (mkB k c).av = .bool c := by cases k <;> rfl
theorem mkI_av {k : Bool} {c : Int} : (mkI k c).av = .int c := by cases k <;> rfl
theorem mkS_av {k : Bool} {c : Str} : (mkS k c).av = .str c := by cases k <;> rfl
theorem strC_ok {a : SV} {x : Str} (e : strC a = some x) : a = .str x := by
  cases a with
  | str s => rw [Option.some.inj e]
  | _ => exact no_some e
theorem strsOf_sl {xs : List SV} : ∀ {l : List Str}, strsOf xs = some l -> SL (avs xs) l := by
  induction xs with
  | nil => intro l e; rw [<- Option.some.inj e]; exact .nil
  | cons x r ih =>
    intro l e
    obtain ⟨s, hs, e⟩ := Option.bind_eq_some_iff.mp e
    obtain ⟨l', hl, rfl⟩ := Option.map_eq_some_iff.mp e
    rw [strC_ok hs]
    exact .cons (ih hl)
mutual
theorem datOf_dr {H : AHeap} : ∀ {a : SV} {d : PyData}, datOf a = some d -> DR H a.av d
  | .none, d, e => Option.some.inj e ▸ .none
  | .bool b, d, e => Option.some.inj e ▸ .bool b
  | .int b, d, e => Option.some.inj e ▸ .int b
  | .str b, d, e => Option.some.inj e ▸ .str b
  | .tup xs, d, e => by
    obtain ⟨ds, h, rfl⟩ := Option.map_eq_some_iff.mp e
    exact .tup (datsOf_dr h)
  | .sb _, d, e => no_some e
  | .si _, d, e => no_some e
  | .ss _, d, e => no_some e
  | .ref _, d, e => no_some e
  | .rng _ _ _, d, e => no_some e
  | .val _, d, e => no_some e
theorem datsOf_dr {H : AHeap} : ∀ {a : List SV} {d : List PyData}, datsOf a = some d -> DRs H (avs a) d
  | [], d, e => Option.some.inj e ▸ .nil
  | x :: xs, d, e => by
    obtain ⟨y, h, e⟩ := Option.bind_eq_some_iff.mp e
    obtain ⟨ys, h', rfl⟩ := Option.map_eq_some_iff.mp e
    exact .cons (datOf_dr h) (datsOf_dr h')
end
theorem noneS_av {a : SV} {c : Bool} (e : noneS a = some c) : a.av.noneTest = some c := by cases a <;> first | exact e | cases e
section
variable {w : World} {hB : Heap} {n : Nat} {h : HS}
noncomputable abbrev TruG (w : World) (hB : Heap) (n : Nat) (h : HS) (a : AV) (k : Bool -> Prop) : Prop := Tru w hB n a (mkH h) fun c H => H = mkH h /\ k c
theorem tru_il (s : Small h) {o : Oid} {l : List Int} (ho : h.get o = some (.il l)) {k : Bool -> Prop} (e : (l = [] -> k false) /\ (l ≠ [] -> k true)) : TruG w hB n h (.ref o) k := by
  cases l with
  | nil => exact tr_list (mkH_some ho) (Nat.zero_le _) ⟨rfl, e.1 rfl⟩
  | cons x xs => exact tr_list (mkH_some ho) ((s _ _ ho).1 _ rfl) ⟨rfl, e.2 (List.cons_ne_nil _ _)⟩
theorem truY_ok (s : Small h) {o : Oid} {k : Bool -> Prop} (e : match h.get o with | some y => truY y k | none => False) : TruG w hB n h (.ref o) k := by
  cases ho : h.get o with
  | none => rw [ho] at e; exact e.elim
  | some y =>
    rw [ho] at e
    cases y with
    | list xs => cases xs with
      | nil => exact tr_list (mkH_some ho) (Nat.zero_le _) ⟨rfl, e⟩
      | cons x xs => exact tr_list (mkH_some ho) ((s o _ ho).1 _ rfl) ⟨rfl, e⟩
    | il l => exact tru_il s ho e
    | _ => exact e.elim
theorem truS_ok {a : SV} {k : Bool -> Prop} (s : Small h) (e : truS a h k) : TruG w hB n h a.av k := by
  cases a with
  | bool b => exact tr_bool ⟨rfl, e⟩
  | sb c => cases c with
    | true => exact tr_bool ⟨rfl, e.1 rfl⟩
    | false => exact tr_bool ⟨rfl, e.2 rfl⟩
  | ref o =>
    cases o with
    | kid j =>
      obtain ⟨l, e1, e2⟩ := e
      exact tru_il s (by show (h.kids[j]?).map SO.il = _; rw [e1]; rfl) e2
    | _ => exact truY_ok s e
  | _ => exact e.elim
noncomputable abbrev CmpG (w : World) (hB : Heap) (n : Nat) (h : HS) (op : CmpOp) (a b : AV) (c : SV) : Prop := Cmp w hB n op a b (mkH h) fun v H => v = c.av /\ H = mkH h
theorem eqD_inv {neg : Bool} {a b c : SV} (e : eqD neg a b = some c) : ∃ x y, datOf a = some x /\ datOf b = some y /\ (x.canLay0 = true /\ y.canLay0 = true /\ x.depth <= 64) /\ c = .bool (negB neg (PyData.eqv x y)) := by
  unfold eqD at e
  cases q : both (datOf a) (datOf b) with
  | none => rw [q] at e; exact no_some e
  | some p =>
    rw [q] at e
    dsimp only at e
    cases z : datOK p.1 && datOK p.2 with
    | false => rw [z] at e; exact no_some e
    | true =>
      rw [z] at e
      obtain ⟨z1, z2⟩ := Bool.and_eq_true_iff.mp z
      obtain ⟨z1, z3⟩ := Bool.and_eq_true_iff.mp z1
      exact ⟨p.1, p.2, (both_some q).1, (both_some q).2, ⟨z1, (Bool.and_eq_true_iff.mp z2).1, Nat.le_trans (Nat.le_of_ble_eq_true z3) (by decide)⟩, (Option.some.inj e).symm⟩
theorem eq_ok {a b c : SV} (e : eqS false a b = some c) : CmpG w hB n h .Eq a.av b.av c := by
  unfold eqS at e
  cases q : both (strOf a) (strOf b) with
  | some p =>
    rw [q] at e
    rw [strOf_av (both_some q).1, strOf_av (both_some q).2, <- Option.some.inj e]
    exact c_eq_str ⟨mkB_av.symm, rfl⟩
  | none =>
    rw [q] at e
    dsimp only at e
    cases q : both (intOf a) (intOf b) with
    | some p =>
      rw [q] at e
      rw [intOf_av (both_some q).1, intOf_av (both_some q).2, <- Option.some.inj e]
      exact c_eq_int ⟨mkB_av.symm, rfl⟩
    | none =>
      rw [q] at e
      obtain ⟨x, y, hx, hy, ⟨z1, z2, z3⟩, rfl⟩ := eqD_inv e
      exact c_eq_data (datOf_dr hx) (datOf_dr hy) z1 z2 z3 ⟨rfl, rfl⟩
theorem ne_ok {a b c : SV} (e : eqS true a b = some c) : CmpG w hB n h .NotEq a.av b.av c := by
  unfold eqS at e
  cases q : both (strOf a) (strOf b) with
  | some p =>
    rw [q] at e
    rw [strOf_av (both_some q).1, strOf_av (both_some q).2, <- Option.some.inj e]
    exact c_ne_str ⟨mkB_av.symm, rfl⟩
  | none =>
    rw [q] at e
    dsimp only at e
    cases q : both (intOf a) (intOf b) with
    | some p =>
      rw [q] at e
      rw [intOf_av (both_some q).1, intOf_av (both_some q).2, <- Option.some.inj e]
      exact c_ne_int ⟨mkB_av.symm, rfl⟩
    | none =>
      rw [q] at e
      obtain ⟨x, y, hx, hy, ⟨z1, z2, z3⟩, rfl⟩ := eqD_inv e
      exact c_ne_data (datOf_dr hx) (datOf_dr hy) z1 z2 z3 ⟨rfl, rfl⟩
theorem inY_ok (hsys : sysModules < hB.objs.size) {a : SV} {o : Oid} {y : SO} (ho : h.get o = some y) {p : Bool × Bool} (hc : inY a y = some p) : CmpG w hB n h .In a.av (.ref o) (mkB p.1 p.2) := by
  cases y with
  | il l =>
    obtain ⟨q, ha, rfl⟩ := Option.map_eq_some_iff.mp hc
    rw [intOf_av ha]
    exact c_in_ints (mkH_some ho) ⟨mkB_av.symm, rfl⟩
  | sdict es =>
    cases a with
    | str s =>
      rw [<- Option.some.inj hc]
      refine c_in_sdict hsys (mkH_some ho) ⟨?_, rfl⟩
      rw [mkB_av, lookup_mapA, Option.isSome_map]
      cases List.lookup _ es <;> rfl
    | _ => exact no_some hc
  | ndict es =>
    obtain ⟨q, ha, rfl⟩ := Option.map_eq_some_iff.mp hc
    rw [intOf_av ha]
    refine c_in_ndict hsys (mkH_some ho) ⟨?_, rfl⟩
    rw [mkB_av, lookup_mapA (f := AV.int), Option.isSome_map]
  | _ => exact no_some hc
theorem in_ok (hsys : sysModules < hB.objs.size) {a b : SV} {p : Bool × Bool} (hc : inS a b h = some p) : CmpG w hB n h .In a.av b.av (mkB p.1 p.2) := by
  cases b with
  | tup xs =>
    have hc : inT a xs = some p := hc
    unfold inT at hc
    cases q : both (strOf a) (strsOf xs) with
    | some r =>
      rw [q] at hc
      rw [strOf_av (both_some q).1, <- Option.some.inj hc]
      exact c_in_strs (strsOf_sl (both_some q).2) ⟨mkB_av.symm, rfl⟩
    | none =>
      rw [q] at hc
      dsimp only at hc
      cases q : both (datOf a) (datsOf xs) with
      | none => rw [q] at hc; exact no_some hc
      | some r =>
        rw [q] at hc
        dsimp only at hc
        cases z : datOK r.1 && PyData.canLayAll0 r.2 with
        | false => rw [z] at hc; exact no_some hc
        | true =>
          rw [z] at hc
          obtain ⟨z1, z2⟩ := Bool.and_eq_true_iff.mp z
          obtain ⟨z1, z3⟩ := Bool.and_eq_true_iff.mp z1
          rw [<- Option.some.inj hc]
          exact c_in_data (datOf_dr (both_some q).1) (datsOf_dr (both_some q).2) z1 z2 (Nat.le_of_ble_eq_true z3) ⟨mkB_av.symm, rfl⟩
  | ref o =>
    obtain ⟨y, ho, hc⟩ := Option.bind_eq_some_iff.mp hc
    exact inY_ok hsys ho hc
  | _ => exact no_some hc
theorem nin_ok (hsys : sysModules < hB.objs.size) {a b : SV} {p : Bool × Bool} (hc : ninS a b h = some p) : CmpG w hB n h .NotIn a.av b.av (mkB p.1 p.2) := by
  cases b with
  | tup xs =>
    obtain ⟨q, hq, rfl⟩ := Option.map_eq_some_iff.mp hc
    rw [strOf_av (both_some hq).1]
    exact c_notin_strs (strsOf_sl (both_some hq).2) ⟨mkB_av.symm, rfl⟩
  | ref o =>
    obtain ⟨y, ho, hc⟩ := Option.bind_eq_some_iff.mp hc
    cases y with
    | sdict es =>
      cases a with
      | str s =>
        rw [<- Option.some.inj hc]
        refine c_notin_sdict hsys (mkH_some ho) ⟨?_, rfl⟩
        rw [mkB_av, lookup_mapA, Option.isSome_map]
        cases List.lookup _ es <;> rfl
      | _ => exact no_some hc
    | _ => exact no_some hc
  | _ => exact no_some hc
theorem isNn_ok {b : SV} (e : isNn b = true) : b = .none := by
  cases b with
  | none => rfl
  | _ => exact Bool.noConfusion e
theorem cmpS_ok (hsys : sysModules < hB.objs.size) {op : CmpOp} {a b c : SV} (e : cmpS op a b h = some c) : CmpG w hB n h op a.av b.av c := by
  cases op with
  | Eq => exact eq_ok e
  | NotEq => exact ne_ok e
  | Lt =>
    obtain ⟨p, q, rfl⟩ := Option.map_eq_some_iff.mp e
    rw [intOf_av (both_some q).1, intOf_av (both_some q).2]
    exact c_lt_int ⟨mkB_av.symm, rfl⟩
  | Gt =>
    obtain ⟨p, q, rfl⟩ := Option.map_eq_some_iff.mp e
    rw [intOf_av (both_some q).1, intOf_av (both_some q).2]
    exact c_gt_int ⟨mkB_av.symm, rfl⟩
  | In =>
    obtain ⟨p, q, rfl⟩ := Option.map_eq_some_iff.mp e
    exact in_ok hsys q
  | NotIn =>
    obtain ⟨p, q, rfl⟩ := Option.map_eq_some_iff.mp e
    exact nin_ok hsys q
  | IsNot =>
    unfold cmpS at e
    dsimp only at e
    cases hb : isNn b with
    | false => rw [hb] at e; exact no_some e
    | true =>
      rw [hb] at e
      obtain ⟨p, q, rfl⟩ := Option.map_eq_some_iff.mp e
      rw [isNn_ok hb]
      exact c_isnot_none (noneS_av q) ⟨rfl, rfl⟩
  | _ => exact no_some e
theorem strs_dat (H : AHeap) : ∀ l : List Str, DRs H (l.map .str) (l.map .str)
  | [] => .nil
  | _ :: l => .cons (.str _) (strs_dat H l)
theorem strs_lay : ∀ l : List Str, l.all PyData.strOk = true -> PyData.canLayAll0 (l.map PyData.str) = true
  | [], _ => rfl
  | x :: l, h => by
    rw [List.all_cons, Bool.and_eq_true] at h
    show (PyData.canLay0 (.str x) && PyData.canLayAll0 (l.map PyData.str)) = true
    rw [strs_lay l h.2, Bool.and_true, PyData.canLay0]; exact h.1
theorem strs_depthAll : ∀ l : List Str, PyData.depthAll (l.map PyData.str) <= 1
  | [] => by rw [List.map_nil, PyData.depthAll]; exact Nat.zero_le _
  | x :: l => by rw [List.map_cons, PyData.depthAll, PyData.depth]; have := strs_depthAll l; lia
theorem strs_depth (l : List Str) : (PyData.list (l.map PyData.str)).depth <= 3 := by
  rw [PyData.depth]; have := strs_depthAll l; lia
theorem slS_ok {y : SO} {l : List Str} (e : slS y = some l) : y = .sl l := by
  cases y with
  | sl l' => rw [Option.some.inj e]
  | _ => exact no_some e
theorem nilS_ok {y : SO} {l : Unit} (e : nilS y = some l) : y = .list [] := by
  cases y with
  | list l' => cases l' with
    | nil => rfl
    | cons _ _ => exact no_some e
  | _ => exact no_some e
theorem neL_ok {op : CmpOp} {a b : SV} {k : SV -> Prop} (e : neL op a b h k) : Cmp w hB n op a.av b.av (mkH h) fun v H => H = mkH h /\ ∃ c, v = SV.av c /\ k c := by
  cases op with
  | Eq =>
    obtain ⟨da, db, d1, d2, ⟨e1, e2, e3⟩, e4⟩ := e
    exact c_eq_data d1 d2 e1 e2 e3 ⟨rfl, _, rfl, e4⟩
  | NotEq =>
    obtain ⟨o, ho, e⟩ := gR_inv e
    obtain ⟨o', ho', e⟩ := gR_inv e
    rw [ho, ho']
    cases q : both ((h.get o).bind slS) ((h.get o').bind nilS) with
    | some p =>
      rw [q] at e
      obtain ⟨⟨e1, e0⟩, e2⟩ := e
      obtain ⟨y, hl, hy⟩ := Option.bind_eq_some_iff.mp (both_some q).1
      obtain ⟨z, hr, hz⟩ := Option.bind_eq_some_iff.mp (both_some q).2
      rw [slS_ok hy] at hl; rw [nilS_ok hz] at hr
      have d1 : DR (mkH h) (.ref o) (.list (p.1.map .str)) := .list (mkH_some hl) (strs_dat _ p.1)
      have d2 : DR (mkH h) (.ref o') (.list []) := .list (mkH_some hr) .nil
      refine c_ne_data d1 d2 (strs_lay p.1 e1) rfl (Nat.le_trans (strs_depth p.1) (by decide)) ⟨rfl, .sb (!p.1.isEmpty), ?_, e2⟩
      show AV.bool _ = AV.bool _
      congr 2
      rw [PyData.eqv]
      cases p.1 with
      | nil => rw [List.map_nil, PyData.eqvAll]; rfl
      | cons x r => rw [List.map_cons, PyData.eqvAll]; rfl
    | none =>
      rw [q] at e
      obtain ⟨da, db, d1, d2, ⟨e1, e2, e3⟩, e4⟩ := e
      exact c_ne_data d1 d2 e1 e2 e3 ⟨rfl, _, rfl, e4⟩
  | _ => exact e.elim
end
noncomputable def HQ (Q : SV -> HS -> Prop) : AV -> AHeap -> Prop := fun a H => ∃ b hs, a = b.av /\ H = mkH hs /\ Small hs /\ Q b hs
theorem lim_ok {n : Nat} (h : lim n) : n <= 1000000 := h
section
variable {w : World} {hB : Heap} {n : Nat} {h : HS}
theorem lookN_mem {α : Type} {k : Nat} {a : α} : ∀ {l : List (Nat × α)}, lookN k l = some a -> (k, a) ∈ l
  | p :: r, e => by
    unfold lookN at e
    cases q : Nat.beq p.1 k with
    | true =>
      rw [q] at e
      cases e
      have := Nat.eq_of_beq_eq_true q
      obtain ⟨p1, p2⟩ := p
      simp only at this
      subst this
      exact .head _
    | false => rw [q] at e; exact .tail _ (lookN_mem e)
theorem notVal_ok {v : SV} (e : notVal v = true) : v.av.handed = true := by
  cases v with
  | val _ => exact Bool.noConfusion e
  | _ => rfl
theorem gInst_inv {o : Oid} {K : Addr -> Oid -> List (Str × SV) -> Prop} (e : gInst h o K) : ∃ c d fs, h.get o = some (.inst c d) /\ h.get d = some (.fields fs) /\ K c d fs := by
  obtain ⟨x, ho, e⟩ := gO_inv e
  cases x with
  | inst c d =>
    obtain ⟨y, hd, e⟩ := gO_inv e
    cases y with
    | fields fs => exact ⟨c, d, fs, ho, hd, e⟩
    | _ => exact e.elim
  | _ => exact e.elim
theorem attrS_ok {a : SV} {x : Str} {k : SV -> Prop} {P : AV -> Prop} (e : attrS a x h k) (hq : ∀ v, k v -> P v.av) : AttrP w x a.av (mkH h) P := by
  obtain ⟨o, rfl, e⟩ := gR_inv e
  obtain ⟨c, d, fs, ho, hd, e⟩ := gInst_inv e
  obtain ⟨v, hv, e⟩ := gP_inv e
  obtain ⟨l, hl, e⟩ := gP_inv e
  obtain ⟨e0, e⟩ := chk_ok e
  obtain ⟨e1, e2⟩ := chk_ok e
  have hm := lookN_mem hl
  have := List.all_eq_true.mp (attr_ok w.params) _ hm
  have := List.all_eq_true.mp this x (List.contains_iff_mem.mp e1)
  simp only [attrOK, Bool.and_eq_true] at this
  obtain ⟨⟨⟨h1, h2⟩, h3⟩, h4⟩ := this
  cases hf : findIn (Kf w.params) (.ref c) x with
  | none => rw [hf] at h3; exact Bool.noConfusion h3
  | some attr =>
    rw [hf] at h3
    exact ⟨o, c, d, _, v.av, attr, rfl, mkH_some ho, mkH_some hd, by rw [lookup_mapA, hv]; rfl, notVal_ok e0, h1, h2, hf, h3, hq v e2⟩
theorem putFS_av {x : Str} {v : SV} : ∀ {fs : List (Str × SV)}, (putFS x v fs).map (fun p => (p.1, p.2.av)) = putF x v.av (fs.map fun p => (p.1, p.2.av))
  | [] => rfl
  | p :: r => by
    unfold putFS putF
    rw [List.map_cons]
    by_cases q : p.1 = x
    · simp only [q, if_true]; rfl
    · simp only [q, if_false, List.map_cons]; rw [putFS_av]
theorem attr_all {w : World} {c : Nat} {l : List Str} {x : Str} (hl : lookN c attrL = some l) (e1 : l.contains x = true) : findIn (Kf w.params) (.ref c) "__setattr__" = some (some (.builtin "object.__setattr__")) /\ plainOver (Kf w.params) c = true /\ takerIn (Kf w.params) c x = some none /\ hasDictIn (Kf w.params) c = true := by
  have hm := lookN_mem hl
  have h0 := List.all_eq_true.mp (attr_ok w.params) _ hm
  have h0 := List.all_eq_true.mp h0 x (by simpa using e1)
  simp only [attrOK, Bool.and_eq_true, beq_iff_eq] at h0
  have h5 := List.all_eq_true.mp (attr_set w.params) _ hm
  simp only [Bool.and_eq_true, beq_iff_eq] at h5
  exact ⟨h5.1.1, h5.1.2, h0.2, h5.2⟩
theorem put_mode (m m' : Str) (a : Bool) : putFS "mode" (.str m') (bldFs m a) = bldFs m' a := by kernel_rfl
theorem put_ack (m : Str) (a a' : Bool) : putFS "is_acknowledged" (.bool a') (bldFs m a) = bldFs m a' := by kernel_rfl
theorem mkH_bldF {h : HS} {S S' : St} (hs : h.st = some S) (hg : ∀ k, k ≠ .bldF -> S'.get k = S.get k) : mkH { h with st := some S' } = upd (mkH h) (Oid.s .bldF) (S'.get .bldF).ao := by
  refine mkH_get fun i => ?_
  cases i with
  | s k =>
    show some (S'.get k) = if _ then _ else (match h.st with | some S => some (S.get k) | none => h.al.lookup (Oid.s k))
    rw [hs]
    by_cases q : k = .bldF
    · subst q; rw [if_pos rfl]
    · rw [if_neg (by intro e; cases e; exact q rfl), hg k q]
  | t j => rfl
  | kid j => rfl
  | att j => rfl
  | c j => rfl
  | ab => rfl
  | m j => rfl
theorem small_bldF {h : HS} {S S' : St} (s : Small h) (hs : h.st = some S) (hg : ∀ k, k ≠ .bldF -> S'.get k = S.get k) : Small { h with st := some S' } := by
  refine small_get (o := Oid.s .bldF) (x := S'.get .bldF) s sok_fields fun i => ?_
  cases i with
  | s k =>
    show some (S'.get k) = if _ then _ else (match h.st with | some S => some (S.get k) | none => h.al.lookup (Oid.s k))
    rw [hs]
    by_cases q : k = .bldF
    · subst q; rw [if_pos rfl]
    · rw [if_neg (by intro e; cases e; exact q rfl), hg k q]
  | t j => rfl
  | kid j => rfl
  | att j => rfl
  | c j => rfl
  | ab => rfl
  | m j => rfl
theorem notZ_ok {o : Oid} (e : notZ o = true) : o ≠ zO := fun q => by subst q; cases e
theorem putz_ok {o : Oid} {c : Bool} (e : (c && notZ o) = true) : c = true /\ o ≠ zO := let z := Bool.and_eq_true_iff.mp e; ⟨z.1, notZ_ok z.2⟩
theorem gB_inv {x : SV} {K : Bool -> Prop} (e : gB x K) : ∃ o, x = .bool o /\ K o := by
  cases x with
  | bool o => exact ⟨o, rfl, e⟩
  | _ => exact e.elim
theorem setattrB_ok (s : Small h) {S S' : St} (hS : h.st = some S) {x : Str} {v : SV} {k : HS -> Prop} (hx : ((attrL.map (·.2)).getD 3 []).contains x = true) (hg' : ∀ f, f ≠ .bldF -> S'.get f = S.get f) (hp : putFS x v (bldFs S.mode S.ack) = bldFs S'.mode S'.ack) {P : AHeap -> Prop} (hq : ∀ h', Small h' -> k h' -> P (mkH h')) (e : k { h with st := some S' }) : SetP w x (.ref (.s .bld)) v.av (mkH h) P := by
  have hg : ∀ f, h.get (Oid.s f) = some (S.get f) := fun f => by show (match h.st with | some S => some (S.get f) | none => h.al.lookup (Oid.s f)) = _; rw [hS]
  have l1 : lookN 692 attrL = some ((attrL.map (·.2)).getD 3 []) := by kernel_rfl
  obtain ⟨g1, g2, g3, g4⟩ := attr_all (w := w) l1 hx
  refine ⟨_, _, _, _, rfl, (by nofun), mkH_some (hg .bld), mkH_some (hg .bldF), by rw [List.length_map]; exact (by decide : (21 : Nat) <= 900), g1, g2, g3, g4, ?_⟩
  have := hq _ (small_bldF (S' := S') s hS hg') e
  rw [mkH_bldF hS hg', show (S'.get .bldF).ao = AO.fields ((bldFs S'.mode S'.ack).map _) from rfl, <- hp, putFS_av] at this
  exact this
theorem bldF_only {S S' : St} (h : ∀ f : Fix, f = .bldF ∨ S'.get f = S.get f) (f : Fix) (q : f ≠ .bldF) : S'.get f = S.get f := (h f).resolve_left q
theorem setattrS_ok (s : Small h) {a v : SV} {x : Str} {k : HS -> Prop} {P : AHeap -> Prop} (hq : ∀ h', Small h' -> k h' -> P (mkH h')) (e : setattrS a x v h k) : SetP w x a.av v.av (mkH h) P := by
  unfold setattrS at e
  cases hS : h.st with
  | some S =>
    rw [hS] at e
    obtain ⟨rfl, e⟩ := gF_inv e
    rcases bI_inv e with ⟨q, e⟩ | ⟨_, e⟩
    · obtain rfl := eq_of_beq q
      obtain ⟨m, rfl, e⟩ := gC_inv e
      exact setattrB_ok s hS (by kernel_rfl) (bldF_only fun f => by cases f <;> first | exact .inl rfl | exact .inr rfl) (put_mode S.mode m S.ack) hq e
    · obtain ⟨q, e⟩ := chk_ok e
      obtain rfl := eq_of_beq q
      obtain ⟨m, rfl, e⟩ := gB_inv e
      exact setattrB_ok s hS (by kernel_rfl) (bldF_only fun f => by cases f <;> first | exact .inl rfl | exact .inr rfl) (put_ack S.mode S.ack m) hq e
  | none =>
    rw [hS] at e
    obtain ⟨o, rfl, e⟩ := gR_inv e
    obtain ⟨c, d, fs, ho, hd, e⟩ := gInst_inv e
    obtain ⟨l, hl, e⟩ := gP_inv e
    obtain ⟨_, e⟩ := chk_ok e
    obtain ⟨e1, e2⟩ := chk_ok e
    obtain ⟨e1, nz⟩ := putz_ok e1
    obtain ⟨e1, e3⟩ := Bool.and_eq_true_iff.mp e1
    obtain ⟨e1, e4⟩ := Bool.and_eq_true_iff.mp e1
    obtain ⟨g1, g2, g3, g4⟩ := attr_all (w := w) hl e1
    refine ⟨o, c, d, _, rfl, nz, mkH_some ho, mkH_some hd, by rw [List.length_map]; exact Nat.le_of_ble_eq_true e4, g1, g2, g3, g4, ?_⟩
    have := hq _ (small_put s e3 sok_fields) e2
    rw [mkH_put e3, show (SO.fields (putFS x v fs)).ao = AO.fields ((putFS x v fs).map _) from rfl, putFS_av] at this
    exact this
theorem lty_append : typeOf (.builtin "list.append") = pure (.type "method_descriptor") := by show builtinType _ = _; rw [builtinType_eq_fast]; kernel_rfl
theorem lty_pop : typeOf (.builtin "list.pop") = pure (.type "method_descriptor") := by show builtinType _ = _; rw [builtinType_eq_fast]; kernel_rfl
theorem lty_insert : typeOf (.builtin "list.insert") = pure (.type "method_descriptor") := by show builtinType _ = _; rw [builtinType_eq_fast]; kernel_rfl
theorem lty_get : typeOf (.builtin "dict.get") = pure (.type "method_descriptor") := by show builtinType _ = _; rw [builtinType_eq_fast]; kernel_rfl
theorem lty_split : typeOf (.builtin "str.split") = pure (.type "method_descriptor") := by show builtinType _ = _; rw [builtinType_eq_fast]; kernel_rfl
theorem lty_join : typeOf (.builtin "str.join") = pure (.type "method_descriptor") := by show builtinType _ = _; rw [builtinType_eq_fast]; kernel_rfl
theorem lty_replace : typeOf (.builtin "str.replace") = pure (.type "method_descriptor") := by show builtinType _ = _; rw [builtinType_eq_fast]; kernel_rfl
theorem look3 {β : Type} {a b c name : Str} {x y z id : β} (e : List.lookup name [(a, x), (b, y), (c, z)] = some id) : name = a /\ x = id ∨ name = b /\ y = id ∨ name = c /\ z = id := by
  rw [List.lookup_cons, List.lookup_cons, List.lookup_cons] at e
  cases q : name == a with
  | true => rw [q] at e; exact .inl ⟨eq_of_beq q, Option.some.inj e⟩
  | false =>
    rw [q] at e
    cases q : name == b with
    | true => rw [q] at e; exact .inr (.inl ⟨eq_of_beq q, Option.some.inj e⟩)
    | false =>
      rw [q] at e
      cases q : name == c with
      | true => rw [q] at e; exact .inr (.inr ⟨eq_of_beq q, Option.some.inj e⟩)
      | false => rw [q] at e; exact no_some e
theorem listM_ok {o : Oid} {xs : List AV} {name : Str} {id : String} {H : AHeap} (ho : H o = some (.list xs)) (e : listM.lookup name = some id) : Meth w hB (.ref o) name H (.builtin id) [.ref o] := by
  rcases look3 e with ⟨rfl, rfl⟩ | ⟨rfl, rfl⟩ | ⟨rfl, rfl⟩
  · exact meth_list ho PySem.F.slot_list_append lty_append
  · exact meth_list ho PySem.F.slot_list_pop lty_pop
  · exact meth_list ho PySem.F.slot_list_insert lty_insert
theorem strM_ok {x name : Str} {id : String} {H : AHeap} (e : strM.lookup name = some id) : Meth w hB (.str x) name H (.builtin id) [.str x] := by
  rcases look3 e with ⟨rfl, rfl⟩ | ⟨rfl, rfl⟩ | ⟨rfl, rfl⟩
  · exact meth_str PySem.F.slot_str_split lty_split
  · exact meth_str PySem.F.slot_str_join lty_join
  · exact meth_str PySem.F.slot_str_replace lty_replace
theorem lookup_memS {α : Type} {x : Str} {a : α} : ∀ {l : List (Str × α)}, l.lookup x = some a -> (x, a) ∈ l
  | p :: r, e => by
    obtain ⟨y, b⟩ := p
    rw [List.lookup_cons] at e
    by_cases q : x = y
    · subst q; simp at e; subst e; exact .head _
    · have : (x == y) = false := by simpa using q
      rw [this] at e
      exact .tail _ (lookup_memS e)
noncomputable def MethOK (w : World) (hB : Heap) (h : HS) (a : SV) (name : Str) (k : Value -> List SV -> Prop) : Prop := ∃ f fas, Meth w hB a.av name (mkH h) f (avs fas) /\ k f fas
theorem noneB_ok {α : Type} {x : Option α} (e : noneB x = true) : x = none := by
  cases x with
  | none => rfl
  | some _ => exact Bool.noConfusion e
theorem methL'_ok {o : Oid} {y : SO} (ho : h.get o = some y) {name : Str} {k : Value -> List SV -> Prop} (e : methL' y o name k) : MethOK w hB h (.ref o) name k := by
  obtain ⟨l, hl, e⟩ := gP_inv e
  obtain ⟨id, hi, e⟩ := gP_inv e
  exact ⟨_, [.ref o], listM_ok (by rw [mkH_some ho, lst_ao hl]) hi, e⟩
theorem methO_ok (b : Base w hB) {o : Oid} {name : Str} {k : Value -> List SV -> Prop} (e : methO o name h k) : MethOK w hB h (.ref o) name k := by
  obtain ⟨y, ho, e⟩ := gO_inv e
  cases y with
  | inst c d =>
    obtain ⟨c, d, fs, ho, hd, e⟩ := gInst_inv e
    obtain ⟨e0, e⟩ := chk_ok e
    obtain ⟨l, hl, e⟩ := gP_inv e
    obtain ⟨fa, hfa, e⟩ := gP_inv e
    have hm := lookN_mem hl
    have h0 := List.all_eq_true.mp (meth_ok w.params) _ hm
    have h0 := List.all_eq_true.mp h0 _ (lookup_memS hfa)
    simp only [Bool.and_eq_true, beq_iff_eq] at h0
    exact ⟨_, [.ref o], meth_inst b (mkH_some ho) (mkH_some hd) (by rw [lookup_mapA, noneB_ok e0]; rfl) h0.1.1 h0.1.2 h0.2, e⟩
  | ndict es =>
    obtain ⟨e1, e2⟩ := chk_ok e
    rw [eq_of_beq e1]
    exact ⟨_, [.ref o], meth_ndict (mkH_some ho) PySem.F.slot_dict_get lty_get, e2⟩
  | _ => exact methL'_ok ho e
theorem methS_ok (b : Base w hB) {a : SV} {name : Str} {k : Value -> List SV -> Prop} (e : methS a name h k) : MethOK w hB h a name k := by
  cases a with
  | ref o =>
    cases o with
    | kid j =>
      obtain ⟨id, hi, e1, e2⟩ := gP_inv e
      obtain ⟨l, hl⟩ := Option.isSome_iff_exists.mp e1
      have ho : h.get (.kid j) = some (.il l) := by show (h.kids[j]?).map SO.il = _; rw [hl]; rfl
      exact ⟨_, [.ref (.kid j)], listM_ok (mkH_some ho) hi, e2⟩
    | _ => exact methO_ok b e
  | str x =>
    obtain ⟨id, hi, e⟩ := gP_inv e
    exact ⟨_, [.str x], strM_ok hi, e⟩
  | ss x =>
    obtain ⟨id, hi, e⟩ := gP_inv e
    exact ⟨_, [.ss x], strM_ok hi, e⟩
  | _ => exact e.elim
theorem m_none {h : HS} : mkH h (.m h.tm.length) = none := by
  unfold mkH HS.get; dsimp only; rw [List.getElem?_eq_none (Nat.le_refl _)]; rfl
theorem sumL_ok (s : Small h) {p : Pos} {x : SO} {k : SV -> HS -> Prop} (kx : SOK x) (e : sumL p x h k) : ∃ o h', mkH h o = none /\ mkH h' = upd (mkH h) o x.ao /\ Small h' /\ k (.ref o) h' := by
  rcases bI_inv e with ⟨_, e⟩ | ⟨_, e⟩
  · obtain ⟨e1, e2⟩ := chk_ok e
    exact ⟨_, _, mkH_none e1, mkH_put rfl, small_put s rfl kx, e2⟩
  · exact ⟨_, _, m_none, mkH_get (fun i => get_newM), small_get s kx fun i => get_newM, e⟩
theorem nonE_ok {xs : List SV} (e : nonE xs = true) : avs xs ≠ [] := by
  cases xs with
  | nil => exact Bool.noConfusion e
  | cons _ _ => exact List.cons_ne_nil _ _
theorem addS_ok (s : Small h) {p : Pos} {a b : SV} {k : SV -> HS -> Prop} (e : addS p a b h k) : Bin w hB n .Add a.av b.av (mkH h) (HQ k) := by
  cases a with
  | tup xs =>
    obtain ⟨ys, rfl, e⟩ := gT_inv e
    obtain ⟨e1, e2⟩ := chk_ok e
    obtain ⟨e1, e3⟩ := Bool.and_eq_true_iff.mp e1
    obtain ⟨e1, e4⟩ := Bool.and_eq_true_iff.mp e1
    exact b_add_tup (nonE_ok e1) (nonE_ok e4) (by rw [avs_len, avs_len]; exact Nat.le_trans (Nat.le_of_ble_eq_true e3) (by decide)) ⟨.tup (xs ++ ys), _, by show _ = AV.tup (avs (xs ++ ys)); rw [avs_append], rfl, s, e2⟩
  | ref o =>
    obtain ⟨o', rfl, e⟩ := gR_inv e
    obtain ⟨x, ho, e⟩ := gO_inv e
    cases x with
    | sl l =>
      obtain ⟨l', ho', e2, e3⟩ := gSl_inv e
      obtain ⟨o2, h', q1, q2, q3, q4⟩ := sumL_ok s (sok_sl (by rw [List.length_append]; exact lim_ok e2)) e3
      refine b_add_list o2 (mkH_some ho) (mkH_some ho') q1 (by rw [List.length_map, List.length_map]; exact lim_ok e2) ⟨.ref _, _, rfl, ?_, q3, q4⟩
      rw [q2]; show _ = upd _ _ (AO.list ((l ++ l').map _)); rw [List.map_append]
    | il l =>
      obtain ⟨l', ho', e2, e3⟩ := gIl_inv e
      obtain ⟨o2, h', q1, q2, q3, q4⟩ := sumL_ok s (sok_il (by rw [List.length_append]; exact lim_ok e2)) e3
      refine b_add_list o2 (mkH_some ho) (mkH_some ho') q1 (by rw [List.length_map, List.length_map]; exact lim_ok e2) ⟨.ref _, _, rfl, ?_, q3, q4⟩
      rw [q2]; show _ = upd _ _ (AO.list ((l ++ l').map _)); rw [List.map_append]
    | _ => exact e.elim
  | _ => exact e.elim
theorem isAdd_ok {op : Operator} (e : isAdd op = true) : op = .Add := by
  cases op with
  | Add => rfl
  | _ => exact Bool.noConfusion e
theorem binS_ok (s : Small h) {p : Pos} {op : Operator} {a b : SV} {k : SV -> HS -> Prop} (e : binS p op a b h k) : Bin w hB n op a.av b.av (mkH h) (HQ k) := by
  unfold binS at e
  cases q : both (intOf a) (intOf b) with
  | some p =>
    rw [q] at e
    rw [intOf_av (both_some q).1, intOf_av (both_some q).2]
    cases op with
    | Add => exact b_add_int ⟨_, _, mkI_av.symm, rfl, s, e⟩
    | Sub => exact b_sub_int ⟨_, _, mkI_av.symm, rfl, s, e⟩
    | Mult => exact b_mul_int e.1 ⟨_, _, mkI_av.symm, rfl, s, e.2⟩
    | Mod => exact b_mod_int e.1 ⟨_, _, mkI_av.symm, rfl, s, e.2⟩
    | _ => exact e.elim
  | none =>
    rw [q] at e
    obtain ⟨e0, e⟩ := chk_ok e
    rw [isAdd_ok e0]
    cases q : both (strOf a) (strOf b) with
    | some p =>
      rw [q] at e
      rw [strOf_av (both_some q).1, strOf_av (both_some q).2]
      exact b_add_str e.1 ⟨_, _, mkS_av.symm, rfl, s, e.2⟩
    | none =>
      rw [q] at e
      exact addS_ok s e
theorem placeOf_nat {j : Int} {m : Nat} (h : 0 <= j /\ j < m) : placeOf j m = some j.toNat := by unfold placeOf; rw [if_pos h]
theorem placeOf_m1 {m : Nat} (h : 0 < m) : placeOf (-1) m = some (m - 1) := by
  unfold placeOf
  rw [if_neg (by omega), if_pos (by omega), Int.add_comm]
  exact congrArg some (tn_p m)
theorem isM1_av {i : SV} (e : isM1 i = true) : i.av = .int (-1) := by
  cases i with
  | int j => rw [eq_of_beq e]; rfl
  | _ => exact Bool.noConfusion e
theorem last_some {α : Type} {l : List α} {d : α} (h : l ≠ []) : l[l.length - 1]? = some (l.getLastD d) := by
  rw [<- List.getLast?_eq_getElem?, List.getLastD_eq_getLast?, List.getLast?_eq_some_getLast h]; rfl
theorem allL_mem {α : Type} {k : α -> Prop} : ∀ {l : List α} {x : α}, allL k l -> x ∈ l -> k x
  | _ :: _, _, h, .head _ => h.1
  | _ :: _, _, h, .tail _ q => allL_mem h.2 q
theorem strsOf_av {as : List SV} : ∀ {l : List Str}, strsOf as = some l -> avs as = l.map .str := by
  induction as with
  | nil => intro l e; rw [<- Option.some.inj e]; rfl
  | cons a as ih =>
    intro l e
    obtain ⟨x, hx, e⟩ := Option.bind_eq_some_iff.mp e
    obtain ⟨l', hl, rfl⟩ := Option.map_eq_some_iff.mp e
    rw [strC_ok hx]
    show AV.str x :: avs as = _
    rw [ih hl]; rfl
noncomputable abbrev SubOK (w : World) (hB : Heap) (n : Nat) (a i : SV) (h : HS) (k : SV -> Prop) : Prop := Sub w hB n a.av i.av (mkH h) fun v H => H = mkH h /\ ∃ b, v = SV.av b /\ k b
theorem toNat_lt' {j : Int} {m : Nat} (h : 0 <= j /\ j < m) : j.toNat < m := by omega
theorem sub_il (s : Small h) {o : Oid} {l : List Int} (ho : h.get o = some (.il l)) {i : SV} {k : SV -> Prop} (e1 : isM1 i = true) (e3 : l ≠ []) (e4 : k (.si (l.getLastD 0))) : SubOK w hB n (.ref o) i h k := by
  show Sub _ _ _ _ i.av _ _
  rw [isM1_av e1]
  refine u_list (mkH_some ho) (placeOf_m1 (by rw [List.length_map]; exact List.length_pos_iff.mpr e3)) ((s _ _ ho).1 _ rfl) (a := .int (l.getLastD 0)) ?_ ⟨rfl, .si _, rfl, e4⟩
  rw [List.length_map, List.getElem?_map, last_some e3]; rfl
theorem subX_ok (s : Small h) {o : Oid} {x : SO} (ho : h.get o = some x) {i : SV} {k : SV -> Prop} (e : subX x i k) : SubOK w hB n (.ref o) i h k := by
  have hz := (s o _ ho).1
  cases x with
  | il l =>
    rcases bI_inv e with ⟨e1, e⟩ | ⟨_, e⟩
    · exact sub_il s ho e1 e.1 e.2
    · obtain ⟨u, j, hj, e, e2⟩ := gI_inv e
      show Sub _ _ _ _ i.av _ _
      rw [intOf_av hj]
      refine u_list (mkH_some ho) (placeOf_nat (by rw [List.length_map]; exact e)) (hz _ rfl) (a := .int (l.getD j.toNat 0)) ?_ ⟨rfl, .si _, rfl, e2⟩
      rw [List.getElem?_map, List.getElem?_eq_getElem (toNat_lt' e), List.getD_eq_getElem?_getD, List.getElem?_eq_getElem (toNat_lt' e)]; rfl
  | sl l =>
    rcases bI_inv e with ⟨e1, e⟩ | ⟨_, e⟩
    · show Sub _ _ _ _ i.av _ _
      rw [isM1_av e1]
      refine u_list (mkH_some ho) (placeOf_m1 (by rw [List.length_map]; exact List.length_pos_iff.mpr e.1)) (hz _ rfl) (a := .str (l.getLastD Str.empty)) ?_ ⟨rfl, .ss _, rfl, e.2⟩
      rw [List.length_map, List.getElem?_map, last_some e.1]; rfl
    · obtain ⟨u, j, hj, e, e2⟩ := gI_inv e
      show Sub _ _ _ _ i.av _ _
      rw [intOf_av hj]
      refine u_list (mkH_some ho) (placeOf_nat (by rw [List.length_map]; exact e)) (hz _ rfl) (a := .str (l.getD j.toNat Str.empty)) ?_ ⟨rfl, .ss _, rfl, e2⟩
      rw [List.getElem?_map, List.getElem?_eq_getElem (toNat_lt' e), List.getD_eq_getElem?_getD, List.getElem?_eq_getElem (toNat_lt' e)]; rfl
  | kr m =>
    obtain ⟨u, j, hj, e, e2⟩ := gI_inv (K := fun _ j => (0 <= j /\ j < m) /\ k (.ref (.kid j.toNat))) e
    show Sub _ _ _ _ i.av _ _
    rw [intOf_av hj]
    refine u_list (mkH_some ho) (placeOf_nat (by rw [List.length_map, List.length_range]; exact e)) (hz _ rfl) (a := .ref (.kid j.toNat)) ?_ ⟨rfl, .ref _, rfl, e2⟩
    rw [List.getElem?_map, List.getElem?_range (toNat_lt' e)]; rfl
  | list xs =>
    cases i with
    | int j =>
      obtain ⟨m, hm, e⟩ := gP_inv e
      obtain ⟨v, hv, e⟩ := gP_inv e
      exact u_list (mkH_some ho) (by rw [avs_len]; exact hm) (hz _ rfl) (avs_get hv) ⟨rfl, v, rfl, e⟩
    | si j =>
      obtain ⟨l, hl, e, e2⟩ := gP_inv e
      have ha := strsOf_av hl
      refine u_list (i := j) (mkH_some ho) (by rw [ha, List.length_map]; exact placeOf_nat e) (hz _ rfl) (a := .str (l.getD j.toNat Str.empty)) ?_ ⟨rfl, .ss _, rfl, e2⟩
      rw [ha, List.getElem?_map, List.getElem?_eq_getElem (toNat_lt' e), List.getD_eq_getElem?_getD, List.getElem?_eq_getElem (toNat_lt' e)]; rfl
    | _ => exact e.elim
  | sdict es =>
    obtain ⟨x, rfl, e⟩ := gC_inv e
    obtain ⟨v, hv, e⟩ := gP_inv e
    exact u_sdict (mkH_some ho) (by rw [lookup_mapA, hv]; rfl) ⟨rfl, v, rfl, e⟩
  | ndict es =>
    obtain ⟨u, j, hj, e1, e2⟩ := gI_inv (K := fun _ j => (es.lookup j).isSome = true /\ k (.si ((es.lookup j).getD 0))) e
    show Sub _ _ _ _ i.av _ _
    rw [intOf_av hj]
    obtain ⟨v, hv⟩ := Option.isSome_iff_exists.mp e1
    rw [hv] at e2
    exact u_ndict (mkH_some ho) (a := .int v) (by rw [lookup_mapA (f := AV.int), hv]; rfl) ⟨rfl, .si v, rfl, e2⟩
  | _ => exact e.elim
theorem subS_ok (s : Small h) {a i : SV} {k : SV -> Prop} (e : subS a i h k) : SubOK w hB n a i h k := by
  cases a with
  | tup xs =>
    obtain ⟨e1, e⟩ := chk_ok e
    have hz : (avs xs).length <= 1000000 := by rw [avs_len]; exact Nat.le_trans (Nat.le_of_ble_eq_true e1) (by decide)
    cases i with
    | int j =>
      obtain ⟨m, hm, e⟩ := gP_inv e
      obtain ⟨v, hv, e⟩ := gP_inv e
      exact u_tup (by rw [avs_len]; exact hm) hz (avs_get hv) ⟨rfl, v, rfl, e⟩
    | si j =>
      obtain ⟨e2, e3⟩ := e
      exact u_tup (i := j) (by rw [avs_len]; exact placeOf_nat e2) hz (avs_get (List.getElem?_eq_getElem (toNat_lt' e2))) ⟨rfl, _, rfl, allL_mem e3 (List.getElem_mem (toNat_lt' e2))⟩
    | _ => exact e.elim
  | ref o =>
    cases o with
    | kid j =>
      obtain ⟨e1, l, e2, e3, e4⟩ := chk_ok e
      exact sub_il s (by show (h.kids[j]?).map SO.il = _; rw [e2]; rfl) e1 e3 e4
    | _ =>
      obtain ⟨x, ho, e⟩ := gO_inv e
      exact subX_ok s ho e
  | _ => exact e.elim
theorem storeS_av {x : Str} {a : SV} {es : List (Str × SV)} (nd : nodupK es = true) : (storeS es x a).map (fun p => (p.1, p.2.av)) = storedA (es.map fun p => (p.1, p.2.av)) x a.av := by
  induction es with
  | nil => rfl
  | cons p r ih =>
    have nd' := Bool.and_eq_true_iff.mp (show (!(r.any fun q => q.1 == p.1) && nodupK r) = true from nd)
    have ih := ih nd'.2
    unfold storeS
    cases q : p.1 == x with
    | true =>
      rw [beq_iff_eq] at q
      subst q
      unfold storedA
      rw [if_pos (by simp)]
      simp only [List.map_cons, if_true]
      congr 1
      have : ∀ y ∈ r, y.1 ≠ p.1 := fun y hy e => by
        have h1 := nd'.1
        rw [Bool.not_eq_true', List.any_eq_false] at h1
        exact h1 y hy (by simpa using e)
      rw [List.map_map]
      refine List.map_congr_left fun y hy => ?_
      simp [this y hy]
    | false =>
      have q : p.1 ≠ x := by simpa using q
      simp only [List.map_cons]
      rw [ih]
      unfold storedA
      simp only [List.any_cons, List.map_cons, q, decide_false, Bool.false_or, if_false]
      split
      · rfl
      · rfl
set_option tactic.hygienic true in
theorem storeN_av {x a : Int} {es : List (Int × Int)} : (storeN es x a).map (fun p => (p.1, AV.int p.2)) = storedA (es.map fun p => (p.1, AV.int p.2)) x (.int a) := by
  unfold storeN storedA
  rw [List.any_map]
  split
  · rename_i q
    rw [if_pos (by simpa using q), List.map_map, List.map_map]
    refine List.map_congr_left fun y hy => ?_
    simp only [Function.comp]
    split <;> rfl
  · rename_i q
    rw [if_neg (by simpa using q), List.map_append]; rfl
theorem storeN_len {x a : Int} {es : List (Int × Int)} : (storeN es x a).length <= es.length + 1 := by
  unfold storeN
  split
  · rw [List.length_map]; omega
  · simp
theorem setS_ok (s : Small h) {a i v : SV} {k : HS -> Prop} (e : setS a i v h k) : SetI w hB n a.av i.av v.av (mkH h) fun H => ∃ h', H = mkH h' /\ Small h' /\ k h' := by
  obtain ⟨o, rfl, e⟩ := gR_inv e
  obtain ⟨y, ho, e⟩ := gO_inv e
  cases y with
  | sdict es =>
    obtain ⟨x, rfl, e⟩ := gC_inv e
    obtain ⟨e1, e2⟩ := chk_ok e
    obtain ⟨e1, nz⟩ := putz_ok e1
    obtain ⟨e1, e3⟩ := Bool.and_eq_true_iff.mp e1
    obtain ⟨e1, e4⟩ := Bool.and_eq_true_iff.mp e1
    refine i_sdict (mkH_some ho) (by rw [List.length_map]; exact Nat.le_trans (Nat.le_of_ble_eq_true e3) (by decide)) ⟨_, ?_, small_put s e1 sok_sdict, e2⟩ nz
    rw [mkH_put e1]; show _ = upd _ _ (AO.sdict _); rw [storeS_av e4]
  | ndict es =>
    obtain ⟨u, x, hx, e⟩ := gI_inv e
    obtain ⟨u', y, hy, e⟩ := gI_inv e
    obtain ⟨e1, e2, e3⟩ := chk_ok e
    obtain ⟨e1, nz⟩ := putz_ok e1
    rw [intOf_av hx, intOf_av hy]
    refine i_ndict (mkH_some ho) (by rw [List.length_map]; exact Nat.le_of_succ_le (lim_ok e2)) ⟨_, ?_, small_put s e1 (sok_ndict (Nat.le_trans storeN_len (lim_ok e2))), e3⟩
    rw [mkH_put e1]; show _ = upd _ _ (AO.ndict _); rw [storeN_av]
  | il l =>
    obtain ⟨u, x, hx, e⟩ := gI_inv e
    obtain ⟨u', y, hy, e⟩ := gI_inv e
    obtain ⟨e1, e2, e3⟩ := chk_ok e
    obtain ⟨e1, nz⟩ := putz_ok e1
    rw [intOf_av hx, intOf_av hy]
    have hz := (s o _ ho).1 _ rfl
    refine i_list (mkH_some ho) e2.1 (by rw [List.length_map]; exact e2.2) hz ⟨_, ?_, small_put s e1 (sok_il (by rw [List.length_set]; rw [List.length_map] at hz; exact hz)), e3⟩
    rw [mkH_put e1]; show _ = upd _ _ (AO.list _); rw [List.map_set]
  | _ => exact e.elim
end
section
variable {w : World} {hB : Heap} {n : Nat} {h : HS}
noncomputable def AppOK (w : World) (hB : Heap) (n : Nat) (o : Oid) (a : SV) (h : HS) (k : HS -> Prop) : Prop := Spec w hB n (.builtin "list.append") [.ref o, a.av] (mkH h) (HQ fun v h' => v = .none /\ k h')
theorem app_put (s : Small h) {o : Oid} {a : SV} {k : HS -> Prop} {y y' : SO} {l : List AV} (ho : h.get o = some y) (hl : y.lst = some l) (e1 : (canPut h o y' && notZ o) = true) (hz : l.length + 1 <= 1000000) (hl' : y'.ao = .list (l ++ [a.av])) (sk : (∀ l, y'.lst = some l -> l.length <= 1000000) -> SOK y') (hl2 : y'.lst = some (l ++ [a.av])) (e : k (h.put o y')) : AppOK w hB n o a h k := by
  obtain ⟨e1, nz⟩ := putz_ok e1
  refine sp_append (by rw [mkH_some ho, lst_ao hl]) (Nat.le_of_succ_le hz) ⟨.none, _, rfl, ?_, small_put s e1 (sk fun l' q => ?_), rfl, e⟩
  · rw [mkH_put e1, hl']
  · rw [hl2] at q; rw [<- Option.some.inj q, List.length_append]; exact hz
theorem sok_of {x : SO} (h : ∀ l, x.lst = some l -> l.length <= 1000000) (q : ∀ es, x ≠ .ndict es) : SOK x := ⟨h, fun es e => absurd e (q es)⟩
theorem appS_ok (s : Small h) {o : Oid} {a : SV} {k : HS -> Prop} (e : appS o a h k) : AppOK w hB n o a h k := by
  obtain ⟨y, ho, e⟩ := gO_inv e
  cases y with
  | list xs =>
    obtain ⟨e1, e2, e3⟩ := chk_ok e
    have q : avs (xs ++ [a]) = avs xs ++ [a.av] := avs_append _ _
    exact app_put s ho rfl e1 (by rw [avs_len]; exact lim_ok e2) (congrArg AO.list q) (fun h => sok_of h fun _ => nofun) (congrArg some q) e3
  | il xs =>
    obtain ⟨u, i, hi, e⟩ := gI_inv e
    obtain ⟨e1, e2, e3⟩ := chk_ok e
    have q : (xs ++ [i]).map AV.int = xs.map AV.int ++ [a.av] := by rw [intOf_av hi, List.map_append]; rfl
    exact app_put s ho rfl e1 (by rw [List.length_map]; exact lim_ok e2) (congrArg AO.list q) (fun h => sok_of h fun _ => nofun) (congrArg some q) e3
  | sl xs =>
    obtain ⟨u, i, hi, e⟩ := gS_inv e
    obtain ⟨e1, e2, e3⟩ := chk_ok e
    have q : (xs ++ [i]).map AV.str = xs.map AV.str ++ [a.av] := by rw [strOf_av hi, List.map_append]; rfl
    exact app_put s ho rfl e1 (by rw [List.length_map]; exact lim_ok e2) (congrArg AO.list q) (fun h => sok_of h fun _ => nofun) (congrArg some q) e3
  | kr m =>
    obtain ⟨r, rfl, e⟩ := gR_inv e
    cases r with
    | kid j =>
      obtain ⟨e1, ⟨rfl, e2⟩, e3⟩ := chk_ok e
      have q : (List.range (j + 1)).map (fun k => AV.ref (.kid k)) = (List.range j).map (fun k => AV.ref (.kid k)) ++ [.ref (.kid j)] := by rw [List.range_succ, List.map_append]; rfl
      exact app_put s ho rfl e1 (by rw [List.length_map, List.length_range]; exact lim_ok e2) (congrArg AO.list q) (fun h => sok_of h fun _ => nofun) (congrArg some q) e3
    | _ => exact e.elim
  | ar m =>
    obtain ⟨r, rfl, e⟩ := gR_inv e
    cases r with
    | att j =>
      obtain ⟨e1, ⟨rfl, e2⟩, e3⟩ := chk_ok e
      have q : (List.range (j + 1)).map (fun k => AV.ref (.att k)) = (List.range j).map (fun k => AV.ref (.att k)) ++ [.ref (.att j)] := by rw [List.range_succ, List.map_append]; rfl
      exact app_put s ho rfl e1 (by rw [List.length_map, List.length_range]; exact lim_ok e2) (congrArg AO.list q) (fun h => sok_of h fun _ => nofun) (congrArg some q) e3
    | _ => exact e.elim
  | _ => exact e.elim
theorem lenOf_ok {x : SO} {m : Nat} {c : Bool} (e : lenOf x = some (m, c)) : ∃ l, x.ao = .list l /\ l.length = m /\ x.lst = some l := by
  cases x <;> cases e
  · exact ⟨_, rfl, avs_len _, rfl⟩
  · exact ⟨_, rfl, List.length_map .., rfl⟩
  · exact ⟨_, rfl, List.length_map .., rfl⟩
  · exact ⟨_, rfl, by rw [List.length_map, List.length_range], rfl⟩
  · exact ⟨_, rfl, by rw [List.length_map, List.length_range], rfl⟩
theorem builtO_ok (s : Small h) {id : String} {o : Oid} {k : SV -> HS -> Prop} (e : builtO id o h k) : Spec w hB n (.builtin id) [.ref o] (mkH h) (HQ k) := by
  rcases bI_inv e with ⟨q, e⟩ | ⟨_, e⟩
  · rw [eq_of_beq q]
    obtain ⟨l, ho, e⟩ := gIl_inv e
    obtain ⟨e1, e2, e3⟩ := chk_ok e
    obtain ⟨e1, nz⟩ := putz_ok e1
    have hz := (s o _ ho).1 _ rfl
    refine sp_pop (mkH_some ho) hz (a := .int (l.getLastD 0)) ?_ ⟨.si _, _, rfl, ?_, small_put s e1 (sok_il (by rw [List.length_map] at hz; rw [List.length_dropLast]; exact Nat.le_trans (Nat.sub_le _ _) hz)), e3⟩
    · rw [List.getLast?_map]
      rw [List.getLastD_eq_getLast?]
      cases q : l.getLast? with
      | none => exact absurd (List.getLast?_eq_none_iff.mp q) e2
      | some x => rfl
    · rw [mkH_put e1]; show _ = upd _ _ (AO.list (l.dropLast.map _)); rw [List.map_dropLast]
  rcases bI_inv e with ⟨q, e⟩ | ⟨_, e⟩
  · rw [eq_of_beq q]
    obtain ⟨l, ho, e⟩ := gIl_inv e
    exact sp_max (mkH_some ho) e.1 fun M h1 h2 => ⟨.si M, h, rfl, rfl, s, e.2 M h1 h2⟩
  rcases bI_inv e with ⟨q, e⟩ | ⟨_, e⟩
  · rw [eq_of_beq q]
    obtain ⟨l, ho, e⟩ := gIl_inv e
    exact sp_sum (mkH_some ho) fun M => ⟨.si M, h, rfl, rfl, s, e M⟩
  obtain ⟨e1, e2⟩ := chk_ok e
  rw [eq_of_beq e1]
  obtain ⟨x, ho, e⟩ := gO_inv e2
  cases hm : lenOf x with
  | none => rw [hm] at e; exact e.elim
  | some p =>
    rw [hm] at e
    obtain ⟨l, h1, h2, h3⟩ := lenOf_ok hm
    refine sp_len_list (by rw [mkH_some ho, h1]) ((s o _ ho).1 _ h3) ⟨mkI p.2 p.1, h, by rw [mkI_av, h2], rfl, s, e⟩
theorem builtG_ok (s : Small h) (hsys : sysModules < hB.objs.size) {id : String} {o : Oid} {i a : SV} {k : SV -> HS -> Prop} (e : builtG id o i a h k) : Spec w hB n (.builtin id) [.ref o, i.av, a.av] (mkH h) (HQ k) := by
  obtain ⟨j, rfl, e⟩ := gV_inv e
  obtain ⟨e1, e⟩ := chk_ok e
  rw [eq_of_beq e1]
  obtain ⟨l, ho, e⟩ := gNd_inv e
  obtain ⟨u, y, hy, e⟩ := gI_inv e
  rw [intOf_av hy]
  refine sp_dget hsys (mkH_some ho) ⟨.si _, h, ?_, rfl, s, e⟩
  rw [lookup_mapA (f := AV.int)]
  cases List.lookup j _ <;> rfl
theorem words_le {x : Str} (h : (Builtin.Str.spaceWords x (x.length + 1)).length <= 1000) : (Txt.words x).length <= 1000000 := by
  unfold Txt.words
  split
  · exact (by decide : 1 <= 1000000)
  · unfold PySem.wordsOf; rw [List.length_map]; exact Nat.le_trans h (by decide)
theorem k1000 {n : Nat} (h : n <= 1000) : n <= 1000000 := Nat.le_trans h (by decide)
theorem builtS_ok (s : Small h) (hsys : sysModules < hB.objs.size) {id : String} {as : List SV} {k : SV -> HS -> Prop} (e : builtS id as h k) : Spec w hB n (.builtin id) (avs as) (mkH h) (HQ k) := by
  rcases as with _ | ⟨a, _ | ⟨b, _ | ⟨c, _ | ⟨d, as⟩⟩⟩⟩
  · exact e.elim
  · cases a with
    | ref o =>
      cases o with
      | kid j =>
        obtain ⟨e1, l, e2, e3⟩ := chk_ok e
        rw [eq_of_beq e1]
        have ho : h.get (.kid j) = some (.il l) := by show (h.kids[j]?).map SO.il = _; rw [e2]; rfl
        exact sp_len_list (mkH_some ho) ((s _ _ ho).1 _ rfl) ⟨.si l.length, h, by rw [List.length_map]; rfl, rfl, s, e3⟩
      | _ => exact builtO_ok s e
    | ss x =>
      obtain ⟨e1, e2, e3, e4⟩ := chk_ok e
      rw [eq_of_beq e1]
      refine sp_split (.m h.tm.length) (k1000 e2) (k1000 e3) m_none ⟨.ref _, _, rfl, ?_, small_get s (sok_sl (words_le e3)) (fun i => get_newM), e4⟩
      rw [mkH_get (fun i => get_newM)]; rfl
    | tup xs =>
      obtain ⟨e1, e2⟩ := chk_ok e
      rw [Bool.and_eq_true] at e1
      rw [eq_of_beq e1.1]
      exact sp_len_tup (by rw [avs_len]; exact k1000 (Nat.le_of_ble_eq_true e1.2)) ⟨.int xs.length, h, by rw [avs_len]; rfl, rfl, s, e2⟩
    | str x =>
      obtain ⟨e1, e2⟩ := chk_ok e
      rw [Bool.and_eq_true, Bool.and_eq_true] at e1
      rw [eq_of_beq e1.1.1]
      have e4 := Nat.le_of_ble_eq_true e1.2
      refine sp_split (.m h.tm.length) (k1000 (Nat.le_of_ble_eq_true e1.1.2)) (k1000 e4) m_none ⟨.ref _, _, rfl, ?_, small_get s (sok_list (by rw [List.length_map]; exact words_le e4)) (fun i => get_newM), e2⟩
      rw [mkH_get (fun i => get_newM)]
      show upd _ _ _ = upd _ _ (AO.list (avs ((Txt.words x).map SV.str)))
      rw [avs_map, List.map_map]; rfl
    | int i =>
      obtain ⟨e1, e2, e3⟩ := chk_ok e
      rw [eq_of_beq e1]
      exact sp_chr e2.1 e2.2 ⟨.str _, h, rfl, rfl, s, e3⟩
    | _ => exact e.elim
  · cases a with
    | ref o =>
      obtain ⟨e1, e2⟩ := chk_ok e
      rw [eq_of_beq e1]
      exact (appS_ok s e2).mono fun v H ⟨b, hs, h1, h2, h3, h4, h5⟩ => ⟨b, hs, h1, h2, h3, by rw [h4]; exact h5⟩
    | str x =>
      obtain ⟨o, rfl, e⟩ := gR_inv e
      obtain ⟨e1, e2⟩ := chk_ok e
      rw [Bool.and_eq_true] at e1
      rw [eq_of_beq e1.1]
      obtain ⟨l, ho, e2⟩ := gSl_inv e2
      refine sp_join (mkH_some ho) ?_ ⟨.ss _, h, rfl, rfl, s, e2.2⟩
      have h1 := PySem.StrLaws.sumLen_le l e2.1.2
      have h2 : l.length * x.length <= 1000 * 10 := Nat.mul_le_mul e2.1.1 (Nat.le_of_ble_eq_true e1.2)
      have h3 := Nat.mul_le_mul_right 1000 e2.1.1
      omega
    | _ => exact e.elim
  · obtain ⟨o, rfl, e⟩ := gR_inv e
    cases o with
    | kid j =>
      obtain ⟨e1, e2⟩ := chk_ok e
      rw [eq_of_beq e1]
      obtain ⟨u, x, hx, e2⟩ := gI_inv e2
      obtain ⟨v, y, hy, e2⟩ := gI_inv e2
      obtain ⟨l, e3, rfl, e4, e5⟩ := e2
      have ho : h.get (.kid j) = some (.il l) := by show (h.kids[j]?).map SO.il = _; rw [e3]; rfl
      show Spec w hB n _ [.ref (.kid j), b.av, c.av] _ _
      rw [intOf_av hx, intOf_av hy]
      have hj : j < h.kids.length := by
        obtain ⟨q, _⟩ := List.getElem?_eq_some_iff.mp e3; exact q
      have gg : ∀ o, ({ h with kids := h.kids.set j (l ++ [y]) } : HS).get o = if o = .kid j then some (.il (l ++ [y])) else h.get o := fun o => by
        cases o with
        | kid m =>
          show ((h.kids.set j (l ++ [y]))[m]?).map SO.il = _
          by_cases q : m = j
          · subst q; rw [if_pos rfl, List.getElem?_set_self hj]; rfl
          · rw [if_neg (by intro e; cases e; exact q rfl), List.getElem?_set_ne (Ne.symm q)]; rfl
        | _ => rfl
      have := sp_insert (w := w) (hB := hB) (n := n) (a := .int y) (Q := HQ k) (mkH_some ho) ((s _ _ ho).1 _ rfl) ⟨.none, _, rfl, by rw [mkH_get gg]; show _ = upd _ _ (AO.list ((l ++ [y]).map _)); rw [List.map_append]; rfl, small_get s (sok_il (by simpa using lim_ok e4)) gg, e5⟩
      rwa [List.length_map] at this
    | _ => exact builtG_ok s hsys e
  · exact e.elim
theorem intsOf_av {as : List SV} : ∀ {l : List Int}, intsOf as = some l -> avs as = l.map .int := by
  induction as with
  | nil => intro l e; rw [<- Option.some.inj e]; rfl
  | cons a as ih =>
    intro l e
    obtain ⟨p, hi, e⟩ := Option.bind_eq_some_iff.mp e
    obtain ⟨l', hl, rfl⟩ := Option.map_eq_some_iff.mp e
    show a.av :: avs as = _
    rw [intOf_av hi, ih hl]; rfl
theorem strsOf'_av {as : List SV} : ∀ {l : List Str}, strsOf' as = some l -> avs as = l.map .str := by
  induction as with
  | nil => intro l e; rw [<- Option.some.inj e]; rfl
  | cons a as ih =>
    intro l e
    obtain ⟨p, hi, e⟩ := Option.bind_eq_some_iff.mp e
    obtain ⟨l', hl, rfl⟩ := Option.map_eq_some_iff.mp e
    show a.av :: avs as = _
    rw [strOf_av hi, ih hl]; rfl
theorem typed_ok {ty : Nat} {as : List SV} {x : SO} (e : typed ty as = some x) : x.lst = some (avs as) /\ ∀ es, x ≠ .ndict es := by
  match ty with
  | 0 => rw [<- Option.some.inj e]; exact ⟨rfl, fun _ => nofun⟩
  | 1 => obtain ⟨l, hl, rfl⟩ := Option.map_eq_some_iff.mp e; exact ⟨by rw [intsOf_av hl]; rfl, fun _ => nofun⟩
  | n + 2 => obtain ⟨l, hl, rfl⟩ := Option.map_eq_some_iff.mp e; exact ⟨by rw [strsOf'_av hl]; rfl, fun _ => nofun⟩
theorem lst0_ok {x : SO} (e : lst0 x = true) : x.lst = some [] := by
  cases x with
  | list l => cases l with
    | nil => rfl
    | cons _ _ => exact Bool.noConfusion e
  | il l => cases l with
    | nil => rfl
    | cons _ _ => exact Bool.noConfusion e
  | sl l => cases l with
    | nil => rfl
    | cons _ _ => exact Bool.noConfusion e
  | kr l => cases l with
    | zero => rfl
    | succ _ => exact Bool.noConfusion e
  | ar l => cases l with
    | zero => rfl
    | succ _ => exact Bool.noConfusion e
  | _ => exact Bool.noConfusion e
set_option tactic.hygienic true in
theorem newL_ok (s : Small h) {p : Pos} {as : List SV} {k : SV -> HS -> Prop} (e : newL p as h k) : as.length <= 1000000 /\ ∃ o h', mkH h o = none /\ mkH h' = upd (mkH h) o (.list (avs as)) /\ Small h' /\ k (.ref o) h' ∨ as.length <= 1000000 /\ False := by
  obtain ⟨e1, e2⟩ := chk_ok e
  have hz : as.length <= 1000000 := Nat.le_trans (Nat.le_of_ble_eq_true e1) (by decide)
  refine ⟨hz, ?_⟩
  have none_kid : mkH h (.kid h.kids.length) = none := by unfold mkH HS.get; dsimp only; rw [List.getElem?_eq_none (Nat.le_refl _)]; rfl
  have none_att : mkH h (.att h.atts.length) = none := by unfold mkH HS.get; dsimp only; rw [List.getElem?_eq_none (Nat.le_refl _)]; rfl
  split at e2
  · rename_i f x hs
    cases as with
    | cons _ _ => exact e2.elim
    | nil =>
      obtain ⟨hx, e2⟩ := chk_ok e2
      have hx := lst0_ok hx
      obtain ⟨e3, e4⟩ := chk_ok e2
      rw [Bool.and_eq_true] at e3
      refine ⟨.s f, _, .inl ⟨mkH_none e3.1, ?_, small_put s e3.2 ⟨fun l hl => ?_, fun es h => ?_⟩, e4⟩⟩
      · rw [mkH_put e3.2, lst_ao hx]; rfl
      · rw [hx] at hl; cases hl; exact Nat.zero_le _
      · subst h; cases hx
  · cases as with
    | cons _ _ => exact e2.elim
    | nil => exact ⟨_, _, .inl ⟨none_kid, by rw [mkH_get (fun i => get_newKid)]; rfl, small_get s (sok_il (Nat.zero_le _)) fun i => get_newKid, e2⟩⟩
  · cases as with
    | cons _ _ => exact e2.elim
    | nil =>
      obtain ⟨e3, e4⟩ := chk_ok e2
      have hg : mkH h .ab = none := by
        unfold mkH HS.get; dsimp only
        cases q : h.ab with
        | none => rfl
        | some l => rw [q] at e3; cases e3
      exact ⟨_, _, .inl ⟨hg, by rw [mkH_put rfl]; rfl, small_put s rfl (sok_il (Nat.zero_le _)), e4⟩⟩
  · exact ⟨_, _, .inl ⟨none_att, by rw [mkH_get (fun i => get_newAtt)]; rfl, small_get s (sok_list hz) fun i => get_newAtt, e2⟩⟩
  · rename_i j ty hs
    split at e2
    · rename_i x hx
      obtain ⟨e3, e4⟩ := chk_ok e2
      obtain ⟨h1, h2⟩ := typed_ok hx
      refine ⟨.t j, _, .inl ⟨mkH_none e3, ?_, small_put s rfl ⟨fun l hl => ?_, fun es h => absurd h (h2 es)⟩, e4⟩⟩
      · rw [mkH_put rfl, lst_ao h1]
      · rw [h1] at hl; cases hl; rw [avs_len]; exact hz
    · exact e2.elim
  · rename_i ty hs
    split at e2
    · rename_i x hx
      obtain ⟨h1, h2⟩ := typed_ok hx
      refine ⟨_, _, .inl ⟨m_none, ?_, small_get s ⟨fun l hl => ?_, fun es h => absurd h (h2 es)⟩ fun i => get_newM, e2⟩⟩
      · rw [mkH_get (fun i => get_newM), lst_ao h1]
      · rw [h1] at hl; cases hl; rw [avs_len]; exact hz
    · exact e2.elim
theorem copyL_ok (s : Small h) {p : Pos} {o : Oid} {k : SV -> HS -> Prop} (e : copyL p o h k) : ∃ l, mkH h o = some (.list l) /\ l.length <= 1000000 /\ ∃ o2 h', mkH h o2 = none /\ mkH h' = upd (mkH h) o2 (.list l) /\ Small h' /\ k (.ref o2) h' := by
  obtain ⟨x, hx, e⟩ := gO_inv e
  obtain ⟨l, hl, e⟩ := gP_inv e
  have ks : SOK x := s o _ hx
  refine ⟨l, by rw [mkH_some hx, lst_ao hl], ks.1 _ hl, ?_⟩
  cases q : siteAt p with
  | tmp j ty =>
    rw [q] at e
    obtain ⟨e1, e2⟩ := chk_ok e
    exact ⟨_, _, mkH_none e1, by rw [mkH_put rfl, lst_ao hl], small_put s rfl ks, e2⟩
  | tm ty =>
    rw [q] at e
    exact ⟨_, _, m_none, by rw [mkH_get (fun i => get_newM), lst_ao hl], small_get s ks fun i => get_newM, e⟩
  | _ => rw [q] at e; exact e.elim
theorem typeS_ok (s : Small h) {p : Pos} {id : String} {as : List SV} {k : SV -> HS -> Prop} (e : typeS p id as h k) : Spec w hB n (.type id) (avs as) (mkH h) (HQ k) := by
  have one : ∀ a : SV, chk (id == "range") (gI a fun _ i => k (.rng 0 i 1) h) -> Spec w hB n (.type id) [a.av] (mkH h) (HQ k) := fun a e => by
    obtain ⟨e1, e⟩ := chk_ok e
    rw [eq_of_beq e1]
    obtain ⟨u, i, hi, e⟩ := gI_inv e
    rw [intOf_av hi]
    exact sp_range1 ⟨.rng 0 i 1, h, rfl, rfl, s, e⟩
  rcases as with _ | ⟨a, _ | ⟨b, _ | ⟨c, _ | ⟨d, as⟩⟩⟩⟩
  · exact e.elim
  · cases a with
    | tup xs =>
      obtain ⟨e1, e2⟩ := chk_ok e
      rw [eq_of_beq e1]
      obtain ⟨hz, o, h', q⟩ := newL_ok s e2
      rcases q with ⟨q1, q2, q3, q4⟩ | q
      · exact sp_list_tup o q1 (by rw [avs_len]; exact hz) ⟨.ref o, h', rfl, q2.symm, q3, q4⟩
      · exact q.2.elim
    | str x =>
      obtain ⟨e1, e2⟩ := chk_ok e
      rw [Bool.and_eq_true] at e1
      rw [eq_of_beq e1.1]
      cases hi : PySem.intText? x with
      | none => rw [hi] at e2; exact e2.elim
      | some i => rw [hi] at e2; exact sp_int hi (Nat.le_of_ble_eq_true e1.2) ⟨.int i, h, rfl, rfl, s, e2⟩
    | int i =>
      rcases bI_inv e with ⟨q, e⟩ | ⟨_, e⟩
      · rw [eq_of_beq q]
        obtain ⟨e1, e2⟩ := chk_ok e
        have e1 : i.natAbs.log2 < 1900 := Nat.le_of_ble_eq_true e1
        exact sp_str (by omega) ⟨.str _, h, rfl, rfl, s, e2⟩
      · obtain ⟨e1, e2⟩ := chk_ok e
        rw [eq_of_beq e1]
        exact sp_range1 ⟨.rng 0 i 1, h, rfl, rfl, s, e2⟩
    | ref o =>
      obtain ⟨e1, e2⟩ := chk_ok e
      rw [eq_of_beq e1]
      obtain ⟨l, q1, q2, o2, h', q3, q4, q5, q6⟩ := copyL_ok s e2
      exact sp_list_list o2 q1 q3 q2 ⟨.ref o2, h', rfl, q4.symm, q5, q6⟩
    | _ => exact one _ e
  · obtain ⟨e1, e⟩ := chk_ok e
    rw [eq_of_beq e1]
    obtain ⟨u, i, hi, e⟩ := gI_inv e
    obtain ⟨v, j, hj, e⟩ := gI_inv e
    show Spec w hB n _ [a.av, b.av] _ _
    rw [intOf_av hi, intOf_av hj]
    exact sp_range2 ⟨.rng i j 1, h, rfl, rfl, s, e⟩
  · obtain ⟨z, rfl, e⟩ := gN_inv e
    obtain ⟨e1, e⟩ := chk_ok e
    simp only [Bool.and_eq_true, beq_iff_eq, decide_eq_true_eq, Bool.not_eq_true', beq_eq_false_iff_ne] at e1
    obtain ⟨⟨⟨e0, e1⟩, e3⟩, e4⟩ := e1
    rw [e0]
    obtain ⟨u, i, hi, e⟩ := gI_inv e
    obtain ⟨v, j, hj, e⟩ := gI_inv e
    show Spec w hB n _ [a.av, b.av, .int z] _ _
    rw [intOf_av hi, intOf_av hj]
    exact sp_range3 e1 ⟨e3, e4⟩ ⟨.rng i j z, h, rfl, rfl, s, e⟩
  · exact e.elim
end
noncomputable def SQ (Q : SV -> SVS -> HS -> Prop) : AV -> VS -> AHeap -> Prop := fun a v H => ∃ b l hs, a = b.av /\ v = vsf l /\ H = mkH hs /\ Small hs /\ Q b l hs
noncomputable def LQ (Q : List SV -> SVS -> HS -> Prop) : List AV -> VS -> AHeap -> Prop := fun a v H => ∃ b l hs, a = avs b /\ v = vsf l /\ H = mkH hs /\ Small hs /\ Q b l hs
noncomputable def TQ (Q : Bool -> SVS -> HS -> Prop) : Bool -> VS -> AHeap -> Prop := fun a v H => ∃ l hs, v = vsf l /\ H = mkH hs /\ Small hs /\ Q a l hs
noncomputable def OQ (Q : SOut -> SVS -> HS -> Prop) : Out -> VS -> AHeap -> Prop := fun a v H => ∃ b l hs, a = b.out /\ v = vsf l /\ H = mkH hs /\ Small hs /\ Q b l hs
structure RecOK (w : World) (hB : Heap) (n : Nat) (r : Rec) (sc : Scope) : Prop where
  e : ∀ {A env}, env.scope = sc -> AOk n A -> ∀ {x l h Q}, Small h -> r.e x l h Q -> RV w hB A env (eval x env) (vsf l) (mkH h) (SQ Q)
  t : ∀ {A env}, env.scope = sc -> AOk n A -> ∀ {x l h Q}, Small h -> r.t x l h Q -> RB w hB A env (isTrue x env (eval x env)) (vsf l) (mkH h) (TQ Q)
  s : ∀ {A env}, env.scope = sc -> AOk n A -> ∀ {x l h Q}, Small h -> r.s x l h Q -> RS w hB A env (execs x env) (vsf l) (mkH h) (OQ Q)
noncomputable def OrcOK (w : World) (hB : Heap) (o : Orc) : Prop := ∀ n, o.rank <= n -> ∀ as h Q, Small h -> o.F as h Q -> Spec w hB n (.ref o.fa) (avs as) (mkH h) (HQ Q)
theorem fnAt_mem {fa na : Nat} {e : FnE} : ∀ {l : List FnE}, fnAt fa na l = some e -> e ∈ l /\ e.fa = fa /\ e.na = na
  | p :: r, h => by
    unfold fnAt at h
    cases q : Nat.beq p.fa fa && Nat.beq p.na na with
    | true =>
      rw [q] at h; cases h
      rw [Bool.and_eq_true] at q
      exact ⟨.head _, Nat.eq_of_beq_eq_true q.1, Nat.eq_of_beq_eq_true q.2⟩
    | false => rw [q] at h; obtain ⟨h1, h2⟩ := fnAt_mem h; exact ⟨.tail _ h1, h2⟩
theorem lookup_mapAV {l : List (Str × SV)} {x : Str} : (l.map fun p => (p.1, p.2.av)).lookup x = (l.lookup x).map SV.av := lookup_mapA
theorem vsOf_eq (names : List Str) (as : List SV) : vsOf names (avs as) = vsf ((names.zip as).reverse) := by
  funext x
  unfold vsOf vsf
  rw [<- lookup_mapAV, List.map_reverse, avs_map]
  congr 2
  rw [List.zip_map_right]
  rfl
theorem ref_of_some {w : World} {c : Nat} {q : Str} (h : codeQ w.params c = some q) : ∃ co vs t, (hl w.params)[c]? = some co /\ co.data = .fields vs /\ vs[1]? = some (.str q t) := by
  unfold codeQ at h
  generalize (hl w.params)[c]? = x at h
  cases x with
  | none => exact no_some h
  | some co =>
    obtain ⟨a, b, d, t⟩ := co
    cases d with
    | fields vs =>
      obtain ⟨l⟩ := vs
      rcases l with _ | ⟨x, _ | ⟨y, l⟩⟩
      · exact no_some h
      · exact no_some h
      · cases y with
        | str q' t => exact ⟨_, _, t, rfl, rfl, congrArg (fun q => some (Value.str q t)) (Option.some.inj h)⟩
        | _ => exact no_some h
    | _ => exact no_some h
structure FdOK (f : FnE) : Prop where
  body : (fdE f).body = .stmts (bodyOf f.st)
  scope : (fdE f).scope = scopeOf f.st
  code : (fdE f).code = .ref f.code
  qual : (fdE f).qualname = Str.ofString f.q
  glob : (fdE f).globals = mainGlobals
  blt : (fdE f).builtins = builtinsNs
  clo : (fdE f).closure = []
theorem fdE_ok {f : FnE} (h : isDef f.st = true) : FdOK f := by
  obtain ⟨fa, st, q, dV, md, code, na, df⟩ := f
  cases st with
  | FunctionDef => exact ⟨rfl, rfl, rfl, rfl, rfl, rfl, rfl⟩
  | _ => exact Bool.noConfusion h
theorem kind_ok {k : ScopeKind} (h : (k == .function) = true) : k = .function := eq_of_beq h
structure DefOK (w : World) (f : FnE) : Prop extends FdOK f where
  co : (fdE f).scope.isCoroutine = false
  gen : (fdE f).scope.isGenerator = false
  kind : (fdE f).scope.kind = .function
  cell : ∃ co vs t, (hl w.params)[f.code]? = some co /\ co.data = .fields vs /\ vs[1]? = some (.str (fdE f).qualname t)
theorem not_true {b : Bool} (h : (!b) = true) : b = false := by
  cases b with
  | false => rfl
  | true => exact Bool.noConfusion h
theorem defOK_of {w : World} {f : FnE} (h : (isDef f.st && !(scopeOf f.st).isCoroutine && !(scopeOf f.st).isGenerator && ((scopeOf f.st).kind == .function)) = true) (hc : codeQ w.params f.code = some (Str.ofString f.q)) : DefOK w f := by
  obtain ⟨h, h4⟩ := Bool.and_eq_true_iff.mp h
  obtain ⟨h, h3⟩ := Bool.and_eq_true_iff.mp h
  obtain ⟨h, h2⟩ := Bool.and_eq_true_iff.mp h
  have F := fdE_ok h
  exact ⟨F, by rw [F.scope]; exact not_true h2, by rw [F.scope]; exact not_true h3, by rw [F.scope]; exact kind_ok h4, by rw [F.qual]; exact ref_of_some hc⟩
theorem fnC_at (P : Params) : fnC.map (fun e => (hl P)[e.fa]?) = fnC.map (fun e => some (Fn e.st e.q e.dV e.md (R e.code))) := by kernel_rfl
theorem fnC_code (P : Params) : fnC.map (fun e => codeQ P e.code) = fnC.map (fun e => some (Str.ofString e.q)) := by kernel_rfl
noncomputable def cellNames (st : Stmt) : List Str := (cellsFrom 0 (scopeOf st).names []).map (·.1)
noncomputable def nodupS : List Str -> Bool
  | [] => true
  | x :: r => !(r.contains x) && nodupS r
theorem nodupS_ok : ∀ {l : List Str}, nodupS l = true -> l.Nodup
  | [], _ => List.nodup_nil
  | x :: r, h => by
    have h' := Bool.and_eq_true_iff.mp (show (!(r.contains x) && nodupS r) = true from h)
    rw [List.nodup_cons]
    exact ⟨by simpa using h'.1, nodupS_ok h'.2⟩
noncomputable def scopeGoodC (st : Stmt) : Bool := isDef st && !(scopeOf st).isCoroutine && !(scopeOf st).isGenerator && ((scopeOf st).kind == .function) && (scopeOf st).names.all (fun x => !(x.2 == .cell) || (cellNames st).contains x.1) && nodupS (cellNames st) &&
  (argNames st).all (fun x => (scopeOf st).names.lookup x == some .local || (scopeOf st).names.lookup x == some .cell && (cellNames st).contains x)
theorem fnC_scope : fnC.all (fun e => scopeGoodC e.st && (match e.df with | [] => true | _ => false)) = true := by kernel_rfl
theorem bindC_2 (a b : Value) : (ofNa 2 fnC).map (fun e => bindArgs (fdE e) ⟨[a, b], []⟩) = (ofNa 2 fnC).map (fun e => pure ((argNames e.st).zip [a, b])) := by kernel_rfl
theorem bindC_3 (a b c : Value) : (ofNa 3 fnC).map (fun e => bindArgs (fdE e) ⟨[a, b, c], []⟩) = (ofNa 3 fnC).map (fun e => pure ((argNames e.st).zip [a, b, c])) := by kernel_rfl
theorem bindC_4 (a b c d : Value) : (ofNa 4 fnC).map (fun e => bindArgs (fdE e) ⟨[a, b, c, d], []⟩) = (ofNa 4 fnC).map (fun e => pure ((argNames e.st).zip [a, b, c, d])) := by kernel_rfl
theorem bindC_5 (a b c d f : Value) : (ofNa 5 fnC).map (fun e => bindArgs (fdE e) ⟨[a, b, c, d, f], []⟩) = (ofNa 5 fnC).map (fun e => pure ((argNames e.st).zip [a, b, c, d, f])) := by kernel_rfl
theorem naC : fnC.all (fun e => Nat.ble e.na 5 && Nat.ble 2 e.na) = true := by kernel_rfl
theorem bindC_ok {e : FnE} (h : e ∈ fnC) {vals : List Value} (hl : vals.length = e.na) : bindArgs (fdE e) ⟨vals, []⟩ = pure ((argNames e.st).zip vals) := by
  have hb := List.all_eq_true.mp naC e h
  rw [Bool.and_eq_true] at hb
  have hb1 : e.na <= 5 := Nat.le_of_ble_eq_true hb.1
  have hb2 : 2 <= e.na := Nat.le_of_ble_eq_true hb.2
  have hm := ofNa_mem h hl.symm
  match vals, hl, hm with
  | [], hl, _ => simp at hl; lia
  | [_], hl, _ => simp at hl; lia
  | [a, b], _, hm => exact List.map_inj_left.mp (bindC_2 a b) e hm
  | [a, b, c], _, hm => exact List.map_inj_left.mp (bindC_3 a b c) e hm
  | [a, b, c, d], _, hm => exact List.map_inj_left.mp (bindC_4 a b c d) e hm
  | [a, b, c, d, f], _, hm => exact List.map_inj_left.mp (bindC_5 a b c d f) e hm
  | _ :: _ :: _ :: _ :: _ :: _ :: _, hl, _ => simp at hl; lia
theorem lookup_snoc {α : Type} {x n : Str} {v : α} : ∀ {l : List (Str × α)}, (l ++ [(n, v)]).lookup x = (l.lookup x).or (if x = n then some v else none)
  | [] => by
    show List.lookup x [(n, v)] = _
    rw [List.lookup_cons]
    by_cases q : x = n
    · subst q; simp
    · have : (x == n) = false := by simpa using q
      rw [this, if_neg q]; rfl
  | (y, u) :: l => by
    rw [List.cons_append, List.lookup_cons, List.lookup_cons]
    cases q : x == y with
    | true => rfl
    | false => exact lookup_snoc
theorem bindL_eq (k : Str -> Option NameKind) (x : Str) : ∀ (binds : List (Str × Value)) (m : Str -> Option Value), bindL k binds m x = if k x = some .local then (binds.reverse.lookup x).or (m x) else m x
  | [], m => by unfold bindL; split <;> rfl
  | (n, v) :: r, m => by
    unfold bindL
    rw [bindL_eq k x r, List.reverse_cons, lookup_snoc]
    by_cases q : k x = some .local
    · rw [if_pos q, if_pos q]
      by_cases q2 : x = n
      · subst q2; rw [if_pos q, if_pos rfl, if_pos rfl]
        cases List.lookup x r.reverse <;> rfl
      · rw [if_neg q2]
        by_cases q3 : k n = some .local
        · rw [if_pos q3, if_neg q2]; cases List.lookup x r.reverse <;> rfl
        · rw [if_neg q3]; cases List.lookup x r.reverse <;> rfl
    · rw [if_neg q, if_neg q]
      by_cases q3 : k n = some .local
      · rw [if_pos q3, if_neg (fun (e : x = n) => q (by rw [e]; exact q3))]
      · rw [if_neg q3]
theorem bindC_eq (k : Str -> Option NameKind) (x : Str) : ∀ (binds : List (Str × Value)) (m : Str -> Option Value), bindC k binds m x = if k x = some .local then m x else (binds.reverse.lookup x).or (m x)
  | [], m => by unfold bindC; split <;> rfl
  | (n, v) :: r, m => by
    unfold bindC
    rw [bindC_eq k x r, List.reverse_cons, lookup_snoc]
    by_cases q : k x = some .local
    · rw [if_pos q, if_pos q]
      by_cases q3 : k n = some .local
      · rw [if_pos q3]
      · rw [if_neg q3, if_neg (fun (e : x = n) => q3 (by rw [<- e]; exact q))]
    · rw [if_neg q, if_neg q]
      by_cases q2 : x = n
      · subst q2; rw [if_neg q, if_pos rfl, if_pos rfl]
        cases List.lookup x r.reverse <;> rfl
      · rw [if_neg q2]
        by_cases q3 : k n = some .local
        · rw [if_pos q3]; cases List.lookup x r.reverse <;> rfl
        · rw [if_neg q3, if_neg q2]; cases List.lookup x r.reverse <;> rfl
theorem lookup_isSome_of {α : Type} {x : Str} : ∀ {l : List (Str × α)}, x ∈ l.map (·.1) -> (l.lookup x).isSome = true
  | (y, u) :: l, h => by
    rw [List.lookup_cons]
    cases q : x == y with
    | true => rfl
    | false =>
      rw [List.map_cons, List.mem_cons] at h
      rcases h with h | h
      · subst h; simp at q
      · exact lookup_isSome_of h
theorem lookup_nodup {α : Type} {x : Str} {c : α} : ∀ {l : List (Str × α)}, (l.map (·.1)).Nodup -> (x, c) ∈ l -> l.lookup x = some c
  | (y, u) :: l, hn, h => by
    rw [List.lookup_cons]
    rw [List.map_cons, List.nodup_cons] at hn
    cases h with
    | head => simp
    | tail _ h =>
      have : (x == y) = false := by
        rw [beq_eq_false_iff_ne]; intro e; subst e
        exact hn.1 (List.mem_map.mpr ⟨(x, c), h, rfl⟩)
      rw [this]
      exact lookup_nodup hn.2 h
theorem pair_inj {l : List (Str × Addr)} (hp : l.Pairwise fun x y => x.2 ≠ y.2) {x y : Str} {c : Addr} (h1 : (x, c) ∈ l) (h2 : (y, c) ∈ l) : x = y := by
  induction l with
  | nil => cases h1
  | cons p r ih =>
    rw [List.pairwise_cons] at hp
    cases h1 with
    | head => cases h2 with
      | head => rfl
      | tail _ h2 => exact absurd (rfl : c = c) (hp.1 (y, c) h2)
    | tail _ h1 => cases h2 with
      | head => exact absurd (rfl : c = c) (hp.1 (x, c) h1)
      | tail _ h2 => exact ih hp.2 h1 h2
section
variable {w : World} {hB : Heap} {n : Nat} {h : HS}
theorem enterK (b : Base w hB) {f : FnE} (hm : f ∈ fnC) {as : List SV} {Q : SV -> HS -> Prop} (hna : as.length = f.na)
    (run : ∀ L A', AOk n A' -> RS w hB A' (callEnvC (fdE f) L f.fa) (execs (bodyOf f.st) (callEnvC (fdE f) L f.fa)) (vsf ((argNames f.st).zip as).reverse) (mkH h) (OQ (retS Q))) : SpecC w hB (n + 1) (.ref f.fa) (avs as) (mkH h) (HQ Q) := by
  obtain ⟨hsc, _⟩ := Bool.and_eq_true_iff.mp (List.all_eq_true.mp fnC_scope f hm)
  obtain ⟨hsc, h7⟩ := Bool.and_eq_true_iff.mp hsc
  obtain ⟨hsc, h6⟩ := Bool.and_eq_true_iff.mp hsc
  obtain ⟨hsc, h5⟩ := Bool.and_eq_true_iff.mp hsc
  have ho := List.map_inj_left.mp (fnC_at w.params) f hm
  have D : DefOK w f := defOK_of hsc (List.map_inj_left.mp (fnC_code w.params) f hm)
  have g2 := D.scope
  obtain ⟨co, cvs, t, hc1, hc2, hc3⟩ := D.cell
  intro A env vs ρ s K vals hA O hv k
  have hcn : ∀ m, ((cellsFrom m (fdE f).scope.names []).map (·.1)) = cellNames f.st := fun m => by
    rw [g2]; exact cellsFrom_names _ _ _ _ _ rfl
  have hcl : ∀ m x, (cellNames f.st).contains x = true -> ((cellsFrom m (fdE f).scope.names []).lookup x).isSome = true := fun m x hx => lookup_isSome_of (by rw [hcn]; simpa using hx)
  have hlt : ∀ bb x, s.heap.get? bb = some x -> bb ≠ s.heap.objs.size := fun bb x e q => by have := Heap.lt_size e; rw [q] at this; exact Nat.lt_irrefl _ this
  refine codeAny_call_cells (binds := (argNames f.st).zip vals) (fd := fdE f) (by have := hA.2.1; unfold recursionLimit; lia) (O.base _ _ (b _ _ ho)) rfl (b.nolim.keeps O.base) ?_ D.body (bindC_ok hm (by rw [<- hv.len, avs_len, hna])) D.clo (fun x hx => ?_) (fun s0 X => ?_) D.co D.gen D.kind
  · exact ⟨f.code, co, cvs, t, D.code, O.base _ _ (b _ _ hc1), hc2, hc3⟩
  · have := List.all_eq_true.mp h7 x.1 (List.of_mem_zip hx).1
    rw [g2]
    rw [Bool.or_eq_true, beq_iff_eq, Bool.and_eq_true, beq_iff_eq] at this
    rcases this with q | ⟨q, q'⟩
    · exact .inl q
    · exact .inr ⟨q, by have := hcl (s.heap.objs.size + 1) x.1 q'; rw [g2] at this; exact this⟩
  · obtain ⟨h₀, tk, rfl, hk₀⟩ := X.done
    let E' := callEnvC (fdE f) s.heap.objs.size f.fa
    have hns : h₀.Ns s.heap.objs.size (bindL E'.kindOf ((argNames f.st).zip vals) fun _ => none) := X.toInCall.ns
    have hsz : s.heap.objs.size <= h₀.objs.size := by
      obtain ⟨ob, _, _, e1, _⟩ := hns
      exact Nat.le_of_lt (Heap.lt_size e1)
    obtain ⟨O1, S1⟩ := O.ext (s' := { s with heap := h₀, toks := tk }) hk₀ hsz rfl rfl
    have hcells : E'.cells = cellsFrom (s.heap.objs.size + 1) (fdE f).scope.names [] := rfl
    have hnd : (E'.cells.map (·.1)).Nodup := by rw [hcells, hcn]; exact nodupS_ok h6
    have habove : ∀ p ∈ E'.cells, s.heap.objs.size < p.2 := fun p hp => X.above p.1 p.2 hp
    have kO : E'.kindOf = fun x => (scopeOf f.st).names.lookup x := by funext x; show (fdE f).scope.names.lookup x = _; rw [g2]
    have O0 : Ok w hB E' (vsOf (argNames f.st) (avs as)) (mkH h) ρ { s with heap := h₀, toks := tk } := by
      refine ⟨O1.base, O1.last, O1.objs, O1.big, O1.inj, ⟨⟨_, hns, fun x a e1 e2 => ?_⟩, fun x hx => ?_, fun x a hx hv' => ?_⟩, fun i hi e => ?_, O.size, fun p hp => ⟨Nat.le_trans O.size (Nat.le_of_lt (habove p hp)), _, X.cell p.1 p.2 (lookup_nodup hnd hp)⟩, (fun x y c e1 e2 => pair_inj X.apart (lookup_mem e1) (lookup_mem e2)), D.kind, D.glob, D.blt, O1.gens⟩
      · obtain ⟨v, e3, r⟩ := zip_rel (VRs.mono O S1 hv) e2
        refine ⟨v, ?_, r⟩
        rw [bindL_eq, if_pos e1, e3]; rfl
      · have hx' : (scopeOf f.st).names.lookup x = some .cell := by rw [<- hx, kO]
        have hmem : (cellNames f.st).contains x = true := by
          have := List.all_eq_true.mp h5 _ (lookup_memS hx')
          exact this
        obtain ⟨c, hc⟩ := Option.isSome_iff_exists.mp (hcl (s.heap.objs.size + 1) x hmem)
        refine ⟨c, _, hc, X.cell x c hc, fun a ha => ?_⟩
        obtain ⟨v, e3, r⟩ := zip_rel (VRs.mono O S1 hv) ha
        refine ⟨v, ?_, r⟩
        rw [bindC_eq, if_neg (by rw [hx]; simp), e3]; rfl
      · exfalso
        have h2 : ((argNames f.st).zip (avs as)).reverse.lookup x = some a := hv'
        have hmem : x ∈ argNames f.st := by
          have := lookup_memS h2
          exact (List.of_mem_zip (List.mem_reverse.mp this)).1
        have := List.all_eq_true.mp h7 x hmem
        have e' : (scopeOf f.st).names.lookup x = some .free := by rw [<- hx, kO]
        rw [e'] at this
        simp at this
      · obtain ⟨x, hx⟩ := O.oat hi
        exact hlt _ x hx e
    have fin : ∀ v a ρ' vs' H' s', Ok w hB E' vs' H' ρ' s' -> Step E' ρ (mkH h) { s with heap := h₀, toks := tk } ρ' H' s' -> VR s'.heap ρ' H' a v -> HQ Q a H' -> K v s' := fun v a ρ' vs' H' s' O' S' r q => by
      have kp : ∀ bb x, s.heap.get? bb = some x -> (∀ i, Mv (mkH h) i -> bb ≠ ρ i) -> s'.heap.get? bb = some x := fun bb x hx hn =>
        S'.keep bb x (hk₀ bb x hx) hn (hlt bb x hx) (fun p hp e => by
          have h1 := habove p hp
          have h2 := Heap.lt_size hx
          rw [e] at h2
          exact absurd h2 (Nat.not_lt.mpr (Nat.le_of_lt h1)))
      have S2 : Step env ρ (mkH h) s ρ' H' s' := ⟨S'.dom, S'.rho, fun i h1 h2 => (match h3 : s.heap.get? (ρ' i) with | none => rfl | some x => by have h4 := hk₀ _ _ h3; have h5 : h₀.get? (ρ' i) = none := S'.new i h1 h2; rw [h5] at h4; cases h4), fun bb x h => S'.live bb x (hk₀ _ _ h), fun bb x hx hn _ _ => kp bb x hx hn, S'.os⟩
      refine k v a ρ' H' s' (O.back O' S2 (fun x hx => ?_) (fun c v' hcv _ => ?_)) S2 r q
      · exact kp _ x hx (fun i hi e => O.nL i hi.1 e.symm)
      · obtain ⟨ob, h1, h2⟩ := hcv
        exact ⟨ob, kp _ _ h1 (fun i hi => (O.not_cell ⟨ob, h1, h2⟩).1 i hi.1), h2⟩
    rw [vsOf_eq] at O0
    refine wpAny_mono (run s.heap.objs.size (A.deeper E') hA.deeper ρ { s with heap := h₀, toks := tk } (fun f s' => match f with | .ret v => K v s' | .next => K .none s' | _ => False) O0 fun f out ρ' vs' H' s' O' S' r q => ?_) (fun f s' h => ?_) (fun _ _ h => h.elim)
    · obtain ⟨b', l, hs, q1, q2, q3, q4, q5⟩ := q
      subst q1; subst q3
      cases b' with
      | ret a => cases f <;> first | exact r.elim | exact fin _ a.av ρ' vs' _ s' O' S' r ⟨a, hs, rfl, rfl, q4, q5⟩
      | next => cases f <;> first | exact r.elim | exact fin _ .none ρ' vs' _ s' O' S' .none ⟨.none, hs, rfl, rfl, q4, q5⟩
      | brk => exact q5.elim
      | cont => exact q5.elim
    · cases f <;> first | exact h | exact h.elim
end
section
variable {w : World} {hB : Heap} {n : Nat} {h : HS}
theorem retS_OQ {Q : SV -> HS -> Prop} {o : Out} {v : VS} {H : AHeap} (q : OQ (retS Q) o v H) : retOf (HQ Q) o v H := by
  obtain ⟨b', l, hs, q1, q2, q3, q4, q5⟩ := q
  subst q1; subst q3
  cases b' with
  | next => exact ⟨.none, hs, rfl, rfl, q4, q5⟩
  | ret a => exact ⟨a, hs, rfl, rfl, q4, q5⟩
  | brk => exact q5.elim
  | cont => exact q5.elim
theorem defL_ok {f : FnE} (hm : f ∈ fnL) : DefOK w f := defOK_of (Bool.and_eq_true_iff.mp (Bool.and_eq_true_iff.mp (List.all_eq_true.mp fn_scope f hm)).1).1 (List.map_inj_left.mp (fn_code w.params) f hm)
theorem enter (b : Base w hB) {f : FnE} (hm : f ∈ fnL) {as : List SV} {Q : SV -> HS -> Prop} (hna : as.length = f.na)
    (run : ∀ L A', AOk n A' -> RS w hB A' (callEnv (fdE f) L f.fa) (execs (bodyOf f.st) (callEnv (fdE f) L f.fa)) (vsf ((argNames f.st).zip (as ++ f.df)).reverse) (mkH h) (OQ (retS Q))) : SpecC w hB (n + 1) (.ref f.fa) (avs as) (mkH h) (HQ Q) := by
  obtain ⟨hsc, h6⟩ := Bool.and_eq_true_iff.mp (List.all_eq_true.mp fn_scope f hm)
  have h5 := (Bool.and_eq_true_iff.mp hsc).2
  have D : DefOK w f := defL_ok hm
  obtain ⟨co, cvs, t, hc⟩ := D.cell
  refine spec_defC b (fd := fdE f) (body := bodyOf f.st) (argNames f.st) (List.map_inj_left.mp (fn_at w.params) f hm) rfl D.body ⟨f.code, co, cvs, t, D.code, hc⟩ (fun s ρ vals k r => fn_bind b hm k (by rw [<- r.len, avs_len, hna]) r) ?_ ?_ D.co D.gen D.kind D.glob D.blt D.clo fun L A' hA' => ?_
  · intro x hx q
    rw [D.scope] at hx
    have := not_true (List.all_eq_true.mp h5 x hx)
    rw [q] at this; exact Bool.noConfusion this
  · intro x hx
    rw [D.scope]
    exact eq_of_beq (List.all_eq_true.mp h6 x hx)
  · rw [<- avs_append, vsOf_eq]
    exact Run.mono (run L A' hA') fun o v H q => retS_OQ q
theorem callF_ok (b : Base w hB) {rr : Scope -> Rec} (hr : ∀ sc, sc.kind = .function -> RecOK w hB n (rr sc) sc) {fa : Nat} {as : List SV} {Q : SV -> HS -> Prop} (s : Small h) (e : callF rr fa as h Q) : SpecC w hB (n + 1) (.ref fa) (avs as) (mkH h) (HQ Q) := by
  unfold callF at e
  cases hf : fnAt fa as.length fnL with
  | some f =>
    rw [hf] at e
    obtain ⟨hm, hfa, hna⟩ := fnAt_mem hf
    subst hfa
    have D : DefOK w f := defL_ok hm
    exact enter b hm hna.symm fun L A' hA' => (hr (scopeOf f.st) (by rw [<- D.scope]; exact D.kind)).s (env := callEnv (fdE f) L f.fa) D.scope hA' s e
  | none =>
    rw [hf] at e
    dsimp only at e
    cases hf : fnAt fa as.length fnC with
    | some f =>
      rw [hf] at e
      obtain ⟨hm, hfa, hna⟩ := fnAt_mem hf
      subst hfa
      obtain ⟨hsc, _⟩ := Bool.and_eq_true_iff.mp (List.all_eq_true.mp fnC_scope f hm)
      obtain ⟨hsc, _⟩ := Bool.and_eq_true_iff.mp hsc
      obtain ⟨hsc, _⟩ := Bool.and_eq_true_iff.mp hsc
      obtain ⟨hsc, _⟩ := Bool.and_eq_true_iff.mp hsc
      have D : DefOK w f := defOK_of hsc (List.map_inj_left.mp (fnC_code w.params) f hm)
      exact enterK b hm hna.symm fun L A' hA' => (hr (scopeOf f.st) (by rw [<- D.scope]; exact D.kind)).s (env := callEnvC (fdE f) L f.fa) D.scope hA' s e
    | none => rw [hf] at e; exact e.elim
theorem orcAt_ok {O : List Orc} (hO : ∀ o ∈ O, OrcOK w hB o) {fa k : Nat} {F : OrcF} : ∀ {l : List Orc}, (∀ o ∈ l, o ∈ O) -> orcAt fa k l = some F -> ∃ o ∈ O, o.fa = fa /\ o.rank <= k /\ o.F = F
  | p :: r, hl, h => by
    unfold orcAt at h
    cases q : Nat.beq p.fa fa && Nat.ble p.rank k with
    | true =>
      rw [q] at h; cases h
      rw [Bool.and_eq_true] at q
      exact ⟨p, hl p (.head _), Nat.eq_of_beq_eq_true q.1, Nat.le_of_ble_eq_true q.2, rfl⟩
    | false => rw [q] at h; exact orcAt_ok hO (fun o ho => hl o (.tail _ ho)) h
theorem callC_ok (b : Base w hB) {rr : Scope -> Rec} (hr : ∀ sc, sc.kind = .function -> RecOK w hB n (rr sc) sc) {as : List SV} {Q : SV -> HS -> Prop} (s : Small h) {fa fI : Nat} {o d : Fix} (hc : lookN fa clsL = some (o, d, fI))
    (e : chk (isNone' (h.get (.s o)) && isNone' (h.get (.s d)) && isNone' h.st) (callF rr fI (.ref (.s o) :: as) ((h.put (.s d) (.fields [])).put (.s o) (.inst fa (.s d))) fun a h1 => match a with
        | .none => Q (.ref (.s o)) h1
        | _ => False)) : Spec w hB (n + 2) (.ref fa) (avs as) (mkH h) (HQ Q) := by
  obtain ⟨e1, e2⟩ := chk_ok e
  obtain ⟨e1, e3⟩ := Bool.and_eq_true_iff.mp e1
  obtain ⟨e1, e4⟩ := Bool.and_eq_true_iff.mp e1
  have hm := lookN_mem hc
  obtain ⟨h0, h1⟩ := Bool.and_eq_true_iff.mp (List.all_eq_true.mp (cls_ok w.params) _ hm)
  obtain ⟨h0, h2⟩ := Bool.and_eq_true_iff.mp h0
  have hne : Oid.s o ≠ Oid.s d := by
    have : clsL.all (fun p => !(decide (p.2.1 = p.2.2.1))) = true := by decide
    have := not_true (List.all_eq_true.mp this _ hm)
    intro q; exact of_decide_eq_false this (Oid.s.inj q)
  refine (sp_new b (.s o) (.s d) (mkH_none e1) (mkH_none e4) hne h0 (eq_of_beq h2) (eq_of_beq h1) ?_).spec
  have hst : h.st = none := by
    cases q : h.st with
    | none => rfl
    | some S => rw [q] at e3; exact Bool.noConfusion e3
  have c1 : canPut h (.s d) (.fields []) = true := by show (match h.st with | some _ => _ | none => true) = true; rw [hst]
  have c2 : canPut (h.put (.s d) (.fields [])) (.s o) (.inst fa (.s d)) = true := by
    have : (h.put (.s d) (.fields [])).st = none := by show HS.st (match h.st with | some S => _ | none => _) = none; rw [hst]
    show (match (h.put (.s d) (.fields [])).st with | some _ => _ | none => true) = true; rw [this]
  have := callF_ok b hr (small_put (small_put s c1 sok_fields) c2 sok_inst) e2
  rw [mkH_put c2, mkH_put c1] at this
  refine this.mono fun v H ⟨b', hs, q1, q2, q3, q4⟩ => ?_
  subst q1; subst q2
  cases b' with
  | none => exact ⟨rfl, .ref (.s o), hs, rfl, rfl, q3, q4⟩
  | _ => exact q4.elim
theorem callS_ok (b : Base w hB) {O : List Orc} (hO : ∀ o ∈ O, OrcOK w hB o) {rr : Scope -> Rec} (hr : ∀ sc, sc.kind = .function -> RecOK w hB n (rr sc) sc) {p : Pos} {f : Value} {as : List SV} {Q : SV -> HS -> Prop} (s : Small h)
    (e : callS O n rr p f as h Q) : Spec w hB (n + 2) f (avs as) (mkH h) (HQ Q) := by
  cases f with
  | builtin id => exact builtS_ok s b.sys e
  | type id => exact typeS_ok s e
  | ref fa =>
    unfold callS at e
    dsimp only at e
    cases hF : orcAt fa n O with
    | some F =>
      rw [hF] at e
      obtain ⟨o, ho, h1, h2, h3⟩ := orcAt_ok hO (fun o h => h) hF
      subst h1; subst h3
      exact hO o ho (n + 2) (Nat.le_add_right_of_le h2) as h Q s e
    | none =>
      rw [hF] at e
      dsimp only at e
      cases hc : lookN fa clsL with
      | some p =>
        rw [hc] at e
        obtain ⟨o, d, fI⟩ := p
        exact callC_ok b hr s hc e
      | none => rw [hc] at e; exact (callF_ok b hr s e).spec.lift (Nat.le_succ _)
  | _ => exact e.elim
end
section
variable {w : World} {hB : Heap} {n : Nat} {h : HS} {A : Around} {env : Env} {sc : Scope} {l : SVS}
theorem bI_imp {c : Bool} {P Q P' Q' : Prop} (q : bI c P Q) (h1 : P -> P') (h2 : Q -> Q') : (c = true -> P') /\ (c = false -> Q') := by
  cases c with
  | true => exact ⟨fun _ => h1 q, Bool.noConfusion⟩
  | false => exact ⟨Bool.noConfusion, fun _ => h2 q⟩
theorem evL_ok {r : Rec} (R : RecOK w hB n r sc) (hs : env.scope = sc) (hA : AOk n A) {pos : Pos} {es : List Expr} : ∀ {l : SVS} {h : HS} {Q}, Small h -> evL r es l h Q -> RL w hB A env (spliced (backTo pos (starEach es env))) (vsf l) (mkH h) (LQ Q) := by
  induction es with
  | nil => intro l h Q s e; exact l_nil ⟨[], l, h, rfl, rfl, rfl, s, e⟩
  | cons x es ih =>
    intro l h Q s e
    obtain ⟨e1, e2⟩ := chk_ok e
    refine l_cons e1 ((R.e hs hA s e2).mono fun a v H ⟨b, l1, h1, q1, q2, q3, q4, q5⟩ => ?_)
    subst q1; subst q2; subst q3
    exact (ih q4 q5).mono fun as v H ⟨bs, l2, h2, p1, p2, p3, p4, p5⟩ => ⟨b :: bs, l2, h2, by rw [p1]; rfl, p2, p3, p4, p5⟩
noncomputable def PQ (Q : List (Str × SV) -> SVS -> HS -> Prop) : List (Str × AV) -> VS -> AHeap -> Prop := fun ps v H => ∃ bs l1 h1, ps = bs.map (fun p => (p.1, p.2.av)) /\ v = vsf l1 /\ H = mkH h1 /\ Small h1 /\ Q bs l1 h1
theorem evP_ok {r : Rec} (R : RecOK w hB n r sc) (hs : env.scope = sc) (hA : AOk n A) {pos : Pos} {ks : List (Option Expr)} : ∀ {es : List Expr} {l : SVS} {h : HS} {Q}, Small h -> evP r ks es l h Q ->
    RP w hB A env (evalPairs (pairTrees ks es env pos)) (vsf l) (mkH h) (PQ Q) := by
  induction ks with
  | nil =>
    intro es l h Q s e
    cases es with
    | nil => exact p_nil ⟨[], l, h, rfl, rfl, rfl, s, e⟩
    | cons _ _ => exact e.elim
  | cons k ks ih =>
    intro es l h Q s e
    cases k with
    | none => exact e.elim
    | some ke =>
      cases es with
      | nil => exact e.elim
      | cons ve es =>
        refine p_cons ((R.e hs hA s e).mono fun a v H ⟨b, l1, h1, q1, q2, q3, q4, q5⟩ => ?_)
        obtain ⟨x, hx, q5⟩ := gC_inv q5
        subst q1; subst q2; subst q3
        refine ⟨x, by rw [hx]; rfl, (R.e hs hA q4 q5).mono fun a v H ⟨c, l2, h2, p1, p2, p3, p4, p5⟩ => ?_⟩
        subst p1; subst p2; subst p3
        exact (ih p4 p5).mono fun ps v H ⟨bs, l3, h3, o1, o2, o3, o4, o5⟩ => ⟨(x, c) :: bs, l3, h3, by rw [o1]; rfl, o2, o3, o4, o5⟩
theorem nodupK_ok : ∀ {es : List (Str × SV)}, nodupK es = true -> (es.map (·.1)).Nodup
  | [], _ => List.nodup_nil
  | p :: r, h => by
    have h' := Bool.and_eq_true_iff.mp (show (!(r.any fun q => q.1 == p.1) && nodupK r) = true from h)
    rw [List.map_cons, List.nodup_cons]
    refine ⟨fun q => ?_, nodupK_ok h'.2⟩
    obtain ⟨y, hy, e⟩ := List.mem_map.mp q
    have h1 := h'.1
    rw [Bool.not_eq_true', List.any_eq_false] at h1
    exact h1 y hy (by simpa using e)
theorem isSd0_ok {x : SO} (e : isSd0 x = true) : x = .sdict [] := by
  cases x with
  | sdict l => cases l with
    | nil => rfl
    | cons _ _ => exact Bool.noConfusion e
  | _ => exact Bool.noConfusion e
theorem evDict_ok {r : Rec} (R : RecOK w hB n r sc) (hs : env.scope = sc) (hA : AOk n A) {ks : List (Option Expr)} {vs : List Expr} {p : Pos} {Q} (s : Small h) (e : evDict r ks vs p l h Q) : RV w hB A env (eval (.Dict ks vs p) env) (vsf l) (mkH h) (SQ Q) := by
  cases ks with
  | nil =>
    cases vs with
    | cons _ _ => exact e.elim
    | nil =>
      have e : evDict0 p l h Q := e
      unfold evDict0 at e
      cases q : siteAt p with
      | fix f x =>
        rw [q] at e
        obtain ⟨_, e⟩ := chk_ok e
        obtain ⟨e1, e2⟩ := chk_ok e
        obtain ⟨e1, e3⟩ := Bool.and_eq_true_iff.mp e1
        refine e_dict0 (.s f) (.ndict []) (.inr rfl) (mkH_none e1) ⟨.ref (.s f), l, _, rfl, rfl, ?_, small_put s e3 (sok_ndict (Nat.zero_le _)), e2⟩
        rw [mkH_put e3]; rfl
      | _ => rw [q] at e; exact e.elim
  | cons k ks =>
    obtain ⟨e1, e2⟩ := chk_ok (show evDict1 r (k :: ks) vs (dictO p) l h Q from e)
    generalize dictO p = o at e1 e2
    obtain ⟨e1, nz⟩ := Bool.and_eq_true_iff.mp e1
    obtain ⟨e1, fx⟩ := Bool.and_eq_true_iff.mp e1
    obtain ⟨e1, g4⟩ := Bool.and_eq_true_iff.mp e1
    obtain ⟨e1, g3⟩ := Bool.and_eq_true_iff.mp e1
    obtain ⟨g1, g2⟩ := Bool.and_eq_true_iff.mp e1
    refine e_dict o (notZ_ok nz) g1 (Nat.eq_of_beq_eq_true g2) (List.cons_ne_nil _ _) (Nat.le_of_ble_eq_true g3) (mkH_none g4) ?_
    have := evP_ok R hs hA (pos := p) (small_put s fx sok_sdict) e2
    rw [mkH_put fx] at this
    refine Run.mono this fun ps v H ⟨bs, l1, h1, q1, q2, q3, q4, q5⟩ => ?_
    subst q1; subst q2; subst q3
    obtain ⟨y, hg, q5⟩ := gO_inv q5
    obtain ⟨hy, q5⟩ := chk_ok q5
    rw [isSd0_ok hy] at hg
    obtain ⟨r1, r2⟩ := chk_ok q5
    obtain ⟨r1, r3⟩ := Bool.and_eq_true_iff.mp r1
    refine ⟨mkH_some hg, by rw [List.map_map]; exact nodupK_ok r1, .ref o, l1, _, rfl, rfl, ?_, small_put q4 r3 sok_sdict, r2⟩
    rw [mkH_put r3]; rfl
theorem allS_ok {r : Rec} (R : RecOK w hB n r sc) (hs : env.scope = sc) (hA : AOk n A) {op : BoolOp} {es : List Expr} : ∀ {l : SVS} {h : HS} {Q}, Small h -> allS r op es l h Q -> RB w hB A env (allTrue op es env) (vsf l) (mkH h) (TQ Q) := by
  induction es with
  | nil =>
    intro l h Q s e
    cases op with
    | And => exact a_and_nil ⟨l, h, rfl, rfl, s, e⟩
    | Or => exact a_or_nil ⟨l, h, rfl, rfl, s, e⟩
  | cons x es ih =>
    intro l h Q s e
    cases op with
    | And =>
      refine a_and ((R.t hs hA s e).mono fun c v H ⟨l1, h1, q2, q3, q4, q5⟩ => ?_)
      subst q2; subst q3
      exact bI_imp q5 (ih q4) fun q => ⟨l1, h1, rfl, rfl, q4, q⟩
    | Or =>
      refine a_or ((R.t hs hA s e).mono fun c v H ⟨l1, h1, q2, q3, q4, q5⟩ => ?_)
      subst q2; subst q3
      exact bI_imp q5 (fun q => ⟨l1, h1, rfl, rfl, q4, q⟩) (ih q4)
set_option tactic.hygienic true in
theorem nameS_ok (b : Base w hB) {x : Str} {pos : Pos} {v : SV} {Q} (s : Small h) (e : nameS env.scope x l = some v) (q : Q v l h) : RV w hB A env (eval (.Name x pos) env) (vsf l) (mkH h) (SQ Q) := by
  have fin : SQ Q v.av (vsf l) (mkH h) := ⟨v, l, h, rfl, rfl, rfl, s, q⟩
  unfold nameS at e
  cases hd : !(x == ("__debug__" : Str)) && !(x == ("__classdict__" : Str)) with
  | false => rw [hd] at e; exact no_some e
  | true =>
    rw [hd] at e
    obtain ⟨d1, d2⟩ := Bool.and_eq_true_iff.mp hd
    replace d1 := not_true d1
    replace d2 := not_true d2
    dsimp only at e
    cases hk : env.scope.names.lookup x with
    | none => rw [hk] at e; exact no_some e
    | some k =>
      rw [hk] at e
      cases k with
      | globalExplicit => exact no_some e
      | globalImplicit =>
        dsimp only at e
        cases hu : gL.lookup x with
        | none => rw [hu] at e; exact no_some e
        | some u =>
          rw [hu] at e
          obtain rfl := Option.some.inj e
          have := List.map_inj_left.mp (gL_ok w.params) _ (lookup_memS hu)
          unfold glk at this
          split at this
          · rename_i u' hg
            obtain rfl := Option.some.inj this
            exact e_glob b hk d1 hg fin
          · rename_i hg
            exact e_built b hk d1 hg this fin
      | «local» => exact e_local hk d1 (vsf_some e) fin
      | cell => exact e_cell hk d1 (vsf_some e) fin
      | free => exact e_free hk d1 d2 (vsf_some e) fin
theorem keepV_ok {f : Value} (e : keepV f = true) : KeepOK w f := by
  cases f with
  | builtin _ => exact keep_builtin _
  | type _ => exact keep_type _
  | ref fa =>
    obtain ⟨x, hx, q⟩ := List.any_eq_true.mp (show keepL.any (Nat.beq fa) = true from e)
    rw [Nat.eq_of_beq_eq_true q]
    exact keep_K (List.all_eq_true.mp (keep_ok w.params) _ hx)
  | _ => exact Bool.noConfusion e
end
theorem clo_go {env : Env} (names : List (Str × NameKind)) : ∀ (acc : List (Str × Addr)), (∀ p ∈ names, p.2 = .free -> ∃ c, env.cells.lookup p.1 = some c) ->
    ∃ cl, (forIn names acc fun x __s => if (x.snd == NameKind.free) = true then do
                let __do_lift <- cellOf env x.fst
                pure (ForInStep.yield ((x.fst, __do_lift) :: __s))
              else pure (ForInStep.yield __s)) = (pure cl : Sem _) /\ (∀ p ∈ cl, p ∈ acc ∨ env.cells.lookup p.1 = some p.2 /\ (p.1, NameKind.free) ∈ names) /\ (∀ p ∈ acc, p ∈ cl) /\ (∀ p ∈ names, p.2 = .free -> ∃ c, (p.1, c) ∈ cl) := by
  induction names with
  | nil => intro acc _; exact ⟨acc, rfl, fun p hp => .inl hp, fun p hp => hp, fun p hp => nomatch hp⟩
  | cons y r ih =>
    intro acc h
    obtain ⟨x, k⟩ := y
    by_cases q : k = .free
    · subst q
      obtain ⟨c, hc⟩ := h (x, .free) (.head _) rfl
      obtain ⟨cl, h1, h2, h3, h4⟩ := ih ((x, c) :: acc) fun p hp => h p (.tail _ hp)
      have e : cellOf env x = pure c := by unfold cellOf; rw [hc]
      refine ⟨cl, ?_, fun p hp => ?_, fun p hp => h3 p (.tail _ hp), fun p hp hf => ?_⟩
      · rw [List.forIn_cons]
        rw [if_pos (by rfl), e]
        exact h1
      · rcases h2 p hp with q | ⟨q1, q2⟩
        · cases q with
          | head => exact .inr ⟨hc, .head _⟩
          | tail _ q => exact .inl q
        · exact .inr ⟨q1, .tail _ q2⟩
      · cases hp with
        | head => exact ⟨c, h3 _ (.head _)⟩
        | tail _ hp => exact h4 p hp hf
    · obtain ⟨cl, h1, h2, h3, h4⟩ := ih acc fun p hp => h p (.tail _ hp)
      refine ⟨cl, ?_, fun p hp => ?_, h3, fun p hp hf => ?_⟩
      · rw [List.forIn_cons, if_neg (by simpa using q)]
        exact h1
      · rcases h2 p hp with q | ⟨q1, q2⟩
        · exact .inl q
        · exact .inr ⟨q1, .tail _ q2⟩
      · cases hp with
        | head => exact absurd hf q
        | tail _ hp => exact h4 p hp hf
theorem nodupN_ok : ∀ {l : List (Str × NameKind)}, nodupN l = true -> ∀ p ∈ l, l.lookup p.1 = some p.2
  | [], _, p, hp => nomatch hp
  | q :: r, h, p, hp => by
    have h' := Bool.and_eq_true_iff.mp (show (!(r.any fun z => z.1 == q.1) && nodupN r) = true from h)
    obtain ⟨q1, q2⟩ := q
    rw [List.lookup_cons]
    cases hp with
    | head => simp
    | tail _ hp =>
      have : (p.1 == q1) = false := by
        cases e : p.1 == q1 with
        | false => rfl
        | true =>
          have h1 := h'.1
          rw [Bool.not_eq_true', List.any_eq_false] at h1
          exact absurd e (by simpa using h1 p hp)
      rw [this]
      exact nodupN_ok h'.2 p hp
theorem lookup_filterK {P : Str -> Bool} {y : Str} {l : SVS} : (l.filter fun p => !(P p.1)).lookup y = if P y = true then none else l.lookup y := by
  induction l with
  | nil => rw [List.filter_nil, List.lookup_nil, ite_self]
  | cons p r ih =>
    obtain ⟨x, a⟩ := p
    rw [List.filter_cons]
    cases q : P x with
    | true =>
      rw [if_neg (show ¬ ((!true) = true) from Bool.false_ne_true), ih, List.lookup_cons]
      by_cases e : y = x
      · subst e; rw [if_pos q, if_pos q]
      · rw [beq_eq_false_iff_ne.mpr e]
    | false =>
      rw [if_pos (show (!false) = true from rfl), List.lookup_cons, List.lookup_cons, ih]
      by_cases e : y = x
      · subst e; rw [beq_self_eq_true]; show some a = if P y = true then none else some a; rw [if_neg (show ¬ P y = true by rw [q]; exact Bool.false_ne_true)]
      · rw [beq_eq_false_iff_ne.mpr e]
noncomputable def relK (sc : Scope) (n : Str) (k : NameKind) : NameKind := if (k == .free && sc.kind == .function && sc.names.lookup n == some .cell) then .cell else k
theorem lookup_rel {sc : Scope} {y : Str} {l : List (Str × NameKind)} : (l.map fun (n, k) => if (k == .free && sc.kind == .function && sc.names.lookup n == some .cell) then (n, NameKind.cell) else (n, k)).lookup y =
    (l.lookup y).map fun k => if (k == .free && sc.kind == .function && sc.names.lookup y == some .cell) then .cell else k := by
  have hd : (fun p : Str × NameKind => match p with | (n, k) => if (k == .free && sc.kind == .function && sc.names.lookup n == some .cell) then (n, NameKind.cell) else (n, k)) = fun p => (p.1, relK sc p.1 p.2) := by
    funext p
    unfold relK
    dsimp only
    split <;> rfl
  rw [hd]
  show List.lookup y (l.map fun p => (p.1, relK sc p.1 p.2)) = (l.lookup y).map (relK sc y)
  induction l with
  | nil => rfl
  | cons p r ih =>
    obtain ⟨n, k⟩ := p
    rw [List.map_cons, List.lookup_cons, List.lookup_cons]
    by_cases e : y = n
    · subst e; rw [beq_self_eq_true]; rfl
    · rw [beq_eq_false_iff_ne.mpr e]; exact ih
section
variable {w : World} {hB : Heap} {n : Nat} {h : HS} {A : Around} {env : Env} {l : SVS} {ρ : Rho} {s : Shared} {vs : VS} {H : AHeap}
structure CompFacts (sc' : Scope) (x : Str) (env : Env) (cl : List (Str × Addr)) : Prop where
  clos : closureFor sc' env = pure cl
  kind : sc'.kind = .function
  cell : ∀ y ∈ sc'.names, y.2 ≠ .cell
  names : ∀ y ∈ sc'.names, y.2 = .local -> sc'.names.lookup y.1 = some .local
  hx : (compEnvC sc' cl 0 env).kindOf x = some .local
  ok : ClOK sc' cl env
  inner : ∀ C l, v0Of (compEnvC sc' cl C env) (vsf l) = vsf (innerL sc' l)
theorem compOK_debug {sc' sc : Scope} {x : Str} (e : compOK sc' sc x = true) : (x == ("__debug__" : Str)) = false := by
  unfold compOK at e
  rw [Bool.and_eq_true, Bool.not_eq_true'] at e
  exact e.2
set_option tactic.hygienic true in
theorem comp_facts (O : Ok w hB env vs H ρ s) {sc' sc : Scope} {x : Str} (hs : env.scope = sc) (hk : sc.kind = .function) (e : compOK sc' sc x = true) : ∃ cl, CompFacts sc' x env cl := by
  obtain ⟨e, e5⟩ := Bool.and_eq_true_iff.mp e
  obtain ⟨e, e4⟩ := Bool.and_eq_true_iff.mp e
  obtain ⟨e, e3⟩ := Bool.and_eq_true_iff.mp e
  obtain ⟨e1, e2⟩ := Bool.and_eq_true_iff.mp e
  replace e1 : sc'.kind = .function := eq_of_beq e1
  replace e4 : sc'.names.lookup x = some .local := eq_of_beq e4
  replace e3 : ∀ p ∈ sc'.names, p.2 ≠ .cell /\ (p.2 ≠ .free ∨ sc.names.lookup p.1 = some .cell) := fun p hp => by
    obtain ⟨z1, z2⟩ := Bool.and_eq_true_iff.mp (List.all_eq_true.mp e3 p hp)
    refine ⟨beq_eq_false_iff_ne.mp (not_true z1), ?_⟩
    rcases Bool.or_eq_true_iff.mp z2 with z | z
    · exact .inl (beq_eq_false_iff_ne.mp (not_true z))
    · exact .inr (eq_of_beq z)
  have free : ∀ p ∈ sc'.names, p.2 = .free -> env.kindOf p.1 = some .cell := fun p hp hf => by
    have := (e3 p hp).2
    rcases this with q | q
    · exact absurd hf q
    · unfold Env.kindOf; rw [hs]; exact q
  obtain ⟨cl, h1, h2, h3, h4⟩ := clo_go (env := env) sc'.names [] fun p hp hf => by
    obtain ⟨c, _, h, _⟩ := O.fr.cel p.1 (free p hp hf)
    exact ⟨c, h⟩
  have kd : ∀ C y, (compEnvC sc' cl C env).kindOf y = (sc'.names.lookup y).map fun k => if (k == .free && sc.kind == .function && sc.names.lookup y == some .cell) then .cell else k := fun C y => by
    subst hs
    exact lookup_rel
  have mem : ∀ p ∈ cl, env.cells.lookup p.1 = some p.2 /\ (p.1, NameKind.free) ∈ sc'.names := fun p hp => (h2 p hp).resolve_left (fun q => nomatch q)
  have look : ∀ p ∈ cl, cl.lookup p.1 = some p.2 := fun p hp => by
    have : (cl.lookup p.1).isSome = true := lookup_isSome_of (List.mem_map.mpr ⟨p, hp, rfl⟩)
    obtain ⟨c, hc⟩ := Option.isSome_iff_exists.mp this
    have h5 := (mem _ (lookup_mem hc)).1
    rw [(mem p hp).1] at h5
    rw [hc, <- h5]
  have cellK : ∀ y, sc'.names.lookup y = some .free -> (y, NameKind.free) ∈ sc'.names -> (compEnvC sc' cl 0 env).kindOf y = some .cell := fun y q hm => by
    rw [kd, q]
    have h6 := free (y, .free) hm rfl
    unfold Env.kindOf at h6; rw [hs] at h6
    simp only [Option.map_some, h6, hk]
    rfl
  refine ⟨cl, ?_, e1, fun y hy => (e3 y hy).1, fun y hy hl => by rw [nodupN_ok e2 y hy, hl], by rw [kd, e4]; rfl, ⟨fun p hp => ⟨look p hp, (mem p hp).1, .inl ?_⟩, fun y hy => ?_⟩, fun C l => ?_⟩
  · unfold closureFor
    dsimp only
    rw [h1]; rfl
  · have hm := (mem p hp).2
    exact cellK p.1 (nodupN_ok e2 _ hm) hm
  · have hn : ∃ k, sc'.names.lookup y = some k /\ (k = .free ∨ k = .cell) := by
      rw [kd] at hy
      cases q : sc'.names.lookup y with
      | none => rw [q] at hy; rcases hy with hy | hy <;> cases hy
      | some k =>
        rw [q] at hy
        refine ⟨k, rfl, ?_⟩
        simp only [Option.map_some, Option.some.injEq] at hy
        rcases hy with hy | hy
        · split at hy
          · rename_i z; simp only [Bool.and_eq_true, beq_iff_eq] at z; exact .inl z.1.1
          · exact .inr hy
        · split at hy
          · cases hy
          · exact .inl hy
    obtain ⟨k, q, hk2⟩ := hn
    have hm : (y, k) ∈ sc'.names := lookup_memS q
    rcases hk2 with rfl | rfl
    · obtain ⟨c, hc⟩ := h4 (y, .free) hm rfl
      exact ⟨c, look _ hc, (mem _ hc).1, .inl (free _ hm rfl)⟩
    · exact absurd rfl (e3 _ hm).1
  · funext y
    unfold v0Of innerL
    have hl : (compEnvC sc' cl C env).kindOf y = some .local ↔ sc'.names.lookup y = some .local := by
      rw [kd]
      cases q : sc'.names.lookup y with
      | none => simp
      | some k =>
        simp only [Option.map_some, Option.some.injEq]
        split
        · rename_i z; simp only [Bool.and_eq_true, beq_iff_eq] at z
          rw [z.1.1]; simp
        · rfl
    have hf := lookup_filterK (P := fun z => sc'.names.lookup z == some NameKind.local) (y := y) (l := l)
    refine Eq.trans ?_ (congrArg (Option.map SV.av) hf.symm)
    by_cases q : sc'.names.lookup y = some .local
    · rw [if_pos (hl.mpr q), if_pos (by simpa using q)]; rfl
    · rw [if_neg (fun z => q (hl.mp z)), if_neg (by simpa using q)]; rfl
noncomputable def slE (f : Bool) (lo : PySem.Expr) (p : Pos) : PySem.Expr := match f with
  | true => .Slice (some lo) none none p
  | false => .Slice none (some lo) none p
noncomputable def SlP (from' : Bool) (a b : AV) (H2 : AHeap) (P : AV -> AHeap -> Prop) : Prop := ∃ o2 o xs i, a = .ref o /\ b = .int i /\ 0 <= i /\ H2 o = some (.list xs) /\ xs.length <= 1000000 /\ H2 o2 = none /\ P (.ref o2) (upd H2 o2 (.list (cutAt from' xs i.toNat)))
noncomputable def slObj (vl vu : Value) : Obj := { cls := .type "slice", data := .fields #[vl, vu, .none] }
noncomputable def SlOut (K : Value -> Shared -> Prop) (from' : Bool) (v u : Value) (s2 : Shared) : Prop := ∃ (l : Addr) (items : List Value) (j : Nat) (t : Tok), v = .ref l /\ u = .int j t /\ s2.heap.IsList l items.toArray /\ items.toArray.size <= sizeLine /\ ∀ vl vu, K (.ref (s2.heap.objs.size + 1)) { s2 with heap := (s2.heap.push (slObj vl vu)).push { cls := .type "list", data := .seq (cutAt from' items j).toArray } }
theorem sl_out {from' : Bool} {v u : Value} {a b : AV} {v2 : VS} {ρ1 ρ2 : Rho} {H1 H2 : AHeap} {s1 s2 : Shared} {K : Value -> Shared -> Prop} {P : AV -> AHeap -> Prop} (r1 : VR s1.heap ρ1 H1 a v) (O2 : Ok w hB env v2 H2 ρ2 s2) (S2 : Step env ρ1 H1 s1 ρ2 H2 s2) (r2 : VR s2.heap ρ2 H2 b u)
    (q2 : SlP from' a b H2 P) (k : ∀ v a ρ' H' s', Ok w hB env v2 H' ρ' s' -> Step env ρ2 H2 s2 ρ' H' s' -> VR s'.heap ρ' H' a v -> P a H' -> K v s') : SlOut K from' v u s2 := by
  obtain ⟨o2, o, xs, i, rfl, rfl, h0, h1, h2, h3, q⟩ := q2
  obtain ⟨rfl, hd⟩ := r1.inv
  obtain ⟨t, rfl⟩ := r2.inv
  obtain ⟨us, m, hl, hs⟩ := O2.listAt h1
  rw [S2.rho o hd] at hl
  obtain ⟨j, rfl⟩ := Int.eq_ofNat_of_zero_le h0
  refine ⟨_, us, j, t, rfl, rfl, ⟨_, hl, rfl, _, rfl⟩, by rw [List.size_toArray, <- hs.len]; exact sizeLine_big h2, fun vl vu => ?_⟩
  obtain ⟨O3, S3⟩ := O2.pushed (slObj vl vu) s2.toks
  have hs3 := VRs.mono O2 S3 hs
  have hcut : VRs (s2.heap.push (slObj vl vu)) ρ2 H2 (cutAt from' xs j) (cutAt from' us j) := by
    cases from' with
    | true => exact hs3.drop j
    | false => exact hs3.take j
  obtain ⟨O4, S4⟩ := O3.newListAt (o := o2) (xs := cutAt from' xs j) (ys := cutAt from' us j) (s' := { s2 with heap := (s2.heap.push (slObj vl vu)).push { cls := .type "list", data := .seq (cutAt from' us j).toArray } }) h3 hcut 0 (Nat.le_refl _) (fun b x e => Heap.get?_push_of_some _ e) (Heap.get?_push_size _ rfl) rfl rfl
  have e : s2.heap.objs.size + 1 = updR ρ2 o2 (s2.heap.push (slObj vl vu)).objs.size o2 := by rw [updR_self, Heap.size_push]
  rw [e]
  exact k _ (.ref o2) _ _ _ O4 (S3.trans S4) (.ref o2 (by rw [upd_self]; exact Option.some_ne_none _)) q
theorem isName_ok {e : PySem.Expr} (h : isName e = true) : ∃ x p, e = .Name x p := by
  unfold isName at h
  cases q : nameOf e with
  | none => rw [q] at h; exact Bool.noConfusion h
  | some x => exact ⟨x, nameOf_ok q⟩
theorem e_slice (from' : Bool) {value lo : PySem.Expr} {p pos : Pos} {Q : AV -> VS -> AHeap -> Prop} (hn : isName value = true)
    (h : RV w hB A env (eval value env) vs H fun a v1 H1 => RV w hB A env (eval lo env) v1 H1 fun b v2 H2 => SlP from' a b H2 fun c H3 => Q c v2 H3) :
    RV w hB A env (eval (.Subscript value (slE from' lo p) pos) env) vs H Q := fun ρ s K O k => by
  obtain ⟨x, xp, rfl⟩ := isName_ok hn
  cases from' with
  | true =>
    refine wpAny_Subscript_list_slice (ht := fun _ _ => rfl) (h ρ s _ O fun v a ρ1 v1 H1 s1 O1 S1 r1 q1 => ?_)
    rw [evalPart_some]
    refine q1 ρ1 s1 _ O1 fun u b ρ2 v2 H2 s2 O2 S2 r2 q2 => ?_
    rw [evalPart_none]
    refine wpAny_pure ?_
    obtain ⟨l, items, j, t, rfl, rfl, g1, g2, g3⟩ := sl_out r1 O2 S2 r2 q2 fun v a ρ' H' s' O' S' => k v a ρ' v2 H' s' O' ((S1.trans S2).trans S')
    refine ⟨_, items.toArray, some (j : Int), none, rfl, g1, g2, .int _ t, .none, ?_⟩
    rw [slicePick_from']
    exact g3 _ _
  | false =>
    refine wpAny_Subscript_list_slice (ht := fun _ _ => rfl) (h ρ s _ O fun v a ρ1 v1 H1 s1 O1 S1 r1 q1 => ?_)
    rw [evalPart_none]
    refine wpAny_pure ?_
    rw [evalPart_some]
    refine q1 ρ1 s1 _ O1 fun u b ρ2 v2 H2 s2 O2 S2 r2 q2 => ?_
    obtain ⟨l, items, j, t, rfl, rfl, g1, g2, g3⟩ := sl_out r1 O2 S2 r2 q2 fun v a ρ' H' s' O' S' => k v a ρ' v2 H' s' O' ((S1.trans S2).trans S')
    refine ⟨_, items.toArray, none, some (j : Int), rfl, g1, g2, .none, .int _ t, ?_⟩
    rw [slicePick_upto']
    exact g3 _ _
end
section
variable {w : World} {hB : Heap} {n : Nat} {h : HS} {A : Around} {env : Env} {l : SVS}
theorem SQ.go {Q : SV -> SVS -> HS -> Prop} {P : AV -> VS -> AHeap -> Prop} (k : ∀ b l1 h1, Small h1 -> Q b l1 h1 -> P b.av (vsf l1) (mkH h1)) : ∀ a v H, SQ Q a v H -> P a v H := fun a v H zz => by
  obtain ⟨b, l1, h1, q1, q2, q3, q4, q5⟩ := zz
  subst q1; subst q2; subst q3; exact k b l1 h1 q4 q5
theorem LQ.go {Q : List SV -> SVS -> HS -> Prop} {P : List AV -> VS -> AHeap -> Prop} (k : ∀ b l1 h1, Small h1 -> Q b l1 h1 -> P (avs b) (vsf l1) (mkH h1)) : ∀ a v H, LQ Q a v H -> P a v H := fun a v H zz => by
  obtain ⟨b, l1, h1, q1, q2, q3, q4, q5⟩ := zz
  subst q1; subst q2; subst q3; exact k b l1 h1 q4 q5
theorem TQ.go {Q : Bool -> SVS -> HS -> Prop} {P : Bool -> VS -> AHeap -> Prop} (k : ∀ b l1 h1, Small h1 -> Q b l1 h1 -> P b (vsf l1) (mkH h1)) : ∀ a v H, TQ Q a v H -> P a v H := fun a v H zz => by
  obtain ⟨l1, h1, q2, q3, q4, q5⟩ := zz
  subst q2; subst q3; exact k a l1 h1 q4 q5
theorem OQ.go {Q : SOut -> SVS -> HS -> Prop} {P : Out -> VS -> AHeap -> Prop} (k : ∀ b l1 h1, Small h1 -> Q b l1 h1 -> P b.out (vsf l1) (mkH h1)) : ∀ a v H, OQ Q a v H -> P a v H := fun a v H zz => by
  obtain ⟨b, l1, h1, q1, q2, q3, q4, q5⟩ := zz
  subst q1; subst q2; subst q3; exact k b l1 h1 q4 q5
theorem SQ.at {a' : SV} {l' : SVS} {h' : HS} {P : AV -> VS -> AHeap -> Prop} (k : Small h' -> P a'.av (vsf l') (mkH h')) : ∀ a v H, SQ (fun b l h => b = a' /\ l = l' /\ h = h') a v H -> P a v H := SQ.go fun a l1 h1 s1 q => by
  obtain ⟨rfl, rfl, rfl⟩ := q; exact k s1
theorem TQ.at {a' : Bool} {l' : SVS} {h' : HS} {P : Bool -> VS -> AHeap -> Prop} (k : Small h' -> P a' (vsf l') (mkH h')) : ∀ a v H, TQ (fun b l h => b = a' /\ l = l' /\ h = h') a v H -> P a v H := TQ.go fun a l1 h1 s1 q => by
  obtain ⟨rfl, rfl, rfl⟩ := q; exact k s1
theorem OQ.at {a' : SOut} {l' : SVS} {h' : HS} {P : Out -> VS -> AHeap -> Prop} (k : Small h' -> P a'.out (vsf l') (mkH h')) : ∀ a v H, OQ (fun b l h => b = a' /\ l = l' /\ h = h') a v H -> P a v H := OQ.go fun a l1 h1 s1 q => by
  obtain ⟨rfl, rfl, rfl⟩ := q; exact k s1
theorem SQ.mk {Q : SV -> SVS -> HS -> Prop} {b : SV} {l1 : SVS} {h1 : HS} (s : Small h1) (q : Q b l1 h1) : SQ Q b.av (vsf l1) (mkH h1) := ⟨b, l1, h1, rfl, rfl, rfl, s, q⟩
theorem notSet_ok {iter : PySem.Expr} (e : notSet iter = true) (v : Value) : foldedSetIterable iter env v = pure v := by
  cases iter with
  | Set => exact Bool.noConfusion e
  | _ => rfl
theorem filter_snoc {α : Type} (P : α -> Bool) {es : List α} {k : Nat} {e : α} (h : es[k]? = some e) : (es.take (k + 1)).filter P = (es.take k).filter P ++ (if P e then [e] else []) := by
  rw [List.take_add_one, h, List.filter_append]
  congr 1
  show List.filter P [e] = _
  cases q : P e <;> simp [q]
variable {O : List Orc} {rr : Scope -> Rec}
theorem upd_upd {H : AHeap} {o : Oid} {x y : AO} : upd (upd H o x) o y = upd H o y := by
  funext i; unfold upd; split <;> rfl
variable {m : Nat}
theorem good_newM {src : Src} {h1 : HS} {x : SO} (g : src.Good (mkH h1)) : src.Good (mkH (h1.newM x)) := by
  cases src with
  | list o xs =>
    have g : mkH h1 o = some (.list xs) := g
    show mkH (h1.newM x) o = _
    rw [mkH_get (fun i => get_newM), upd_ne (fun e => by rw [e, m_none] at g; cases g)]; exact g
  | rng a b c => exact g
  | tupI l => exact trivial
theorem isX_ok {x : Str} {e : PySem.Expr} (h : isX x e = true) : ∃ p, e = .Name x p := by
  unfold isX at h
  cases q : nameOf e with
  | none => rw [q] at h; exact Bool.noConfusion h
  | some y => rw [q] at h; rw [<- eq_of_beq h]; exact nameOf_ok q
theorem comp_Q {sc sc' : Scope} {x : Str} {elt c : PySem.Expr} {l1 : SVS} {h1 : HS}
    (hs : env.scope = sc) (hA : AOk n A) (s2 : Small h1) (hx : isX x elt = true) (hco : compOK sc' sc x = true) (hr : ∀ sc, sc.kind = .function -> RecOK w hB n (rr sc) sc) {cl : List (Str × Addr)} (F : CompFacts sc' x env cl)
    {α : Type} (sv : α -> SV) (so : List α -> SO) (hso : ∀ l, (so l).ao = .list (l.map fun a => (sv a).av)) (hok : ∀ l : List α, l.length <= 1000000 -> SOK (so l)) (src : Src) (es : List α) (g2 : src.els = es.map (fun a => (sv a).av)) (g3 : src.Good (mkH h1)) {P : α -> Bool}
    (g4 : ∀ i, i ∈ es -> ∀ part : List α, (rr (relS sc' sc)).t c ((x, sv i) :: innerL sc' l1) (h1.newM (so part)) fun b l2 h2 => b = P i /\ l2 = (x, sv i) :: innerL sc' l1 /\ h2 = h1.newM (so part)) (g5 : lim es.length) {Q : AHeap -> Prop} (g6 : Small (h1.newM (so (es.filter P))) -> Q (mkH (h1.newM (so (es.filter P))))) :
    ∃ o, CompQ w hB m A env elt x [c] sc' cl o src.av (vsf l1) (mkH h1) (fun H2 => o = .m h1.tm.length /\ Q H2) := by
  have hel : src.els.length = es.length := by rw [g2, List.length_map]
  have hpart : ∀ k, ((es.take k).filter P).length <= 1000000 := fun k => Nat.le_trans (List.length_filter_le _ _) (Nat.le_trans (List.length_take_le' _ _) g5)
  have hM : ∀ part, mkH (h1.newM (so part)) = upd (mkH h1) (.m h1.tm.length) (.list (part.map fun a => (sv a).av)) := fun part => by rw [mkH_get (fun i => get_newM), hso]
  have sp : ∀ k, Small (h1.newM (so ((es.take k).filter P))) := fun k => small_get s2 (hok _ (hpart k)) fun i => get_newM
  refine ⟨.m h1.tm.length, src, rfl, m_none, (by nofun), g3, fun k ys H2 => ys = ((es.take k).filter P).map (fun a => (sv a).av) /\ H2 = mkH (h1.newM (so ((es.take k).filter P))), ⟨by simp, by rw [hM]; simp⟩, fun k ys H2 ⟨i1, i2⟩ => ?_, fun C k e' ys H2 ⟨i1, i2⟩ he => ?_, fun ys H2 ⟨i1, i2⟩ => ⟨rfl, ?_⟩⟩
  · subst i1; subst i2
    exact ⟨good_newM g3, by rw [hM, upd_self], by rw [List.length_map]; exact hpart k⟩
  · subst i1; subst i2
    rw [g2, List.getElem?_map] at he
    obtain ⟨i, hi, rfl⟩ := Option.map_eq_some_iff.mp he
    have him : i ∈ es := List.mem_of_getElem? hi
    dsimp only
    rw [F.inner C l1, <- vsf_cons]
    have hE : (compEnvC sc' cl C env).scope = relS sc' sc := by subst hs; rfl
    refine ts_one (((hr (relS sc' sc) F.kind).t hE hA (sp k) (g4 i him _)).mono (TQ.go fun b' l2 h2 s3 q => ?_))
    obtain ⟨rfl, rfl, rfl⟩ := q
    have hsn := filter_snoc P hi
    refine ⟨rfl, fun hb => ?_, fun hb => ?_⟩
    · rw [hsn, if_neg (by rw [hb]; simp), List.append_nil]; exact ⟨rfl, rfl⟩
    · obtain ⟨xp, hxe⟩ := isX_ok hx
      rw [hxe]
      refine e_local F.hx (compOK_debug hco) (a := (sv i).av) (by rw [vsf_cons]; unfold updV; rw [if_pos rfl]) ⟨rfl, by rw [hM, upd_self], ?_, ?_⟩
      · rw [hsn, if_pos hb, List.map_append]; rfl
      · rw [hsn, if_pos hb, hM, hM, upd_upd, List.map_append]; rfl
  · subst i2
    have := sp es.length
    rw [hel, List.take_of_length_le (Nat.le_refl _)]
    rw [List.take_of_length_le (Nat.le_refl _)] at this
    exact g6 this
set_option tactic.hygienic true in
theorem typed'_lst (xs : List SV) : (typed' xs).ao = .list (avs xs) /\ (xs.length <= 1000000 -> SOK (typed' xs)) := by
  unfold typed'
  split
  · rename_i l hl
    have := strsOf'_av hl
    refine ⟨by rw [this]; rfl, fun h => sok_sl ?_⟩
    have h2 := congrArg List.length this
    rw [avs_len, List.length_map] at h2
    omega
  · exact ⟨rfl, fun h => sok_list h⟩
theorem intsOf_ints : ∀ {as : List SV} {l : List Int}, intsOf as = some l -> as.map SV.av = l.map AV.int
  | as, l, e => by rw [<- avs_map]; exact intsOf_av e
theorem elsOf_ok {a : SV} {h : HS} {es : List SV} (e : elsOf a h = some es) : ∃ src : Src, a.av = src.av /\ src.els = es.map SV.av /\ src.Good (mkH h) := by
  cases a with
  | tup xs =>
    unfold elsOf at e
    dsimp only at e
    cases hl : intsOf xs with
    | none => rw [hl] at e; exact no_some e
    | some l =>
      rw [hl] at e
      obtain rfl := Option.some.inj e
      have := intsOf_ints hl
      exact ⟨.tupI l, by show AV.tup (avs xs) = _; rw [avs_map, this]; rfl, this.symm, trivial⟩
  | ref o =>
    unfold elsOf at e
    dsimp only at e
    cases ho : h.get o with
    | none => rw [ho] at e; exact no_some e
    | some y =>
      rw [ho] at e
      cases y with
      | list xs => obtain rfl := Option.some.inj e; exact ⟨.list o (avs xs), rfl, avs_map xs, mkH_some ho⟩
      | il xs => obtain rfl := Option.some.inj e; exact ⟨.list o (xs.map .int), rfl, by rw [List.map_map]; rfl, mkH_some ho⟩
      | sl xs => obtain rfl := Option.some.inj e; exact ⟨.list o (xs.map .str), rfl, by rw [List.map_map]; rfl, mkH_some ho⟩
      | _ => exact no_some e
  | _ => exact no_some e
theorem compM_Q {sc sc' : Scope} {x : Str} {elt : PySem.Expr} {l1 : SVS} {h1 : HS} (hs : env.scope = sc) (hA : AOk n A) (s2 : Small h1) (hr : ∀ sc, sc.kind = .function -> RecOK w hB n (rr sc) sc) {cl : List (Str × Addr)} (F : CompFacts sc' x env cl)
    {a : SV} {k : List SV -> Prop} {Q : AHeap -> Prop} (q1 : gP (elsOf a h1) fun es => chk (Nat.ble es.length 1000) (compM (rr (relS sc' sc)) sc' x elt es [] l1 h1 k)) (fin : ∀ part, Small (h1.newM (typed' part)) -> k part -> Q (mkH (h1.newM (typed' part)))) :
    ∃ o, CompQ w hB m A env elt x [] sc' cl o a.av (vsf l1) (mkH h1) (fun H2 => o = .m h1.tm.length /\ Q H2) := by
  obtain ⟨es, hes, q1⟩ := gP_inv q1
  obtain ⟨ble, q1⟩ := chk_ok q1
  have hlen : es.length <= 1000 := Nat.le_of_ble_eq_true ble
  obtain ⟨src, g1, g2, g3⟩ := elsOf_ok hes
  have hel : src.els.length = es.length := by rw [g2, List.length_map]
  have hM : ∀ part : List SV, mkH (h1.newM (.list part)) = upd (mkH h1) (.m h1.tm.length) (.list (avs part)) := fun part => mkH_get (fun i => get_newM)
  refine ⟨.m h1.tm.length, src, g1, m_none, (by nofun), g3, fun k' ys H2 => ∃ part, part.length = k' /\ k' <= es.length /\ ys = avs part /\ H2 = mkH (h1.newM (.list part)) /\ compM (rr (relS sc' sc)) sc' x elt (es.drop k') part l1 h1 k,
    ⟨[], rfl, Nat.zero_le _, rfl, by rw [hM]; rfl, q1⟩, fun k' ys H2 ⟨part, i0, i0', i1, i2, _⟩ => ?_, fun C k' e' ys H2 ⟨part, i0, i0', i1, i2, i3⟩ he => ?_, fun ys H2 ⟨part, i0, _, i1, i2, i3⟩ => ⟨rfl, ?_⟩⟩
  · subst i1; subst i2
    exact ⟨good_newM g3, by rw [hM, upd_self], by rw [avs_len]; omega⟩
  · subst i1; subst i2
    rw [g2, List.getElem?_map] at he
    obtain ⟨i, hi, rfl⟩ := Option.map_eq_some_iff.mp he
    obtain ⟨hlt, hi'⟩ := List.getElem?_eq_some_iff.mp hi
    dsimp only
    rw [F.inner C l1, <- vsf_cons]
    have hE : (compEnvC sc' cl C env).scope = relS sc' sc := by subst hs; rfl
    have sp : Small (h1.newM (.list part)) := small_get s2 (sok_list (by omega)) fun i => get_newM
    rw [List.drop_eq_getElem_cons hlt, hi'] at i3
    refine ts_nil ⟨rfl, (fun q => by cases q), fun _ => ((hr (relS sc' sc) F.kind).e hE hA sp i3).mono (SQ.go fun b' l2 h2 s3 q => ?_)⟩
    obtain ⟨⟨rfl, rfl⟩, q⟩ := q
    exact ⟨rfl, by rw [hM, upd_self], part ++ [b'], by rw [List.length_append, i0]; rfl, hlt, by rw [avs_append]; rfl, by rw [hM, hM, upd_upd, avs_append]; rfl, q⟩
  · subst i2
    rw [hel, List.drop_of_length_le (Nat.le_refl _)] at i3
    have hT : mkH (h1.newM (.list part)) = mkH (h1.newM (typed' part)) := by rw [hM, mkH_get (fun i => get_newM), (typed'_lst part).1]
    rw [hT]
    exact fin part (small_get s2 ((typed'_lst part).2 (by omega)) fun i => get_newM) i3
theorem gW_inv {x : SV} {K : Value -> Prop} (e : gW x K) : ∃ o, x = .val o /\ K o := by
  cases x with
  | val o => exact ⟨o, rfl, e⟩
  | _ => exact e.elim
theorem Op.mono {α β : Type} {rel : Heap -> Rho -> AHeap -> β -> α -> Prop} {f : List Value -> Sem α} {as : List AV} {H : AHeap} {Q Q' : β -> AHeap -> Prop} (h : Op w hB n rel f as H Q) (hq : ∀ b H', Q b H' -> Q' b H') : Op w hB n rel f as H Q' :=
  fun A env vs ρ s K vals hA O hv k => h A env vs ρ s K vals hA O hv fun v b ρ' H' s' O' S' r q => k v b ρ' H' s' O' S' r (hq _ _ q)
theorem HQ.op {Q : SV -> SVS -> HS -> Prop} {l2 : SVS} : ∀ a H, HQ (fun c h3 => Q c l2 h3) a H -> SQ Q a (vsf l2) H := fun a H ⟨c, h3, g1, g2, g3, g4⟩ => by subst g1; subst g2; exact .mk g3 g4
theorem truS_op {a : SV} {k : Bool -> Prop} {P : Bool -> AHeap -> Prop} (s : Small h) (e : truS a h k) (hq : ∀ c, k c -> P c (mkH h)) : Tru w hB n a.av (mkH h) P := (truS_ok s e).mono fun c H ⟨g1, g2⟩ => by subst g1; exact hq c g2
theorem cmpV_op (hsys : sysModules < hB.objs.size) {op : CmpOp} {a c : SV} {k : SV -> Prop} {P : AV -> AHeap -> Prop} (q : cmpV op a c h k) (hq : ∀ d, k d -> P d.av (mkH h)) : Cmp w hB n op a.av c.av (mkH h) P := by
  unfold cmpV at q
  cases hd : cmpS op a c h with
  | some d => rw [hd] at q; exact (cmpS_ok hsys hd).mono fun v H ⟨g1, g2⟩ => by subst g1; subst g2; exact hq d q
  | none => rw [hd] at q; exact (neL_ok q).mono fun v H ⟨g1, d, g2, g3⟩ => by subst g1; subst g2; exact hq d g3
structure Cx (w : World) (hB : Heap) (n : Nat) (O : List Orc) (rr : Scope -> Rec) (sc : Scope) (env : Env) (A : Around) : Prop where
  b : Base w hB
  hO : ∀ o ∈ O, OrcOK w hB o
  hr : ∀ sc, sc.kind = .function -> RecOK w hB n (rr sc) sc
  hk : sc.kind = .function
  hs : env.scope = sc
  hA : AOk (n + 2) A
variable {sc : Scope}
theorem Cx.hA' (X : Cx w hB n O rr sc env A) : AOk n A := X.hA.mono (Nat.le_add_right _ _)
theorem Cx.ex (X : Cx w hB n O rr sc env A) {x : Expr} {P : AV -> VS -> AHeap -> Prop} {Q : SV -> SVS -> HS -> Prop} (s : Small h) (e : (rr sc).e x l h Q) (k : ∀ b l1 h1, Small h1 -> Q b l1 h1 -> P b.av (vsf l1) (mkH h1)) : RV w hB A env (eval x env) (vsf l) (mkH h) P := ((X.hr sc X.hk).e X.hs X.hA' s e).mono (SQ.go k)
theorem Cx.e0 (X : Cx w hB n O rr sc env A) {x : Expr} {Q : SV -> SVS -> HS -> Prop} (s : Small h) (e : (rr sc).e x l h Q) : RV w hB A env (eval x env) (vsf l) (mkH h) (SQ Q) := (X.hr sc X.hk).e X.hs X.hA' s e
theorem Cx.t (X : Cx w hB n O rr sc env A) {x : Expr} {P : Bool -> VS -> AHeap -> Prop} {Q : Bool -> SVS -> HS -> Prop} (s : Small h) (e : (rr sc).t x l h Q) (k : ∀ b l1 h1, Small h1 -> Q b l1 h1 -> P b (vsf l1) (mkH h1)) : RB w hB A env (isTrue x env (eval x env)) (vsf l) (mkH h) P := ((X.hr sc X.hk).t X.hs X.hA' s e).mono (TQ.go k)
theorem Cx.el (X : Cx w hB n O rr sc env A) {es : List Expr} {pos : Pos} {P : List AV -> VS -> AHeap -> Prop} {Q : List SV -> SVS -> HS -> Prop} (s : Small h) (e : evL (rr sc) es l h Q) (k : ∀ b l1 h1, Small h1 -> Q b l1 h1 -> P (avs b) (vsf l1) (mkH h1)) : RL w hB A env (spliced (backTo pos (starEach es env))) (vsf l) (mkH h) P := (evL_ok (X.hr sc X.hk) X.hs X.hA' s e).mono (LQ.go k)
noncomputable def EG (w : World) (hB : Heap) (A : Around) (env : Env) (x : Expr) (l : SVS) (h : HS) (Q : SV -> SVS -> HS -> Prop) : Prop := RV w hB A env (eval x env) (vsf l) (mkH h) (SQ Q)
section
variable (X : Cx w hB n O rr sc env A) {Q : SV -> SVS -> HS -> Prop} (s : Small h)
include X s
theorem st_const {c : Const} {k p} (e : gP (constS c) fun v => Q v l h) : EG w hB A env (.Constant c k p) l h Q := by
  obtain ⟨v, hv, e⟩ := gP_inv e
  cases c with
  | none => obtain rfl := Option.some.inj hv; exact e_none (.mk s e)
  | bool => obtain rfl := Option.some.inj hv; exact e_bool (.mk s e)
  | int => obtain rfl := Option.some.inj hv; exact e_int (.mk s e)
  | str => obtain rfl := Option.some.inj hv; exact e_str (.mk s e)
  | _ => exact no_some hv
theorem st_attr {o : Expr} {x : Str} {p} (e : chk (notCallName o) ((rr sc).e o l h fun a l1 h1 => attrS a x h1 fun v => Q v l1 h1)) : EG w hB A env (.Attribute o x p) l h Q := by
  obtain ⟨e1, e2⟩ := chk_ok e
  exact e_attr X.b e1 (X.ex s e2 fun a l1 h1 s1 q => attrS_ok q fun v q => .mk s1 q)
theorem st_call {f : Expr} {args : List Expr} {kws : List Keyword} {p : Pos} (e : stepCall O n rr sc f args kws p l h Q) : EG w hB A env (.Call f args kws p) l h Q := by
  cases kws with
  | cons _ _ => exact e.elim
  | nil =>
    cases f with
    | Name x np =>
      obtain ⟨e1, e2⟩ := chk_ok e
      refine e_call X.b X.hA e1 (X.ex s e2 fun a l1 h1 s1 q => ?_)
      obtain ⟨f, rfl, q⟩ := gW_inv q
      obtain ⟨q1, q2⟩ := chk_ok q
      exact ⟨f, rfl, keepV_ok q1, X.el s1 q2 fun as l2 h2 s2 q => (callS_ok X.b X.hO X.hr s2 q).mono HQ.op⟩
    | Attribute o name ap =>
      obtain ⟨e1, e2⟩ := chk_ok e
      obtain ⟨e1, e6⟩ := Bool.and_eq_true_iff.mp e1
      obtain ⟨e1, e5⟩ := Bool.and_eq_true_iff.mp e1
      obtain ⟨e1, e4⟩ := Bool.and_eq_true_iff.mp e1
      refine e_meth X.b X.hA e1 e4 (Nat.le_of_ble_eq_true e5) (beq_iff_eq.mpr (Nat.eq_of_beq_eq_true e6)) (X.ex s e2 fun a l1 h1 s1 q => ?_)
      obtain ⟨f, fas, g1, q⟩ := methS_ok X.b q
      obtain ⟨q1, q2⟩ := chk_ok q
      refine ⟨f, _, g1, keepV_ok q1, X.el s1 q2 fun as l2 h2 s2 q => ?_⟩
      rw [<- avs_append]
      exact (callS_ok X.b X.hO X.hr s2 q).mono HQ.op
    | _ => exact e.elim
theorem st_cmp {x : Expr} {ops : List CmpOp} {ys : List Expr} {p : Pos} (e : stepCmp (rr sc) x ops ys l h Q) : EG w hB A env (.Compare x ops ys p) l h Q := by
  obtain ⟨op, ho, e⟩ := a1_inv e
  obtain ⟨y, hy, e⟩ := a1_inv e
  obtain ⟨e1, e2⟩ := chk_ok e
  subst ho; subst hy
  exact e_cmp X.hA (not_true e1) (X.ex s e2 fun a l1 h1 s1 q => X.ex s1 q fun c l2 h2 s2 q => cmpV_op X.b.sys q fun d q => .mk s2 q)
theorem st_un {op : UnaryOp} {x : Expr} {p : Pos} (e : stepUn (rr sc) op x l h Q) : EG w hB A env (.UnaryOp op x p) l h Q := by
  cases op with
  | USub =>
    refine e_neg X.hA (X.ex s e fun a l1 h1 s1 q => ?_)
    obtain ⟨u, i, hi, q⟩ := gI_inv q
    refine ⟨i, intOf_av hi, ?_⟩
    have := SQ.mk s1 q
    rwa [mkI_av] at this
  | Not => exact e_not X.hA (X.ex s e fun a l1 h1 s1 q => truS_op s1 q fun c q => .mk (b := .bool (!c)) s1 q)
  | _ => exact e.elim
theorem st_bool {op : BoolOp} {es : List Expr} {p : Pos} (e : stepBool (rr sc) op es l h Q) : EG w hB A env (.BoolOp op es p) l h Q := by
  obtain ⟨x, y, rfl, e⟩ := a2_inv e
  cases op with
  | And => exact e_and X.hA (X.ex s e fun a l1 h1 s1 q => truS_op s1 q fun c q => bI_imp q (X.e0 s1) (.mk s1))
  | Or => exact e_or X.hA (X.ex s e fun a l1 h1 s1 q => truS_op s1 q fun c q => bI_imp q (.mk s1) (X.e0 s1))
theorem st_list {es : List Expr} {p : Pos} (e : evL (rr sc) es l h fun as l1 h1 => newL p as h1 fun o h2 => Q o l1 h2) : EG w hB A env (.List es p) l h Q := by
  refine fun ρ s' K Oo k => ?_
  refine wpAny_List_spliced (evL_ok (X.hr sc X.hk) X.hs X.hA' s e ρ s' _ Oo fun us as ρ1 v1 H1 s1 O1 S1 r1 q1 => ?_)
  obtain ⟨bs, l1, h1, g1, g2, g3, g4, g5⟩ := q1
  subst g1; subst g2; subst g3
  obtain ⟨hz, o, h', q⟩ := newL_ok g4 g5
  rcases q with ⟨q1, q2, q3, q4⟩ | q
  · refine ⟨by rw [<- r1.len, avs_len]; exact sizeLine_big hz, ?_⟩
    obtain ⟨O2, S2⟩ := O1.newList q1 r1 s1.toks
    have ee : Value.ref s1.heap.objs.size = Value.ref (updR ρ1 o s1.heap.objs.size o) := by rw [updR_self]
    rw [ee]
    exact k _ (.ref o) _ _ _ _ O2 (S1.trans S2) (.ref o (by rw [upd_self]; exact Option.some_ne_none _)) ⟨.ref o, l1, h', rfl, rfl, q2.symm, q3, q4⟩
  · exact q.2.elim
noncomputable def CompG (w : World) (hB : Heap) (m : Nat) (A : Around) (env : Env) (elt : Expr) (x : Str) (ifs : List Expr) (sc' : Scope) (cl : List (Str × Addr)) (a : AV) (l1 : SVS) (h1 : HS) (Q : SV -> SVS -> HS -> Prop) : Prop := ∃ o, CompQ w hB m A env elt x ifs sc' cl o a (vsf l1) (mkH h1) fun H2 => SQ Q (.ref o) (vsf l1) H2
omit X in
theorem st_fin {l1 : SVS} {x : SO} (q : Q (.ref (.m h.tm.length)) l1 (h.newM x)) (s2 : Small (h.newM x)) : SQ Q (.ref (.m h.tm.length)) (vsf l1) (mkH (h.newM x)) := ⟨.ref _, _, _, rfl, rfl, rfl, s2, q⟩
theorem st_compI {sc' : Scope} {x : Str} {elt c : Expr} {cl : List (Str × Addr)} (hx : isX x elt = true) (hco : compOK sc' sc x = true) (F : CompFacts sc' x env cl) (src : Src) {l1 : SVS} (es : List Int) (q2 : src.els = es.map (fun i => (SV.si i).av)) (q3 : src.Good (mkH h)) (q : compI (rr (relS sc' sc)) sc' x c es l1 h (fun h2 => Q (.ref (.m h.tm.length)) l1 h2)) : CompG w hB (n + 2) A env elt x [c] sc' cl src.av l1 h Q := by
  obtain ⟨P, q4, q5, q6⟩ := q
  obtain ⟨o, q⟩ := comp_Q (m := n + 2) X.hs X.hA' s hx hco X.hr F SV.si SO.il (fun l => rfl) (fun l h => sok_il h) src es q2 q3 q4 q5 (Q := fun H2 => SQ Q (.ref (.m h.tm.length)) (vsf l1) H2) (st_fin s q6)
  exact ⟨o, q.mono fun H2 ⟨e, qq⟩ => by subst e; exact qq⟩
theorem st_compF {sc' : Scope} {x : Str} {elt c : Expr} {cl : List (Str × Addr)} (hx : isX x elt = true) (hco : compOK sc' sc x = true) (F : CompFacts sc' x env cl) {a : SV} {l1 : SVS} (q : compF (rr (relS sc' sc)) sc' x c a l1 h fun h2 => Q (.ref (.m h.tm.length)) l1 h2) : CompG w hB (n + 2) A env elt x [c] sc' cl a.av l1 h Q := by
  cases a with
  | rng ra rb rc => exact st_compI X s hx hco F (.rng ra rb rc) _ rfl q.1 q.2
  | ref o =>
    obtain ⟨y, hes, q⟩ := gO_inv q
    cases y with
    | il es => exact st_compI X s hx hco F (.list o (es.map AV.int)) es rfl (mkH_some hes) q
    | sl es =>
      obtain ⟨P, q4, q5, q6⟩ := q
      obtain ⟨o', q⟩ := comp_Q (m := n + 2) X.hs X.hA' s hx hco X.hr F SV.ss SO.sl (fun l => rfl) (fun l h => sok_sl h) (.list o (es.map AV.str)) es rfl (mkH_some hes) q4 q5 (Q := fun H2 => SQ Q (.ref (.m h.tm.length)) (vsf l1) H2) (st_fin s q6)
      exact ⟨o', q.mono fun H2 ⟨e, qq⟩ => by subst e; exact qq⟩
    | _ => exact q.elim
  | _ => exact q.elim
theorem st_comp {elt : Expr} {gens : List Comprehension} {sc' : Scope} {p : Pos} (e : stepComp rr sc elt gens sc' l h Q) : EG w hB A env (.ListComp elt gens sc' p) l h Q := by
  obtain ⟨⟨tg, iter, ifs, as⟩, rfl, e⟩ := a1_inv e
  obtain ⟨x, hx, e⟩ := gP_inv e
  obtain ⟨xp, hx⟩ := nameOf_ok hx
  obtain ⟨e0, e⟩ := chk_ok e
  obtain ⟨e1, e2⟩ := chk_ok e
  obtain ⟨e1, hco⟩ := Bool.and_eq_true_iff.mp e1
  dsimp only at hx e0 e1 e2
  rw [hx, eq_of_beq e0]
  refine fun ρ s' K Oo k => ?_
  obtain ⟨cl, F⟩ := comp_facts Oo X.hs X.hk hco
  refine e_comp X.hA F.clos F.kind F.cell F.names F.hx F.ok (notSet_ok e1) ?_ ρ s' K Oo k
  cases ifs with
  | nil =>
    refine X.ex s e2 fun a l1 h1 s1 q => ?_
    obtain ⟨o, q⟩ := compM_Q (m := n + 2) X.hs X.hA' s1 X.hr F (Q := fun H2 => SQ Q (.ref (.m h1.tm.length)) (vsf l1) H2) q fun part s2 q => st_fin s1 q s2
    exact ⟨o, q.mono fun H2 ⟨e, qq⟩ => by subst e; exact qq⟩
  | cons c cs =>
    cases cs with
    | cons _ _ => exact e2.elim
    | nil =>
      obtain ⟨e3, e4⟩ := chk_ok e2
      exact X.ex s e4 fun a l1 h1 s1 q => st_compF X s1 e3 hco F q
omit X in
theorem slice_op {f : Bool} {a c : SV} {l2 : SVS} (q : sliceS f a c h fun v h3 => Q v l2 h3) : SlP f a.av c.av (mkH h) fun c H3 => SQ Q c (vsf l2) H3 := by
  obtain ⟨o, ho, q⟩ := gR_inv q
  obtain ⟨u, i, hi, q⟩ := gI_inv q
  obtain ⟨x, hx, q⟩ := gO_inv q
  rw [ho]
  have hz := (s _ _ hx).1
  have cut : ∀ {α β : Type} (g : α -> β) (li : List α), cutAt f (li.map g) i.toNat = (cutAt f li i.toNat).map g := fun g li => by
    cases f with
    | true => exact List.map_drop.symm
    | false => exact List.map_take.symm
  have len : ∀ {α : Type} (li : List α), li.length <= 1000000 -> (cutAt f li i.toNat).length <= 1000000 := fun li hz => by
    cases f with
    | false => exact Nat.le_trans (List.length_take_le' _ _) hz
    | true => show (li.drop _).length <= _; rw [List.length_drop]; exact Nat.le_trans (Nat.sub_le _ _) hz
  cases x with
  | il li =>
    have hz := hz _ rfl
    rw [List.length_map] at hz
    refine ⟨.m h.tm.length, o, _, i, rfl, intOf_av hi, q.1, mkH_some hx, by rw [List.length_map]; exact hz, m_none, .ref (.m h.tm.length), l2, _, rfl, rfl, ?_, small_get s (sok_il (len _ hz)) (fun i => get_newM), q.2⟩
    rw [mkH_get (fun i => get_newM), cut]; rfl
  | sl li =>
    have hz := hz _ rfl
    rw [List.length_map] at hz
    refine ⟨.m h.tm.length, o, _, i, rfl, intOf_av hi, q.1, mkH_some hx, by rw [List.length_map]; exact hz, m_none, .ref (.m h.tm.length), l2, _, rfl, rfl, ?_, small_get s (sok_sl (len _ hz)) (fun i => get_newM), q.2⟩
    rw [mkH_get (fun i => get_newM), cut]; rfl
  | _ => exact q.elim
theorem st_slice {o i : Expr} {lo hi st : Option Expr} {sp p : Pos} (e : slOf i o (rr sc) l h Q lo hi st) : EG w hB A env (.Subscript o (.Slice lo hi st sp) p) l h Q := by
  cases st with
  | some _ => exact e.elim
  | none =>
    cases lo with
    | none =>
      obtain ⟨hi, rfl, e⟩ := gP_inv e
      rcases bI_inv e with ⟨hn, e⟩ | ⟨_, e⟩
      · exact e_slice false hn (X.ex s e fun a l1 h1 s1 q => X.ex s1 q fun c l2 h2 s2 q => slice_op s2 q)
      · refine e_cut (X.ex s e fun a l1 h1 s1 q => X.ex s1 q fun c l2 h2 s2 q => ?_)
        obtain ⟨xs, rfl, q⟩ := gT_inv q
        obtain ⟨j, rfl, q⟩ := gN_inv q
        obtain ⟨q1, q2⟩ := chk_ok q
        obtain ⟨q1, q3⟩ := Bool.and_eq_true_iff.mp q1
        obtain ⟨q1, q4⟩ := Bool.and_eq_true_iff.mp q1
        refine ⟨_, j, rfl, rfl, of_decide_eq_true q1, by rw [avs_len]; exact of_decide_eq_true q4, by rw [avs_len]; exact k1000 (Nat.le_of_ble_eq_true q3), ?_⟩
        have := SQ.mk s2 q2
        have e3 : (SV.tup (xs.take j.toNat)).av = .tup ((avs xs).take j.toNat) := by show AV.tup (avs _) = _; rw [avs_map, avs_map, List.map_take]
        rwa [e3] at this
    | some lo =>
      cases hi with
      | some _ => exact e.elim
      | none =>
        obtain ⟨hn, e⟩ := chk_ok e
        exact e_slice true hn (X.ex s e fun a l1 h1 s1 q => X.ex s1 q fun c l2 h2 s2 q => slice_op s2 q)
omit X s in
theorem isSlice_ok {e : Expr} (h : isSlice e = true) : ∃ lo hi st p, e = .Slice lo hi st p := by
  cases e with
  | Slice lo hi st p => exact ⟨lo, hi, st, p, rfl⟩
  | _ => exact Bool.noConfusion h
theorem st_sub {o i : Expr} {p : Pos} (e : stepSub (rr sc) o i l h Q) : EG w hB A env (.Subscript o i p) l h Q := by
  unfold stepSub at e
  cases q : isSlice i with
  | true =>
    rw [q] at e
    obtain ⟨lo, hi, st, sp, rfl⟩ := isSlice_ok q
    exact st_slice X s e
  | false =>
    rw [q] at e
    exact e_sub X.hA (X.ex s e fun a l1 h1 s1 q => X.ex s1 q fun c l2 h2 s2 q => fun ve se => (subS_ok s2 q ve se).mono fun v H ⟨g1, d, g2, g3⟩ => by subst g1; subst g2; exact .mk s2 g3)
theorem stepE_ok {x : Expr} (e : stepE O n rr sc x l h Q) : EG w hB A env x l h Q := by
  cases x with
  | Constant c k p => exact st_const X s e
  | Name x p =>
    obtain ⟨v, hv, e⟩ := gP_inv e
    exact nameS_ok X.b s (by rw [X.hs]; exact hv) e
  | Attribute o x p => exact st_attr X s e
  | Call f args kws p => exact st_call X s e
  | BinOp x op y p => exact e_binop X.hA (X.ex s e fun a l1 h1 s1 q => X.ex s1 q fun b l2 h2 s2 q => (binS_ok s2 q).mono HQ.op)
  | Compare x ops ys p => exact st_cmp X s e
  | UnaryOp op x p => exact st_un X s e
  | BoolOp op es p => exact st_bool X s e
  | IfExp t x y p => exact e_ifexp (X.t s e fun c l1 h1 s1 q => bI_imp q (X.e0 s1) (X.e0 s1))
  | Tuple es k p =>
    refine e_tuple (X.el s e fun as l1 h1 s1 q => ?_)
    obtain ⟨q1, q2⟩ := chk_ok q
    exact ⟨by rw [avs_len]; exact k1000 (Nat.le_of_ble_eq_true q1), .mk (b := .tup as) s1 q2⟩
  | List es p => exact st_list X s e
  | Dict ks vs p => exact evDict_ok (X.hr sc X.hk) X.hs X.hA' s e
  | ListComp elt gens sc' p => exact st_comp X s e
  | Subscript o i p => exact st_sub X s e
  | _ => exact e.elim
end
noncomputable def TG (w : World) (hB : Heap) (A : Around) (env : Env) (x : Expr) (l : SVS) (h : HS) (Q : Bool -> SVS -> HS -> Prop) : Prop := RB w hB A env (isTrue x env (eval x env)) (vsf l) (mkH h) (TQ Q)
theorem isTru_ok {x : Expr} (e : isTru x = true) : isTrue x env (eval x env) = (do let v <- eval x env; standAt x.pos; holding [v] (truthy v)) := by
  cases x with
  | Name => rfl
  | Attribute => rfl
  | Call => rfl
  | Subscript => rfl
  | _ => exact Bool.noConfusion e
theorem stepT_ok (X : Cx w hB n O rr sc env A) {Q : Bool -> SVS -> HS -> Prop} (s : Small h) {x : Expr} (e : stepT rr sc x l h Q) : TG w hB A env x l h Q := by
  unfold stepT at e
  cases q : isTru x with
  | true =>
    rw [q] at e
    exact t_val X.hA (isTru_ok q) (X.ex s e fun a l1 h1 s1 q => truS_op s1 q fun c q => ⟨l1, h1, rfl, rfl, s1, q⟩)
  | false =>
    rw [q] at e
    cases x with
    | UnaryOp op x p =>
      cases op with
      | Not => exact t_not (X.t s e fun c l1 h1 s1 q => ⟨l1, h1, rfl, rfl, s1, q⟩)
      | _ => exact e.elim
    | Compare x ops ys p =>
      obtain ⟨op, ho, e⟩ := a1_inv e
      obtain ⟨y, hy, e⟩ := a1_inv e
      obtain ⟨e1, e2⟩ := chk_ok e
      subst ho; subst hy
      exact t_cmp X.hA (not_true e1) (X.ex s e2 fun a l1 h1 s1 q => X.ex s1 q fun c l2 h2 s2 q => cmpV_op X.b.sys q fun d q => truS_op s2 q fun c q => ⟨l2, h2, rfl, rfl, s2, q⟩)
    | BoolOp op es p => exact t_bool (allS_ok (X.hr sc X.hk) X.hs X.hA' s e)
    | _ => exact e.elim
theorem swaps_ok {x : Expr} {t : Option Expr} {ln : Nat} (e : notComp x = true) : swapsWith x t ln env = pure false := by
  cases x with
  | ListComp => exact Bool.noConfusion e
  | SetComp => exact Bool.noConfusion e
  | DictComp => exact Bool.noConfusion e
  | _ => rfl
theorem updSs_eq : ∀ {xs : List Str} {as : List SV} {l : SVS}, vsf (updSs l xs as) = updVs (vsf l) xs (avs as)
  | [], as, l => by cases as <;> rfl
  | x :: xs, [], l => rfl
  | x :: xs, a :: as, l => by
    show vsf (updSs ((x, a) :: l) xs as) = updVs (updV (vsf l) x a.av) xs (avs as)
    rw [updSs_eq, vsf_cons]
theorem ownS_ok {sc : Scope} (hs : env.scope = sc) {x : Str} (e : ownS sc x = true) : isOwn env x = true := by
  subst hs
  unfold ownS at e
  unfold isOwn Env.kindOf
  cases q : env.scope.names.lookup x with
  | none => rw [q] at e; exact Bool.noConfusion e
  | some k =>
    rw [q] at e
    cases k with
    | «local» => rfl
    | cell => rfl
    | _ => exact Bool.noConfusion e
theorem notTup_ok {x : Expr} {l k p} (e : notTup x = true) : swappedStores [.Tuple l k p] x env = pure none := by
  cases x with
  | Tuple => exact Bool.noConfusion e
  | _ => rfl
theorem tupE_ok {a : SV} {K : List SV -> Prop} (e : tupE a h K) : ∃ as, (a.av = .tup (avs as) ∨ ∃ o, a.av = .ref o /\ mkH h o = some (.list (avs as))) /\ K as := by
  cases a with
  | tup as => exact ⟨as, .inl rfl, e⟩
  | ref o =>
    obtain ⟨y, ho, e⟩ := gO_inv e
    cases y with
    | list as => exact ⟨as, .inr ⟨o, rfl, mkH_some ho⟩, e⟩
    | _ => exact e.elim
  | _ => exact e.elim
noncomputable def SG (w : World) (hB : Heap) (A : Around) (env : Env) (x : Stmt) (l : SVS) (h : HS) (Q : SOut -> SVS -> HS -> Prop) : Prop := RS w hB A env (exec x env) (vsf l) (mkH h) (OQ Q)
set_option tactic.hygienic true in
theorem OQ.nx {Q : SOut -> SVS -> HS -> Prop} {l1 : SVS} {h1 : HS} (s : Small h1) (q : Q .next l1 h1) : OQ Q .next (vsf l1) (mkH h1) := ⟨.next, _, _, rfl, rfl, rfl, s, q⟩
section
variable (X : Cx w hB n O rr sc env A) {Q : SOut -> SVS -> HS -> Prop} (s : Small h)
include X s
theorem stepA_ok {t x : Expr} {p : Pos} (e : stepA (rr sc) sc t x l h (Q .next)) : SG w hB A env (.Assign [t] x p) l h Q := by
  obtain ⟨e1, e⟩ := chk_ok e
  cases t with
  | Name y yp =>
    obtain ⟨e2, e⟩ := chk_ok e
    refine s_name (ownS_ok X.hs e2) (swaps_ok e1) (X.ex s e fun a l1 h1 s1 q => ?_)
    rw [<- vsf_cons]; exact .nx s1 q
  | Attribute oe y yp =>
    exact s_setattr X.b (swaps_ok e1) (X.ex s e fun a l1 h1 s1 q => X.ex s1 q fun ob l2 h2 s2 q => setattrS_ok s2 (fun h' => OQ.nx) q)
  | Subscript oe ie yp =>
    exact s_setsub X.hA (swaps_ok e1) (X.ex s e fun a l1 h1 s1 q => X.ex s1 q fun ob l2 h2 s2 q => X.ex s2 q fun i l3 h3 s3 q => (setS_ok s3 q).mono fun v H ⟨h4, g1, g2, g3⟩ => by subst g1; exact .nx g2 g3)
  | Tuple elts k0 tp =>
    obtain ⟨xs, hx, e⟩ := gP_inv e
    obtain ⟨e2, e⟩ := chk_ok e
    obtain ⟨e2, e3⟩ := Bool.and_eq_true_iff.mp e2
    refine s_tuple X.hA hx (List.all_eq_true.mpr fun y hy => ownS_ok X.hs (List.all_eq_true.mp e3 y hy)) (swaps_ok (env := env) (t := some (.Tuple elts k0 tp)) (ln := p.line) e1) (notTup_ok e2) (X.ex s e fun a l1 h1 s1 q => ?_)
    obtain ⟨as, ha, q⟩ := tupE_ok q
    obtain ⟨q1, q2⟩ := chk_ok q
    exact ⟨avs as, ha, by rw [avs_len]; exact Nat.eq_of_beq_eq_true q1, by rw [<- updSs_eq]; exact .nx s1 q2⟩
  | _ => exact e.elim
theorem stepS_ok {x : Stmt} (e : stepS rr sc x l h Q) : SG w hB A env x l h Q := by
  cases x with
  | Pass p => exact s_pass (.nx s e)
  | Return x p =>
    cases x with
    | none => exact s_return0 ⟨.ret .none, l, h, rfl, rfl, rfl, s, e⟩
    | some x => exact s_return (X.ex s e fun a l1 h1 s1 q => ⟨.ret a, l1, h1, rfl, rfl, rfl, s1, q⟩)
  | If t x y p => exact s_if (X.t s e fun c l1 h1 s1 q => bI_imp q ((X.hr sc X.hk).s X.hs X.hA' s1) ((X.hr sc X.hk).s X.hs X.hA' s1))
  | Expr x p =>
    obtain ⟨e1, e2⟩ := chk_ok e
    exact s_expr (by unfold interactive; rw [X.hs, X.hk]; rfl) (swaps_ok e1) (X.ex s e2 fun a l1 h1 s1 q => .nx s1 q)
  | Assign ts x p =>
    obtain ⟨t, rfl, e⟩ := a1_inv e
    exact stepA_ok X s e
  | _ => exact e.elim
theorem stepB_ok {x : List Stmt} (e : stepB rr sc x l h Q) : RS w hB A env (execs x env) (vsf l) (mkH h) (OQ Q) := by
  cases x with
  | nil => exact s_nil ⟨.next, l, h, rfl, rfl, rfl, s, e⟩
  | cons st rest =>
    unfold stepB at e
    refine s_cons ((stepS_ok X s e).mono (OQ.go fun o l1 h1 s1 q => ?_))
    cases o with
    | next => exact (X.hr sc X.hk).s X.hs X.hA' s1 q
    | brk => exact ⟨.brk, l1, h1, rfl, rfl, rfl, s1, q⟩
    | cont => exact ⟨.cont, l1, h1, rfl, rfl, rfl, s1, q⟩
    | ret a => exact ⟨.ret a, l1, h1, rfl, rfl, rfl, s1, q⟩
end
theorem EV_ok (b : Base w hB) (hO : ∀ o ∈ O, OrcOK w hB o) : ∀ (k : Nat) (sc : Scope), sc.kind = .function -> RecOK w hB (2 * k) (EV O k sc) sc
  | 0, sc, _ => ⟨fun _ _ _ _ _ _ _ e => e.elim, fun _ _ _ _ _ _ _ e => e.elim, fun _ _ _ _ _ _ _ e => e.elim⟩
  | k + 1, sc, hk => ⟨fun {A env} hs hA {x l h Q} s e => stepE_ok ⟨b, hO, EV_ok b hO k, hk, hs, hA⟩ s e, fun {A env} hs hA {x l h Q} s e => stepT_ok ⟨b, hO, EV_ok b hO k, hk, hs, hA⟩ s e, fun {A env} hs hA {x l h Q} s e => stepB_ok ⟨b, hO, EV_ok b hO k, hk, hs, hA⟩ s e⟩
end
theorem kmp {a b : Prop} (e : a = b) (h : b) : a := e ▸ h
noncomputable def norm (ns : List Str) (l : SVS) : SVS := ns.filterMap fun x => match l.lookup x with
  | some a => some (x, a)
  | none => none
theorem norm_ok {ns : List Str} {l : SVS} {x : Str} {a : SV} : (norm ns l).lookup x = some a -> l.lookup x = some a := by
  induction ns with
  | nil => intro h; cases h
  | cons y ns ih =>
    intro h
    unfold norm at h
    rw [List.filterMap_cons] at h
    cases q : l.lookup y with
    | none => rw [q] at h; exact ih h
    | some b =>
      rw [q] at h
      dsimp only at h
      rw [List.lookup_cons] at h
      by_cases e : x = y
      · subst e; simp at h; rw [q, h]
      · have : (x == y) = false := by simpa using e
        rw [this] at h
        exact ih h
noncomputable def leV (v' v : VS) : Prop := ∀ x a, v' x = some a -> v x = some a
theorem norm_le {ns : List Str} {l : SVS} : leV (vsf (norm ns l)) (vsf l) := fun x a h => by
  unfold vsf at h ⊢
  obtain ⟨b, h1, h2⟩ := Option.map_eq_some_iff.mp h
  rw [norm_ok h1]
  exact congrArg some h2
set_option tactic.hygienic true in
theorem leV_upd {v' v : VS} (h : leV v' v) (x : Str) (a : AV) : leV (updV v' x a) (updV v x a) := fun y b e => by
  unfold updV at e ⊢
  split
  · rename_i q; rw [if_pos q] at e; exact e
  · rename_i q; rw [if_neg q] at e; exact h _ _ e
section
variable {w : World} {hB : Heap} {n : Nat} {h : HS} {A : Around} {env : Env} {l : SVS}
theorem Ok.weak {vs vs' : VS} {H : AHeap} {ρ : Rho} {s : Shared} (O : Ok w hB env vs H ρ s) (le : leV vs' vs) : Ok w hB env vs' H ρ s :=
  ⟨O.base, O.last, O.objs, O.big, O.inj, ⟨let ⟨m, h1, h2⟩ := O.fr.loc; ⟨m, h1, fun x a hk hv => h2 x a hk (le _ _ hv)⟩, fun x hx => let ⟨c, v, h1, h2, h3⟩ := O.fr.cel x hx; ⟨c, v, h1, h2, fun a ha => h3 a (le _ _ ha)⟩, fun x a hx hv => O.fr.fre x a hx (le _ _ hv)⟩,
    O.nL, O.bigL, O.bigC, O.cinj, O.kind, O.glob, O.bi, O.gens⟩
theorem Run.weak {α β : Type} {rel : Heap -> Rho -> AHeap -> β -> α -> Prop} {t : Sem α} {vs vs' : VS} {H : AHeap} {Q : β -> VS -> AHeap -> Prop} (h : Run w hB rel A env t vs' H Q) (le : leV vs' vs) : Run w hB rel A env t vs H Q := fun ρ s K O k => h ρ s K (O.weak le) k
theorem env_scope {f : FnE} (hm : f ∈ fnL) {L : Addr} : (callEnv (fdE f) L f.fa).scope = scopeOf f.st /\ (scopeOf f.st).kind = .function := by
  obtain ⟨h, h4⟩ := Bool.and_eq_true_iff.mp (Bool.and_eq_true_iff.mp (Bool.and_eq_true_iff.mp (List.all_eq_true.mp fn_scope f hm)).1).1
  exact ⟨(fdE_ok (Bool.and_eq_true_iff.mp (Bool.and_eq_true_iff.mp h).1).1).scope, kind_ok h4⟩
variable {sc : Scope} {r : Rec}
theorem S_cons (R : RecOK w hB n r sc) (hs : env.scope = sc) (hA : AOk n A) {st : Stmt} {rest : List Stmt} {Q : SOut -> SVS -> HS -> Prop}
    (h1 : RS w hB A env (exec st env) (vsf l) (mkH h) (OQ fun o l1 h1 => match o with
      | .next => r.s rest l1 h1 Q
      | o => Q o l1 h1)) : RS w hB A env (execs (st :: rest) env) (vsf l) (mkH h) (OQ Q) := by
  refine s_cons (h1.mono (OQ.go fun o l1 h1 s1 q => ?_))
  cases o with
  | next => exact R.s hs hA s1 q
  | brk => exact ⟨.brk, l1, h1, rfl, rfl, rfl, s1, q⟩
  | cont => exact ⟨.cont, l1, h1, rfl, rfl, rfl, s1, q⟩
  | ret a => exact ⟨.ret a, l1, h1, rfl, rfl, rfl, s1, q⟩
set_option tactic.hygienic true in
theorem S_while (R : RecOK w hB n r sc) (hs : env.scope = sc) (hA : AOk n A) {t : PySem.Expr} {b o : List Stmt} {p : Pos} {Q : SOut -> SVS -> HS -> Prop} (ns : List Str) (J : Nat -> SVS -> HS -> Prop) (m : Nat) (s : Small h) (hJ : J m (norm ns l) h)
    (turn : ∀ m l h, Small h -> J m l h -> r.t t l h fun c l1 h1 => match c with
      | true => r.s b l1 h1 fun o l2 h2 => match o with
        | .brk => Q .next l2 h2
        | .ret a => Q (.ret a) l2 h2
        | _ => ∃ j, j < m /\ J j (norm ns l2) h2
      | false => r.s o l1 h1 Q) : RS w hB A env (exec (.While t b o p) env) (vsf l) (mkH h) (OQ Q) := by
  refine s_while (fun m v H => ∃ l h, leV (vsf l) v /\ H = mkH h /\ Small h /\ J m l h) m ⟨norm ns l, h, norm_le, rfl, s, hJ⟩ fun m v1 H1 ⟨l1, h1, q1, q2, q3, q4⟩ => ?_
  subst q2
  refine Run.weak (Run.mono (R.t hs hA q3 (turn m l1 h1 q3 q4)) (TQ.go fun c l2 h2 s2 q => ?_)) q1
  cases c with
  | true =>
    refine ⟨fun _ => (R.s hs hA s2 q).mono (OQ.go fun o l3 h3 s3 q => ?_), fun q => by cases q⟩
    have again : (∃ j, j < m /\ J j (norm ns l3) h3) -> ∃ j, j < m /\ ∃ l h, leV (vsf l) (vsf l3) /\ mkH h3 = mkH h /\ Small h /\ J j l h := fun ⟨j, g1, g2⟩ => ⟨j, g1, norm ns l3, h3, norm_le, rfl, s3, g2⟩
    cases o with
    | next => exact again q
    | cont => exact again q
    | brk => exact ⟨.next, l3, h3, rfl, rfl, rfl, s3, q⟩
    | ret a => exact ⟨.ret a, l3, h3, rfl, rfl, rfl, s3, q⟩
  | false => exact ⟨fun q => (by cases q), fun _ => R.s hs hA s2 q⟩
inductive SSrc where
  | rng (a b c : Int)
  | il (o : Oid) (l : List Int)
  | sl (o : Oid) (l : List Str)
  | lst (o : Oid) (l : List SV)
  | rngK (a b c : Int)
  | txts (o : Oid) (l : List Str)
noncomputable def SSrc.els : SSrc -> List SV
  | .rng a b c => (rngEls a b c).map .si
  | .il _ l => l.map .si
  | .sl _ l => l.map .ss
  | .lst _ l => l
  | .rngK a b c => (rngEls a b c).map .int
  | .txts _ l => l.map .str
noncomputable def SSrc.src : SSrc -> Src
  | .rng a b c => .rng a b c
  | .il o l => .list o (l.map .int)
  | .sl o l => .list o (l.map .str)
  | .lst o l => .list o (avs l)
  | .rngK a b c => .rng a b c
  | .txts o l => .list o (l.map .str)
noncomputable def SSrc.Good (h : HS) : SSrc -> Prop
  | .rng a b c => Builtin.Range.small a b c = true
  | .il o l => h.get o = some (.il l)
  | .sl o l => h.get o = some (.sl l)
  | .lst o l => h.get o = some (.list l)
  | .rngK a b c => Builtin.Range.small a b c = true
  | .txts o l => h.get o = some (.sl l)
theorem SSrc.good {c : SSrc} (g : c.Good h) : c.src.Good (mkH h) := by
  cases c with
  | rng a b c => exact g
  | il o l => exact mkH_some g
  | sl o l => exact mkH_some g
  | lst o l => exact mkH_some g
  | rngK a b c => exact g
  | txts o l => exact mkH_some g
theorem SSrc.av (c : SSrc) : c.src.els = c.els.map SV.av := by
  cases c with
  | lst o l => exact avs_map l
  | _ => show List.map _ _ = List.map _ (List.map _ _); rw [List.map_map]; rfl
theorem SSrc.at {c : SSrc} {k : Nat} {e : AV} (g : c.src.els[k]? = some e) : ∃ a, c.els[k]? = some a /\ e = a.av := by
  rw [SSrc.av, List.getElem?_map] at g
  obtain ⟨x, h1, h2⟩ := Option.map_eq_some_iff.mp g
  exact ⟨x, h1, h2.symm⟩
theorem SSrc.len (c : SSrc) : c.src.els.length = c.els.length := by rw [SSrc.av, List.length_map]
set_option tactic.hygienic true in
noncomputable def LoopS (J : Nat -> SVS -> HS -> Prop) (ns : List Str) (Q : SOut -> SVS -> HS -> Prop) (k : Nat) : SOut -> SVS -> HS -> Prop := fun o l3 h3 => match o with
  | .brk => Q .next l3 h3
  | .ret a => Q (.ret a) l3 h3
  | _ => J (k + 1) (norm ns l3) h3
theorem RunT.weak {T : Shared -> Prop} {α β : Type} {rel : Heap -> Rho -> AHeap -> β -> α -> Prop} {t : Sem α} {vs vs' : VS} {H : AHeap} {Q : β -> VS -> AHeap -> Prop} (h : RunT T w hB rel A env t vs' H Q) (le : leV vs' vs) : RunT T w hB rel A env t vs H Q := fun ρ s K z O k => h ρ s K z (O.weak le) k
set_option tactic.hygienic true in
theorem S_forT (T : Shared -> Prop) (hA : AOk n A) {x : Str} {xp p : Pos} {iter : PySem.Expr} {b : List Stmt} {Q : SOut -> SVS -> HS -> Prop} (hx : StoreT T w hB A env x) (hi : notSet iter = true) (ns : List Str) (J : Nat -> SVS -> HS -> Prop)
    (h1 : RV w hB A env (eval iter env) (vsf l) (mkH h) (SQ fun a l1 h1 => ∃ c : SSrc, a.av = c.src.av /\ (∀ k l2 h2, Small h2 -> J k l2 h2 -> c.Good h2) /\ J 0 (norm ns l1) h1 /\
      (∀ k e l2 h2, Small h2 -> J k l2 h2 -> c.els[k]? = some e -> RunT T w hB relF A env (execs b env) (vsf ((x, e) :: l2)) (mkH h2) (OQ (LoopS J ns Q k))) /\
      (∀ l2 h2, Small h2 -> J c.els.length l2 h2 -> Q .next l2 h2))) : RS w hB A env (exec (.For (.Name x xp) iter b [] p) env) (vsf l) (mkH h) (OQ Q) := by
  refine s_forT T hA hx (notSet_ok hi) (fun c k v H => ∃ l h, leV (vsf l) v /\ H = mkH h /\ Small h /\ J k l h /\ (∀ k l2 h2, Small h2 -> J k l2 h2 -> c.Good (mkH h2))) (h1.mono (SQ.go fun a l1 h1 s1 q => ?_))
  obtain ⟨c, q1, q2, q3, q4, q5⟩ := q
  have gg : ∀ k l2 h2, Small h2 -> J k l2 h2 -> c.src.Good (mkH h2) := fun k l2 h2 s j => SSrc.good (q2 k l2 h2 s j)
  refine ⟨c.src, q1, fun k v2 H2 ⟨l2, h2, g1, g2, g3, g4, g5⟩ => by subst g2; exact g5 k l2 h2 g3 g4, ⟨_, _, norm_le, rfl, s1, q3, gg⟩, fun k e v2 H2 ⟨l2, h2, g1, g2, g3, g4, g5⟩ he => ?_, fun v2 H2 ⟨l2, h2, g1, g2, g3, g4, g5⟩ => ?_⟩
  · subst g2
    obtain ⟨a', h3, rfl⟩ := SSrc.at he
    refine RunT.weak (vs' := vsf ((x, a') :: l2)) (RunT.mono (q4 k a' l2 h2 g3 g4 h3) (OQ.go fun o l3 h3 s3 q => ?_)) (by rw [vsf_cons]; exact leV_upd g1 _ _)
    cases o with
    | next => exact ⟨_, _, norm_le, rfl, s3, q, gg⟩
    | cont => exact ⟨_, _, norm_le, rfl, s3, q, gg⟩
    | brk => exact ⟨.next, l3, h3, rfl, rfl, rfl, s3, q⟩
    | ret a => exact ⟨.ret a, l3, h3, rfl, rfl, rfl, s3, q⟩
  · subst g2
    rw [SSrc.len] at g4
    exact Run.weak (s_nil ⟨.next, l2, h2, rfl, rfl, rfl, g3, q5 l2 h2 g3 g4⟩) g1
set_option tactic.hygienic true in
theorem S_for (R : RecOK w hB n r sc) (hs : env.scope = sc) (hA : AOk n A) {x : Str} {xp p : Pos} {iter : PySem.Expr} {b : List Stmt} {Q : SOut -> SVS -> HS -> Prop} (hx : ownS sc x = true) (hi : notSet iter = true) (ns : List Str) (J : Nat -> SVS -> HS -> Prop) (s : Small h)
    (h1 : r.e iter l h fun a l1 h1 => ∃ c : SSrc, a.av = c.src.av /\ (∀ k l2 h2, Small h2 -> J k l2 h2 -> c.Good h2) /\ J 0 (norm ns l1) h1 /\
      (∀ k e l2 h2, Small h2 -> J k l2 h2 -> c.els[k]? = some e -> r.s b ((x, e) :: l2) h2 (LoopS J ns Q k)) /\
      (∀ l2 h2, Small h2 -> J c.els.length l2 h2 -> Q .next l2 h2)) : RS w hB A env (exec (.For (.Name x xp) iter b [] p) env) (vsf l) (mkH h) (OQ Q) :=
  S_forT (fun _ => True) hA (storeT (ownS_ok hs hx)) hi ns J ((R.e hs hA s h1).mono (SQ.go fun a l1 h1 s1 ⟨c, q1, q2, q3, q4, q5⟩ => .mk s1 ⟨c, q1, q2, q3, fun k e l2 h2 s2 j he => (R.s hs hA s2 (q4 k e l2 h2 s2 j he)).toT, q5⟩))
end
noncomputable def AvQ (Q : SV -> HS -> Prop) : SV -> HS -> Prop := fun a h => ∃ b, a.av = b.av /\ Q b h
theorem AvQ.here {Q : SV -> HS -> Prop} {a : SV} {h : HS} (q : Q a h) : AvQ Q a h := ⟨a, rfl, q⟩
theorem HQ_av {Q : SV -> HS -> Prop} {v : AV} {H : AHeap} : HQ (AvQ Q) v H -> HQ Q v H := fun ⟨b, hs, h1, h2, h3, c, h4, h5⟩ => ⟨c, hs, h1.trans h4, h2, h3, h5⟩
theorem ev_orc {w : World} {hB : Heap} (b : Base w hB) {O : List Orc} (hO : ∀ o ∈ O, OrcOK w hB o) (k : Nat) {fa : Nat} {as : List SV} {h : HS} {Q : SV -> HS -> Prop} {n : Nat} (hn : 2 * k + 1 <= n) (s : Small h) (e : callF (EV O k) fa as h (AvQ Q)) :
    Spec w hB n (.ref fa) (avs as) (mkH h) (HQ Q) :=
  ((callF_ok b (fun sc hk => EV_ok b hO k sc hk) s e).spec.lift hn).mono fun _ _ => HQ_av
theorem noO {w : World} {hB : Heap} : ∀ o ∈ ([] : List Orc), OrcOK w hB o := fun _ h => nomatch h
noncomputable def St.sp (S : St) (i : Int) : Str := S.spaces.getD i.toNat Str.empty
noncomputable def St.nm (S : St) (i : Int) : Str := S.names.getD i.toNat Str.empty
noncomputable def St.sh (S : St) (i : Int) : Str := if S.sp i = "html" then S.nm i else Str.empty
structure St.WF (S : St) : Prop where
  itm : ∀ i ∈ S.items, 0 <= i /\ i < S.spaces.length /\ i < S.names.length
  big : S.items.length <= 1000 /\ S.kinds.length <= 1000 /\ S.spaces.length <= 1000 /\ S.names.length <= 1000 /\ S.texts.length <= 1000 /\ S.nat <= 1000 /\ S.nch <= 1000 /\ S.parents.length <= 1000 /\ S.contents.length <= 1000 /\ S.marks.length <= 1000 /\ S.errors.length <= 1000
noncomputable def St.cur (S : St) : Str := match S.items.getLast? with
  | some i => S.sh i
  | none => Str.empty
noncomputable abbrev hsO (S : St) (x : List (Oid × SO)) (kids : List (List Int)) (atts : List (List SV)) (cops : List (List Int)) (ab : Option (List Int)) (tm : List SO) : HS := ⟨some S, x, kids, atts, cops, ab, tm⟩
theorem last_at {l : List Int} (h : l ≠ []) : l.getD ((l.length : Int) - 1).toNat 0 = l.getLast h := by
  have hp : 0 < l.length := List.length_pos_iff.mpr h
  have e : ((l.length : Int) - 1).toNat = l.length - 1 := tn_p _
  rw [e, List.getLast_eq_getElem, List.getD_eq_getElem?_getD, List.getElem?_eq_getElem (Nat.sub_lt hp Nat.one_pos)]
  rfl
noncomputable abbrev br (c : Bool) (t e : Prop) : Prop := (c = true -> t) /\ (c = false -> e)
noncomputable def F_name : OrcF := fun as h Q => a1 as fun x => gF .stk x (gSt h fun S => S.WF /\ Q (.ss S.cur) h)
theorem ok_name {w : World} {hB : Heap} (b : Base w hB) : OrcOK w hB ⟨222, 30, F_name⟩ := fun n hn as h Q s e => by
  dsimp only at e hn
  replace e := a1_inv e
  obtain ⟨x, rfl, e⟩ := e
  replace e := gF_inv e
  obtain ⟨rfl, e⟩ := e
  replace e := gSt_inv e
  obtain ⟨S, hS, e⟩ := e
  obtain ⟨st, al, kids, atts, cops, ab, tm⟩ := h
  cases hS
  let i := S.items.getD ((S.items.length : Int) - 1).toNat 0
  refine ev_orc b noO 14 (by omega) s (kmp (b := br ((S.items.length : Int) == 0) (AvQ Q (.str "") (hsO S al kids atts cops ab tm)) ((0 <= (S.items.length : Int) - 1 /\ (S.items.length : Int) - 1 < S.items.length) /\
    br (i == -1) (AvQ Q (.str "") (hsO S al kids atts cops ab tm)) ((0 <= i /\ i < S.spaces.length) /\
    br (S.sp i != "html") (AvQ Q (.str "") (hsO S al kids atts cops ab tm)) ((0 <= i /\ i < S.names.length) /\ AvQ Q (.ss (S.nm i)) (hsO S al kids atts cops ab tm))))) (by kernel_rfl) ?_)
  dsimp only [i]
  obtain ⟨W, e⟩ := e
  by_cases q : S.items = []
  · have hc : S.cur = Str.empty := by unfold St.cur; rw [q]; rfl
    refine ⟨fun _ => ⟨.ss S.cur, by rw [hc]; rfl, e⟩, fun h => by rw [q] at h; cases h⟩
  · have hp : 0 < S.items.length := List.length_pos_iff.mpr q
    rw [last_at q]
    have hm := W.itm _ (List.getLast_mem q)
    have hc : S.cur = S.sh (S.items.getLast q) := by unfold St.cur; rw [List.getLast?_eq_some_getLast q]
    generalize S.items.getLast q = i at *
    refine ⟨fun h => by simp only [beq_iff_eq] at h; omega, fun _ => ⟨by omega, fun h => by simp only [beq_iff_eq] at h; omega, fun _ => ⟨by omega, fun h => ⟨.ss S.cur, ?_, e⟩, fun h => ⟨by omega, .ss S.cur, ?_, e⟩⟩⟩⟩
    · rw [hc]; unfold St.sh; rw [if_neg (by simpa using h)]; try rfl
    · rw [hc]; unfold St.sh; rw [if_pos (by simpa using h)]; try rfl
noncomputable abbrev vr (x : String) (a : SV) : Str × SV := (Str.ofString x, a)
noncomputable def fe (fa na : Nat) : FnE := (fnAt fa na fnL).getD ⟨0, stAt 0, "", .none, .none, 0, 0, []⟩
noncomputable def stT : Stmt -> PySem.Expr
  | .While t _ _ _ => t
  | .For _ i _ _ _ => i
  | _ => .Constant .none 0 ⟨0, 0, 0, 0⟩
noncomputable def stB : Stmt -> List Stmt
  | .While _ b _ _ => b
  | .For _ _ b _ _ => b
  | _ => []
noncomputable def stX : Stmt -> Str
  | .For (.Name x _) _ _ _ _ => x
  | _ => Str.empty
noncomputable def stXp : Stmt -> Pos
  | .For (.Name _ p) _ _ _ _ => p
  | _ => ⟨0, 0, 0, 0⟩
noncomputable def stN (f : FnE) (i : Nat) : Stmt := stOf (bodyOf f.st) i
theorem fe_mem {fa na : Nat} (h : fnAt fa na fnL = some (fe fa na)) : fe fa na ∈ fnL /\ (fe fa na).fa = fa /\ (fe fa na).na = na := fnAt_mem h
theorem orc_enter {w : World} {hB : Heap} (b : Base w hB) {fa na k n : Nat} {as : List SV} {h : HS} {Q : SV -> HS -> Prop} (hf : fnAt fa na fnL = some (fe fa na)) (hna : as.length = na) (hn : 2 * k + 1 <= n) {l0 : SVS} (hl : ((argNames (fe fa na).st).zip (as ++ (fe fa na).df)).reverse = l0)
    (run : ∀ env A', env.scope = scopeOf (fe fa na).st -> AOk (2 * k) A' -> RS w hB A' env (execs (bodyOf (fe fa na).st) env) (vsf l0) (mkH h) (OQ (retS (AvQ Q)))) : Spec w hB n (.ref fa) (avs as) (mkH h) (HQ Q) := by
  obtain ⟨h1, h2, h3⟩ := fe_mem hf
  have := enter (w := w) (hB := hB) (n := 2 * k) (h := h) (Q := AvQ Q) b h1 (as := as) (hna.trans h3.symm) fun L A' hA' => by
    rw [hl]; exact run _ A' (env_scope h1).1 hA'
  rw [h2] at this
  exact (this.spec.lift hn).mono fun _ _ => HQ_av
theorem fe_kind {fa na : Nat} (h : fnAt fa na fnL = some (fe fa na)) : (scopeOf (fe fa na).st).kind = .function := (env_scope (fe_mem h).1 (L := 0)).2
theorem S_first {w : World} {hB : Heap} (b : Base w hB) {O : List Orc} (hO : ∀ o ∈ O, OrcOK w hB o) {k : Nat} {sc : Scope} {env : Env} {A : Around} {l : SVS} {h : HS} (hk : sc.kind = .function) (hs : env.scope = sc) (hA : AOk (2 * k + 2) A) (s : Small h) {st : Stmt} {rest : List Stmt} {Q : SOut -> SVS -> HS -> Prop} (P : SVS -> HS -> Prop)
    (e : stepS (EV O k) sc st l h fun o l1 h1 => o = .next /\ P l1 h1) (k2 : ∀ l1 h1, Small h1 -> P l1 h1 -> RS w hB A env (execs rest env) (vsf l1) (mkH h1) (OQ Q)) : RS w hB A env (execs (st :: rest) env) (vsf l) (mkH h) (OQ Q) := by
  refine s_cons ((stepS_ok ⟨b, hO, EV_ok b hO k, hk, hs, hA⟩ s e).mono (OQ.go fun o l1 h1 s1 q => ?_))
  obtain ⟨rfl, q⟩ := q
  exact k2 l1 h1 s1 q
theorem S_at {w : World} {hB : Heap} (b : Base w hB) {O : List Orc} (hO : ∀ o ∈ O, OrcOK w hB o) {k : Nat} {sc : Scope} {env : Env} {A : Around} {l : SVS} {h : HS} (hk : sc.kind = .function) (hs : env.scope = sc) (hA : AOk (2 * k + 2) A) (s : Small h) {st : Stmt} {rest : List Stmt} {Q : SOut -> SVS -> HS -> Prop} (l' : SVS) (h' : HS)
    (e : stepS (EV O k) sc st l h fun o l1 h1 => o = .next /\ l1 = l' /\ h1 = h') (k2 : Small h' -> RS w hB A env (execs rest env) (vsf l') (mkH h') (OQ Q)) : RS w hB A env (execs (st :: rest) env) (vsf l) (mkH h) (OQ Q) :=
  S_first b hO hk hs hA s _ e fun l1 h1 s1 q => by
    obtain ⟨rfl, rfl⟩ := q; exact k2 s1
noncomputable def dropU (p : Int -> Bool) : List Int -> List Int
  | [] => []
  | i :: r => match p i with
    | true => r
    | false => dropU p r
noncomputable def popU (p : Int -> Bool) (l : List Int) : List Int := (dropU p l.reverse).reverse
theorem popU_snoc (p : Int -> Bool) (l : List Int) (i : Int) : popU p (l ++ [i]) = if p i then l else popU p l := by
  unfold popU
  rw [List.reverse_append]
  show (match p i with | true => l.reverse | false => dropU p l.reverse).reverse = _
  cases p i with
  | true => simp
  | false => rfl
theorem snoc_last {l : List Int} (h : l ≠ []) : l = l.dropLast ++ [l.getLastD 0] := by
  rw [List.getLastD_eq_getLast?, List.getLast?_eq_some_getLast h]
  exact (List.dropLast_concat_getLast h).symm
theorem St.WF.pre {S : St} (W : S.WF) {its : List Int} (h : ∀ i ∈ its, i ∈ S.items) (hl : its.length <= S.items.length) : ({ S with items := its } : St).WF :=
  ⟨fun i hi => W.itm i (h i hi), Nat.le_trans hl W.big.1, W.big.2⟩
theorem cur_last {S : St} {its : List Int} (h : its ≠ []) : ({ S with items := its } : St).cur = S.sh (its.getLastD 0) := by
  unfold St.cur
  rw [List.getLastD_eq_getLast?]
  dsimp only
  rw [List.getLast?_eq_some_getLast h]
  rfl
noncomputable def F_pop_until : OrcF := fun as h Q => a2 as fun x y => gF .stk x (gT y fun l => a1 l fun z => gC z fun a => gSt h fun S => S.WF /\ ∀ r, Q (.si r) { h with st := some { S with items := popU (fun i => [a].contains (S.sh i)) S.items } })
theorem mem_dropLast {l : List Int} {i : Int} (h : i ∈ l.dropLast) : i ∈ l := List.dropLast_subset l h
theorem ok_pop_until {w : World} {hB : Heap} (b : Base w hB) : OrcOK w hB ⟨236, 60, F_pop_until⟩ := fun n hn as h Q s e => by
  dsimp only at e hn
  replace e := a2_inv e
  obtain ⟨x, y, rfl, e⟩ := e
  replace e := gF_inv e
  obtain ⟨rfl, e⟩ := e
  replace e := gT_inv e
  obtain ⟨l, rfl, e⟩ := e
  replace e := a1_inv e
  obtain ⟨z, rfl, e⟩ := e
  replace e := gC_inv e
  obtain ⟨a, rfl, e⟩ := e
  replace e := gSt_inv e
  obtain ⟨S, hS, e⟩ := e
  obtain ⟨st, al, kids, atts, cops, ab, tm⟩ := h
  cases hS
  obtain ⟨W, e⟩ := e
  have hf : fnAt 236 2 fnL = some (fe 236 2) := by kernel_rfl
  refine orc_enter b (k := 25) hf rfl (by omega) (l0 := [vr "names" (.tup [.str a]), vr "self" (.ref (.s .stk))]) (by kernel_rfl) fun env A' hs hA => ?_
  have hb : bodyOf (fe 236 2).st = [.While (stT (stN (fe 236 2) 0)) (stB (stN (fe 236 2) 0)) [] (stN (fe 236 2) 0).pos, stN (fe 236 2) 1] := by kernel_rfl
  rw [hb]
  have hO : ∀ o ∈ [(⟨222, 30, F_name⟩ : Orc)], OrcOK w hB o := fun o ho => by cases ho with | head => exact ok_name b | tail _ h => cases h
  have R := EV_ok b hO 25 _ (fe_kind hf)
  let J : Nat -> SVS -> HS -> Prop := fun m l h => l = [vr "self" (.ref (.s .stk)), vr "names" (.tup [.str a])] /\ ∃ its, h = hsO { S with items := its } al kids atts cops ab tm /\ m = its.length /\ (∀ i ∈ its, i ∈ S.items) /\ its.length <= S.items.length /\ popU (fun i => [a].contains (S.sh i)) its = popU (fun i => [a].contains (S.sh i)) S.items
  refine S_cons R hs hA (S_while R hs hA ["self", "names"] J S.items.length s ⟨by kernel_rfl, S.items, rfl, rfl, fun _ h => h, Nat.le_refl _, rfl⟩ fun m l h s' hJ => ?_)
  obtain ⟨rfl, its, rfl, rfl, j1, j2, j3⟩ := hJ
  refine kmp (b := br (decide ((its.length : Int) > 0)) (({ S with items := its } : St).WF /\ (its ≠ [] /\ br ([a].contains ({ S with items := its } : St).cur) (AvQ Q (.si (its.getLastD 0)) (hsO { S with items := its.dropLast } al kids atts cops ab tm))
    (∃ j, j < its.length /\ J j [vr "self" (.ref (.s .stk)), vr "names" (.tup [.str a])] (hsO { S with items := its.dropLast } al kids atts cops ab tm)))) (AvQ Q (.int (-1)) (hsO { S with items := its } al kids atts cops ab tm))) (by kernel_rfl) ?_
  refine ⟨fun hp => ?_, fun hp => ?_⟩
  · have hne : its ≠ [] := by
      intro q; subst q; simp at hp
    have hsn := popU_snoc (fun i => [a].contains (S.sh i)) its.dropLast (its.getLastD 0)
    rw [<- snoc_last hne, j3] at hsn
    refine ⟨W.pre j1 j2, hne, fun hc => ?_, fun hc => ?_⟩
    · rw [cur_last hne] at hc
      rw [if_pos hc] at hsn
      rw [<- hsn]; exact .here (e _)
    · rw [cur_last hne] at hc
      rw [if_neg (by rw [hc]; simp)] at hsn
      refine ⟨its.dropLast.length, by rw [List.length_dropLast]; have := List.length_pos_iff.mpr hne; omega, rfl, its.dropLast, rfl, rfl, fun i hi => j1 i (mem_dropLast hi), by rw [List.length_dropLast]; omega, hsn.symm⟩
  · have hne : its = [] := by
      cases its with
      | nil => rfl
      | cons _ _ => simp at hp
    subst hne
    have j3 : [] = popU (fun i => [a].contains (S.sh i)) S.items := j3
    refine ⟨.si (-1), rfl, ?_⟩
    have := e (-1)
    rw [<- j3] at this
    exact this
noncomputable def dropT (p : Int -> Bool) : List Int -> List Int
  | [] => []
  | [i] => [i]
  | i :: j :: r => match p i with
    | true => i :: j :: r
    | false => dropT p (j :: r)
noncomputable def popT (p : Int -> Bool) (l : List Int) : List Int := (dropT p l.reverse).reverse
theorem popT_short (p : Int -> Bool) {l : List Int} (h : l.length <= 1) : popT p l = l := by
  match l, h with
  | [], _ => rfl
  | [i], _ => rfl
theorem popT_snoc (p : Int -> Bool) (l : List Int) (i : Int) (h : l ≠ []) : popT p (l ++ [i]) = if p i then l ++ [i] else popT p l := by
  unfold popT
  rw [List.reverse_append]
  cases hr : l.reverse with
  | nil => exact absurd (by simpa using hr) h
  | cons j r =>
    have : l = (j :: r).reverse := by rw [<- hr, List.reverse_reverse]
    show (match p i with | true => i :: j :: r | false => dropT p (j :: r)).reverse = _
    cases p i with
    | true => simp [this]
    | false => rfl
noncomputable def F_pop_to : OrcF := fun as h Q => a2 as fun x y => gF .stk x (gT y fun l => a3 l fun u v z => gC u fun a => gC v fun b => gC z fun c => gSt h fun S => S.WF /\ Q .none { h with st := some { S with items := popT (fun i => [a, b, c].contains (S.sh i)) S.items } })
theorem one_name {w : World} {hB : Heap} (b : Base w hB) : ∀ o ∈ [(⟨222, 30, F_name⟩ : Orc)], OrcOK w hB o := fun o ho => by cases ho with | head => exact ok_name b | tail _ h => cases h
theorem ok_pop_to {w : World} {hB : Heap} (b : Base w hB) : OrcOK w hB ⟨243, 60, F_pop_to⟩ := fun n hn as h Q s e => by
  dsimp only at e hn
  replace e := a2_inv e
  obtain ⟨x, y, rfl, e⟩ := e
  replace e := gF_inv e
  obtain ⟨rfl, e⟩ := e
  replace e := gT_inv e
  obtain ⟨l, rfl, e⟩ := e
  replace e := a3_inv e
  obtain ⟨u, v, z, rfl, e⟩ := e
  replace e := gC_inv e
  obtain ⟨a, rfl, e⟩ := e
  replace e := gC_inv e
  obtain ⟨b', rfl, e⟩ := e
  replace e := gC_inv e
  obtain ⟨c, rfl, e⟩ := e
  replace e := gSt_inv e
  obtain ⟨S, hS, e⟩ := e
  obtain ⟨st, al, kids, atts, cops, ab, tm⟩ := h
  cases hS
  obtain ⟨W, e⟩ := e
  have hf : fnAt 243 2 fnL = some (fe 243 2) := by kernel_rfl
  let tp : SV := .tup [.str a, .str b', .str c]
  refine orc_enter b (k := 25) hf rfl (by omega) (l0 := [vr "names" tp, vr "self" (.ref (.s .stk))]) (by kernel_rfl) fun env A' hs hA => ?_
  have hb : bodyOf (fe 243 2).st = [.While (stT (stN (fe 243 2) 0)) (stB (stN (fe 243 2) 0)) [] (stN (fe 243 2) 0).pos] := by kernel_rfl
  rw [hb]
  have R := EV_ok b (one_name b) 25 _ (fe_kind hf)
  let P : Int -> Bool := fun i => [a, b', c].contains (S.sh i)
  let J : Nat -> SVS -> HS -> Prop := fun m l h => l = [vr "self" (.ref (.s .stk)), vr "names" tp] /\ ∃ its, h = hsO { S with items := its } al kids atts cops ab tm /\ m = its.length /\ (∀ i ∈ its, i ∈ S.items) /\ its.length <= S.items.length /\ popT P its = popT P S.items
  refine S_cons R hs hA (S_while R hs hA ["self", "names"] J S.items.length s ⟨by kernel_rfl, S.items, rfl, rfl, fun _ h => h, Nat.le_refl _, rfl⟩ fun m l h s' hJ => ?_)
  obtain ⟨rfl, its, rfl, rfl, j1, j2, j3⟩ := hJ
  let fin : Prop := AvQ Q .none (hsO { S with items := its } al kids atts cops ab tm)
  refine kmp (b := br (decide ((its.length : Int) > 1)) (({ S with items := its } : St).WF /\ br (![a, b', c].contains ({ S with items := its } : St).cur) (its ≠ [] /\
    (∃ j, j < its.length /\ J j [vr "self" (.ref (.s .stk)), vr "names" tp] (hsO { S with items := its.dropLast } al kids atts cops ab tm))) fin) fin) (by kernel_rfl) ?_
  refine ⟨fun hp => ?_, fun hp => ?_⟩
  · have hl : its.length > 1 := by
      have : (its.length : Int) > 1 := by simpa using hp
      omega
    have hne : its ≠ [] := by intro q; subst q; simp at hl
    have hsn := popT_snoc P its.dropLast (its.getLastD 0) (by intro q; have := congrArg List.length q; rw [List.length_dropLast] at this; simp at this; omega)
    rw [<- snoc_last hne, j3] at hsn
    refine ⟨W.pre j1 j2, fun hc => ?_, fun hc => ?_⟩
    · rw [cur_last hne] at hc
      rw [if_neg (by show ¬ ([a, b', c].contains _ = true); rw [Bool.not_eq_true'] at hc; rw [hc]; simp)] at hsn
      refine ⟨hne, its.dropLast.length, by rw [List.length_dropLast]; omega, rfl, its.dropLast, rfl, rfl, fun i hi => j1 i (mem_dropLast hi), by rw [List.length_dropLast]; omega, hsn.symm⟩
    · rw [cur_last hne] at hc
      rw [if_pos (by show [a, b', c].contains _ = true; rw [Bool.not_eq_false'] at hc; exact hc)] at hsn
      refine .here ?_
      rw [<- hsn]; exact e
  · have hl : its.length <= 1 := by
      have : ¬ (its.length : Int) > 1 := by simpa using hp
      omega
    rw [popT_short P hl] at j3
    refine .here ?_
    rw [j3]; exact e
noncomputable def popM (l : List Int) : List Int := popU (fun i => i == -1) l
noncomputable def F_clear : OrcF := fun as h Q => a1 as fun x => gF .fmt x (gSt h fun S => Q .none { h with st := some { S with marks := popM S.marks } })
theorem ok_clear {w : World} {hB : Heap} (b : Base w hB) : OrcOK w hB ⟨445, 60, F_clear⟩ := fun n hn as h Q s e => by
  dsimp only at e hn
  replace e := a1_inv e
  obtain ⟨x, rfl, e⟩ := e
  replace e := gF_inv e
  obtain ⟨rfl, e⟩ := e
  replace e := gSt_inv e
  obtain ⟨S, hS, e⟩ := e
  obtain ⟨st, al, kids, atts, cops, ab, tm⟩ := h
  cases hS
  have hf : fnAt 445 1 fnL = some (fe 445 1) := by kernel_rfl
  refine orc_enter b (k := 25) hf rfl (by omega) (l0 := [vr "self" (.ref (.s .fmt))]) (by kernel_rfl) fun env A' hs hA => ?_
  have hb : bodyOf (fe 445 1).st = [.While (stT (stN (fe 445 1) 0)) (stB (stN (fe 445 1) 0)) [] (stN (fe 445 1) 0).pos] := by kernel_rfl
  rw [hb]
  have R := EV_ok b noO 25 _ (fe_kind hf) (w := w) (hB := hB)
  let J : Nat -> SVS -> HS -> Prop := fun m l h => l = [vr "self" (.ref (.s .fmt))] /\ ∃ its, h = hsO { S with marks := its } al kids atts cops ab tm /\ m = its.length /\ popM its = popM S.marks
  refine S_cons R hs hA (S_while R hs hA ["self"] J S.marks.length s ⟨by kernel_rfl, S.marks, rfl, rfl, rfl⟩ fun m l h s' hJ => ?_)
  obtain ⟨rfl, its, rfl, rfl, j3⟩ := hJ
  refine kmp (b := br (decide ((its.length : Int) > 0)) (its ≠ [] /\ br (its.getLastD 0 == -1) (AvQ Q .none (hsO { S with marks := its.dropLast } al kids atts cops ab tm))
    (∃ j, j < its.length /\ J j [vr "self" (.ref (.s .fmt))] (hsO { S with marks := its.dropLast } al kids atts cops ab tm))) (AvQ Q .none (hsO { S with marks := its } al kids atts cops ab tm))) (by kernel_rfl) ?_
  refine ⟨fun hp => ?_, fun hp => ?_⟩
  · have hne : its ≠ [] := by intro q; subst q; simp at hp
    have hsn := popU_snoc (fun i => i == -1) its.dropLast (its.getLastD 0)
    rw [<- snoc_last hne] at hsn
    have j3 : popU (fun i => i == -1) its = popM S.marks := j3
    rw [j3] at hsn
    refine ⟨hne, fun hc => ?_, fun hc => ?_⟩
    · rw [if_pos hc] at hsn
      refine .here ?_
      rw [<- hsn]; exact e
    · rw [if_neg (by rw [hc]; simp)] at hsn
      exact ⟨its.dropLast.length, by rw [List.length_dropLast]; have := List.length_pos_iff.mpr hne; omega, rfl, its.dropLast, rfl, rfl, hsn.symm⟩
  · have hne : its = [] := by
      cases its with
      | nil => rfl
      | cons _ _ => simp at hp
    subst hne
    have j3 : [] = popM S.marks := j3
    refine .here ?_
    rw [j3]; exact e
noncomputable def implied : List Str := ["dd", "dt", "li", "optgroup", "option", "p", "rb", "rp", "rt", "rtc"].map Str.ofString
noncomputable def dropI (p : Int -> Bool) : List Int -> List Int
  | [] => []
  | i :: r => match p i with
    | true => dropI p r
    | false => i :: r
noncomputable def popI (p : Int -> Bool) (l : List Int) : List Int := (dropI p l.reverse).reverse
theorem popI_snoc (p : Int -> Bool) (l : List Int) (i : Int) : popI p (l ++ [i]) = if p i then popI p l else l ++ [i] := by
  unfold popI
  rw [List.reverse_append]
  show (match p i with | true => dropI p l.reverse | false => i :: l.reverse).reverse = _
  cases p i with
  | true => rfl
  | false => simp
noncomputable def F_implied : OrcF := fun as h Q => a1 as fun x => gF .stk x (gSt h fun S => S.WF /\ Q .none { h with st := some { S with items := popI (fun i => implied.contains (S.sh i)) S.items } })
theorem ok_implied {w : World} {hB : Heap} (b : Base w hB) : OrcOK w hB ⟨273, 60, F_implied⟩ := fun n hn as h Q s e => by
  dsimp only at e hn
  replace e := a1_inv e
  obtain ⟨x, rfl, e⟩ := e
  replace e := gF_inv e
  obtain ⟨rfl, e⟩ := e
  replace e := gSt_inv e
  obtain ⟨S, hS, e⟩ := e
  obtain ⟨st, al, kids, atts, cops, ab, tm⟩ := h
  cases hS
  obtain ⟨W, e⟩ := e
  have hf : fnAt 273 1 fnL = some (fe 273 1) := by kernel_rfl
  refine orc_enter b (k := 25) hf rfl (by omega) (l0 := [vr "but" (.str ""), vr "stack" (.ref (.s .stk))]) (by kernel_rfl) fun env A' hs hA => ?_
  have hb : bodyOf (fe 273 1).st = [stN (fe 273 1) 0, .While (stT (stN (fe 273 1) 1)) (stB (stN (fe 273 1) 1)) [] (stN (fe 273 1) 1).pos] := by kernel_rfl
  rw [hb]
  have R := EV_ok b (one_name b) 25 _ (fe_kind hf)
  let tp : SV := .tup (implied.map .str)
  let P : Int -> Bool := fun i => implied.contains (S.sh i)
  let J : Nat -> SVS -> HS -> Prop := fun m l h => l = [vr "stack" (.ref (.s .stk)), vr "but" (.str ""), vr "names" tp] /\ ∃ its, h = hsO { S with items := its } al kids atts cops ab tm /\ m = its.length /\ (∀ i ∈ its, i ∈ S.items) /\ its.length <= S.items.length /\ popI P its = popI P S.items
  refine S_first b (one_name b) (k := 24) (fe_kind hf) hs hA s (fun l h => l = [vr "names" tp, vr "but" (.str ""), vr "stack" (.ref (.s .stk))] /\ h = hsO S al kids atts cops ab tm) (kmp (b := (SOut.next = .next /\ ([vr "names" tp, vr "but" (.str ""), vr "stack" (.ref (.s .stk))] = [vr "names" tp, vr "but" (.str ""), vr "stack" (.ref (.s .stk))] /\ hsO S al kids atts cops ab tm = hsO S al kids atts cops ab tm))) (by kernel_rfl) ⟨rfl, rfl, rfl⟩) fun l h s hP => ?_
  obtain ⟨rfl, rfl⟩ := hP
  refine S_cons R hs hA (S_while R hs hA ["stack", "but", "names"] J S.items.length s ⟨by kernel_rfl, S.items, rfl, rfl, fun _ h => h, Nat.le_refl _, rfl⟩ fun m l h s' hJ => ?_)
  obtain ⟨rfl, its, rfl, rfl, j1, j2, j3⟩ := hJ
  let fin : Prop := AvQ Q .none (hsO { S with items := its } al kids atts cops ab tm)
  let W' : Prop := ({ S with items := its } : St).WF
  refine kmp (b := W' /\ br (implied.contains ({ S with items := its } : St).cur) (W' /\ br (({ S with items := its } : St).cur != "") (br ((its.length : Int) == 0) (∃ j, j < its.length /\ J j [vr "stack" (.ref (.s .stk)), vr "but" (.str ""), vr "names" tp] (hsO { S with items := its } al kids atts cops ab tm)) (its ≠ [] /\
    (∃ j, j < its.length /\ J j [vr "stack" (.ref (.s .stk)), vr "but" (.str ""), vr "names" tp] (hsO { S with items := its.dropLast } al kids atts cops ab tm)))) fin) fin) (by kernel_rfl) ?_
  have WF' : W' := W.pre j1 j2
  refine ⟨WF', fun hc => ⟨WF', fun _ => ⟨fun hz => ?_, fun hz => ?_⟩, fun hb => ?_⟩, fun hc => ?_⟩
  · exfalso
    have : its = [] := by
      have : (its.length : Int) = 0 := by simpa using hz
      exact List.length_eq_zero_iff.mp (by omega)
    subst this
    have h0 : ({ S with items := [] } : St).cur = Str.empty := rfl
    rw [h0] at hc
    exact absurd hc (by decide)
  · have hne : its ≠ [] := by intro q; subst q; simp at hz
    have hsn := popI_snoc P its.dropLast (its.getLastD 0)
    rw [<- snoc_last hne, j3] at hsn
    rw [cur_last hne] at hc
    rw [if_pos hc] at hsn
    exact ⟨hne, its.dropLast.length, by rw [List.length_dropLast]; have := List.length_pos_iff.mpr hne; omega, rfl, its.dropLast, rfl, rfl, fun i hi => j1 i (mem_dropLast hi), by rw [List.length_dropLast]; omega, hsn.symm⟩
  · exfalso
    have : ({ S with items := its } : St).cur = Str.ofString "" := by simpa using hb
    rw [this] at hc
    exact absurd hc (by decide)
  · refine .here ?_
    have hI : popI P its = its := by
      by_cases hne : its = []
      · subst hne; rfl
      · have hsn := popI_snoc P its.dropLast (its.getLastD 0)
        rw [cur_last hne] at hc
        rw [<- snoc_last hne, if_neg (by show ¬ (implied.contains _ = true); rw [hc]; simp)] at hsn
        exact hsn
    rw [<- hI, j3]; exact e
theorem rng_down (m : Nat) : rngEls ((m : Int) - 1) (-1) (-1) = (List.range m).map fun (k : Nat) => ((m : Int) - 1) + (k : Int) * (-1) := by
  unfold rngEls
  have : Builtin.Range.rangeSize ((m : Int) - 1) (-1) (-1) = m := by
    unfold Builtin.Range.rangeSize
    rw [if_neg (by decide)]
    split
    · have : ((m : Int) - 1 - -1 - 1) / -(-1) = (m : Int) - 1 := by
        have : -(-1 : Int) = 1 := by decide
        rw [this, Int.ediv_one]; lia
      rw [this]; lia
    · lia
  rw [this]
  rfl
theorem rng_small {m : Nat} (h : m <= 1000) : Builtin.Range.small ((m : Int) - 1) (-1) (-1) = true := small_down (by lia) (by lia) (by decide) (by decide)
noncomputable def stops : List Str := ["html", "table", "template"].map Str.ofString
noncomputable def scanS (a : Str) (sh : Int -> Str) : List Int -> Bool
  | [] => false
  | i :: r => match sh i == a with
    | true => true
    | false => match stops.contains (sh i) with
      | true => false
      | false => scanS a sh r
noncomputable def F_scope : OrcF := fun as h Q => a3 as fun x y z => gF .stk x (gT y fun l => a1 l fun u => gC u fun a => gC z fun t => gSt h fun S => chk (t == "table" && !(a == "")) (S.WF /\ Q (.sb (scanS a S.sh S.items.reverse)) h))
theorem ok_scope {w : World} {hB : Heap} (b : Base w hB) : OrcOK w hB ⟨265, 60, F_scope⟩ := fun n hn as h Q s e => by
  dsimp only at e hn
  replace e := a3_inv e
  obtain ⟨x, y, z, rfl, e⟩ := e
  replace e := gF_inv e
  obtain ⟨rfl, e⟩ := e
  replace e := gT_inv e
  obtain ⟨l, rfl, e⟩ := e
  replace e := a1_inv e
  obtain ⟨u, rfl, e⟩ := e
  replace e := gC_inv e
  obtain ⟨a, rfl, e⟩ := e
  replace e := gC_inv e
  obtain ⟨t, rfl, e⟩ := e
  replace e := gSt_inv e
  obtain ⟨S, hS, e⟩ := e
  obtain ⟨st, al, kids, atts, cops, ab, tm⟩ := h
  cases hS
  obtain ⟨e1, W, eQ⟩ := chk_ok e
  rw [Bool.and_eq_true, beq_iff_eq, Bool.not_eq_true', beq_eq_false_iff_ne] at e1
  obtain ⟨rfl, ha⟩ := e1
  have hf : fnAt 265 3 fnL = some (fe 265 3) := by kernel_rfl
  let tp : SV := .tup [.str a]
  refine orc_enter b (k := 25) hf rfl (by lia) (l0 := [vr "sort" (.str "table"), vr "names" tp, vr "stack" (.ref (.s .stk))]) (by kernel_rfl) fun env A' hs hA => ?_
  have hb : bodyOf (fe 265 3).st = [stN (fe 265 3) 0, .For (.Name (stX (stN (fe 265 3) 1)) (stXp (stN (fe 265 3) 1))) (stT (stN (fe 265 3) 1)) (stB (stN (fe 265 3) 1)) [] (stN (fe 265 3) 1).pos, stN (fe 265 3) 2] := by kernel_rfl
  rw [hb]
  have R := EV_ok b noO 25 _ (fe_kind hf) (w := w) (hB := hB)
  let l1 : SVS := [vr "tree" (.ref (.s .tree)), vr "stack" (.ref (.s .stk)), vr "names" tp, vr "sort" (.str "table")]
  let H : HS := hsO S al kids atts cops ab tm
  refine S_first b noO (k := 24) (fe_kind hf) hs hA s (fun l h => l = [vr "tree" (.ref (.s .tree)), vr "sort" (.str "table"), vr "names" tp, vr "stack" (.ref (.s .stk))] /\ h = H) (kmp (b := (SOut.next = .next /\ ([vr "tree" (.ref (.s .tree)), vr "sort" (.str "table"), vr "names" tp, vr "stack" (.ref (.s .stk))] = [vr "tree" (.ref (.s .tree)), vr "sort" (.str "table"), vr "names" tp, vr "stack" (.ref (.s .stk))] /\ H = H))) (by kernel_rfl) ⟨rfl, rfl, rfl⟩) fun l h s hP => ?_
  obtain ⟨rfl, rfl⟩ := hP
  let J : Nat -> SVS -> HS -> Prop := fun k l h => l = l1 /\ h = H /\ scanS a S.sh S.items.reverse = scanS a S.sh (S.items.reverse.drop k)
  refine S_cons R hs hA (S_for R hs hA (by kernel_rfl) (by kernel_rfl) ["tree", "stack", "names", "sort"] J s (kmp (b := ∃ c : SSrc, (SV.rng ((S.items.length : Int) - 1) (-1) (-1)).av = c.src.av /\ (∀ k l2 h2, Small h2 -> J k l2 h2 -> c.Good h2) /\ J 0 l1 H /\
    (∀ k e l2 h2, Small h2 -> J k l2 h2 -> c.els[k]? = some e -> (EV [] 25 (scopeOf (fe 265 3).st)).s (stB (stN (fe 265 3) 1)) ((stX (stN (fe 265 3) 1), e) :: l2) h2 fun o l3 h3 => match o with
      | .brk => (EV [] 25 (scopeOf (fe 265 3).st)).s [stN (fe 265 3) 2] l3 h3 (retS (AvQ Q))
      | .ret a => AvQ Q a h3
      | _ => J (k + 1) (norm ["tree", "stack", "names", "sort"] l3) h3) /\
    (∀ l2 h2, Small h2 -> J c.els.length l2 h2 -> (EV [] 25 (scopeOf (fe 265 3).st)).s [stN (fe 265 3) 2] l2 h2 (retS (AvQ Q)))) (by kernel_rfl) ?_))
  have hlen : S.items.length <= 1000 := W.big.1
  refine ⟨.rng ((S.items.length : Int) - 1) (-1) (-1), rfl, fun _ _ _ _ _ => rng_small hlen, ⟨rfl, rfl, rfl⟩, fun k e' l2 h2 s2 hJ he => ?_, fun l2 h2 s2 hJ => ?_⟩
  · obtain ⟨rfl, rfl, hsc⟩ := hJ
    show (EV [] 25 (scopeOf (fe 265 3).st)).s (stB (stN (fe 265 3) 1)) ((stX (stN (fe 265 3) 1), e') :: l1) H _
    have he : ((rngEls ((S.items.length : Int) - 1) (-1) (-1)).map SV.si)[k]? = some e' := he
    rw [rng_down, List.map_map, List.getElem?_map] at he
    obtain ⟨j, hj, rfl⟩ := Option.map_eq_some_iff.mp he
    obtain ⟨hj1, hj2⟩ := List.getElem?_eq_some_iff.mp hj
    rw [List.length_range] at hj1
    rw [List.getElem_range] at hj2
    subst hj2
    let p : Int := ((S.items.length : Int) - 1) + (k : Int) * (-1)
    let i : Int := S.items.getD p.toNat 0
    let cont : Prop := J (k + 1) l1 H
    refine kmp (b := (0 <= p /\ p < S.items.length) /\ (0 <= i /\ i < S.spaces.length) /\
      br (S.sp i == "html") ((0 <= i /\ i < S.names.length) /\ br ([a].contains (S.nm i)) (AvQ Q (.bool true) H) ((0 <= i /\ i < S.spaces.length) /\ (0 <= i /\ i < S.names.length) /\ br (S.sp i == "html") (br (stops.contains (S.nm i)) (AvQ Q (.bool false) H) cont) (br (S.sp i == "html") (AvQ Q (.bool false) H) cont)))
        ((0 <= i /\ i < S.spaces.length) /\ (0 <= i /\ i < S.names.length) /\ br (S.sp i == "html") (br (stops.contains (S.nm i)) (AvQ Q (.bool false) H) cont) (br (S.sp i == "html") (AvQ Q (.bool false) H) cont))) (by kernel_rfl) ?_
    have hp0 : 0 <= p /\ p < S.items.length := ⟨by show 0 <= ((S.items.length : Int) - 1) + (k : Int) * (-1); lia, by show ((S.items.length : Int) - 1) + (k : Int) * (-1) < _; lia⟩
    have hpk : p.toNat = S.items.length - 1 - k := by show (((S.items.length : Int) - 1) + (k : Int) * (-1)).toNat = _; exact tn_c hj1
    have hget : S.items.reverse.drop k = i :: S.items.reverse.drop (k + 1) := by
      have hlt : k < S.items.reverse.length := by rw [List.length_reverse]; exact hj1
      rw [List.drop_eq_getElem_cons hlt]
      congr 1
      rw [List.getElem_reverse]
      show _ = S.items.getD p.toNat 0
      rw [hpk, List.getD_eq_getElem?_getD, List.getElem?_eq_getElem (tn_d hj1)]
      rfl
    have him : i ∈ S.items := by
      have : i ∈ S.items.reverse.drop k := by rw [hget]; exact .head _
      exact List.mem_reverse.mp (List.mem_of_mem_drop this)
    have hw := W.itm i him
    rw [hget] at hsc
    have hsh : S.sh i = if S.sp i = "html" then S.nm i else Str.empty := rfl
    clear_value i
    refine ⟨hp0, ⟨hw.1, hw.2.1⟩, fun hh => ⟨⟨hw.1, hw.2.2⟩, fun hc => ?_, fun hc => ⟨⟨hw.1, hw.2.1⟩, ⟨hw.1, hw.2.2⟩, fun _ => ⟨fun hst => ?_, fun hst => ?_⟩, fun hn => ?_⟩⟩, fun hh => ⟨⟨hw.1, hw.2.1⟩, ⟨hw.1, hw.2.2⟩, fun hn => ?_, fun _ => ⟨fun hn => ?_, fun _ => ?_⟩⟩⟩
    · rw [if_pos (by simpa using hh)] at hsh
      have : scanS a S.sh (i :: S.items.reverse.drop (k + 1)) = true := by
        unfold scanS; rw [hsh]; rw [show (S.nm i == a) = true by simpa using hc]
      rw [this] at hsc
      exact ⟨.sb _, by rw [hsc]; rfl, eQ⟩
    · rw [if_pos (by simpa using hh)] at hsh
      have : scanS a S.sh (i :: S.items.reverse.drop (k + 1)) = false := by
        unfold scanS; rw [hsh]; rw [show (S.nm i == a) = false by simpa using hc, hst]
      rw [this] at hsc
      exact ⟨.sb _, by rw [hsc]; rfl, eQ⟩
    · rw [if_pos (by simpa using hh)] at hsh
      refine ⟨rfl, rfl, ?_⟩
      rw [hsc]
      conv => lhs; unfold scanS
      rw [hsh, show (S.nm i == a) = false by simpa using hc, hst]
    · rw [hh] at hn; cases hn
    · rw [hh] at hn; cases hn
    · rw [hh] at hn; cases hn
    · rw [if_neg (by simpa using hh)] at hsh
      refine ⟨rfl, rfl, ?_⟩
      rw [hsc]
      conv => lhs; unfold scanS
      rw [hsh, show (Str.empty == a) = false by rw [beq_eq_false_iff_ne]; exact fun q => ha q.symm, show stops.contains Str.empty = false by decide]
  · obtain ⟨rfl, rfl, hsc⟩ := hJ
    refine kmp (b := AvQ Q (.bool false) H) (by kernel_rfl) ?_
    have : scanS a S.sh (S.items.reverse.drop (SSrc.rng ((S.items.length : Int) - 1) (-1) (-1)).els.length) = false := by
      have hl : (SSrc.rng ((S.items.length : Int) - 1) (-1) (-1)).els.length = S.items.length := by
        show ((rngEls _ _ _).map SV.si).length = _
        rw [rng_down]; simp
      rw [hl, List.drop_of_length_le (by rw [List.length_reverse]; exact Nat.le_refl _)]; rfl
    rw [this] at hsc
    exact ⟨.sb _, by rw [hsc]; rfl, eQ⟩
mutual
noncomputable def clA (H : AHeap) : AV -> Prop
  | .ref o => H o ≠ Option.none
  | .tup xs => clAs H xs
  | _ => True
noncomputable def clAs (H : AHeap) : List AV -> Prop
  | [] => True
  | x :: xs => clA H x /\ clAs H xs
end
noncomputable def clO (H : AHeap) : AO -> Prop
  | .list xs => clAs H xs
  | .fields es => ∀ p ∈ es, clA H p.2
  | .sdict es => ∀ p ∈ es, clA H p.2
  | .ndict es => ∀ p ∈ es, clA H p.2
  | .inst _ d => H d ≠ Option.none
section
variable {h : Heap} {ρ : Rho} {H H' : AHeap}
theorem VR.cls : (∀ {a v}, VR h ρ H a v -> clA H a) /\ (∀ {xs us}, VRs h ρ H xs us -> clAs H xs) :=
  VR.fold (M := fun a _ => clA H a) (Ms := fun xs _ => clAs H xs) trivial (fun _ => trivial) (fun _ _ => trivial) (fun _ _ => trivial) (fun _ hd => hd) (fun _ _ _ _ _ ih => ih) (fun _ _ _ _ _ _ _ _ => trivial) (fun _ => trivial) trivial (fun ih ihs => ⟨ih, ihs⟩)
theorem VR.cl {a : AV} {v : Value} (r : VR h ρ H a v) : clA H a := VR.cls.1 r
theorem VRs.cl {a : List AV} {v : List Value} (r : VRs h ρ H a v) : clAs H a := VR.cls.2 r
theorem VR.tos : (∀ {a v}, VR h ρ H a v -> clA H' a -> VR h ρ H' a v) /\ (∀ {xs us}, VRs h ρ H xs us -> clAs H' xs -> VRs h ρ H' xs us) :=
  VR.map (c := clA H') (cs := clAs H') (fun _ _ _ ho => ho) (fun _ _ _ _ _ _ _ hr => hr) (fun o _ c => ⟨rfl, c⟩) (fun _ c => c) (fun _ _ c => c)
theorem VR.to {a : AV} {v : Value} (r : VR h ρ H a v) (c : clA H' a) : VR h ρ H' a v := VR.tos.1 r c
theorem VRs.to {a : List AV} {v : List Value} (r : VRs h ρ H a v) (c : clAs H' a) : VRs h ρ H' a v := VR.tos.2 r c
mutual
theorem clA.mono (d : ∀ o, H o ≠ none -> H' o ≠ none) : ∀ {a : AV}, clA H a -> clA H' a
  | .ref o, c => d o c
  | .tup xs, c => clAs.mono d c
  | .none, _ => trivial
  | .bool _, _ => trivial
  | .int _, _ => trivial
  | .str _, _ => trivial
  | .rng _ _ _, _ => trivial
  | .val _, _ => trivial
theorem clAs.mono (d : ∀ o, H o ≠ none -> H' o ≠ none) : ∀ {a : List AV}, clAs H a -> clAs H' a
  | [], _ => trivial
  | x :: xs, c => ⟨clA.mono d c.1, clAs.mono d c.2⟩
end
theorem clO.mono (d : ∀ o, H o ≠ none -> H' o ≠ none) {a : AO} (c : clO H a) : clO H' a := by
  cases a with
  | list xs => exact clAs.mono d c
  | fields es => exact fun p hp => clA.mono d (c p hp)
  | sdict es => exact fun p hp => clA.mono d (c p hp)
  | ndict es => exact fun p hp => clA.mono d (c p hp)
  | inst _ x => exact d x c
theorem ER.to {P : Params} {es : List (Str × AV)} {ds : List DictEntry} (r : ER P h ρ H es ds) (c : ∀ p ∈ es, clA H' p.2) : ER P h ρ H' es ds := by
  induction r with
  | nil => exact .nil
  | cons hx _ ih => exact .cons (hx.to (c _ (.head _))) (ih fun p hp => c p (.tail _ hp))
theorem ER.cl {P : Params} {es : List (Str × AV)} {ds : List DictEntry} (r : ER P h ρ H es ds) : ∀ p ∈ es, clA H p.2 := by
  induction r with
  | nil => intro p hp; cases hp
  | cons hx _ ih => intro p hp; cases hp with
    | head => exact hx.cl
    | tail _ h => exact ih p h
theorem PR.to {K : Type} {es : List (K × AV)} {ds : List (K × Value)} (r : PR K h ρ H es ds) (c : ∀ p ∈ es, clA H' p.2) : PR K h ρ H' es ds := by
  induction r with
  | nil => exact .nil
  | cons hx _ ih => exact .cons (hx.to (c _ (.head _))) (ih fun p hp => c p (.tail _ hp))
theorem PR.cl {K : Type} {es : List (K × AV)} {ds : List (K × Value)} (r : PR K h ρ H es ds) : ∀ p ∈ es, clA H p.2 := by
  induction r with
  | nil => intro p hp; cases hp
  | cons hx _ ih => intro p hp; cases hp with
    | head => exact hx.cl
    | tail _ h => exact ih p h
theorem OR.cl {w : World} {a : Addr} {ao : AO} (r : OR w h ρ H a ao) : clO H ao := by
  cases ao with
  | list xs => obtain ⟨ys, n, h1, h2⟩ := r; exact h2.cl
  | fields es => obtain ⟨ds, n, h1, h2⟩ := r; exact h2.cl
  | sdict es => obtain ⟨ds, h1, h2⟩ := r; exact h2.cl
  | ndict es => obtain ⟨ds, h1, h2⟩ := r; exact h2.cl
  | inst c d => exact r.2
theorem OR.to {w : World} {a : Addr} {ao : AO} (r : OR w h ρ H a ao) (c : clO H' ao) : OR w h ρ H' a ao := by
  cases ao with
  | list xs => obtain ⟨ys, n, h1, h2⟩ := r; exact ⟨ys, n, h1, h2.to c⟩
  | fields es => obtain ⟨ds, n, h1, h2⟩ := r; exact ⟨ds, n, h1, h2.to c⟩
  | sdict es => obtain ⟨ds, h1, h2⟩ := r; exact ⟨ds, h1, h2.to c⟩
  | ndict es => obtain ⟨ds, h1, h2⟩ := r; exact ⟨ds, h1, h2.to c⟩
  | inst x d => exact ⟨r.1, c⟩
end
structure Less (H H'' H' : AHeap) : Prop where
  sub : ∀ o ao, H'' o = some ao -> H' o = some ao
  dom : ∀ o, H o ≠ none -> H'' o ≠ none
  cl : ∀ o ao, H'' o = some ao -> H o = some ao ∨ clO H'' ao
section
variable {w : World} {hB : Heap} {A : Around} {env : Env} {vs : VS} {H : AHeap} {ρ : Rho} {s : Shared} {n : Nat}
theorem Ok.forget (O : Ok w hB env vs H ρ s) {ρ' H' s'} (S : Step env ρ H s ρ' H' s') (O' : Ok w hB env vs H' ρ' s') {H'' : AHeap} (L : Less H H'' H') : Ok w hB env vs H'' ρ' s' /\ Step env ρ H s ρ' H'' s' := by
  have nn : ∀ o, H'' o ≠ none -> H' o ≠ none := fun o h => by
    obtain ⟨ao, e⟩ := Option.ne_none_iff_exists'.mp h
    rw [L.sub o ao e]; simp
  have clH : ∀ o ao, H'' o = some ao -> clO H'' ao := fun o ao e => by
    rcases L.cl o ao e with q | q
    · exact clO.mono L.dom (O.objs o ao q).cl
    · exact q
  refine ⟨⟨O'.base, O'.last, fun o ao e => (O'.objs o ao (L.sub o ao e)).to (clH o ao e), fun o h => O'.big o (nn o h), fun o o' h h' => O'.inj o o' (nn o h) (nn o' h'), ⟨?_, fun x hx => ?_, fun x a hx ha => ?_⟩, fun o h => O'.nL o (nn o h), O'.bigL, O'.bigC, O'.cinj, O'.kind, O'.glob, O'.bi, O'.gens⟩,
    ⟨L.dom, S.rho, fun o h h' => S.new o (nn o h) h', S.live, S.keep, S.os⟩⟩
  · obtain ⟨m, h1, h2⟩ := O'.fr.loc
    obtain ⟨_, _, h3⟩ := O.fr.loc
    refine ⟨m, h1, fun x a hk hv => ?_⟩
    obtain ⟨v, e, r⟩ := h2 x a hk hv
    obtain ⟨_, _, r0⟩ := h3 x a hk hv
    exact ⟨v, e, r.to (clA.mono L.dom r0.cl)⟩
  · obtain ⟨c, v, h1, h2, h3⟩ := O'.fr.cel x hx
    obtain ⟨_, _, _, _, h4⟩ := O.fr.cel x hx
    refine ⟨c, v, h1, h2, fun a ha => ?_⟩
    obtain ⟨u, e, r⟩ := h3 a ha
    obtain ⟨_, _, r0⟩ := h4 a ha
    exact ⟨u, e, r.to (clA.mono L.dom r0.cl)⟩
  · obtain ⟨c, v, h1, h2, r⟩ := O'.fr.fre x a hx ha
    obtain ⟨_, _, _, _, r0⟩ := O.fr.fre x a hx ha
    exact ⟨c, v, h1, h2, r.to (clA.mono L.dom r0.cl)⟩
theorem Spec.forget {f : Value} {as : List AV} {Q Q' : AV -> AHeap -> Prop} (h : Spec w hB n f as H Q') (hq : ∀ a H', Q' a H' -> ∃ H'', Less H H'' H' /\ clA H'' a /\ Q a H'') : Spec w hB n f as H Q := fun A env vs ρ s K vals hA O hv k =>
  h A env vs ρ s K vals hA O hv fun v a ρ' H' s' O' S r q => by
    obtain ⟨H'', L, c, q'⟩ := hq a H' q
    obtain ⟨O2, S2⟩ := O.forget S O' L
    exact k v a ρ' H'' s' O2 S2 (r.to c) q'
end
theorem clAs_ints (H : AHeap) : ∀ l : List Int, clAs H (l.map .int)
  | [] => trivial
  | _ :: l => ⟨trivial, clAs_ints H l⟩
structure St.PW (S : St) : Prop where
  up : ∀ i (h : i < S.parents.length), S.parents[i] < i /\ -1 <= S.parents[i]
  big : S.parents.length <= 1000
theorem isNone'_ok {α : Type} {x : Option α} (e : isNone' x = true) : x = none := by
  cases x with
  | none => rfl
  | some _ => exact Bool.noConfusion e
noncomputable def F_above : OrcF := fun as h Q => a2 as fun x y => gF .tree x (gV y fun p => gSt h fun S => chk (isNone' h.ab) (S.PW /\ (0 <= p /\ p < S.parents.length) /\ ∀ l : List Int, (∀ x ∈ l, x < p) -> Q (.ref .ab) { h with ab := some l }))
theorem ok_above {w : World} {hB : Heap} (b : Base w hB) : OrcOK w hB ⟨625, 60, F_above⟩ := fun n hn as h Q s e => by
  dsimp only at e hn
  replace e := a2_inv e
  obtain ⟨x, y, rfl, e⟩ := e
  replace e := gF_inv e
  obtain ⟨rfl, e⟩ := e
  replace e := gV_inv e
  obtain ⟨p, rfl, e⟩ := e
  replace e := gSt_inv e
  obtain ⟨S, hS, e⟩ := e
  replace e := chk_ok e
  obtain ⟨hab, e⟩ := e
  replace hab := isNone'_ok hab
  obtain ⟨st, al, kids, atts, cops, ab, tm⟩ := h
  cases hS; cases hab
  obtain ⟨W, hp, e⟩ := e
  have hf : fnAt 625 2 fnL = some (fe 625 2) := by kernel_rfl
  refine orc_enter b (k := 25) hf rfl (by lia) (l0 := [vr "node" (.si p), vr "tree" (.ref (.s .tree))]) (by kernel_rfl) fun env A' hs hA => ?_
  have hb : bodyOf (fe 625 2).st = [stN (fe 625 2) 0, stN (fe 625 2) 1, .While (stT (stN (fe 625 2) 2)) (stB (stN (fe 625 2) 2)) [] (stN (fe 625 2) 2).pos, stN (fe 625 2) 3] := by kernel_rfl
  rw [hb]
  have R := EV_ok b noO 25 _ (fe_kind hf) (w := w) (hB := hB)
  let H : List Int -> HS := fun l => hsO S al kids atts cops (some l) tm
  let u0 : Int := S.parents.getD p.toNat 0
  let L1 : SVS := [vr "out" (.ref .ab), vr "node" (.si p), vr "tree" (.ref (.s .tree))]
  let L2 : SVS := vr "up" (.si u0) :: L1
  refine S_first b noO (k := 24) (fe_kind hf) hs hA s (fun l h => l = L1 /\ h = H []) (kmp (b := (SOut.next = .next /\ (L1 = L1 /\ H [] = H []))) (by kernel_rfl) ⟨rfl, rfl, rfl⟩) fun l h s hP => ?_
  obtain ⟨rfl, rfl⟩ := hP
  refine S_first b noO (k := 24) (fe_kind hf) hs hA s (fun l h => l = L2 /\ h = H []) (kmp (b := (0 <= p /\ p < S.parents.length) /\ (SOut.next = .next /\ (L2 = L2 /\ H [] = H []))) (by kernel_rfl) ⟨hp, rfl, rfl, rfl⟩) fun l h s hP => ?_
  obtain ⟨rfl, rfl⟩ := hP
  let LN : Int -> SVS := fun u => [vr "tree" (.ref (.s .tree)), vr "out" (.ref .ab), vr "up" (.si u)]
  let J : Nat -> SVS -> HS -> Prop := fun m l h => ∃ u o, l = LN u /\ h = H o /\ (∀ x ∈ o, x < p) /\ -1 <= u /\ u < p /\ m = (u + 1).toNat /\ o.length + m <= 1001
  have hu0 : u0 < p /\ -1 <= u0 := by
    have h1 := W.up p.toNat (by lia)
    have h2 : u0 = S.parents[p.toNat]'(by lia) := by show S.parents.getD _ _ = _; rw [List.getD_eq_getElem?_getD, List.getElem?_eq_getElem (by lia)]; rfl
    rw [<- h2] at h1
    exact tn_u hp.1 h1
  have hbig := W.big
  refine S_cons R hs hA (S_while R hs hA ["tree", "out", "up"] J (u0 + 1).toNat s ⟨u0, [], by kernel_rfl, rfl, fun _ h => (nomatch h), hu0.2, hu0.1, rfl, tn_f hp hu0 hbig⟩ fun m l h s' hJ => ?_)
  obtain ⟨u, o, rfl, rfl, j1, j2, j3, rfl, j4⟩ := hJ
  let u' : Int := S.parents.getD u.toNat 0
  refine kmp (b := br (u != -1) (lim (o.length + 1) /\ (0 <= u /\ u < S.parents.length) /\ ∃ j, j < (u + 1).toNat /\ J j (LN u') (H (o ++ [u]))) (AvQ Q (.ref .ab) (H o))) (by kernel_rfl) ?_
  refine ⟨fun hc => ?_, fun hc => ?_⟩
  · have hne : u ≠ -1 := by simpa using hc
    have hu' : u' < u /\ -1 <= u' := by
      have h1 := W.up u.toNat (by lia)
      have h2 : u' = S.parents[u.toNat]'(by lia) := by show S.parents.getD _ _ = _; rw [List.getD_eq_getElem?_getD, List.getElem?_eq_getElem (by lia)]; rfl
      rw [<- h2] at h1
      exact tn_u (tn_ge j2 hne) h1
    have hlt : (u' + 1).toNat < (u + 1).toNat := tn_lt2 (Int.add_le_add_right hu'.2 1) (Int.add_lt_add_right hu'.1 1)
    refine ⟨by show _ <= _; lia, ⟨by lia, by lia⟩, (u' + 1).toNat, hlt, u', o ++ [u], rfl, rfl, fun x hx => ?_, hu'.2, by lia, rfl, by rw [List.length_append]; exact tn_e hlt j4⟩
    rcases List.mem_append.mp hx with hx | hx
    · exact j1 x hx
    · rw [List.mem_singleton.mp hx]; exact j3
  · exact .here (e o j1)
theorem mkH_inv {h : HS} {o : Oid} {ao : AO} (e : mkH h o = some ao) : ∃ x, h.get o = some x /\ ao = x.ao := by
  unfold mkH at e
  obtain ⟨x, h1, h2⟩ := Option.map_eq_some_iff.mp e
  exact ⟨x, h1, h2.symm⟩
theorem mkH_ne {h : HS} {o : Oid} : mkH h o ≠ none ↔ h.get o ≠ none := by
  unfold mkH
  cases h.get o <;> simp
theorem less_of {h h'' h' : HS} (sub : ∀ o x, h''.get o = some x -> h'.get o = some x) (dom : ∀ o, h.get o ≠ none -> h''.get o ≠ none) (cl : ∀ o x, h''.get o = some x -> h.get o = some x ∨ clO (mkH h'') x.ao) : Less (mkH h) (mkH h'') (mkH h') where
  sub o ao e := by obtain ⟨x, h1, rfl⟩ := mkH_inv e; exact mkH_some (sub o x h1)
  dom o e := mkH_ne.mpr (dom o (mkH_ne.mp e))
  cl o ao e := by
    obtain ⟨x, h1, rfl⟩ := mkH_inv e
    rcases cl o x h1 with q | q
    · exact .inl (mkH_some q)
    · exact .inr q
noncomputable def HS.ins (h : HS) (S : St) (p nd : Int) (l : List Int) : HS := { h with st := some { S with parents := S.parents.set nd.toNat p }, kids := h.kids.set p.toNat (l ++ [nd]) }
noncomputable def insF (h : HS) (Q : SV -> HS -> Prop) (p nd : Int) : Prop := gSt h fun S => chk (isNone' h.ab) (S.PW /\ (0 <= p /\ p < nd /\ nd < S.parents.length /\ p < S.nch /\ S.parents.getD nd.toNat 0 = -1) /\ ∃ l, h.kids[p.toNat]? = some l /\ l.length <= 1000 /\ Q .none (h.ins S p nd l))
noncomputable def F_insert : OrcF := fun as h Q => match as with
  | x :: y :: z :: r => gF .tree x (gV y fun p => gV z fun nd => match r with
    | [] => insF h Q p nd
    | _ :: _ => a1 r fun b => gN b fun b => chk (b == -1) (insF h Q p nd))
  | _ => False
theorem one_above {w : World} {hB : Heap} (b : Base w hB) : ∀ o ∈ [(⟨625, 60, F_above⟩ : Orc)], OrcOK w hB o := fun o ho => by cases ho with | head => exact ok_above b | tail _ h => cases h
theorem ins_less {S : St} {al kids atts cops tm} {p nd : Int} {l o : List Int} (hp : p.toNat < kids.length) :
    Less (mkH (hsO S al kids atts cops none tm)) (mkH ((hsO S al kids atts cops none tm).ins S p nd l)) (mkH ((hsO S al kids atts cops (some o) tm).ins S p nd l)) := by
  refine less_of (fun i x e => ?_) (fun i e => ?_) (fun i x e => ?_)
  · cases i with
    | ab => cases e
    | _ => exact e
  · cases i with
    | s k => intro q; cases q
    | kid k =>
      intro q
      refine e ?_
      show Option.map SO.il (kids[k]?) = none
      have q : Option.map SO.il ((kids.set p.toNat (l ++ [nd]))[k]?) = none := q
      rw [Option.map_eq_none_iff] at q ⊢
      rw [List.getElem?_eq_none_iff] at q ⊢
      rw [List.length_set] at q; exact q
    | _ => exact e
  · cases i with
    | s k =>
      by_cases q : k = .parents
      · subst q; right
        cases e
        exact clAs_ints _ _
      · left
        rw [<- e]
        show some (S.get k) = some (St.get _ k)
        cases k <;> first | rfl | exact absurd rfl q
    | kid k =>
      right
      have e : Option.map SO.il ((kids.set p.toNat (l ++ [nd]))[k]?) = some x := e
      obtain ⟨y, _, rfl⟩ := Option.map_eq_some_iff.mp e
      exact clAs_ints _ _
    | t k => exact .inl e
    | att k => exact .inl e
    | c k => exact .inl e
    | m k => exact .inl e
    | ab => cases e
theorem ok_insert {w : World} {hB : Heap} (b : Base w hB) : OrcOK w hB ⟨562, 80, F_insert⟩ := fun n hn as h Q s e => by
  dsimp only at e hn
  have main : ∀ p nd as, (as = [.ref (.s .tree), .si p, .si nd] ∨ as = [.ref (.s .tree), .si p, .si nd, .int (-1)]) -> insF h Q p nd -> Spec w hB n (.ref 562) (avs as) (mkH h) (HQ Q) := fun p nd as has e => by
    obtain ⟨S, hS, e⟩ := gSt_inv e
    obtain ⟨hab, e⟩ := chk_ok e
    have hab := isNone'_ok hab
    · obtain ⟨st, al, kids, atts, cops, ab, tm⟩ := h
      cases hS; cases hab
      obtain ⟨W, ⟨g1, g2, g3, g4, g5⟩, l, g6, g7, q⟩ := e
      have hkl : p.toNat < kids.length := by
        obtain ⟨z, _⟩ := List.getElem?_eq_some_iff.mp g6; exact z
      let H : List Int -> HS := fun o => hsO S al kids atts cops (some o) tm
      let Q1 : SV -> HS -> Prop := fun a h' => a = .none /\ ∃ o, h' = (H o).ins S p nd l
      have g6' : (H []).kids[p.toNat]? = some l := g6
      have key : Spec w hB n (.ref 562) (avs as) (mkH (hsO S al kids atts cops none tm)) (HQ Q1) := by
        let fin : List Int -> Prop := fun o => br (-1 == nd) (AvQ Q1 .none (H o)) ((0 <= nd /\ nd < S.parents.length) /\ br (S.parents.getD nd.toNat 0 != -1)
            ((0 <= nd /\ nd < S.parents.length) /\ (0 <= S.parents.getD nd.toNat 0 /\ S.parents.getD nd.toNat 0 < S.nch) /\ False)
            ((0 <= p /\ p < S.nch) /\ ∃ l, kids[p.toNat]? = some l /\ (0 <= p /\ p < S.nch) /\ (kids[p.toNat]?).isSome = true /\ ∃ l', kids[p.toNat]? = some l' /\ (l.length : Int) = l'.length /\ lim (l'.length + 1) /\ (0 <= nd /\ nd < S.parents.length) /\ AvQ Q1 .none ((H o).ins S p nd l')))
        let f : Prop := br (nd == p) False (S.PW /\ (0 <= p /\ p < S.parents.length) /\ ∀ o : List Int, (∀ x ∈ o, x < p) -> br (o.contains nd) False (fin o))
        have hf : f := by
          refine ⟨fun h => by simp only [beq_iff_eq] at h; lia, fun _ => ⟨W, ⟨g1, by lia⟩, fun o ho => ⟨fun hc => ?_, fun _ => ?_⟩⟩⟩
          · have := ho nd (by simpa using hc); lia
          · refine ⟨fun h => by simp only [beq_iff_eq] at h; lia, fun _ => ⟨⟨by lia, g3⟩, fun h => by rw [g5] at h; simp at h, fun _ => ⟨⟨g1, g4⟩, l, g6, ⟨g1, g4⟩, by rw [g6]; rfl, l, g6, rfl, by show _ <= _; lia, ⟨by lia, g3⟩, .here ⟨rfl, o, rfl⟩⟩⟩⟩
        rcases has with rfl | rfl
        · exact ev_orc b (one_above b) 38 (by lia) s (kmp (b := f) (by kernel_rfl) hf)
        · exact ev_orc b (one_above b) 38 (by lia) s (kmp (b := f) (by kernel_rfl) hf)
      refine key.forget fun a H' ⟨b', hs, q1, q2, q3, q4, o, q5⟩ => ?_
      subst q1; subst q2; subst q4; subst q5
      refine ⟨_, ins_less hkl, trivial, .none, _, rfl, rfl, ?_, q⟩
      have : Small ((H o).ins S p nd l) := q3
      intro i x hx
      refine this i x ?_
      cases i with
      | ab => cases hx
      | _ => exact hx
  rcases as with _ | ⟨x, _ | ⟨y, _ | ⟨z, r⟩⟩⟩
  · exact e.elim
  · exact e.elim
  · exact e.elim
  replace e := gF_inv e
  obtain ⟨rfl, e⟩ := e
  replace e := gV_inv e
  obtain ⟨p, rfl, e⟩ := e
  replace e := gV_inv e
  obtain ⟨nd, rfl, e⟩ := e
  cases r with
  | nil => exact main _ _ _ (.inl rfl) e
  | cons b r =>
    replace e := a1_inv e
    obtain ⟨b, hb, e⟩ := e
    obtain ⟨c, rfl, e⟩ := gN_inv e
    obtain ⟨e1, e2⟩ := chk_ok e
    rw [hb, eq_of_beq e1]
    exact main _ _ _ (.inr rfl) e2
structure Even (S : St) (h : HS) : Prop where
  sp : S.spaces.length = S.kinds.length
  nm : S.names.length = S.kinds.length
  tx : S.texts.length = S.kinds.length
  pa : S.parents.length = S.kinds.length
  at' : S.nat = S.kinds.length
  ch : S.nch = S.kinds.length
  ki : h.kids.length = S.kinds.length
  tt : h.atts.length = S.kinds.length
  big : S.kinds.length <= 900
noncomputable def HS.addN (h : HS) (S : St) (kind space name text : Str) (attrs : List SV) : HS :=
  { h with st := some { S with kinds := S.kinds ++ [kind], spaces := S.spaces ++ [space], names := S.names ++ [name], texts := S.texts ++ [text], nat := S.nat + 1, nch := S.nch + 1, parents := S.parents ++ [-1] }, kids := h.kids ++ [[]], atts := h.atts ++ [attrs] }
noncomputable def addF (h : HS) (Q : SV -> HS -> Prop) (a b c : SV) (at' : List SV) (d : SV) : Prop := gSt h fun S => gS a fun _ kind => gS b fun _ space => gS c fun _ name => gS d fun _ text => chk (Nat.ble at'.length 1000) (Even S h /\ Q (.si S.kinds.length) (h.addN S kind space name text at'))
noncomputable def F_add : OrcF := fun as h Q => match as with
  | x :: a :: r => gF .tree x (match r with
    | [] => addF h Q a (.str "") (.str "") [] (.str "")
    | b :: c :: t :: r => gT t fun at' => match r with
      | [] => addF h Q a b c at' (.str "")
      | _ :: _ => a1 r fun d => addF h Q a b c at' d
    | _ => False)
  | _ => False
theorem add_tail {m k : Nat} (h : k = m) (hm : m <= 900) : lim (k + 1) := by show _ <= _; omega
theorem add_fin {S : St} {al kids atts cops ab tm} {kind space name text : Str} {at' : List SV} {Q : SV -> HS -> Prop} (e1 : Nat.ble at'.length 1000 = true) (E : Even S (hsO S al kids atts cops ab tm)) (q : Q (.si S.kinds.length) ((hsO S al kids atts cops ab tm).addN S kind space name text at')) :
    lim (S.kinds.length + 1) /\ lim (S.spaces.length + 1) /\ lim (S.names.length + 1) /\ chk (Nat.ble at'.length 1000) ((atts.length = S.nat /\ lim (S.nat + 1)) /\ lim (S.texts.length + 1) /\ lim (S.parents.length + 1) /\ (kids.length = S.nch /\ lim (S.nch + 1)) /\ AvQ Q (.si (((S.kinds ++ [kind]).length : Int) - 1)) ((hsO S al kids atts cops ab tm).addN S kind space name text at')) := by
  have hb := E.big
  refine ⟨add_tail rfl hb, add_tail E.sp hb, add_tail E.nm hb, ?_⟩
  rw [e1]
  refine ⟨⟨E.tt.trans E.at'.symm, add_tail E.at' hb⟩, add_tail E.tx hb, add_tail E.pa hb, ⟨E.ki.trans E.ch.symm, add_tail E.ch hb⟩, .si S.kinds.length, ?_, q⟩
  show AV.int _ = AV.int _
  congr 1
  rw [List.length_append]
  show ((S.kinds.length + 1 : Nat) : Int) - 1 = _
  omega
section
variable {w : World} {hB : Heap} (b : Base w hB) {n : Nat} (hn : 29 <= n) {S : St} {al : List (Oid × SO)} {kids : List (List Int)} {atts : List (List SV)} {cops : List (List Int)} {ab : Option (List Int)} {tm : List SO} {Q : SV -> HS -> Prop} (s : Small (hsO S al kids atts cops ab tm)) (kind space name text : Str) {at' : List SV} (e1 : Nat.ble at'.length 1000 = true) (E : Even S (hsO S al kids atts cops ab tm))
include b hn s E
theorem add_2 (q : Q (.si S.kinds.length) ((hsO S al kids atts cops ab tm).addN S kind "" "" "" [])) : Spec w hB n (.ref 524) (avs [.ref (.s .tree), .ss kind]) (mkH (hsO S al kids atts cops ab tm)) (HQ Q) := ev_orc b noO 14 hn s (kmp (by kernel_rfl) (add_fin (at' := []) rfl E q))
include e1
theorem add_5 (q : Q (.si S.kinds.length) ((hsO S al kids atts cops ab tm).addN S kind space name "" at')) : Spec w hB n (.ref 524) (avs [.ref (.s .tree), .ss kind, .ss space, .ss name, .tup at']) (mkH (hsO S al kids atts cops ab tm)) (HQ Q) := ev_orc b noO 14 hn s (kmp (by kernel_rfl) (add_fin e1 E q))
theorem add_6 (q : Q (.si S.kinds.length) ((hsO S al kids atts cops ab tm).addN S kind space name text at')) : Spec w hB n (.ref 524) (avs [.ref (.s .tree), .ss kind, .ss space, .ss name, .tup at', .ss text]) (mkH (hsO S al kids atts cops ab tm)) (HQ Q) := ev_orc b noO 14 hn s (kmp (by kernel_rfl) (add_fin e1 E q))
end
theorem addF_inv {h : HS} {Q : SV -> HS -> Prop} {a b c d : SV} {at' : List SV} (e : addF h Q a b c at' d) {M : Prop} (m : ∀ S kind space name text, h.st = some S -> a.av = .str kind -> b.av = .str space -> c.av = .str name -> d.av = .str text -> Nat.ble at'.length 1000 = true -> Even S h -> Q (.si S.kinds.length) (h.addN S kind space name text at') -> M) : M := by
  obtain ⟨S, hS, e⟩ := gSt_inv e
  obtain ⟨_, kind, ha, e⟩ := gS_inv e
  obtain ⟨_, space, hb, e⟩ := gS_inv e
  obtain ⟨_, name, hc, e⟩ := gS_inv e
  obtain ⟨_, text, hd, e⟩ := gS_inv e
  obtain ⟨e1, E, q⟩ := chk_ok e
  exact m S kind space name text hS (strOf_av ha) (strOf_av hb) (strOf_av hc) (strOf_av hd) e1 E q
theorem ok_add {w : World} {hB : Heap} (b : Base w hB) : OrcOK w hB ⟨524, 30, F_add⟩ := fun n hn as h Q s e => by
  dsimp only at e hn
  have hn : 29 <= n := Nat.le_of_succ_le hn
  rcases as with _ | ⟨x, _ | ⟨a, r⟩⟩
  · exact e.elim
  · exact e.elim
  replace e := gF_inv e
  obtain ⟨rfl, e⟩ := e
  rcases r with _ | ⟨b', _ | ⟨c, _ | ⟨t, r⟩⟩⟩
  · refine addF_inv e fun S kind space name text hS ha hb hc hd e1 E q => ?_
    cases hb; cases hc; cases hd
    obtain ⟨st, al, kids, atts, cops, ab, tm⟩ := h
    cases hS
    show Spec w hB n _ [.ref (.s .tree), a.av] _ _
    rw [ha]
    exact add_2 b hn s kind E q
  · exact e.elim
  · exact e.elim
  replace e := gT_inv e
  obtain ⟨at', rfl, e⟩ := e
  cases r with
  | nil =>
    refine addF_inv e fun S kind space name text hS ha hb hc hd e1 E q => ?_
    cases hd
    obtain ⟨st, al, kids, atts, cops, ab, tm⟩ := h
    cases hS
    show Spec w hB n _ [.ref (.s .tree), a.av, b'.av, c.av, .tup (avs at')] _ _
    rw [ha, hb, hc]
    exact add_5 b hn s kind space name e1 E q
  | cons d r =>
    replace e := a1_inv e
    obtain ⟨d, hd, e⟩ := e
    rw [hd]
    refine addF_inv e fun S kind space name text hS ha hb hc hd e1 E q => ?_
    obtain ⟨st, al, kids, atts, cops, ab, tm⟩ := h
    cases hS
    show Spec w hB n _ [.ref (.s .tree), a.av, b'.av, c.av, .tup (avs at'), d.av] _ _
    rw [ha, hb, hc, hd]
    exact add_6 b hn s kind space name text e1 E q
inductive Tk where
  | start (n : Str)
  | end_ (n : Str)
  | chr (c : Nat)
  | com (x : Str)
  | dct
  | eof
noncomputable def Tk.sv : Tk -> SV
  | .start n => .tup [.str "start", .str n, .tup [.tup [.str "at", .str "1"]], .bool false]
  | .end_ n => .tup [.str "end", .str n, .tup [], .bool false]
  | .chr c => .tup [.str "char", .str ⟨#[c]⟩]
  | .com x => .tup [.str "comment", .str x]
  | .dct => .tup [.str "doctype", .str "html", .none, .none, .bool false]
  | .eof => .tup [.str "eof"]
noncomputable def tagNames : List Str := ["caption", "col", "colgroup", "tbody", "td", "tfoot", "th", "thead", "tr", "table", "body", "html", "template", "p"].map Str.ofString
noncomputable def toks : List Tk := tagNames.map .start ++ tagNames.map .end_ ++ [120, 32, 9, 10, 12, 13, 11, 0, 160].map .chr ++ [.com "d", .com "c", .dct, .eof]
noncomputable def parts : List Str := ["caption", "col", "colgroup", "tbody", "td", "tfoot", "th", "thead", "tr"].map Str.ofString
noncomputable def St.err (S : St) (w : Str) : St := { S with errors := S.errors ++ [.tup [.str w, .str S.mode]] }
noncomputable def St.note (S : St) (w : Str) (t : Tk) : St := { S with errors := S.errors ++ [.tup [.str w, .str S.mode, t.sv]] }
noncomputable def Tk.uw : Tk -> Str
  | .start _ => "unexpected-start-tag"
  | .end_ _ => "unexpected-end-tag"
  | _ => "unexpected-text"
noncomputable def St.last (S : St) : Int := S.items.getLastD 0
noncomputable def F_adj : OrcF := fun as h Q => a1 as fun x => gF .bld x (gSt h fun S => S.WF /\ S.items ≠ [] /\ Q (.si S.last) h)
theorem getD_last {l : List Int} (h : l ≠ []) : l.getD ((l.length : Int) - 1).toNat 0 = l.getLastD 0 := by
  rw [last_at h, List.getLastD_eq_getLast?, List.getLast?_eq_some_getLast h]; rfl
theorem ok_adj {w : World} {hB : Heap} (b : Base w hB) : OrcOK w hB ⟨682, 40, F_adj⟩ := fun n hn as h Q s e => by
  dsimp only at e hn
  replace e := a1_inv e
  obtain ⟨x, rfl, e⟩ := e
  replace e := gF_inv e
  obtain ⟨rfl, e⟩ := e
  replace e := gSt_inv e
  obtain ⟨S, hS, e⟩ := e
  obtain ⟨st, al, kids, atts, cops, ab, tm⟩ := h
  cases hS
  obtain ⟨W, hne, e⟩ := e
  let c : Prop := br ((S.items.length : Int) == 0) (AvQ Q (.int (-1)) (hsO S al kids atts cops ab tm)) ((0 <= (S.items.length : Int) - 1 /\ (S.items.length : Int) - 1 < S.items.length) /\ AvQ Q (.si (S.items.getD ((S.items.length : Int) - 1).toNat 0)) (hsO S al kids atts cops ab tm))
  refine ev_orc b noO 19 (by lia) s (kmp (b := br ((S.items.length : Int) == 1) c c) (by kernel_rfl) ?_)
  have hp : 0 < S.items.length := List.length_pos_iff.mpr hne
  have hc : c := ⟨fun h => by simp only [beq_iff_eq] at h; lia, fun _ => ⟨by lia, .si S.last, by rw [getD_last hne]; rfl, e⟩⟩
  exact ⟨fun _ => hc, fun _ => hc⟩
noncomputable def F_fgn : OrcF := fun as h Q => a1 as fun x => gF .bld x (gSt h fun S => S.WF /\ S.items ≠ [] /\ Q (.sb (S.sp S.last != "html")) h)
theorem last_mem {S : St} (h : S.items ≠ []) : S.last ∈ S.items := by
  unfold St.last
  rw [List.getLastD_eq_getLast?, List.getLast?_eq_some_getLast h]
  exact List.getLast_mem h
theorem ok_fgn {w : World} {hB : Heap} (b : Base w hB) : OrcOK w hB ⟨689, 60, F_fgn⟩ := fun n hn as h Q s e => by
  dsimp only at e hn
  replace e := a1_inv e
  obtain ⟨x, rfl, e⟩ := e
  replace e := gF_inv e
  obtain ⟨rfl, e⟩ := e
  replace e := gSt_inv e
  obtain ⟨S, hS, e⟩ := e
  obtain ⟨st, al, kids, atts, cops, ab, tm⟩ := h
  cases hS
  obtain ⟨W, hne, e⟩ := e
  have hO : ∀ o ∈ [(⟨682, 40, F_adj⟩ : Orc)], OrcOK w hB o := fun o ho => by cases ho with | head => exact ok_adj b | tail _ h => cases h
  refine ev_orc b hO 29 (by lia) s (kmp (b := S.WF /\ S.items ≠ [] /\ br (S.last != -1) ((0 <= S.last /\ S.last < S.spaces.length) /\ AvQ Q (.sb (S.sp S.last != "html")) (hsO S al kids atts cops ab tm)) (AvQ Q (.sb (S.last != -1)) (hsO S al kids atts cops ab tm))) (by kernel_rfl) ?_)
  have hw := W.itm _ (last_mem hne)
  exact ⟨W, hne, fun _ => ⟨⟨hw.1, hw.2.1⟩, .here e⟩, fun h => by simp at h; lia⟩
noncomputable def mathN : List Str := ["mi", "mo", "mn", "ms", "mtext"].map Str.ofString
noncomputable def svgN : List Str := ["foreignObject", "desc", "title"].map Str.ofString
noncomputable def procQ (S : St) (t : Tk) (a c : Prop) : Prop :=
  let i := S.last
  let rs := 0 <= i /\ i < S.spaces.length
  let rn := 0 <= i /\ i < S.names.length
  let hp := rs /\ br (S.sp i == "svg") (rn /\ br (svgN.contains (S.nm i)) a c) (rs /\ br (S.sp i != "math") c (rn /\ br (S.nm i != "annotation-xml") c False))
  S.WF /\ S.items ≠ [] /\ br (S.sp i != "html") (S.WF /\ S.items ≠ [] /\ (match t with
    | .start _ =>
      let n1 := rs /\ br (S.sp i == "math") (rn /\ br (S.nm i == "annotation-xml") hp hp) hp
      rs /\ br (S.sp i == "math") (rn /\ br (mathN.contains (S.nm i)) a n1) (br (S.sp i == "math") a n1)
    | .chr _ => rs /\ br (S.sp i == "math") (rn /\ br (mathN.contains (S.nm i)) (br (mathN.contains (S.nm i)) a c) hp) (br (S.sp i == "math") (br (S.sp i == "math") a c) hp)
    | _ => c)) a
noncomputable def St.Svg (S : St) : Prop := ∀ i ∈ S.items, S.sp i = "html" ∨ S.sp i = "svg" /\ svgN.contains (S.nm i) = false
theorem procQ_ok {S : St} {t : Tk} {a c : Prop} (W : S.WF) (hv : S.Svg) (hne : S.items ≠ []) (ha : S.sp S.last = "html" -> a) (hc : S.sp S.last ≠ "html" -> c) : procQ S t a c := by
  have hw := W.itm _ (last_mem hne)
  have rs : 0 <= S.last /\ S.last < S.spaces.length := ⟨hw.1, hw.2.1⟩
  have rn : 0 <= S.last /\ S.last < S.names.length := ⟨hw.1, hw.2.2⟩
  have hv := hv _ (last_mem hne)
  refine ⟨W, hne, fun h => ⟨W, hne, ?_⟩, fun h => ha (by simpa using h)⟩
  have h : S.sp S.last ≠ "html" := by simpa using h
  have hcc := hc h
  obtain ⟨q1, q2⟩ := hv.resolve_left h
  have nm : (S.sp S.last == Str.ofString "math") = false := by rw [q1]; decide
  have sv : (S.sp S.last == Str.ofString "svg") = true := by rw [q1]; decide
  have hp : (0 <= S.last /\ S.last < S.spaces.length) /\ br (S.sp S.last == "svg") ((0 <= S.last /\ S.last < S.names.length) /\ br (svgN.contains (S.nm S.last)) a c) ((0 <= S.last /\ S.last < S.spaces.length) /\ br (S.sp S.last != "math") c ((0 <= S.last /\ S.last < S.names.length) /\ br (S.nm S.last != "annotation-xml") c False)) :=
    ⟨rs, fun _ => ⟨rn, fun h => (by rw [q2] at h; cases h), fun _ => hcc⟩, fun h => by rw [sv] at h; cases h⟩
  cases t with
  | start n => exact ⟨rs, fun h => (by rw [nm] at h; cases h), fun _ => ⟨fun h => (by rw [nm] at h; cases h), fun _ => ⟨rs, fun h => (by rw [nm] at h; cases h), fun _ => hp⟩⟩⟩
  | chr n => exact ⟨rs, fun h => (by rw [nm] at h; cases h), fun _ => ⟨fun h => (by rw [nm] at h; cases h), fun _ => hp⟩⟩
  | end_ n => exact hcc
  | com x => exact hcc
  | dct => exact hcc
  | eof => exact hcc
noncomputable def toldQ (S : St) (m : Str) (t : Tk) (k : St -> Prop) : Prop := procQ S t (lim (S.errors.length + 1) /\ k (S.note m t)) (lim (S.errors.length + 1) /\ k (S.note "foreign content" t))
noncomputable def cap1 (S : St) : St := { S with items := popI (fun i => implied.contains (S.sh i)) S.items }
noncomputable def cap3 (S : St) : St := { S with items := popU (fun i => [Str.ofString "caption"].contains (S.sh i)) S.items, marks := popM S.marks, mode := "in table" }
noncomputable def closeQ (S : St) (uw : Str) (k1 k0 : St -> Prop) : Prop := S.WF /\ br (scanS "caption" S.sh S.items.reverse) (S.WF /\ (cap1 S).WF /\ br (![Str.ofString "caption"].contains (cap1 S).cur)
  (lim ((cap1 S).errors.length + 1) /\ ((cap1 S).err "open-elements").WF /\ ∀ r : Int, k1 (cap3 ((cap1 S).err "open-elements"))) ((cap1 S).WF /\ ∀ r : Int, k1 (cap3 (cap1 S)))) (lim (S.errors.length + 1) /\ k0 (S.err uw))
inductive TC where
  | cl (kind : Str) (again : Bool)
  | er (w : Str)
  | nm (w : Str)
  | el (n : Str)
  | tx (x : Str)
  | com (x : Str)
  | tb (n : Str)
  | lv
noncomputable def retell (again : Bool) (m : Str) (S : St) (t : Tk) (f : St -> Prop) : Prop := match again with
  | true => toldQ S m t f
  | false => f S
noncomputable def nmQ (S : St) (w : Str) (t : Tk) (k : St -> Prop) : Prop := lim (S.errors.length + 1) /\ k (S.note w t)
noncomputable def erQ (S : St) (w : Str) (k : St -> Prop) : Prop := lim (S.errors.length + 1) /\ k (S.err w)
noncomputable def capC : Tk -> TC
  | .start n => match parts.contains n with
    | true => .cl "start" true
    | false => .nm "in body"
  | .end_ n => match n == "caption" with
    | true => .cl "end" false
    | false => match n == "table" with
      | true => .cl "end" true
      | false => match parts.contains n || [Str.ofString "body", Str.ofString "html"].contains n with
        | true => .er "unexpected-end-tag"
        | false => .nm "in body"
  | _ => .nm "in body"
noncomputable def capQ (S : St) (t : Tk) (c : TC) (k : St -> Prop) : Prop := match c with
  | .cl _ again => closeQ S t.uw (fun S' => retell again "in table" S' t k) k
  | .er w => erQ S w k
  | .nm w => nmQ S w t k
  | _ => True
noncomputable def orcs : List Orc := [⟨222, 30, F_name⟩, ⟨236, 60, F_pop_until⟩, ⟨243, 60, F_pop_to⟩, ⟨445, 60, F_clear⟩, ⟨273, 60, F_implied⟩, ⟨265, 60, F_scope⟩, ⟨562, 80, F_insert⟩, ⟨524, 30, F_add⟩, ⟨682, 40, F_adj⟩, ⟨689, 60, F_fgn⟩]
theorem orcs_ok {w : World} {hB : Heap} (b : Base w hB) : ∀ o ∈ orcs, OrcOK w hB o := by
  unfold orcs
  simp only [List.mem_cons, List.not_mem_nil, or_false]
  rintro o (rfl | rfl | rfl | rfl | rfl | rfl | rfl | rfl | rfl | rfl)
  · exact ok_name b
  · exact ok_pop_until b
  · exact ok_pop_to b
  · exact ok_clear b
  · exact ok_implied b
  · exact ok_scope b
  · exact ok_insert b
  · exact ok_add b
  · exact ok_adj b
  · exact ok_fgn b
theorem cap_eq (S : St) (al kids atts cops tm) (Q : SV -> HS -> Prop) : toks.map (fun t => callF (EV orcs 70) 329 [.ref (.s .bld), t.sv] (hsO S al kids atts cops none tm) Q) = toks.map (fun t => capQ S t (capC t) fun S' => Q .none (hsO S' al kids atts cops none tm)) := by kernel_rfl
noncomputable def St.home (S : St) : Int := (S.contents.lookup S.last).getD S.last
noncomputable def F_place : OrcF := fun as h Q => a1 as fun x => gF .bld x (gSt h fun S => S.WF /\ S.items ≠ [] /\ Q (.tup [.si S.home, .int (-1)]) h)
theorem ok_place {w : World} {hB : Heap} (b : Base w hB) : OrcOK w hB ⟨92, 40, F_place⟩ := fun n hn as h Q s e => by
  dsimp only at e hn
  replace e := a1_inv e
  obtain ⟨x, rfl, e⟩ := e
  replace e := gF_inv e
  obtain ⟨rfl, e⟩ := e
  replace e := gSt_inv e
  obtain ⟨S, hS, e⟩ := e
  obtain ⟨st, al, kids, atts, cops, ab, tm⟩ := h
  cases hS
  obtain ⟨W, hne, e⟩ := e
  let i : Int := S.items.getD ((S.items.length : Int) - 1).toNat 0
  let z : Prop := AvQ Q (.tup [.int 0, .int (-1)]) (hsO S al kids atts cops ab tm)
  refine ev_orc b noO 19 (by lia) s (kmp (b := br ((S.items.length : Int) == 0) z ((0 <= (S.items.length : Int) - 1 /\ (S.items.length : Int) - 1 < S.items.length) /\ br (i == -1) z (br (S.contents.lookup i).isSome ((S.contents.lookup i).isSome = true /\ AvQ Q (.tup [.si ((S.contents.lookup i).getD 0), .int (-1)]) (hsO S al kids atts cops ab tm)) (AvQ Q (.tup [.si i, .int (-1)]) (hsO S al kids atts cops ab tm))))) (by kernel_rfl) ?_)
  have hp : 0 < S.items.length := List.length_pos_iff.mpr hne
  have hi : i = S.last := getD_last hne
  have hw := W.itm _ (last_mem hne)
  rw [hi]
  refine ⟨fun h => by simp only [beq_iff_eq] at h; lia, fun _ => ⟨by lia, fun h => by simp only [beq_iff_eq] at h; lia, fun _ => ⟨fun h => ⟨h, .tup [.si S.home, .int (-1)], ?_, e⟩, fun h => ⟨.tup [.si S.home, .int (-1)], ?_, e⟩⟩⟩⟩
  · obtain ⟨v, hv⟩ := Option.isSome_iff_exists.mp h
    unfold St.home; rw [hv]; rfl
  · have hv : S.contents.lookup S.last = none := by simpa using h
    unfold St.home; rw [hv]; rfl
noncomputable def F_last : OrcF := fun as h Q => a2 as fun x y => gF .tree x (gV y fun p => gSt h fun S => (0 <= p /\ p < S.nch) /\ h.kids[p.toNat]? = some [] /\ Q (.int (-1)) h)
theorem ok_last {w : World} {hB : Heap} (b : Base w hB) : OrcOK w hB ⟨597, 40, F_last⟩ := fun n hn as h Q s e => by
  dsimp only at e hn
  replace e := a2_inv e
  obtain ⟨x, y, rfl, e⟩ := e
  replace e := gF_inv e
  obtain ⟨rfl, e⟩ := e
  replace e := gV_inv e
  obtain ⟨p, rfl, e⟩ := e
  replace e := gSt_inv e
  obtain ⟨S, hS, e⟩ := e
  obtain ⟨st, al, kids, atts, cops, ab, tm⟩ := h
  cases hS
  obtain ⟨g, hk, e⟩ := e
  refine ev_orc b noO 19 (by lia) s (kmp (b := (0 <= p /\ p < S.nch) /\ ∃ l, kids[p.toNat]? = some l /\ (l = [] -> AvQ Q (.int (-1)) (hsO S al kids atts cops ab tm)) /\ (l ≠ [] -> (0 <= p /\ p < S.nch) /\ ∃ l', kids[p.toNat]? = some l' /\ l' ≠ [] /\ AvQ Q (.si (l'.getLastD 0)) (hsO S al kids atts cops ab tm))) (by kernel_rfl) ?_)
  exact ⟨g, [], hk, fun _ => .here e, fun h => absurd rfl h⟩
noncomputable def orcs2 : List Orc := orcs ++ [⟨92, 40, F_place⟩, ⟨597, 40, F_last⟩]
theorem orcs2_ok {w : World} {hB : Heap} (b : Base w hB) : ∀ o ∈ orcs2, OrcOK w hB o := fun o ho => by
  rcases List.mem_append.mp ho with h | h
  · exact orcs_ok b o h
  · simp only [List.mem_cons, List.not_mem_nil, or_false] at h
    rcases h with rfl | rfl
    · exact ok_place b
    · exact ok_last b
noncomputable def newQ (S : St) (h : HS) (kind space name text : Str) (attrs : List SV) (k : HS -> Prop) : Prop :=
  S.WF /\ S.items ≠ [] /\ Even S h /\ insF (h.addN S kind space name text attrs) (fun _ h2 => k h2) S.home S.kinds.length
noncomputable def onSt (h : HS) (k : St -> Prop) : Prop := match h.st with
  | some S => k S
  | none => False
noncomputable def at1 : List SV := [.tup [.str "at", .str "1"]]
noncomputable def leaveQ (S : St) (t : Tk) (again : Bool) (k : St -> Prop) : Prop :=
  let go (S : St) : Prop := retell again "in table" { S with mode := "in table" } t k
  S.WF /\ br (S.cur != "colgroup") (lim (S.errors.length + 1) /\ k (S.err t.uw)) (br ((S.items.length : Int) == 0) (go S) (S.items ≠ [] /\ go { S with items := S.items.dropLast }))
noncomputable def isSp (c : Nat) : Bool := [9, 10, 12, 13, 32].contains c
noncomputable def celQ (S : St) (h : HS) (n : Str) (k : HS -> Prop) : Prop := newQ S h "element" "html" n "" at1 fun h2 => onSt h2 fun S2 => lim (S2.items.length + 1) /\
  br (((S2.items ++ [(S.kinds.length : Int)]).length : Int) == 0) (k { h2 with st := some { S2 with items := S2.items ++ [(S.kinds.length : Int)], ack := true } })
  (S2.items ++ [(S.kinds.length : Int)] ≠ [] /\ k { h2 with st := some { S2 with items := (S2.items ++ [(S.kinds.length : Int)]).dropLast, ack := true } })
noncomputable def ctxQ (S : St) (h : HS) (x : Str) (k : HS -> Prop) : Prop := S.WF /\ S.items ≠ [] /\ (0 <= S.home /\ S.home < S.kinds.length) /\ br (S.kinds.getD S.home.toNat Str.empty == "document") (k h)
  ((0 <= S.home /\ S.home < S.nch) /\ h.kids[S.home.toNat]? = some [] /\ Even S h /\ insF (h.addN S "text" "" "" x []) (fun _ h2 => k h2) S.home S.kinds.length)
noncomputable def colC : Tk -> TC
  | .start n => match n == "template" with
    | true => .nm "in head"
    | false => match n == "html" with
      | true => .nm "in body"
      | false => match n == "col" with
        | true => .el n
        | false => .cl "start" true
  | .end_ n => match n == "template" with
    | true => .nm "in head"
    | false => match n == "col" with
      | true => .tb n
      | false => .cl "end" (!(n == "colgroup"))
  | .chr c => match isSp c with
    | true => .tx ⟨#[c]⟩
    | false => .lv
  | .com x => .com x
  | .dct => .er "unexpected-doctype"
  | .eof => .nm "in body"
noncomputable def colQ (S : St) (h : HS) (t : Tk) (c : TC) (k : HS -> Prop) : Prop :=
  let sw (S : St) : Prop := k { h with st := some S }
  match c with
  | .nm w => nmQ S w t sw
  | .er w => erQ S w sw
  | .el n => celQ S h n k
  | .cl _ again => leaveQ S t again sw
  | .lv => leaveQ S t true sw
  | .tx x => ctxQ S h x k
  | .com x => newQ S h "comment" "" "" x [] k
  | .tb _ => erQ S "unexpected-end-tag" sw
noncomputable def AvN (Q : HS -> Prop) : SV -> HS -> Prop := fun _ h => Q h
theorem col_eq (S : St) (al kids atts cops tm) (Q : HS -> Prop) : toks.map (fun t => callF (EV orcs2 70) 350 [.ref (.s .bld), t.sv] (hsO S al kids atts cops none tm) (AvN Q)) = toks.map (fun t => colQ S (hsO S al kids atts cops none tm) t (colC t) Q) := by kernel_rfl
noncomputable def rowP (S : St) : St := { S with items := popT (fun i => [Str.ofString "tr", Str.ofString "template", Str.ofString "html"].contains (S.sh i)) S.items }
noncomputable def closeR (S : St) (uw : Str) (k1 k0 : St -> Prop) : Prop :=
  let go (S : St) : Prop := k1 { S with mode := "in table body" }
  S.WF /\ br (scanS "tr" S.sh S.items.reverse) (S.WF /\ br (((rowP S).items.length : Int) == 0) (go (rowP S)) ((rowP S).items ≠ [] /\ go { rowP S with items := (rowP S).items.dropLast })) (lim (S.errors.length + 1) /\ k0 (S.err uw))
noncomputable def rowC : Tk -> TC
  | .start n => match [Str.ofString "td", Str.ofString "th"].contains n with
    | true => .el n
    | false => match parts.contains n with
      | true => .cl "start" true
      | false => .nm "in table"
  | .end_ n => match n == "tr" with
    | true => .cl "end" false
    | false => match n == "table" with
      | true => .cl "end" true
      | false => match [Str.ofString "tbody", Str.ofString "tfoot", Str.ofString "thead"].contains n with
        | true => .tb n
        | false => match parts.contains n || [Str.ofString "body", Str.ofString "html"].contains n with
          | true => .er "unexpected-end-tag"
          | false => .nm "in table"
  | _ => .nm "in table"
noncomputable def tdQ (S : St) (h : HS) (n : Str) (k : HS -> Prop) : Prop := S.WF /\ newQ (rowP S) { h with st := some (rowP S) } "element" "html" n "" at1 fun h2 => onSt h2 fun S2 => lim (S2.items.length + 1) /\ lim (S2.marks.length + 1) /\
  k { h2 with st := some { S2 with items := S2.items ++ [(S.kinds.length : Int)], mode := "in cell", marks := S2.marks ++ [-1] } }
noncomputable def tbQ (S : St) (n : Str) (t : Tk) (k : St -> Prop) : Prop := S.WF /\ br (scanS n S.sh S.items.reverse) (S.WF /\ br (scanS "tr" S.sh S.items.reverse) (closeR S t.uw (fun S' => toldQ S' "in table body" t k) fun S' => procQ S' t False (lim (S'.errors.length + 1) /\ k (S'.note "foreign content" t))) (k S)) (lim (S.errors.length + 1) /\ k (S.err t.uw))
noncomputable def rowQ (S : St) (h : HS) (t : Tk) (c : TC) (k : HS -> Prop) : Prop :=
  let sw (S : St) : Prop := k { h with st := some S }
  match c with
  | .el n => tdQ S h n k
  | .cl _ again => closeR S t.uw (fun S' => retell again "in table body" S' t sw) sw
  | .tb n => tbQ S n t sw
  | .er w => erQ S w sw
  | .nm w => nmQ S w t sw
  | _ => True
theorem row_eq (S : St) (al kids atts cops tm) (Q : HS -> Prop) : toks.map (fun t => callF (EV orcs2 70) 378 [.ref (.s .bld), t.sv] (hsO { S with mode := "in row" } al kids atts cops none tm) (AvN Q)) = toks.map (fun t => rowQ { S with mode := "in row" } (hsO { S with mode := "in row" } al kids atts cops none tm) t (rowC t) Q) := by kernel_rfl
noncomputable def scopeR (a : Str) : List Str -> Int
  | [] => -1
  | x :: r => match x == a with
    | true => r.length
    | false => match stops.contains x with
      | true => -1
      | false => scopeR a r
noncomputable def scopeL (a : Str) (l : List Str) : Int := scopeR a l.reverse
theorem scopeL_snoc (a : Str) (l : List Str) (x : Str) : scopeL a (l ++ [x]) = if (x == a) = true then (l.length : Int) else if stops.contains x = true then -1 else scopeL a l := by
  unfold scopeL
  rw [List.reverse_append]
  show (match x == a with | true => ((l.reverse.length : Nat) : Int) | false => match stops.contains x with | true => -1 | false => scopeR a l.reverse) = _
  rw [List.length_reverse]
  cases x == a with
  | true => rfl
  | false => cases stops.contains x <;> rfl
theorem snoc_ind {α : Type} {P : List α -> Prop} (h0 : P []) (h1 : ∀ l x, P l -> P (l ++ [x])) : ∀ l, P l := fun l => by
  have : ∀ m : List α, P m.reverse := fun m => by
    induction m with
    | nil => exact h0
    | cons x m ih => rw [List.reverse_cons]; exact h1 _ _ ih
  have := this l.reverse
  rwa [List.reverse_reverse] at this
theorem scopeL_hit (a : Str) : ∀ l : List Str, scopeL a l ≠ -1 -> 0 <= scopeL a l /\ scopeL a l < l.length /\ l[(scopeL a l).toNat]? = some a /\ ∀ k : Nat, (scopeL a l).toNat < k -> ∀ x, l[k]? = some x -> x ≠ a /\ stops.contains x = false := by
  refine snoc_ind (fun h => absurd rfl h) fun l x ih h => ?_
  rw [scopeL_snoc] at h ⊢
  by_cases q : (x == a) = true
  · rw [if_pos q]
    have q : x = a := by simpa using q
    subst q
    refine ⟨by lia, by rw [List.length_append]; show _ < ((l.length + 1 : Nat) : Int); lia, by simp, fun k hk y hy => ?_⟩
    have := (List.getElem?_eq_some_iff.mp hy).1
    rw [List.length_append] at this
    have h1 : ((l.length : Int)).toNat = l.length := by lia
    rw [h1] at hk
    have h2 : [x].length = 1 := rfl
    lia
  · rw [if_neg q] at h ⊢
    by_cases q2 : stops.contains x = true
    · rw [if_pos q2] at h; exact absurd rfl h
    · rw [if_neg q2] at h ⊢
      obtain ⟨i1, i2, i3, i4⟩ := ih h
      refine ⟨i1, by rw [List.length_append]; exact Int.lt_trans i2 (Int.ofNat_lt.mpr (Nat.lt_succ_self _)), by rw [List.getElem?_append_left (tn_lt i1 i2)]; exact i3, fun k hk y hy => ?_⟩
      by_cases q3 : k < l.length
      · rw [List.getElem?_append_left q3] at hy
        exact i4 k hk y hy
      · have := (List.getElem?_eq_some_iff.mp hy).1
        rw [List.length_append] at this
        have h2 : [x].length = 1 := rfl
        have hk' : k = l.length := by lia
        subst hk'
        rw [List.getElem?_append_right (Nat.le_refl _), Nat.sub_self] at hy
        cases hy
        exact ⟨by simpa using q, by simpa using q2⟩
theorem scopeL_miss (a : Str) : ∀ l : List Str, scopeL a l = -1 -> ∀ M : Nat, (∀ k x, l[k]? = some x -> stops.contains x = true -> k <= M) -> ∀ k x, l[k]? = some x -> M < k -> x ≠ a := by
  refine snoc_ind (fun _ M _ k x h => by cases h) fun l y ih h M hM k x hx hk => ?_
  rw [scopeL_snoc] at h
  by_cases q : (y == a) = true
  · rw [if_pos q] at h; lia
  · rw [if_neg q] at h
    by_cases q3 : k < l.length
    · rw [List.getElem?_append_left q3] at hx
      by_cases q2 : stops.contains y = true
      · have := hM l.length y (by simp) q2
        lia
      · rw [if_neg q2] at h
        exact ih h M (fun k x hk => hM k x (by rw [List.getElem?_append_left (List.getElem?_eq_some_iff.mp hk).1]; exact hk)) k x hx hk
    · have := (List.getElem?_eq_some_iff.mp hx).1
      rw [List.length_append] at this
      have h2 : [y].length = 1 := rfl
      have hk' : k = l.length := by lia
      subst hk'
      rw [List.getElem?_append_right (Nat.le_refl _), Nat.sub_self] at hx
      cases hx
      simpa using q
theorem mem_rng {a b i : Int} (h : i ∈ rngEls a b 1) : a <= i /\ i < b := by
  unfold rngEls at h
  obtain ⟨k, hk, rfl⟩ := List.mem_map.mp h
  have hk := List.mem_range.mp hk
  unfold Builtin.Range.rangeSize at hk
  rw [if_pos (by decide)] at hk
  split at hk
  · rw [Int.ediv_one, Int.sub_add_cancel] at hk
    have hk := Int.lt_toNat.mp hk
    rw [Int.mul_one]
    lia
  · simp at hk
theorem rng_mem {a b i : Int} (h : a <= i /\ i < b) : i ∈ rngEls a b 1 := by
  unfold rngEls
  refine List.mem_map.mpr ⟨(i - a).toNat, ?_, by lia⟩
  refine List.mem_range.mpr ?_
  unfold Builtin.Range.rangeSize
  rw [if_pos (by decide), if_pos (by lia), Int.ediv_one, Int.sub_add_cancel]
  exact tn_lt2 (Int.sub_nonneg_of_le h.1) (Int.sub_lt_sub_right h.2 a)
theorem rng_len (a b : Int) : (rngEls a b 1).length <= (b - a).toNat := by
  unfold rngEls
  rw [List.length_map, List.length_range]
  unfold Builtin.Range.rangeSize
  rw [if_pos (by decide)]
  split
  · rw [Int.ediv_one]; lia
  · lia
noncomputable abbrev shO : Oid := .t (649 * 256)
noncomputable def HS.push (h : HS) (o : Oid) (x : SO) : HS := { h with al := (o, x) :: h.al }
theorem push_get {h : HS} {j : Nat} {x : SO} (e : h.get (.t j) = some x) (hs : h.st ≠ none ∨ True) (i : Oid) : (h.push (.t j) x).get i = h.get i := by
  cases i with
  | s k =>
    show (match h.st with | some S => some (S.get k) | none => List.lookup (Oid.s k) ((Oid.t j, x) :: h.al)) = (match h.st with | some S => some (S.get k) | none => h.al.lookup (Oid.s k))
    cases h.st <;> rfl
  | t k =>
    show List.lookup (Oid.t k) ((Oid.t j, x) :: h.al) = h.al.lookup (Oid.t k)
    rw [List.lookup_cons]
    by_cases q : k = j
    · subst q
      have e : h.al.lookup (.t k) = some x := e
      rw [e]; simp
    · have : ((Oid.t k) == (Oid.t j)) = false := by simpa using q
      rw [this]
  | kid k => rfl
  | att k => rfl
  | c k => rfl
  | ab => rfl
  | m k => rfl
theorem push_mkH {h : HS} {j : Nat} {x : SO} (e : h.get (.t j) = some x) : mkH (h.push (.t j) x) = mkH h := by
  funext i; unfold mkH; rw [push_get e (.inr trivial)]
theorem push_small {h : HS} {j : Nat} {x : SO} (e : h.get (.t j) = some x) (s : Small h) : Small (h.push (.t j) x) := fun i y hy => s i y (by rw [push_get e (.inr trivial)] at hy; exact hy)
theorem tm_less {h : HS} {t : List SO} (ht : h.tm = []) : Less (mkH h) (mkH h) (mkH { h with tm := t }) := by
  refine less_of (fun i x e => ?_) (fun i e => e) (fun i x e => .inl e)
  cases i with
  | m k =>
    have : h.get (.m k) = none := by show h.tm[k]? = none; rw [ht]; rfl
    rw [this] at e; cases e
  | s k => exact e
  | t k => exact e
  | kid k => exact e
  | att k => exact e
  | c k => exact e
  | ab => exact e
noncomputable def noB {α : Type} : List α -> Bool
  | [] => true
  | _ :: _ => false
theorem noB_ok {α : Type} {l : List α} (e : noB l = true) : l = [] := by
  cases l with
  | nil => rfl
  | cons _ _ => exact Bool.noConfusion e
noncomputable def F_lscope : OrcF := fun as h Q => a2 as fun x y => gR x fun o => match o with
  | .t j => gT y fun l => a1 l fun u => gC u fun a => gSl h (.t j) fun sh => chk (noB h.tm && Nat.beq j (649 * 256)) (sh.length <= 1000 /\ sh.any stops.contains = true /\ stops.contains a = false /\ Q (.si (scopeL a sh)) h)
  | _ => False
noncomputable def shAt (sh : List Str) (i : Int) : Str := sh.getD i.toNat Str.empty
theorem ok_lscope {w : World} {hB : Heap} (b : Base w hB) : OrcOK w hB ⟨769, 60, F_lscope⟩ := fun n hn as h Q s e => by
  dsimp only at e hn
  replace e := a2_inv e
  obtain ⟨x, y, rfl, e⟩ := e
  replace e := gR_inv e
  obtain ⟨o, rfl, e⟩ := e
  cases o with
  | t j =>
    replace e := gT_inv e
    obtain ⟨l, rfl, e⟩ := e
    replace e := a1_inv e
    obtain ⟨u, rfl, e⟩ := e
    replace e := gC_inv e
    obtain ⟨a, rfl, e⟩ := e
    replace e := gSl_inv e
    obtain ⟨sh, hsh, e⟩ := e
    · obtain ⟨e1, g1, g2, g3, q⟩ := chk_ok e
      obtain ⟨htm, e1⟩ := Bool.and_eq_true_iff.mp e1
      have htm := noB_ok htm
      have hj : j = 649 * 256 := Nat.eq_of_beq_eq_true e1
      subst hj
      let H : HS := h.push shO (.sl sh)
      let len : Int := sh.length
      let L0 : SVS := [vr "names" (.tup [.str a]), vr "shown" (.ref shO)]
      let LX : Int -> SVS := fun i => [vr "k" (.si i), vr "names" (.tup [.str a]), vr "shown" (.ref shO)]
      let P0 : Int -> Bool := fun i => stops.contains (shAt sh i)
      let f1 := (rngEls 0 len 1).filter P0
      let Q1 : SV -> HS -> Prop := fun v h' => ∃ t, v = .si (scopeL a sh) /\ h' = { h.push shO (.sl sh) with tm := t }
      have key : Spec w hB n (.ref 769) (avs [.ref shO, .tup [.str a]]) (mkH (h.push shO (.sl sh))) (HQ Q1) := by
        obtain ⟨st, al, kids, atts, cops, ab, tm⟩ := h
        cases htm
        let T : List SO -> HS := fun t => ⟨st, (shO, .sl sh) :: al, kids, atts, cops, ab, t⟩
        let LY : Int -> Int -> SVS := fun M i => [vr "k" (.si i), vr "stop" (.si M), vr "names" (.tup [.str a]), vr "shown" (.ref shO)]
        let F2 : (Int -> Bool) -> Int -> Prop := fun P M => 
          let t : List SO := [.il ((rngEls 0 len 1).filter P), .il [-1]]
          Builtin.Range.small (M + 1) len 1 = true /\ ∃ P2 : Int -> Bool, (∀ i, i ∈ rngEls (M + 1) len 1 -> ∀ part : List Int, (0 <= i /\ i < len) /\ br ([a].contains (shAt sh i)) (true = P2 i /\ LY M i = LY M i /\ T (t ++ [.il part]) = T (t ++ [.il part])) (false = P2 i /\ LY M i = LY M i /\ T (t ++ [.il part]) = T (t ++ [.il part]))) /\
            lim (rngEls (M + 1) len 1).length /\ lim ([(-1 : Int)].length + ((rngEls (M + 1) len 1).filter P2).length) /\ [-1] ++ (rngEls (M + 1) len 1).filter P2 ≠ [] /\ ∀ M2, M2 ∈ [-1] ++ (rngEls (M + 1) len 1).filter P2 -> (∀ a, a ∈ [-1] ++ (rngEls (M + 1) len 1).filter P2 -> a <= M2) ->
              AvQ Q1 (.si M2) (T (t ++ [.il ((rngEls (M + 1) len 1).filter P2), .il ([-1] ++ (rngEls (M + 1) len 1).filter P2)]))
        refine ev_orc b noO 28 (by lia) (push_small hsh s) (kmp (b := Builtin.Range.small 0 len 1 = true /\ ∃ P : Int -> Bool, (∀ i, i ∈ rngEls 0 len 1 -> ∀ part : List Int, (0 <= i /\ i < len) /\ br (stops.contains (shAt sh i)) (true = P i /\ LX i = LX i /\ T [.il part] = T [.il part]) (false = P i /\ LX i = LX i /\ T [.il part] = T [.il part])) /\
          lim (rngEls 0 len 1).length /\ (rngEls 0 len 1).filter P ≠ [] /\ ∀ M, M ∈ (rngEls 0 len 1).filter P -> (∀ a, a ∈ (rngEls 0 len 1).filter P -> a <= M) -> F2 P M) (by kernel_rfl) ?_)
        have hlen : len <= 1000 /\ 0 <= len := ⟨by show (sh.length : Int) <= 1000; lia, by show 0 <= (sh.length : Int); lia⟩
        obtain ⟨x, hx, hxs⟩ := List.any_eq_true.mp g2
        obtain ⟨k, hk⟩ := List.getElem?_of_mem hx
        have hat : ∀ (k : Nat) x, sh[k]? = some x -> shAt sh (k : Int) = x := fun k x h => by unfold shAt; rw [List.getD_eq_getElem?_getD]; show (sh[k]?).getD _ = _; rw [h]; rfl
        have hin : ∀ i : Int, 0 <= i -> i < len -> sh[i.toNat]? = some (shAt sh i) := fun i h0 h1 => by
          have : i.toNat < sh.length := by have : i < (sh.length : Int) := h1; lia
          unfold shAt; rw [List.getD_eq_getElem?_getD, List.getElem?_eq_getElem this]; rfl
        have hkl := (List.getElem?_eq_some_iff.mp hk).1
        refine ⟨small_one (by decide) (by decide) (by lia) (by lia), P0, fun i hi part => ?_, by have := rng_len 0 len; show _ <= _; lia, ?_, fun M hM1 hM2 => ?_⟩
        · have := mem_rng hi
          exact ⟨this, fun h => ⟨h.symm, rfl, rfl⟩, fun h => ⟨h.symm, rfl, rfl⟩⟩
        · intro q0
          have : (k : Int) ∈ (rngEls 0 len 1).filter P0 := List.mem_filter.mpr ⟨rng_mem ⟨by lia, by show (k : Int) < (sh.length : Int); lia⟩, by show stops.contains (shAt sh (k : Int)) = true; rw [hat k x hk]; exact hxs⟩
          rw [q0] at this; cases this
        · obtain ⟨m1, m2⟩ := List.mem_filter.mp hM1
          have m3 := mem_rng m1
          have mmax : ∀ (k : Nat) x, sh[k]? = some x -> stops.contains x = true -> (k : Int) <= M := fun k x h1 h2 => hM2 _ (List.mem_filter.mpr ⟨rng_mem ⟨by lia, by have := (List.getElem?_eq_some_iff.mp h1).1; show (k : Int) < (sh.length : Int); lia⟩, by show stops.contains (shAt sh (k : Int)) = true; rw [hat k x h1]; exact h2⟩)
          have hl2 := rng_len (M + 1) len
          have hl3 := List.length_filter_le (fun i => [a].contains (shAt sh i)) (rngEls (M + 1) len 1)
          have hl4 := tn_g g1 (Int.le_add_one m3.1) hl2
          refine ⟨small_one (by lia) (by lia) (by lia) (by lia), fun i => [a].contains (shAt sh i), fun i hi part => ?_, big1 hl4, Nat.le_trans (Nat.add_le_add_left (Nat.le_trans hl3 hl4) 1) (by decide), by simp, fun M2 h1 h2 => ?_⟩
          · have := mem_rng hi
            exact ⟨⟨by lia, this.2⟩, fun h => ⟨h.symm, rfl, rfl⟩, fun h => ⟨h.symm, rfl, rfl⟩⟩
          · suffices hs : M2 = scopeL a sh from .here ⟨_, by rw [hs], rfl⟩
            have h2m := h2 (-1) (by simp)
            by_cases hR : scopeL a sh = -1
            · rw [hR]
              rcases List.mem_append.mp h1 with h1 | h1
              · simpa using h1
              · exfalso
                obtain ⟨r1, r2⟩ := List.mem_filter.mp h1
                have r3 := mem_rng r1
                have r2 : shAt sh M2 = a := by simpa using r2
                refine scopeL_miss a sh hR M.toNat (fun k x hk hs => by have := mmax k x hk hs; lia) M2.toNat _ (hin M2 (Int.le_trans m3.1 (Int.le_of_lt r3.1)) r3.2) (tn_lt2 m3.1 r3.1) r2
            · obtain ⟨i1, i2, i3, i4⟩ := scopeL_hit a sh hR
              have hRM : M < scopeL a sh := by
                rcases Int.lt_trichotomy M (scopeL a sh) with h | h | h
                · exact h
                · exfalso
                  have m2 : stops.contains (shAt sh M) = true := m2
                  have := hin M m3.1 m3.2
                  rw [h] at this
                  rw [h] at m2
                  rw [i3] at this
                  rw [<- Option.some.inj this, g3] at m2; cases m2
                · exfalso
                  have m2 : stops.contains (shAt sh M) = true := m2
                  have := (i4 M.toNat (tn_lt2 i1 h) _ (hin M m3.1 m3.2)).2
                  rw [m2] at this; cases this
              have hmem : scopeL a sh ∈ [-1] ++ (rngEls (M + 1) len 1).filter (fun i => [a].contains (shAt sh i)) := by
                refine List.mem_append_right _ (List.mem_filter.mpr ⟨rng_mem ⟨by lia, i2⟩, ?_⟩)
                have := hin (scopeL a sh) i1 i2
                rw [i3] at this
                rw [<- Option.some.inj this]
                simp
              have hge := h2 _ hmem
              rcases List.mem_append.mp h1 with h1 | h1
              · have : M2 = -1 := by simpa using h1
                lia
              · obtain ⟨r1, r2⟩ := List.mem_filter.mp h1
                have r3 := mem_rng r1
                have r2 : shAt sh M2 = a := by simpa using r2
                rcases Int.lt_trichotomy M2 (scopeL a sh) with h | h | h
                · lia
                · exact h
                · exact absurd r2 (i4 M2.toNat (tn_lt2 i1 h) _ (hin M2 (Int.le_trans m3.1 (Int.le_of_lt r3.1)) r3.2)).1
      rw [push_mkH hsh] at key
      refine key.forget fun v H' ⟨b', hs, q1, q2, q3, t, q4, q5⟩ => ?_
      subst q1; subst q2; subst q4; subst q5
      refine ⟨mkH h, ?_, trivial, .si (scopeL a sh), h, rfl, rfl, s, q⟩
      have : mkH ({ h.push shO (.sl sh) with tm := t } : HS) = mkH { h with tm := t } := push_mkH (h := { h with tm := t }) hsh
      rw [this]
      exact tm_less htm
  | _ => exact e.elim
structure Due where
  keep : Int
  mode : Str
  again : Bool
  added : SV
  marks : Str
noncomputable abbrev noO' : Oid := .t (663 * 256)
noncomputable abbrev dueO : Oid := .t (663 * 256 + 10)
noncomputable def Due.d (D : Due) : List (Str × SV) := [vr "keep" (.si D.keep), vr "mode" (.str D.mode), vr "notes" (.ref noO'), vr "again" (.bool D.again), vr "added" D.added, vr "marks" (.str D.marks)]
noncomputable abbrev hsL (st : Option St) (D : Due) (ns : List SV) (sh : List Str) (al : List (Oid × SO)) (kids : List (List Int)) (atts : List (List SV)) (cops : List (List Int)) (ab : Option (List Int)) (tm : List SO) : HS :=
  ⟨st, (dueO, .sdict D.d) :: (noO', .list ns) :: (shO, .sl sh) :: al, kids, atts, cops, ab, tm⟩
noncomputable def noteL (D : Due) (w : Str) : SV := .tup [.str w, .str D.mode]
noncomputable def lorcs : List Orc := [⟨769, 60, F_lscope⟩]
theorem lorcs_ok {w : World} {hB : Heap} (b : Base w hB) : ∀ o ∈ lorcs, OrcOK w hB o := fun o ho => by cases ho with | head => exact ok_lscope b | tail _ h => cases h
noncomputable def lnQ (D : Due) (ns : List SV) (x : SV) (k : Due -> List SV -> List SO -> Prop) : Prop := lim (ns.length + 1) /\ k D (ns ++ [x]) []
noncomputable def catQ (D : Due) (ns : List SV) (kind : Str) (k : Due -> List SV -> List SO -> Prop) : Prop := lim ((Str.ofString "unexpected-").length + kind.length) /\ lim ((Str.ofString "unexpected-" ++ kind).length + (Str.ofString "-tag").length) /\ lnQ D ns (noteL D ((Str.ofString "unexpected-" ++ kind) ++ Str.ofString "-tag")) k
noncomputable def lcloseQ (H : List SO -> HS) (D : Due) (ns : List SV) (sh : List Str) (kind name after : Str) (k1 k0 : Due -> List SV -> List SO -> Prop) : Prop :=
  let R := scopeL name sh
  let es := cutAt true sh (R + 1).toNat
  let L : Str -> SVS := fun i => [vr "each" (.ss i), vr "implied" (.tup (implied.map .str)), vr "place" (.si R), vr "after" (.str after), vr "name" (.str name), vr "kind" (.str kind), vr "shown" (.ref shO), vr "due" (.ref dueO)]
  let D' : Due := { D with keep := R, mode := after }
  sh.length <= 1000 /\ sh.any stops.contains = true /\ stops.contains name = false /\ br (R == -1) (catQ D ns kind k0)
    (match name == "caption" with
      | true => 0 <= R + 1 /\ ∃ P : Str -> Bool, (∀ i, i ∈ es -> ∀ part : List Str, br (!implied.contains i) (true = P i /\ L i = L i /\ H [.sl es, .sl part] = H [.sl es, .sl part]) (false = P i /\ L i = L i /\ H [.sl es, .sl part] = H [.sl es, .sl part])) /\ lim es.length /\
          ((es.filter P).all PyData.strOk = true /\ (es.filter P).length <= 1000) /\ br (!(es.filter P).isEmpty) (lim (ns.length + 1) /\ k1 D' (ns ++ [noteL D "open-elements"]) [.sl es, .sl (es.filter P), .list []]) (k1 D' ns [.sl es, .sl (es.filter P), .list []])
      | false => k1 D' ns [])
noncomputable def lcapQ (H : List SO -> HS) (D : Due) (ns : List SV) (sh : List Str) (t : Tk) (c : TC) (k : Due -> List SV -> List SO -> Prop) : Prop := match c with
  | .cl kind again => lcloseQ H D ns sh kind "caption" "in table" (fun D' ns' tm => k { D' with marks := "clear", again := again } ns' tm) k
  | .er w => lnQ D ns (noteL D w) k
  | .nm w => lnQ D ns (.tup [.str w, .str "in caption", t.sv]) k
  | _ => False
theorem lcap_eq (st : Option St) (D : Due) (ns sh al kids atts cops ab) (Q : HS -> Prop) : toks.map (fun t => callF (EV lorcs 70) 788 [.ref dueO, .ref shO, t.sv] (hsL st D ns sh al kids atts cops ab []) (AvN Q)) = toks.map (fun t => lcapQ (fun u => hsL st D ns sh al kids atts cops ab u) D ns sh t (capC t) fun D' ns' tm => Q (hsL st D' ns' sh al kids atts cops ab tm)) := by kernel_rfl
noncomputable def ltailQ (D : Due) (ns : List SV) (sh : List Str) (nt : Prop) (again : Bool) (k : Due -> List SV -> List SO -> Prop) : Prop := sh ≠ [] /\ br (sh.getLastD Str.empty != Str.ofString "colgroup") nt (k { D with keep := (sh.length : Int) - 1, mode := "in table", again := again } ns [])
noncomputable def ladQ (D : Due) (ns : List SV) (kind space name text : Str) (at' : List SV) (k : Due -> List SV -> List SO -> Prop) : Prop := k { D with added := .tup [.str kind, .str space, .str name, .ref (.m 0), .str text] } ns [.list at']
noncomputable def lcolQ (D : Due) (ns : List SV) (sh : List Str) (t : Tk) (c : TC) (k : Due -> List SV -> List SO -> Prop) : Prop := match c with
  | .nm w => lnQ D ns (.tup [.str w, .str D.mode, t.sv]) k
  | .er w => lnQ D ns (noteL D w) k
  | .el n => ladQ D ns "element" "html" n "" at1 k
  | .cl kind again => ltailQ D ns sh (catQ D ns kind k) again k
  | .lv => ltailQ D ns sh (lnQ D ns (noteL D "unexpected-text") k) true k
  | .tx x => ladQ D ns "text" "" "" x [] k
  | .com x => ladQ D ns "comment" "" "" x [] k
  | .tb _ => catQ D ns "end" k
theorem lcol_eq (st : Option St) (D : Due) (ns sh al kids atts cops ab) (Q : HS -> Prop) : toks.map (fun t => callF (EV lorcs 70) 795 [.ref dueO, .ref shO, t.sv] (hsL st D ns sh al kids atts cops ab []) (AvN Q)) = toks.map (fun t => lcolQ D ns sh t (colC t) fun D' ns' tm => Q (hsL st D' ns' sh al kids atts cops ab tm)) := by kernel_rfl
noncomputable def cellAt (sh : List Str) (i : Int) : Bool := (["html", "tr", "template"].map Str.ofString).contains (shAt sh i)
noncomputable def ltdQ (H : List SO -> HS) (D : Due) (ns : List SV) (sh : List Str) (n : Str) (t : Tk) (k : Due -> List SV -> List SO -> Prop) : Prop :=
  let f := rngEls 0 (sh.length : Int) 1
  let L : Int -> SVS := fun i => [vr "k" (.si i), vr "name" (.str n), vr "kind" (.str "start"), vr "token" t.sv, vr "shown" (.ref shO), vr "due" (.ref dueO)]
  Builtin.Range.small 0 (sh.length : Int) 1 = true /\ ∃ P : Int -> Bool, (∀ i, i ∈ f -> ∀ part : List Int, (0 <= i /\ i < (sh.length : Int)) /\ br (cellAt sh i) (true = P i /\ L i = L i /\ H [.il part] = H [.il part]) (false = P i /\ L i = L i /\ H [.il part] = H [.il part])) /\
    lim f.length /\ f.filter P ≠ [] /\ ∀ M, M ∈ f.filter P -> (∀ a, a ∈ f.filter P -> a <= M) -> k { D with keep := 1 + M, added := .tup [.str "element", .str "html", .str n, .ref (.m 1), .str ""], marks := "more", mode := "in cell" } ns [.il (f.filter P), .list at1]
noncomputable def ltbQ (H : List SO -> HS) (D : Due) (ns : List SV) (sh : List Str) (n : Str) (k : Due -> List SV -> List SO -> Prop) : Prop :=
  sh.length <= 1000 /\ sh.any stops.contains = true /\ stops.contains n = false /\ br (scopeL n sh == -1) (lnQ D ns (noteL D "unexpected-end-tag") k)
    (sh.length <= 1000 /\ sh.any stops.contains = true /\ stops.contains (Str.ofString "tr") = false /\ br (scopeL "tr" sh != -1)
      (lcloseQ H D ns sh "end" "tr" "in table body" (fun D' ns' tm => k { D' with again := true } ns' tm) fun D' ns' tm => k { D' with again := false } ns' tm)
      (k D ns []))
noncomputable def lrowQ (H : List SO -> HS) (D : Due) (ns : List SV) (sh : List Str) (t : Tk) (c : TC) (k : Due -> List SV -> List SO -> Prop) : Prop := match c with
  | .el n => ltdQ H D ns sh n t k
  | .cl kind again => lcloseQ H D ns sh kind "tr" "in table body" (fun D' ns' tm => k { D' with again := again } ns' tm) k
  | .tb n => ltbQ H D ns sh n k
  | .er w => lnQ D ns (noteL D w) k
  | .nm w => lnQ D ns (.tup [.str w, .str "in row", t.sv]) k
  | _ => False
theorem lrow_eq (st : Option St) (D : Due) (ns sh al kids atts cops ab) (Q : HS -> Prop) : toks.map (fun t => callF (EV lorcs 70) 800 [.ref dueO, .ref shO, t.sv] (hsL st D ns sh al kids atts cops ab []) (AvN Q)) = toks.map (fun t => lrowQ (fun u => hsL st D ns sh al kids atts cops ab u) D ns sh t (rowC t) fun D' ns' tm => Q (hsL st D' ns' sh al kids atts cops ab tm)) := by kernel_rfl
section
variable {w : World} {hB : Heap} {n : Nat} {A : Around} {env : Env} {vs : VS} {H : AHeap} {ρ : Rho} {s : Shared}
noncomputable def Tok (s : Shared) : Prop := s.toks ≠ 0
noncomputable abbrev Run0 (w : World) (hB : Heap) {α β : Type} (rel : Heap -> Rho -> AHeap -> β -> α -> Prop) (A : Around) (env : Env) (t : Sem α) (vs : VS) (H : AHeap) (Q : β -> VS -> AHeap -> Prop) : Prop := RunT Tok w hB rel A env t vs H Q
theorem store0 {x : Str} (hx : env.kindOf x = some .local) : StoreT Tok w hB A env x := fun vs H ρ s a v K O hv k => by
  obtain ⟨m, hm, hl⟩ := O.fr.loc
  refine wpAny_storeName_local hx hm (fun h' hn hs => ?_) (by rw [O.kind]; rfl)
  obtain ⟨O', S⟩ := O.storeL hx hv hm hl hn hs (s.toks + 1)
  exact k _ _ O' S (Nat.succ_ne_zero _)
theorem s_cons0 {st : Stmt} {rest : List Stmt} {Q} (h : Run0 w hB relF A env (exec st env) vs H fun o vs' H' => o = .next /\ RS w hB A env (execs rest env) vs' H' Q) : Run0 w hB relF A env (execs (st :: rest) env) vs H Q := fun ρ s K z O k => by
  refine wpAny_execs_cons (h ρ s _ z O fun f o ρ' vs' H' s' O' S r q => ?_)
  obtain ⟨rfl, q⟩ := q
  cases f <;> first | exact r.elim | skip
  exact q ρ' s' K O' fun a b ρ'' vs'' H'' s'' O'' S' r' q' => k a b ρ'' vs'' H'' s'' O'' (S.trans S') r' q'
set_option tactic.hygienic true in
theorem s_repl (b : Base w hB) {x y a c u : Str} {p p1 p2 p3 ap pos pos2 : Pos} {k1 k2 : Nat} {Q : Out -> VS -> AHeap -> Prop} (hx : isOwn env x = true) (hy : env.kindOf y = some .local) (hd : (y == ("__debug__" : Str)) = false) (hv : vs y = some (.str u)) (hp : (ap.endLine == pos.line) = true)
    (hu : u.length <= 1000) (hc : c.length <= 14) (hac : (a == c) = false)
    (hs : swapsWith (.Call (.Attribute (.Name y p1) "replace" ap) [.Constant (.str a) k1 p2, .Constant (.str c) k2 p3] [] pos) (some (.Name x p)) pos2.line env = pure false)
    (h : Q .next (updV vs x (.str (Txt.replace u a c))) H) : Run0 w hB relF A env (exec (.Assign [.Name x p] (.Call (.Attribute (.Name y p1) "replace" ap) [.Constant (.str a) k1 p2, .Constant (.str c) k2 p3] [] pos) pos2) env) vs H Q := fun ρ s K z O k => by
  obtain ⟨m, hm, hl⟩ := O.fr.loc
  obtain ⟨v, ev, r⟩ := hl y _ hy hv
  refine wpAny_Assign_Name ?_ hs
  show wpAny _ _ (attributeBase (.Name y p1) "replace" env (eval (.Name y p1) env) >>= fun ov => standAt ap.atName >>= fun _ => methodCall (.Name y p1) "replace" ap pos env ov (2 + 0) (backTo pos (starEach [.Constant (.str a) k1 p2, .Constant (.str c) k2 p3] env)) []) _ _ _
  rw [base_of (by rfl)]
  refine wpAny_bind (wpAny_Name (wpAny_loadName_local O.kind hy hm ev (wpAny_bind (wpAny_standAt ?_))) hd)
  cases r with | str _ t =>
  have hf : methodCallForm (2 + 0) (backTo pos (starEach [.Constant (.str a) k1 p2, .Constant (.str c) k2 p3] env)) [] = true := by
    unfold methodCallForm
    rw [noStars_all (by rfl)]
    rfl
  unfold methodCall
  rw [hf]
  refine wpAny_bind (wpAny_holding ?_)
  unfold calleeOf
  rw [if_pos rfl]
  refine getMethod_builtin (T := "str") (show typeOf (.str u t) = pure (.type "str") from rfl) PySem.F.plainAttrs_str PySem.F.slot_str_replace PySem.F.type_str_replace (fun a e => by cases e) ?_
  dsimp only
  have hpos : methodCallPos true (.Name y p1) env ap pos = pure pos := by
    unfold methodCallPos
    rw [if_pos (by rw [hp]; rfl)]
  rw [hpos]
  refine wpAny_bind (wpAny_pure ?_)
  refine callWith_of (P := fun h => (Kf w.params).In h) (by rw [noStars_any (by rfl)]; rfl) (keep_builtin _) ?_
  rw [starEach_cons (by rfl)]
  refine evalArgs_plain ?_
  rw [starEach_cons (by rfl)]
  refine spliced_cons (wpAny_Constant_str (k := k1) (pos := p2) (spliced_cons (wpAny_Constant_str (k := k2) (pos := p3) (spliced_none ?_))))
  refine ⟨O.kin b, ?_⟩
  refine PySem.SC.replaceW z (Nat.succ_ne_zero _) (Nat.ne_of_lt (Nat.lt_succ_self _)) hac (by omega) hc fun t' k' => ?_
  have O1 : Ok w hB env vs H ρ { s with toks := k' } := O.toks k'
  have S1 : Step env ρ H s ρ H { s with toks := k' } := Step.toks k'
  exact r_store (Q := fun vs'' H'' => Q .next vs'' H'') hx h O1 (.str _ t') fun ρ'' vs'' H'' s'' O'' S' q' => k _ .next ρ'' vs'' H'' s'' O'' (S1.trans S') trivial q'
end
section
variable {w : World} {hB : Heap} {n : Nat} {h : HS} {A : Around} {env : Env} {l : SVS} {sc : Scope} {r : Rec}
set_option tactic.hygienic true in
theorem S_for0 (R : RecOK w hB n r sc) (hs : env.scope = sc) (hA : AOk n A) {x : Str} {xp p : Pos} {iter : PySem.Expr} {b : List Stmt} {Q : SOut -> SVS -> HS -> Prop} (hx : env.kindOf x = some .local) (hi : notSet iter = true) (ns : List Str) (J : Nat -> SVS -> HS -> Prop) (s : Small h)
    (h1 : r.e iter l h fun a l1 h1 => ∃ (o : Oid) (es : List Str), a.av = .ref o /\ (∀ k l2 h2, Small h2 -> J k l2 h2 -> h2.get o = some (.sl es)) /\ J 0 (norm ns l1) h1 /\
      (∀ k e l2 h2, Small h2 -> J k l2 h2 -> es[k]? = some e -> Run0 w hB relF A env (execs b env) (vsf ((x, .str e) :: l2)) (mkH h2) (OQ fun o l3 h3 => o = .next /\ J (k + 1) (norm ns l3) h3)) /\
      (∀ l2 h2, Small h2 -> J es.length l2 h2 -> Q .next l2 h2)) : RS w hB A env (exec (.For (.Name x xp) iter b [] p) env) (vsf l) (mkH h) (OQ Q) := by
  refine S_forT Tok hA (store0 hx) hi ns J ((R.e hs hA s h1).mono (SQ.go fun a l1 h1 s1 ⟨o, es, q1, q2, q3, q4, q5⟩ => .mk s1 ⟨.txts o es, q1, q2, q3, fun k e l2 h2 s2 j he => ?_, by rw [show (SSrc.txts o es).els.length = es.length from List.length_map ..]; exact q5⟩))
  have he : (es.map SV.str)[k]? = some e := he
  rw [List.getElem?_map] at he
  obtain ⟨e', he', rfl⟩ := Option.map_eq_some_iff.mp he
  exact (q4 k e' l2 h2 s2 j he').mono (OQ.go fun o l3 h3 s3 ⟨r1, r2⟩ => by subst r1; exact ⟨.next, _, _, rfl, rfl, rfl, s3, r2⟩)
end
@[irreducible] noncomputable def caseF : FnE := (fnAt 805 4 fnC).getD ⟨0, stAt 0, "", .none, .none, 0, 0, []⟩
@[irreducible] noncomputable def cs (i : Nat) : Stmt := stOf (bodyOf caseF.st) i
@[irreducible] noncomputable def csc : Scope := scopeOf caseF.st
noncomputable abbrev wO : Oid := .t 1
noncomputable abbrev mO : Oid := .t 2
noncomputable abbrev arL (ws : List Str) (mk : List Int) : List (Oid × SO) := [(wO, .sl ws), (mO, .il mk)]
noncomputable def hs0 (ws : List Str) (mk : List Int) : HS := ⟨none, arL ws mk, [], [], [], none, []⟩
noncomputable def ls0 (mode : Str) (t : Tk) : SVS := [vr "marks" (.ref mO), vr "token" t.sv, vr "words" (.ref wO), vr "mode" (.str mode)]
noncomputable def St.new (mode : Str) : St := ⟨["document"], [""], [""], [""], 1, 1, [-1], [], [], [], mode, false, []⟩
noncomputable def bldOrd : List Fix := [.rules, .bldF, .bld, .treeF, .tree, .kinds, .spaces, .names, .attrs, .texts, .parents, .children, .contents, .stkF, .stk, .items, .fmtF, .fmt, .marks, .modes, .owners, .errors, .pending]
noncomputable def hs1 (ws : List Str) (mk : List Int) : HS := ⟨none, arL ws mk ++ bldOrd.map fun k => (Oid.s k, (St.new "initial").get k), [[]], [[]], [], none, []⟩
noncomputable def ls1 (mode : Str) (t : Tk) : SVS := vr "builder" (.ref (.s .bld)) :: ls0 mode t
theorem case0 (ws mk mode t) (Q : SOut -> SVS -> HS -> Prop) : stepS (EV [] 70) csc (cs 0) (ls0 mode t) (hs0 ws mk) Q = (lim 1 /\ lim 1 /\ lim 1 /\ ((0 : Nat) = 0 /\ lim 1) /\ lim 1 /\ lim 1 /\ ((0 : Nat) = 0 /\ lim 1) /\ Q .next (ls1 mode t) (hs1 ws mk)) := by kernel_rfl
theorem hs1_get (ws mk) (o : Oid) : (hs1 ws mk).get o = (hsO (St.new "initial") (arL ws mk) [[]] [[]] [] none []).get o := by
  cases o with
  | s k => cases k <;> rfl
  | t k => 
    show List.lookup (Oid.t k) (arL ws mk ++ _) = List.lookup (Oid.t k) (arL ws mk)
    rw [List.lookup_append]
    have : List.lookup (Oid.t k) (bldOrd.map fun k => (Oid.s k, (St.new "initial").get k)) = none := rfl
    rw [this, Option.or_none]
  | _ => rfl
noncomputable abbrev nodO : Oid := .t (649 * 256 + 1)
noncomputable abbrev homO : Oid := .t (649 * 256 + 2)
noncomputable abbrev htO : Oid := .t (650 * 256)
noncomputable abbrev wsO : Oid := .t (650 * 256 + 1)
noncomputable def ls2 (mode : Str) (t : Tk) : SVS := vr "tree" (.ref (.s .tree)) :: ls1 mode t
noncomputable def ls3 (mode : Str) (t : Tk) : SVS := vr "shown" (.ref shO) :: vr "nodes" (.ref nodO) :: vr "homes" (.ref homO) :: ls2 mode t
noncomputable abbrev al3 (ws : List Str) (mk : List Int) (sh : List Str) (nd hm : List Int) : List (Oid × SO) := arL ws mk ++ [(shO, .sl sh), (nodO, .il nd), (homO, .il hm)]
noncomputable abbrev al4 (ws : List Str) (mk : List Int) (sh : List Str) (nd hm : List Int) : List (Oid × SO) := al3 ws mk sh nd hm ++ [(htO, .sl ["html"]), (wsO, .sl ("html" :: ws))]
theorem case1 (S : St) (al kids atts mode t) (Q : SOut -> SVS -> HS -> Prop) : stepS (EV [] 70) csc (cs 1) (ls1 mode t) (hsO S al kids atts [] none []) Q = Q .next (ls1 mode t) (hsO { S with mode := mode } al kids atts [] none []) := by kernel_rfl
theorem case2 (S : St) (al kids atts mode t) (Q : SOut -> SVS -> HS -> Prop) : stepS (EV [] 70) csc (cs 2) (ls1 mode t) (hsO S al kids atts [] none []) Q = Q .next (ls2 mode t) (hsO S al kids atts [] none []) := by kernel_rfl
noncomputable def stV : Stmt -> PySem.Expr
  | .Assign _ e _ => e
  | _ => .Constant .none 0 ⟨0, 0, 0, 0⟩
noncomputable def stTs : Stmt -> List PySem.Expr
  | .Assign ts _ _ => ts
  | _ => []
theorem case3 (S : St) (ws mk kids atts mode t) (Q : SV -> SVS -> HS -> Prop) : ((EV [] 71) csc).e (stV (cs 3)) (ls2 mode t) (hsO S (arL ws mk) kids atts [] none []) Q = Q (.tup [.ref shO, .ref nodO, .ref homO]) (ls2 mode t) (hsO S (al3 ws mk [] [] [0]) kids atts [] none []) := by kernel_rfl
theorem case4i (S : St) (ws mk sh nd hm kids atts mode t) (Q : SV -> SVS -> HS -> Prop) : ((EV orcs2 71) csc).e (stT (cs 4)) (ls3 mode t) (hsO S (al3 ws mk sh nd hm) kids atts [] none []) Q = (lim (1 + ws.length) /\ Q (.ref wsO) (ls3 mode t) (hsO S (al4 ws mk sh nd hm) kids atts [] none [])) := by kernel_rfl
noncomputable def pool : List Str := ["html", "table", "tbody", "tr", "td", "caption", "colgroup", "template", "p", "b", "*tr", "thead", "tfoot", "*caption", "*colgroup", "li"].map Str.ofString
noncomputable def wName (w : Str) : Str := Txt.replace w "*" ""
noncomputable def wSp (w : Str) : Str := match wName w == w with
  | true => "html"
  | false => "svg"
noncomputable def wSh (w : Str) : Str := match wName w == w with
  | true => wName w
  | false => ""
noncomputable def turnQ (S : St) (ws : List Str) (mk : List Int) (sh : List Str) (nd hm : List Int) (kids : List (List Int)) (atts : List (List SV)) (w : Str) (k : St -> List Str -> List Int -> List Int -> List (List Int) -> List (List SV) -> Prop) : Prop :=
  let H (S : St) (kids : List (List Int)) (atts : List (List SV)) : HS := hsO S (al4 ws mk sh nd hm) kids atts [] none []
  let n : Int := S.kinds.length
  let go (h : HS) : Prop := hm ≠ [] /\ insF h (fun _ h2 => onSt h2 fun S2 => lim (S2.items.length + 1) /\ lim (nd.length + 1) /\ lim (sh.length + 1) /\ lim (hm.length + 1) /\ k { S2 with items := S2.items ++ [n] } (sh ++ [wSh w]) (nd ++ [n]) (hm ++ [(S2.contents.lookup n).getD n]) h2.kids h2.atts) (hm.getLastD 0) n
  Even S (H S kids atts) /\ (match w == "template" with
    | true => onSt ((H S kids atts).addN S "element" (wSp w) (wName w) "" []) fun S1 => Even S1 (H S1 (kids ++ [[]]) (atts ++ [[]])) /\ lim (S1.contents.length + 1) /\
      onSt ((H S1 (kids ++ [[]]) (atts ++ [[]])).addN S1 "fragment" "" "" "" []) fun S2 => go (H { S2 with contents := storeN S2.contents n (S1.kinds.length) } (kids ++ [[]] ++ [[]]) (atts ++ [[]] ++ [[]]))
    | false => go ((H S kids atts).addN S "element" (wSp w) (wName w) "" []))
theorem case4b (S : St) (ws mk sh nd hm kids atts mode t) (Q : SOut -> SVS -> HS -> Prop) : pool.map (fun w => ((EV orcs2 71) csc).s (stB (cs 4)).tail (vr "name" (.str (wName w)) :: vr "word" (.str w) :: ls3 mode t) (hsO S (al4 ws mk sh nd hm) kids atts [] none []) Q) =
    pool.map fun w => turnQ S ws mk sh nd hm kids atts w fun S' sh' nd' hm' kids' atts' => Q .next (vr "node" (.si S.kinds.length) :: vr "name" (.str (wName w)) :: vr "word" (.str w) :: ls3 mode t) (hsO S' (al4 ws mk sh' nd' hm') kids' atts' [] none []) := by kernel_rfl
noncomputable def St.hom (S : St) (i : Int) : Int := (S.contents.lookup i).getD i
theorem look_mem {l : List (Int × Int)} {i v : Int} (h : l.lookup i = some v) : (i, v) ∈ l := by
  induction l with
  | nil => cases h
  | cons p l ih =>
    rw [List.lookup_cons] at h
    by_cases q : i = p.1
    · have : (i == p.1) = true := by simpa using q
      rw [this] at h; cases h
      rw [q]; exact .head _
    · have : (i == p.1) = false := by simpa using q
      rw [this] at h
      exact .tail _ (ih h)
structure BInv (mode : Str) (k : Nat) (S : St) (sh : List Str) (nd hm : List Int) (kids : List (List Int)) (atts : List (List SV)) : Prop where
  sp : S.spaces.length = S.kinds.length
  nm : S.names.length = S.kinds.length
  tx : S.texts.length = S.kinds.length
  pa : S.parents.length = S.kinds.length
  at' : S.nat = S.kinds.length
  ch : S.nch = S.kinds.length
  ki : kids.length = S.kinds.length
  tt : atts.length = S.kinds.length
  big : S.kinds.length <= 1 + 2 * k
  pos : 0 < S.kinds.length
  up : ∀ (i : Nat) (p : Int), S.parents[i]? = some p -> p < (i : Int) /\ -1 <= p
  cont : ∀ q ∈ S.contents, q.1 < q.2 /\ q.2 < S.kinds.length /\ 0 < q.1
  clen : S.contents.length <= k
  rng : ∀ i ∈ nd, 0 < i /\ i < S.kinds.length
  kd : ∀ i : Nat, 0 < i -> S.kinds[i]? ≠ some "document"
  it : S.items = nd
  shE : sh = nd.map S.sh
  hmE : hm = 0 :: nd.map S.hom
  svg : ∀ i ∈ nd, S.sp i = "html" ∨ S.sp i = "svg" /\ svgN.contains (S.nm i) = false
  top : kids[(hm.getLastD 0).toNat]? = some []
  first : k ≠ 0 -> sh.head? = some "html"
  nlen : nd.length = k
  wds : ∃ ws : List Str, (∀ w ∈ ws, w ∈ pool) /\ sh = ws.map wSh
  nn : ∀ i ∈ nd, S.sp i = "html" -> S.nm i ≠ Str.empty
  kl : ∀ l ∈ kids, l.length <= 100
  ae : ∀ a ∈ atts, a = []
  lay : (∀ x ∈ S.kinds, PyData.strOk x = true) /\ (∀ x ∈ S.spaces, PyData.strOk x = true) /\ (∀ x ∈ S.names, PyData.strOk x = true) /\ (∀ x ∈ S.texts, PyData.strOk x = true)
  cst : S.marks = [] /\ S.errors = [] /\ S.ack = false /\ S.mode = mode
theorem inv0 (mode : Str) : BInv mode 0 (St.new mode) [] [] [0] [[]] [[]] where
  sp := rfl
  nm := rfl
  tx := rfl
  pa := rfl
  at' := rfl
  ch := rfl
  ki := rfl
  tt := rfl
  big := Nat.le_refl _
  pos := Nat.succ_pos _
  up := fun i p h => by
    cases i with
    | zero => cases h; decide
    | succ i => cases h
  cont := fun q h => nomatch h
  clen := Nat.le_refl _
  rng := fun i h => nomatch h
  kd := fun i h => by
    cases i with
    | zero => exact absurd h (Nat.lt_irrefl _)
    | succ i => intro q; cases q
  it := rfl
  shE := rfl
  hmE := rfl
  svg := fun i h => nomatch h
  top := rfl
  first := fun h => absurd rfl h
  nlen := rfl
  wds := ⟨[], fun w h => (nomatch h), rfl⟩
  nn := fun i h => nomatch h
  kl := fun l h => by cases h with | head => exact Nat.zero_le _ | tail _ h => cases h
  ae := fun l h => by cases h with | head => rfl | tail _ h => cases h
  lay := by refine ⟨?_, ?_, ?_, ?_⟩ <;> (intro x h; cases h with | head => (first | rfl | kernel_rfl) | tail _ h => cases h)
  cst := ⟨rfl, rfl, rfl, rfl⟩
theorem BInv.home {mode k S sh nd hm kids atts} (I : BInv mode k S sh nd hm kids atts) : ∀ i ∈ nd, 0 < S.hom i /\ S.hom i < S.kinds.length := fun i hi => by
  have h := I.rng i hi
  unfold St.hom
  cases q : S.contents.lookup i with
  | none => exact h
  | some v =>
    have := I.cont _ (look_mem q)
    exact ⟨by show 0 < v; lia, this.2.1⟩
theorem BInv.hrng {mode k S sh nd hm kids atts} (I : BInv mode k S sh nd hm kids atts) : ∀ i ∈ hm, 0 <= i /\ i < S.kinds.length := fun i hi => by
  rw [I.hmE] at hi
  cases hi with
  | head => exact ⟨Int.le_refl _, by have := I.pos; lia⟩
  | tail _ hi =>
    obtain ⟨j, hj, rfl⟩ := List.mem_map.mp hi
    have := I.home j hj
    lia
theorem getLastD_mem {l : List Int} (h : l ≠ []) (d : Int) : l.getLastD d ∈ l := by
  rw [List.getLastD_eq_getLast?, List.getLast?_eq_some_getLast h]
  exact List.getLast_mem h
theorem pool_nn : pool.all (fun w => !(wName w == Str.empty)) = true := by kernel_rfl
theorem pool_lay : pool.all (fun w => PyData.strOk (wName w) && PyData.strOk (wSp w)) = true := by kernel_rfl
theorem pool_svg : pool.all (fun w => wName w == w || !(svgN.contains (wName w))) = true := by kernel_rfl
theorem wSp_svg {w : Str} (h : w ∈ pool) : wSp w = "html" ∨ wSp w = "svg" /\ svgN.contains (wName w) = false := by
  have := List.all_eq_true.mp pool_svg w h
  unfold wSp
  cases q : wName w == w with
  | true => exact .inl rfl
  | false => rw [q] at this; exact .inr ⟨rfl, by simpa using this⟩
theorem wSh_eq (w : Str) : wSh w = if wSp w = "html" then wName w else Str.empty := by
  unfold wSh wSp
  cases wName w == w with
  | true => rw [if_pos rfl]
  | false => rw [if_neg (by decide)]; rfl
noncomputable def St.grow (S : St) (w : Str) (xk xe : List Str) (m : Nat) (xc : List (Int × Int)) : St := { S with kinds := S.kinds ++ (Str.ofString "element" :: xk), spaces := S.spaces ++ (wSp w :: xe), names := S.names ++ (wName w :: xe), texts := S.texts ++ (Str.ofString "" :: xe), nat := S.nat + m, nch := S.nch + m, parents := S.parents ++ List.replicate m (-1), contents := S.contents ++ xc }
noncomputable def Extra (n : Int) (xk xe : List Str) (m : Nat) (xc : List (Int × Int)) : Prop := xk = [] /\ xe = [] /\ m = 1 /\ xc = [] ∨ xk = [Str.ofString "fragment"] /\ xe = [Str.ofString ""] /\ m = 2 /\ xc = [(n, n + 1)]
theorem Extra.facts {n : Int} {xk xe m xc} (x : Extra n xk xe m xc) : xk.length + 1 = m /\ xe.length + 1 = m /\ 1 <= m /\ m <= 2 /\ (∀ q ∈ xc, q.1 = n /\ q.2 = n + 1 /\ m = 2) /\ xc.length <= 1 /\ (xc.lookup n).getD n < n + m /\ n <= (xc.lookup n).getD n /\ (∀ y ∈ xk, y = Str.ofString "fragment") /\ (∀ y ∈ xe, y = Str.ofString "") := by
  rcases x with ⟨rfl, rfl, rfl, rfl⟩ | ⟨rfl, rfl, rfl, rfl⟩
  · exact ⟨rfl, rfl, by lia, by lia, (fun q h => nomatch h), Nat.zero_le _, by show n < n + ((1 : Nat) : Int); lia, Int.le_refl _, (fun y h => nomatch h), (fun y h => nomatch h)⟩
  · have : ([(n, n + 1)] : List (Int × Int)).lookup n = some (n + 1) := by rw [List.lookup_cons]; simp
    rw [this]
    exact ⟨rfl, rfl, by lia, by lia, (fun q h => by cases h with | head => exact ⟨rfl, rfl, rfl⟩ | tail _ h => cases h), Nat.le_refl _, by show n + 1 < n + ((2 : Nat) : Int); lia, by show n <= n + 1; lia, (fun y h => by cases h with | head => rfl | tail _ h => cases h), (fun y h => by cases h with | head => rfl | tail _ h => cases h)⟩
theorem look_old {l xc : List (Int × Int)} {n i : Int} (h : ∀ q ∈ xc, q.1 = n) (hi : i ≠ n) : (l ++ xc).lookup i = l.lookup i := by
  rw [List.lookup_append]
  have : xc.lookup i = none := by
    cases q : xc.lookup i with
    | none => rfl
    | some v => exact absurd (h _ (look_mem q)) hi
  rw [this, Option.or_none]
theorem look_new {l xc : List (Int × Int)} {n : Int} (h : ∀ q ∈ l, q.1 < n) : (l ++ xc).lookup n = xc.lookup n := by
  rw [List.lookup_append]
  have : l.lookup n = none := by
    cases q : l.lookup n with
    | none => rfl
    | some v => have := h _ (look_mem q); exact absurd this (Int.lt_irrefl _)
  rw [this, Option.none_or]
theorem getD_left {α : Type} {l r : List α} {i : Nat} {d : α} (h : i < l.length) : (l ++ r).getD i d = l.getD i d := by
  rw [List.getD_eq_getElem?_getD, List.getD_eq_getElem?_getD, List.getElem?_append_left h]
theorem getD_at {α : Type} {l r : List α} {x : α} {i : Nat} {d : α} (h : i = l.length) : (l ++ x :: r).getD i d = x := by
  subst h
  rw [List.getD_eq_getElem?_getD, List.getElem?_append_right (Nat.le_refl _), Nat.sub_self]; rfl
noncomputable def St.grown (S : St) (w : Str) (xk xe : List Str) (m : Nat) (xc : List (Int × Int)) (p : Int) : St :=
  { S.grow w xk xe m xc with parents := (S.parents ++ List.replicate m (-1)).set S.kinds.length p, items := S.items ++ [(S.kinds.length : Int)] }
set_option tactic.hygienic true in
theorem grown_inv {mode k S sh nd hm kids atts} (I : BInv mode k S sh nd hm kids atts) {w : Str} (hw : w ∈ pool) (h0 : k = 0 -> w = "html") {xk xe m xc} (x : Extra (S.kinds.length : Int) xk xe m xc) :
    BInv mode (k + 1) (S.grown w xk xe m xc (hm.getLastD 0)) (sh ++ [wSh w]) (nd ++ [(S.kinds.length : Int)]) (hm ++ [((S.contents ++ xc).lookup (S.kinds.length : Int)).getD S.kinds.length])
      ((kids ++ List.replicate m []).set (hm.getLastD 0).toNat [(S.kinds.length : Int)]) (atts ++ List.replicate m []) := by
  obtain ⟨x1, x2, x3, x4, x5, x6, x7, x8, x9, x10⟩ := x.facts
  have hmne : hm ≠ [] := by rw [I.hmE]; intro h; cases h
  have hp := I.hrng _ (getLastD_mem hmne 0)
  have hpos := I.pos
  have hN : (S.grown w xk xe m xc (hm.getLastD 0)).kinds.length = S.kinds.length + m := by
    show (S.kinds ++ (_ :: xk)).length = _
    rw [List.length_append, List.length_cons]; lia
  have cl : ∀ q ∈ S.contents, q.1 < (S.kinds.length : Int) := fun q hq => by have := I.cont q hq; lia
  have homN : (S.grown w xk xe m xc (hm.getLastD 0)).hom S.kinds.length = (xc.lookup (S.kinds.length : Int)).getD S.kinds.length := by
    show ((S.contents ++ xc).lookup (S.kinds.length : Int)).getD _ = _
    rw [look_new cl]
  have homE : ((S.contents ++ xc).lookup (S.kinds.length : Int)).getD S.kinds.length = (xc.lookup (S.kinds.length : Int)).getD S.kinds.length := homN
  have spO : ∀ i, 0 <= i /\ i < (S.kinds.length : Int) -> (S.grown w xk xe m xc (hm.getLastD 0)).sp i = S.sp i := fun i hi => getD_left (by rw [I.sp]; lia)
  have nmO : ∀ i, 0 <= i /\ i < (S.kinds.length : Int) -> (S.grown w xk xe m xc (hm.getLastD 0)).nm i = S.nm i := fun i hi => getD_left (by rw [I.nm]; lia)
  have spN : (S.grown w xk xe m xc (hm.getLastD 0)).sp S.kinds.length = wSp w := getD_at (by rw [I.sp]; rfl)
  have nmN : (S.grown w xk xe m xc (hm.getLastD 0)).nm S.kinds.length = wName w := getD_at (by rw [I.nm]; rfl)
  have shO : ∀ i, 0 <= i /\ i < (S.kinds.length : Int) -> (S.grown w xk xe m xc (hm.getLastD 0)).sh i = S.sh i := fun i hi => by unfold St.sh; rw [spO i hi, nmO i hi]
  have shN : (S.grown w xk xe m xc (hm.getLastD 0)).sh S.kinds.length = wSh w := by unfold St.sh; rw [spN, nmN, wSh_eq]
  refine ⟨?_, ?_, ?_, ?_, ?_, ?_, ?_, ?_, ?_, ?_, ?_, ?_, ?_, ?_, ?_, ?_, ?_, ?_, ?_, ?_, ?_, ?_, ?_, ?_, ?_, ?_, ?_, I.cst⟩
  · rw [hN]; show (S.spaces ++ _ :: xe).length = _; rw [List.length_append, List.length_cons, I.sp]; lia
  · rw [hN]; show (S.names ++ _ :: xe).length = _; rw [List.length_append, List.length_cons, I.nm]; lia
  · rw [hN]; show (S.texts ++ _ :: xe).length = _; rw [List.length_append, List.length_cons, I.tx]; lia
  · rw [hN]; show ((S.parents ++ _).set _ _).length = _; rw [List.length_set, List.length_append, List.length_replicate, I.pa]
  · rw [hN]; show S.nat + m = _; rw [I.at']
  · rw [hN]; show S.nch + m = _; rw [I.ch]
  · rw [hN, List.length_set, List.length_append, List.length_replicate, I.ki]
  · rw [hN, List.length_append, List.length_replicate, I.tt]
  · rw [hN]; have := I.big; lia
  · rw [hN]; lia
  · intro i q h
    have h : ((S.parents ++ List.replicate m (-1)).set S.kinds.length (hm.getLastD 0))[i]? = some q := h
    rw [List.getElem?_set] at h
    split at h
    · rename_i e
      split at h
      · cases h; lia
      · cases h
    · by_cases e : i < S.parents.length
      · rw [List.getElem?_append_left e] at h; exact I.up i q h
      · rw [List.getElem?_append_right (by lia), List.getElem?_replicate] at h
        split at h
        · cases h; lia
        · cases h
  · intro q hq
    rw [hN]
    rcases List.mem_append.mp hq with hq | hq
    · have := I.cont q hq; lia
    · obtain ⟨q1, q2, q3⟩ := x5 q hq; lia
  · show (S.contents ++ xc).length <= _; rw [List.length_append]; have := I.clen; lia
  · intro i hi
    rw [hN]
    rcases List.mem_append.mp hi with hi | hi
    · have := I.rng i hi; lia
    · have := List.mem_singleton.mp hi; lia
  · intro i hi
    show (S.kinds ++ (_ :: xk))[i]? ≠ _
    by_cases e : i < S.kinds.length
    · rw [List.getElem?_append_left e]; exact I.kd i hi
    · rw [List.getElem?_append_right (by lia)]
      cases q : i - S.kinds.length with
      | zero => intro h; revert h; show some (Str.ofString "element") ≠ some (Str.ofString "document"); decide
      | succ j =>
        intro h
        have h : xk[j]? = some (Str.ofString "document") := h
        have := x9 _ (List.mem_of_getElem? h)
        revert this; decide
  · show S.items ++ _ = _; rw [I.it]
  · rw [List.map_append, I.shE]
    congr 1
    · exact List.map_congr_left fun i hi => (shO i (by have := I.rng i hi; lia)).symm
    · show [wSh w] = [_]; rw [shN]
  · rw [List.map_append, homE]
    show hm ++ _ = (0 :: _) ++ _
    rw [I.hmE]
    show 0 :: (_ ++ _) = 0 :: (_ ++ _)
    congr 2
    · refine List.map_congr_left fun i hi => ?_
      show _ = ((S.contents ++ xc).lookup i).getD i
      rw [look_old (fun q hq => (x5 q hq).1) (by have := I.rng i hi; lia)]; rfl
    · show [_] = [(S.grown w xk xe m xc (hm.getLastD 0)).hom S.kinds.length]; rw [homN]
  · intro i hi
    rcases List.mem_append.mp hi with hi | hi
    · have hr := I.rng i hi
      rw [spO i (by lia), nmO i (by lia)]; exact I.svg i hi
    · rw [List.mem_singleton.mp hi, spN, nmN]; exact wSp_svg hw
  · rw [show (hm ++ [((S.contents ++ xc).lookup (S.kinds.length : Int)).getD S.kinds.length]).getLastD 0 = ((S.contents ++ xc).lookup (S.kinds.length : Int)).getD S.kinds.length by rw [List.getLastD_eq_getLast?, List.getLast?_append]; rfl, homE]
    have hki := I.ki
    rw [List.getElem?_set_ne (by lia), List.getElem?_append_right (by lia), List.getElem?_replicate, if_pos (by lia)]
  · intro _
    by_cases e : k = 0
    · have hn : nd = [] := List.eq_nil_of_length_eq_zero (by rw [I.nlen, e])
      rw [I.shE, hn, h0 e]
      kernel_rfl
    · have := I.first e
      cases sh with
      | nil => cases this
      | cons a r => exact this
  · rw [List.length_append, I.nlen]; rfl
  · obtain ⟨ws, h1, h2⟩ := I.wds
    refine ⟨ws ++ [w], fun x hx => ?_, by rw [h2, List.map_append]; rfl⟩
    rcases List.mem_append.mp hx with hx | hx
    · exact h1 x hx
    · rw [List.mem_singleton.mp hx]; exact hw
  · intro i hi
    rcases List.mem_append.mp hi with hi | hi
    · have hr := I.rng i hi
      rw [spO i (by lia), nmO i (by lia)]; exact I.nn i hi
    · rw [List.mem_singleton.mp hi, nmN]
      intro _
      have := List.all_eq_true.mp pool_nn w hw
      simpa using this
  · intro l hl
    rcases List.mem_or_eq_of_mem_set hl with hl | rfl
    · rcases List.mem_append.mp hl with hl | hl
      · exact I.kl l hl
      · rw [(List.mem_replicate.mp hl).2]; exact Nat.zero_le _
    · show 1 <= 100; decide
  · intro a ha
    rcases List.mem_append.mp ha with ha | ha
    · exact I.ae a ha
    · exact (List.mem_replicate.mp ha).2
  · have hwl := List.all_eq_true.mp pool_lay w hw
    rw [Bool.and_eq_true] at hwl
    have fr : PyData.strOk (Str.ofString "fragment") = true := by kernel_rfl
    have em : PyData.strOk (Str.ofString "") = true := by kernel_rfl
    have ee : PyData.strOk (Str.ofString "element") = true := by kernel_rfl
    refine ⟨fun x hx => ?_, fun x hx => ?_, fun x hx => ?_, fun x hx => ?_⟩
    · rcases List.mem_append.mp hx with hx | hx
      · exact I.lay.1 x hx
      · rcases List.mem_cons.mp hx with rfl | hx
        · exact ee
        · rw [x9 x hx]; exact fr
    · rcases List.mem_append.mp hx with hx | hx
      · exact I.lay.2.1 x hx
      · rcases List.mem_cons.mp hx with rfl | hx
        · exact hwl.2
        · rw [x10 x hx]; exact em
    · rcases List.mem_append.mp hx with hx | hx
      · exact I.lay.2.2.1 x hx
      · rcases List.mem_cons.mp hx with rfl | hx
        · exact hwl.1
        · rw [x10 x hx]; exact em
    · rcases List.mem_append.mp hx with hx | hx
      · exact I.lay.2.2.2 x hx
      · rcases List.mem_cons.mp hx with rfl | hx
        · exact em
        · rw [x10 x hx]; exact em
theorem storeN_new {l : List (Int × Int)} {n v : Int} (h : ∀ q ∈ l, q.1 < n) : storeN l n v = l ++ [(n, v)] := by
  unfold storeN
  rw [if_neg]
  intro q
  obtain ⟨p, hp, e⟩ := List.any_eq_true.mp q
  have := h p hp
  have : p.1 = n := by simpa using e
  lia
theorem turn_ok {mode k S sh nd hm kids atts} (I : BInv mode k S sh nd hm kids atts) (hk : k <= 10) {ws : List Str} {mk : List Int} {w : Str} (hw : w ∈ pool) (h0 : k = 0 -> w = "html") {K : St -> List Str -> List Int -> List Int -> List (List Int) -> List (List SV) -> Prop}
    (h : ∀ S' sh' nd' hm' kids' atts', BInv mode (k + 1) S' sh' nd' hm' kids' atts' -> sh' = sh ++ [wSh w] -> nd' = nd ++ [(S.kinds.length : Int)] -> K S' sh' nd' hm' kids' atts') : turnQ S ws mk sh nd hm kids atts w K := by
  have hmne : hm ≠ [] := by rw [I.hmE]; intro h; cases h
  have hp := I.hrng _ (getLastD_mem hmne 0)
  have hpos := I.pos
  have hbig := I.big
  have shl : sh.length = k := by rw [I.shE, List.length_map, I.nlen]
  have hml : hm.length = k + 1 := by rw [I.hmE, List.length_cons, List.length_map, I.nlen]
  have cl : ∀ q ∈ S.contents, q.1 < (S.kinds.length : Int) := fun q hq => by have := I.cont q hq; lia
  have Ev : ∀ tm, Even S (hsO S (al4 ws mk sh nd hm) kids atts [] none tm) := fun tm => ⟨I.sp, I.nm, I.tx, I.pa, I.at', I.ch, I.ki, I.tt, by lia⟩
  have go : ∀ {xk xe m xc}, Extra (S.kinds.length : Int) xk xe m xc -> hm ≠ [] /\ insF (hsO (S.grow w xk xe m xc) (al4 ws mk sh nd hm) (kids ++ List.replicate m []) (atts ++ List.replicate m []) [] none []) (fun _ h2 => onSt h2 fun S2 => lim (S2.items.length + 1) /\ lim (nd.length + 1) /\ lim (sh.length + 1) /\ lim (hm.length + 1) /\ K { S2 with items := S2.items ++ [(S.kinds.length : Int)] } (sh ++ [wSh w]) (nd ++ [(S.kinds.length : Int)]) (hm ++ [(S2.contents.lookup (S.kinds.length : Int)).getD S.kinds.length]) h2.kids h2.atts) (hm.getLastD 0) S.kinds.length := fun {xk xe m xc} x => by
    have G := grown_inv I hw h0 x
    obtain ⟨x1, x2, x3, x4, x5, x6, x7, x8, x9, x10⟩ := x.facts
    have hpa := I.pa
    have hki := I.ki
    have hch := I.ch
    have pl : (S.grow w xk xe m xc).parents.length = S.kinds.length + m := by show (S.parents ++ List.replicate m (-1)).length = _; rw [List.length_append, List.length_replicate, hpa]
    refine ⟨hmne, ⟨fun i hi => ?_, by lia⟩, ⟨hp.1, hp.2, by lia, by show _ < ((S.nch + m : Nat) : Int); lia, ?_⟩, [], ?_, Nat.zero_le _, ?_⟩
    · have e : (S.grow w xk xe m xc).parents[i]? = some (S.grow w xk xe m xc).parents[i] := List.getElem?_eq_getElem hi
      have e' : (S.parents ++ List.replicate m (-1))[i]? = some (S.grow w xk xe m xc).parents[i] := e
      by_cases q : i < S.parents.length
      · rw [List.getElem?_append_left q] at e'; exact I.up i _ e'
      · rw [List.getElem?_append_right (by lia), List.getElem?_replicate] at e'
        split at e'
        · have := Option.some.inj e'; exact this ▸ ⟨tn_1 i, Int.le_refl _⟩
        · cases e'
    · show (S.parents ++ List.replicate m (-1)).getD ((S.kinds.length : Int)).toNat 0 = -1
      have z : ((S.kinds.length : Int)).toNat = S.kinds.length := rfl
      rw [z, List.getD_eq_getElem?_getD, List.getElem?_append_right (by lia), List.getElem?_replicate, if_pos (by lia)]; rfl
    · show (kids ++ List.replicate m [])[(hm.getLastD 0).toNat]? = some []
      rw [List.getElem?_append_left (by lia)]; exact I.top
    · refine ⟨?_, by show _ <= _; have := I.nlen; lia, by show _ <= _; lia, by show _ <= _; lia, ?_⟩
      · show (S.items.length + 1) <= _; rw [I.it]; have := I.nlen; lia
      · exact h _ _ _ _ _ _ G rfl rfl
  refine ⟨Ev [], ?_⟩
  cases q : w == "template" with
  | false =>
    have := go (xk := []) (xe := []) (m := 1) (xc := []) (.inl ⟨rfl, rfl, rfl, rfl⟩)
    have e : S.grow w [] [] 1 [] = { S with kinds := S.kinds ++ [Str.ofString "element"], spaces := S.spaces ++ [wSp w], names := S.names ++ [wName w], texts := S.texts ++ [Str.ofString ""], nat := S.nat + 1, nch := S.nch + 1, parents := S.parents ++ [-1] } := by
      unfold St.grow; rw [List.append_nil]; rfl
    rw [e] at this
    exact this
  | true =>
    have := go (xk := [Str.ofString "fragment"]) (xe := [Str.ofString ""]) (m := 2) (xc := [((S.kinds.length : Int), (S.kinds.length : Int) + 1)]) (.inr ⟨rfl, rfl, rfl, rfl⟩)
    dsimp only
    refine ⟨⟨?_, ?_, ?_, ?_, ?_, ?_, ?_, ?_, ?_⟩, ?_, ?_⟩
    · show (S.spaces ++ [_]).length = (S.kinds ++ [_]).length; rw [List.length_append, List.length_append, I.sp]; rfl
    · show (S.names ++ [_]).length = (S.kinds ++ [_]).length; rw [List.length_append, List.length_append, I.nm]; rfl
    · show (S.texts ++ [_]).length = (S.kinds ++ [_]).length; rw [List.length_append, List.length_append, I.tx]; rfl
    · show (S.parents ++ [_]).length = (S.kinds ++ [_]).length; rw [List.length_append, List.length_append, I.pa]; rfl
    · show S.nat + 1 = (S.kinds ++ [_]).length; rw [List.length_append, I.at']; rfl
    · show S.nch + 1 = (S.kinds ++ [_]).length; rw [List.length_append, I.ch]; rfl
    · show (kids ++ [_]).length = (S.kinds ++ [_]).length; rw [List.length_append, List.length_append, I.ki]; rfl
    · show (atts ++ [_]).length = (S.kinds ++ [_]).length; rw [List.length_append, List.length_append, I.tt]; rfl
    · show (S.kinds ++ [_]).length <= _; rw [List.length_append]; show _ + 1 <= _; lia
    · show S.contents.length + 1 <= _; have := I.clen; lia
    · have e : S.grow w [Str.ofString "fragment"] [Str.ofString ""] 2 [((S.kinds.length : Int), (S.kinds.length : Int) + 1)] = { S with kinds := S.kinds ++ [Str.ofString "element"] ++ [Str.ofString "fragment"], spaces := S.spaces ++ [wSp w] ++ [Str.ofString ""], names := S.names ++ [wName w] ++ [Str.ofString ""], texts := S.texts ++ [Str.ofString ""] ++ [Str.ofString ""], nat := S.nat + 1 + 1, nch := S.nch + 1 + 1, parents := S.parents ++ [-1] ++ [-1], contents := storeN S.contents (S.kinds.length : Int) ((S.kinds ++ [Str.ofString "element"]).length : Int) } := by
        unfold St.grow
        rw [storeN_new cl, List.length_append]
        simp only [List.append_assoc, List.cons_append, List.nil_append]
        rfl
      have e2 : kids ++ List.replicate 2 [] = kids ++ [[]] ++ [[]] := by rw [List.append_assoc]; rfl
      have e3 : atts ++ List.replicate 2 [] = atts ++ [[]] ++ [[]] := by rw [List.append_assoc]; rfl
      rw [e, e2, e3] at this
      exact this
noncomputable def P0 : Pos := ⟨0, 0, 0, 0⟩
noncomputable def asP : Stmt -> Pos
  | .Assign [.Name _ p] _ _ => p
  | _ => P0
noncomputable def caF : PySem.Expr -> PySem.Expr
  | .Call f _ _ _ => f
  | e => e
noncomputable def caA : PySem.Expr -> List PySem.Expr
  | .Call _ as _ _ => as
  | _ => []
noncomputable def atO : PySem.Expr -> PySem.Expr
  | .Attribute o _ _ => o
  | e => e
noncomputable def coK : PySem.Expr -> Nat
  | .Constant _ k _ => k
  | _ => 0
@[irreducible] noncomputable def q0 : Stmt := stOf (stB (cs 4)) 0
@[irreducible] noncomputable def q0v : PySem.Expr := stV q0
@[irreducible] noncomputable def q0a (i : Nat) : PySem.Expr := ((caA q0v)[i]?).getD (.Constant .none 0 P0)
@[irreducible] noncomputable def q0c : PySem.Expr := .Call (.Attribute (.Name "word" (atO (caF q0v)).pos) "replace" (caF q0v).pos) [.Constant (.str "*") (coK (q0a 0)) (q0a 0).pos, .Constant (.str "") (coK (q0a 1)) (q0a 1).pos] [] q0v.pos
theorem body4 : stB (cs 4) = .Assign [.Name "name" (asP q0)] q0c q0.pos :: (stB (cs 4)).tail := by kernel_rfl
theorem q0_line : ((caF q0v).pos.endLine == q0v.pos.line) = true := by kernel_rfl
theorem cs4_eq : cs 4 = .For (.Name "word" (stXp (cs 4))) (stT (cs 4)) (stB (cs 4)) [] (cs 4).pos := by kernel_rfl
noncomputable def elts3 : List PySem.Expr -> List PySem.Expr
  | [.Tuple es _ _] => es
  | _ => []
noncomputable def eltsK : List PySem.Expr -> Nat
  | [.Tuple _ k _] => k
  | _ => 0
noncomputable def eltsP : List PySem.Expr -> Pos
  | [.Tuple _ _ p] => p
  | _ => P0
theorem cs3_eq : cs 3 = .Assign [.Tuple (elts3 (stTs (cs 3))) (eltsK (stTs (cs 3))) (eltsP (stTs (cs 3)))] (stV (cs 3)) (cs 3).pos := by kernel_rfl
theorem case_body : bodyOf caseF.st = cs 0 :: cs 1 :: cs 2 :: cs 3 :: cs 4 :: (bodyOf caseF.st).drop 5 := by kernel_rfl
noncomputable def ns3 : List Str := ["shown", "nodes", "homes", "tree", "builder", "marks", "token", "words", "mode"].map Str.ofString
theorem norm3 (mode t) : norm ns3 (ls3 mode t) = ls3 mode t := by kernel_rfl
theorem norm4 (mode t) (a b c : SV) : norm ns3 (vr "node" a :: vr "name" b :: vr "word" c :: ls3 mode t) = ls3 mode t := by kernel_rfl
theorem csc_kind : csc.kind = .function := by kernel_rfl
theorem csc_word : csc.names.lookup (Str.ofString "word") = some NameKind.local := by kernel_rfl
theorem sw3 {env : Env} (hs : env.scope = csc) : swapsWithSole [.Tuple (elts3 (stTs (cs 3))) (eltsK (stTs (cs 3))) (eltsP (stTs (cs 3)))] (stV (cs 3)) (cs 3).pos.line env = pure false := by
  obtain ⟨⟩ := env; cases hs; kernel_rfl
theorem sw3' {env : Env} (hs : env.scope = csc) : swappedStores [.Tuple (elts3 (stTs (cs 3))) (eltsK (stTs (cs 3))) (eltsP (stTs (cs 3)))] (stV (cs 3)) env = pure (some [Str.ofString "shown", Str.ofString "nodes", Str.ofString "homes"]) := by
  obtain ⟨⟩ := env; cases hs; kernel_rfl
theorem pool_small : pool.all (fun w => decide (w.length <= 1000)) = true := by kernel_rfl
theorem mkH_ext {h h' : HS} (e : ∀ o, h.get o = h'.get o) : mkH h = mkH h' := by funext o; unfold mkH; rw [e]
theorem small_ext {h h' : HS} (e : ∀ o, h.get o = h'.get o) (s : Small h) : Small h' := fun i y hy => s i y (by rw [e]; exact hy)
theorem updV_vsf (l : SVS) (x : Str) (a : SV) : updV (vsf l) x a.av = vsf ((x, a) :: l) := (vsf_cons l x a).symm
inductive PreI (mode : Str) (ws wl : List Str) (mk : List Int) (k : Nat) : HS -> Prop
  | at (S : St) (sh : List Str) (nd hm : List Int) (kids : List (List Int)) (atts : List (List SV)) (I : BInv mode k S sh nd hm kids atts) (e : sh = (wl.take k).map wSh) : PreI mode ws wl mk k (hsO S (al4 ws mk sh nd hm) kids atts [] none [])
theorem case_pre {w : World} {hB : Heap} (b : Base w hB) {env : Env} {A : Around} (hs : env.scope = csc) (hA : AOk 142 A) {mode : Str} {t : Tk} {ws : List Str} {mk : List Int} (hws : ∀ w ∈ ws, w ∈ pool) (hwl : ws.length <= 9) (sm : Small (hs0 ws mk)) {Q : SOut -> SVS -> HS -> Prop}
    (k2 : ∀ S sh nd hm kids atts, BInv mode (ws.length + 1) S sh nd hm kids atts -> sh = (Str.ofString "html" :: ws).map wSh -> Small (hsO S (al4 ws mk sh nd hm) kids atts [] none []) ->
      RS w hB A env (execs ((bodyOf caseF.st).drop 5) env) (vsf (ls3 mode t)) (mkH (hsO S (al4 ws mk sh nd hm) kids atts [] none [])) (OQ Q)) :
    RS w hB A env (execs (bodyOf caseF.st) env) (vsf (ls0 mode t)) (mkH (hs0 ws mk)) (OQ Q) := by
  have hk := csc_kind
  have l1 : lim 1 := by show 1 <= _; lia
  rw [case_body]
  refine S_at (k := 70) b noO hk hs hA sm (ls1 mode t) (hs1 ws mk) (kmp (case0 ws mk mode t _) ⟨l1, l1, l1, ⟨rfl, l1⟩, l1, l1, ⟨rfl, l1⟩, rfl, rfl, rfl⟩) fun s1 => ?_
  rw [mkH_ext (hs1_get ws mk)]
  have s1 := small_ext (hs1_get ws mk) s1
  refine S_at (k := 70) b noO hk hs hA s1 (ls1 mode t) (hsO (St.new mode) (arL ws mk) [[]] [[]] [] none []) (kmp (case1 _ _ _ _ mode t _) ⟨rfl, rfl, rfl⟩) fun s1 => ?_
  refine S_at (k := 70) b noO hk hs hA s1 (ls2 mode t) (hsO (St.new mode) (arL ws mk) [[]] [[]] [] none []) (kmp (case2 _ _ _ _ mode t _) ⟨rfl, rfl, rfl⟩) fun s1 => ?_
  refine s_cons ?_
  rw [cs3_eq]
  refine s_tuple_swapped hA (xs := [Str.ofString "shown", Str.ofString "nodes", Str.ofString "homes"]) (by
    have : [Str.ofString "shown", Str.ofString "nodes", Str.ofString "homes"].all (fun x => ownS csc x) = true := by kernel_rfl
    exact List.all_eq_true.mpr fun x hx => ownS_ok hs (List.all_eq_true.mp this x hx)) (sw3 hs) (sw3' hs) ?_
  have R0 := EV_ok b (noO (w := w) (hB := hB)) 71 csc hk
  refine (R0.e hs hA s1 (Q := fun a l h => a = .tup [.ref shO, .ref nodO, .ref homO] /\ l = ls2 mode t /\ h = hsO (St.new mode) (al3 ws mk [] [] [0]) [[]] [[]] [] none []) (kmp (case3 _ _ _ _ _ mode t _) ⟨rfl, rfl, rfl⟩)).mono (SQ.at fun s1 => ?_)
  refine ⟨[AV.ref shO, AV.ref nodO, AV.ref homO], rfl, rfl, ?_⟩
  show RS w hB A env _ (updV (updV (updV (vsf (ls2 mode t)) (Str.ofString "homes") (SV.ref homO).av) (Str.ofString "nodes") (SV.ref nodO).av) (Str.ofString "shown") (SV.ref shO).av) _ _
  rw [updV_vsf, updV_vsf, updV_vsf]
  show RS w hB A env (execs (cs 4 :: (bodyOf caseF.st).drop 5) env) (vsf (ls3 mode t)) _ _
  have R := EV_ok b (orcs2_ok b) 71 csc hk
  let wl := Str.ofString "html" :: ws
  have hph : pool.contains (Str.ofString "html") = true := by kernel_rfl
  have hpool : ∀ w ∈ wl, w ∈ pool := fun w hw => by
    rcases List.mem_cons.mp hw with rfl | h
    · exact List.contains_iff_mem.mp hph
    · exact hws w h
  have h1l : lim (1 + ws.length) := by show _ <= _; lia
  refine s_cons (Run.mono (Q := OQ fun o l h => o = .next /\ l = ls3 mode t /\ PreI mode ws wl mk (ws.length + 1) h) ?_ (OQ.go fun o l h s1 q => ?_))
  · rw [cs4_eq]
    refine S_for0 R hs hA (by show env.scope.names.lookup _ = _; rw [hs]; exact csc_word) (by kernel_rfl) ns3 (fun k l h => l = ls3 mode t /\ PreI mode ws wl mk k h) s1
      (kmp (case4i _ _ _ _ _ _ _ _ mode t _) ⟨h1l, wsO, wl, rfl, ?_, ⟨norm3 mode t, .at _ _ _ _ _ _ (inv0 mode) rfl⟩, ?_, ?_⟩)
    · rintro k l2 h2 _ ⟨_, ⟨⟩⟩; rfl
    · rintro k e l2 h2 s2 ⟨rfl, S, sh, nd, hm, kids, atts, I, hsh⟩ he
      have hew : e ∈ wl := List.mem_of_getElem? he
      have hep := hpool e hew
      have hel : e.length <= 1000 := by
        have := List.all_eq_true.mp pool_small e hep
        simpa using this
      have hkl : k < wl.length := (List.getElem?_eq_some_iff.mp he).1
      have hkl : k < ws.length + 1 := hkl
      rw [body4]
      refine s_cons0 ?_
      unfold q0c
      refine s_repl b (u := e) (ownS_ok hs (by kernel_rfl)) (by show env.scope.names.lookup _ = _; rw [hs]; exact csc_word) (by decide) (by rw [vsf_cons]; unfold updV; rw [if_pos rfl]; rfl) q0_line hel (by decide) (by decide) rfl ⟨rfl, ?_⟩
      show RS w hB A env _ (updV (vsf (vr "word" (.str e) :: ls3 mode t)) (Str.ofString "name") (SV.str (wName e)).av) _ _
      rw [updV_vsf]
      refine R.s hs hA s2 (kmp (List.map_inj_left.mp (case4b S ws mk sh nd hm kids atts mode t _) e hep) ?_)
      refine turn_ok I (by lia) hep (fun h0 => ?_) fun S' sh' nd' hm' kids' atts' I' e1 e2 => ⟨rfl, norm4 mode t _ _ _, .at S' sh' nd' hm' kids' atts' I' ?_⟩
      · subst h0; cases he; rfl
      · rw [e1, hsh, List.take_add_one, he, List.map_append]; rfl
    · exact fun l2 h2 s2 q => ⟨rfl, q.1, q.2⟩
  · obtain ⟨rfl, rfl, S, sh, nd, hm, kids, atts, I, hsh⟩ := q
    exact k2 S sh nd hm kids atts I (hsh.trans (congrArg _ (List.take_of_length_le (Nat.le_refl _)))) s1
theorem case5i (S : St) (al kids atts mode t) (Q : SV -> SVS -> HS -> Prop) : ((EV [] 71) csc).e (stT (cs 5)) (ls3 mode t) (hsO S al kids atts [] none []) Q = Q (.ref mO) (ls3 mode t) (hsO S al kids atts [] none []) := by kernel_rfl
theorem case5b (S : St) (al kids atts mode t) (i : Int) (Q : SOut -> SVS -> HS -> Prop) : ((EV [] 71) csc).s (stB (cs 5)) (vr "mark" (.si i) :: ls3 mode t) (hsO S al kids atts [] none []) Q = (lim (S.marks.length + 1) /\ Q .next (vr "mark" (.si i) :: ls3 mode t) (hsO { S with marks := S.marks ++ [i] } al kids atts [] none [])) := by kernel_rfl
theorem cs5_eq : cs 5 = .For (.Name "mark" (stXp (cs 5))) (stT (cs 5)) (stB (cs 5)) [] (cs 5).pos := by kernel_rfl
theorem norm5 (mode t) (a : SV) : norm ns3 (vr "mark" a :: ls3 mode t) = ls3 mode t := by kernel_rfl
noncomputable abbrev kO (c : Nat) : Oid := .t (660 * 256 + c)
noncomputable def ls6 (mode : Str) (t : Tk) : SVS := vr "kept" (.ref (kO 11)) :: ls3 mode t
noncomputable abbrev cpL (S : St) : List (Oid × SO) := [(kO 12, .sl S.kinds), (kO 30, .sl S.spaces), (kO 49, .sl S.names), (kO 67, .ar S.nat), (kO 85, .sl S.texts), (kO 11, .list [.ref (kO 12), .ref (kO 30), .ref (kO 49), .ref (kO 67), .ref (kO 85)])]
noncomputable abbrev paO : Oid := .t (661 * 256)
noncomputable abbrev chO : Oid := .t (662 * 256)
noncomputable abbrev al6 (S : St) (ws : List Str) (mk : List Int) (sh : List Str) (nd hm : List Int) : List (Oid × SO) := al4 ws mk sh nd hm ++ cpL S
noncomputable abbrev al7 (S : St) (ws : List Str) (mk : List Int) (sh : List Str) (nd hm : List Int) : List (Oid × SO) := al6 S ws mk sh nd hm ++ [(paO, .il S.parents)]
noncomputable def ls7 (mode : Str) (t : Tk) : SVS := vr "parents" (.ref paO) :: ls6 mode t
theorem case6 (S : St) (ws mk sh nd hm kids atts mode t) (Q : SOut -> SVS -> HS -> Prop) : stepS (EV [] 70) csc (cs 6) (ls3 mode t) (hsO S (al4 ws mk sh nd hm) kids atts [] none []) Q = Q .next (ls6 mode t) (hsO S (al6 S ws mk sh nd hm) kids atts [] none []) := by kernel_rfl
theorem case7 (S : St) (ws mk sh nd hm kids atts mode t) (Q : SOut -> SVS -> HS -> Prop) : stepS (EV [] 70) csc (cs 7) (ls6 mode t) (hsO S (al6 S ws mk sh nd hm) kids atts [] none []) Q = Q .next (ls7 mode t) (hsO S (al7 S ws mk sh nd hm) kids atts [] none []) := by kernel_rfl
noncomputable def lcE : PySem.Expr -> PySem.Expr
  | .ListComp e _ _ _ => e
  | e => e
noncomputable def lcG : PySem.Expr -> List Comprehension
  | .ListComp _ g _ _ => g
  | _ => []
noncomputable def lcI : List Comprehension -> PySem.Expr
  | [⟨_, i, _, _⟩] => i
  | _ => .Constant .none 0 P0
noncomputable def lcX : List Comprehension -> PySem.Expr
  | [⟨t, _, _, _⟩] => t
  | _ => .Constant .none 0 P0
noncomputable def lcS : PySem.Expr -> Scope
  | .ListComp _ _ s _ => s
  | _ => ⟨.function, [], false, false, []⟩
@[irreducible] noncomputable def c8 : PySem.Expr := stV (cs 8)
@[irreducible] noncomputable def sc8 : Scope := lcS c8
@[irreducible] noncomputable def c8i : PySem.Expr := lcI (lcG c8)
noncomputable def c8e : PySem.Expr := .Call (.Name "list" (caF (lcE c8)).pos) [.Name "kids" (((caA (lcE c8))[0]?).getD (PySem.Expr.Constant .none 0 P0)).pos] [] (lcE c8).pos
theorem cs8_eq : cs 8 = .Assign [.Name "children" (asP (cs 8))] (.ListComp c8e [⟨.Name "kids" (lcX (lcG c8)).pos, c8i, [], 0⟩] sc8 c8.pos) (cs 8).pos := by kernel_rfl
theorem sc8_ok : compOK sc8 csc "kids" = true := by kernel_rfl
theorem sw8 {env : Env} (hs : env.scope = csc) : swapsWith (.ListComp c8e [⟨.Name "kids" (lcX (lcG c8)).pos, c8i, [], 0⟩] sc8 c8.pos) (some (.Name "children" (asP (cs 8)))) (cs 8).pos.line env = pure true := by
  obtain ⟨⟩ := env; cases hs; kernel_rfl
theorem case8i (S : St) (mode t) (al kids atts) (Q : SV -> SVS -> HS -> Prop) : ((EV [] 71) csc).e c8i (ls7 mode t) (hsO S al kids atts [] none []) Q = Q (.ref (.s .children)) (ls7 mode t) (hsO S al kids atts [] none []) := by kernel_rfl
theorem case8l (l : SVS) (h : HS) (k : Nat) (p : Pos) (Q : SV -> SVS -> HS -> Prop) : ((EV [] 71) (relS sc8 csc)).e (.Name "list" p) (vr "kids" (.ref (.kid k)) :: innerL sc8 l) h Q = Q (.val (.type "list")) (vr "kids" (.ref (.kid k)) :: innerL sc8 l) h := by kernel_rfl
theorem case8k (l : SVS) (h : HS) (k : Nat) (p : Pos) (Q : SV -> SVS -> HS -> Prop) : ((EV [] 71) (relS sc8 csc)).e (.Name "kids" p) (vr "kids" (.ref (.kid k)) :: innerL sc8 l) h Q = Q (.ref (.kid k)) (vr "kids" (.ref (.kid k)) :: innerL sc8 l) h := by kernel_rfl
theorem sc8_kind : (relS sc8 csc).kind = .function := by kernel_rfl
noncomputable def cRefs (n : Nat) : List SV := (List.range n).map fun j => SV.ref (.c j)
theorem cRefs_snoc (k : Nat) : cRefs (k + 1) = cRefs k ++ [.ref (.c k)] := by unfold cRefs; rw [List.range_succ, List.map_append]; rfl
theorem avs_cRefs (k : Nat) : avs (cRefs k) = (List.range k).map fun j => AV.ref (.c j) := by rw [avs_map]; unfold cRefs; rw [List.map_map]; rfl
noncomputable abbrev hs8 (S : St) (al : List (Oid × SO)) (kids : List (List Int)) (atts : List (List SV)) (k : Nat) : HS := hsO S (al ++ [(chO, .list (cRefs k))]) kids atts (kids.take k) none []
theorem hs8_get {S al kids atts} (hal : al.lookup chO = none) (k : Nat) (o : Oid) : (hs8 S al kids atts k).get o = match o with
    | .t j => if j = 662 * 256 then some (.list (cRefs k)) else al.lookup (.t j)
    | .c j => ((kids.take k)[j]?).map .il
    | o => (hsO S al kids atts [] none []).get o := by
  cases o with
  | t j =>
    show List.lookup (Oid.t j) (al ++ [(chO, .list (cRefs k))]) = _
    rw [List.lookup_append]
    dsimp only
    by_cases q : j = 662 * 256
    · subst q
      rw [if_pos rfl, hal, List.lookup_cons]; simp
    · rw [if_neg q, List.lookup_cons]
      have : (Oid.t j == chO) = false := by simpa using q
      rw [this]; simp
  | _ => rfl
theorem case8 {w : World} {hB : Heap} (b : Base w hB) {n : Nat} {env : Env} {A : Around} (hs : env.scope = csc) (hA : AOk (2 * 71) A) {S : St} {al kids atts mode t rest} (sm : Small (hsO S al kids atts [] none [])) (hal : al.lookup chO = none) (hk : kids.length = S.nch) (hb : S.nch <= 1000) {Q : SOut -> SVS -> HS -> Prop}
    (k2 : Small (hs8 S al kids atts S.nch) -> RS w hB A env (execs rest env) (vsf (vr "children" (.ref chO) :: ls7 mode t)) (mkH (hs8 S al kids atts S.nch)) (OQ Q)) :
    RS w hB A env (execs (cs 8 :: rest) env) (vsf (ls7 mode t)) (mkH (hsO S al kids atts [] none [])) (OQ Q) := by
  have get := fun k => hs8_get (S := S) (kids := kids) (atts := atts) hal k
  have small : ∀ k, k <= S.nch -> Small (hs8 S al kids atts k) := fun k hkn o x e => by
    rw [get] at e
    cases o with
    | t j =>
      dsimp only at e
      split at e
      · cases e
        exact ⟨fun l hl => by
          have : some (avs (cRefs k)) = some l := hl
          cases this
          rw [avs_cRefs, List.length_map, List.length_range]; exact big1 (Nat.le_trans hkn hb), fun es he => by cases he⟩
      · exact sm (.t j) x e
    | c j =>
      dsimp only at e
      obtain ⟨l, h1, h2⟩ := Option.map_eq_some_iff.mp e
      have h3 : kids[j]? = some l := by
        rw [List.getElem?_take] at h1
        split at h1
        · exact h1
        · cases h1
      exact sm (.kid j) x (by show (kids[j]?).map SO.il = _; rw [h3, <- h2]; rfl)
    | _ => exact sm _ x e
  have m0 : upd (mkH (hsO S al kids atts [] none [])) chO (.list []) = mkH (hs8 S al kids atts 0) := by
    funext o
    unfold upd mkH
    rw [get]
    cases o with
    | t j =>
      by_cases q : j = 662 * 256
      · subst q; rw [if_pos rfl]; rfl
      · rw [if_neg (by intro h; cases h; exact q rfl)]; dsimp only; rw [if_neg q]; rfl
    | c j => rw [if_neg (by intro h; cases h)]; rfl
    | _ => rw [if_neg (by intro h; cases h)]
  have mS : ∀ k (xs : List Int), kids[k]? = some xs -> upd (upd (mkH (hs8 S al kids atts k)) (.c k) (.list (xs.map .int))) chO (.list (avs (cRefs (k + 1)))) = mkH (hs8 S al kids atts (k + 1)) := fun k xs hx => by
    funext o
    unfold upd mkH
    rw [get, get]
    cases o with
    | t j =>
      by_cases q : j = 662 * 256
      · subst q; rw [if_pos rfl]; rfl
      · rw [if_neg (by intro h; cases h; exact q rfl), if_neg (by intro h; cases h)]; dsimp only; rw [if_neg q, if_neg q]
    | c j =>
      rw [if_neg (by intro h; cases h)]
      dsimp only
      by_cases q : j = k
      · subst q
        rw [if_pos rfl, List.getElem?_take, if_pos (by omega), hx]; rfl
      · rw [if_neg (by intro h; cases h; exact q rfl), List.getElem?_take, List.getElem?_take]
        by_cases q2 : j < k
        · rw [if_pos q2, if_pos (by omega)]
        · rw [if_neg q2, if_neg (by omega)]
    | _ => rw [if_neg (by intro h; cases h), if_neg (by intro h; cases h)]
  intro ρ s K O k
  obtain ⟨cl, F⟩ := comp_facts O hs csc_kind sc8_ok
  refine s_cons ?_ ρ s K O k
  rw [cs8_eq]
  have R := EV_ok b (noO (w := w) (hB := hB)) 71 csc csc_kind
  have R2 := EV_ok b (noO (w := w) (hB := hB)) 71 (relS sc8 csc) sc8_kind
  refine s_name_comp (n := 2 * 71) hA (sw8 hs) (ownS_ok hs (by kernel_rfl)) F.clos F.kind F.cell F.names F.hx F.ok (notSet_ok (by kernel_rfl)) ?_
  refine (R.e hs hA sm (Q := fun a l h => a = .ref (.s .children) /\ l = ls7 mode t /\ h = hsO S al kids atts [] none []) (kmp (case8i S mode t al kids atts _) ⟨rfl, rfl, rfl⟩)).mono (SQ.at fun s1 => ?_)
  refine ⟨chO, .list (.s .children) ((List.range S.nch).map fun k => .ref (.kid k)), rfl, ?_, (by nofun), rfl, fun k ys H2 => k <= S.nch /\ ys = avs (cRefs k) /\ H2 = mkH (hs8 S al kids atts k), ⟨Nat.zero_le _, rfl, m0⟩, ?_, ?_, ?_⟩
  · show ((hsO S al kids atts [] none []).get chO).map SO.ao = none
    show (al.lookup chO).map SO.ao = none
    rw [hal]; rfl
  · rintro k ys H2 ⟨hkn, rfl, rfl⟩
    refine ⟨rfl, ?_, by rw [avs_len]; unfold cRefs; rw [List.length_map, List.length_range]; exact big1 (Nat.le_trans hkn hb)⟩
    show ((hs8 S al kids atts k).get chO).map SO.ao = _
    rw [get]; rfl
  · rintro C k e ys H2 ⟨hkn, rfl, rfl⟩ he
    have he : ((List.range S.nch).map fun k => AV.ref (.kid k))[k]? = some e := he
    rw [List.getElem?_map] at he
    obtain ⟨k', hk', rfl⟩ := Option.map_eq_some_iff.mp he
    have hkl : k < S.nch := by
      have := (List.getElem?_eq_some_iff.mp hk').1
      rwa [List.length_range] at this
    have hkk : k' = k := by
      rw [List.getElem?_range hkl] at hk'
      exact (Option.some.inj hk').symm
    subst hkk
    obtain ⟨xs, hxs⟩ : ∃ xs, kids[k']? = some xs := ⟨kids[k'], List.getElem?_eq_getElem (by omega)⟩
    dsimp only
    rw [F.inner C (ls7 mode t)]
    show RB w hB A _ _ (updV (vsf (innerL sc8 (ls7 mode t))) (Str.ofString "kids") (SV.ref (.kid k')).av) _ _
    rw [updV_vsf]
    have hE : (compEnvC sc8 cl C env).scope = relS sc8 csc := by rw [<- hs]; rfl
    have sk := small k' hkn
    refine ts_nil ⟨(updV_vsf _ _ _).symm, (fun h => by cases h), fun _ => ?_⟩
    have hname : ((mkH (hs8 S al kids atts k')) (.kid k')) = some (.list (xs.map .int)) := by
      show ((hs8 S al kids atts k').get (.kid k')).map SO.ao = _
      show ((kids[k']?).map SO.il).map SO.ao = _
      rw [hxs]; rfl
    refine e_call (n := 2 * 71) b hA (by rfl) ?_
    refine (R2.e hE hA sk (Q := fun a l h => a = .val (.type "list") /\ l = vr "kids" (.ref (.kid k')) :: innerL sc8 (ls7 mode t) /\ h = hs8 S al kids atts k') (kmp (case8l _ _ _ _ _) ⟨rfl, rfl, rfl⟩)).mono (SQ.at fun s1 => ?_)
    refine ⟨_, rfl, keep_type _, ?_⟩
    refine l_cons (by rfl) ?_
    refine (R2.e hE hA sk (Q := fun a l h => a = .ref (.kid k') /\ l = vr "kids" (.ref (.kid k')) :: innerL sc8 (ls7 mode t) /\ h = hs8 S al kids atts k') (kmp (case8k _ _ _ _ _) ⟨rfl, rfl, rfl⟩)).mono (SQ.at fun s1 => ?_)
    refine l_nil ?_
    have hxl : xs.length <= 1000000 := by
      have := (sm (.kid k') (.il xs) (by show (kids[k']?).map SO.il = _; rw [hxs]; rfl)).1 (xs.map .int) rfl
      rwa [List.length_map] at this
    refine sp_list_list (.c k') hname ?_ (by rw [List.length_map]; exact hxl) ⟨?_, ?_, Nat.succ_le_of_lt hkl, ?_, ?_⟩
    · show ((hs8 S al kids atts k').get (.c k')).map SO.ao = none
      show (((kids.take k')[k']?).map SO.il).map SO.ao = none
      rw [List.getElem?_take, if_neg (Nat.lt_irrefl _)]; rfl
    · exact (updV_vsf _ _ _).symm
    · unfold upd
      rw [if_neg (by intro h; cases h)]
      show ((hs8 S al kids atts k').get chO).map SO.ao = _
      rw [get]; rfl
    · rw [cRefs_snoc, avs_append]; rfl
    · rw [<- mS k' xs hxs, cRefs_snoc, avs_append]; rfl
  · rintro ys H2 ⟨_, rfl, rfl⟩
    have hl : (Src.list (.s .children) ((List.range S.nch).map fun k => AV.ref (.kid k))).els.length = S.nch := by show ((List.range S.nch).map _).length = _; rw [List.length_map, List.length_range]
    rw [hl]
    show RS w hB A env (execs rest env) (updV (vsf (ls7 mode t)) (Str.ofString "children") (SV.ref chO).av) _ _
    rw [updV_vsf]
    exact k2 (small _ (Nat.le_refl _))
noncomputable abbrev al8 (S : St) (ws : List Str) (mk : List Int) (sh : List Str) (nd hm : List Int) : List (Oid × SO) := al7 S ws mk sh nd hm ++ [(chO, .list (cRefs S.nch))]
noncomputable def ls8 (mode : Str) (t : Tk) : SVS := vr "children" (.ref chO) :: ls7 mode t
noncomputable def ls9 (mode : Str) (t : Tk) : SVS := vr "due" (.ref dueO) :: ls8 mode t
noncomputable def Due0 (mode : Str) (n : Int) : Due := ⟨n, mode, false, .none, ""⟩
noncomputable abbrev al9 (S : St) (ws : List Str) (mk : List Int) (sh : List Str) (nd hm : List Int) (D : Due) (ns : List SV) : List (Oid × SO) := al8 S ws mk sh nd hm ++ [(dueO, .sdict D.d), (noO', .list ns)]
theorem case9 (S : St) (ws mk sh nd hm kids atts cops mode t) (Q : SOut -> SVS -> HS -> Prop) : stepS (EV [] 70) csc (cs 9) (ls8 mode t) (hsO S (al8 S ws mk sh nd hm) kids atts cops none []) Q = Q .next (ls9 mode t) (hsO S (al9 S ws mk sh nd hm (Due0 mode sh.length) []) kids atts cops none []) := by kernel_rfl
section
variable {w : World} {hB : Heap}
theorem orc_of (b : Base w hB) {O : List Orc} (hO : ∀ o ∈ O, OrcOK w hB o) (k : Nat) {fa : Nat} {as : List SV} {h : HS} {Q : SV -> HS -> Prop} {n : Nat} (hn : 2 * k + 1 <= n) (s : Small h) (e : callF (EV O k) fa as h (AvN fun h' => ∀ v, Q v h')) : Spec w hB n (.ref fa) (avs as) (mkH h) (HQ Q) :=
  ((callF_ok b (fun sc hk => EV_ok b hO k sc hk) s e).spec.lift hn).mono fun v H ⟨b', hs, q1, q2, q3, q4⟩ => ⟨b', hs, q1, q2, q3, q4 b'⟩
noncomputable def F_cap : OrcF := fun as h Q => ∃ S t, as = [.ref (.s .bld), Tk.sv t] /\ t ∈ toks /\ h.st = some S /\ h.ab = none /\ capQ S t (capC t) fun S' => ∀ v, Q v { h with st := some S' }
theorem ok_cap (b : Base w hB) : OrcOK w hB ⟨329, 141, F_cap⟩ := fun n hn as h Q s zz => by
  obtain ⟨S, t, e1, e2, e3, e4, e5⟩ := zz
  obtain ⟨st, al, kids, atts, cops, ab, tm⟩ := h
  cases e3; cases e4; subst e1
  exact orc_of b (orcs_ok b) 70 hn s (kmp (List.map_inj_left.mp (cap_eq S al kids atts cops tm _) t e2) e5)
noncomputable def F_col : OrcF := fun as h Q => ∃ S t, as = [.ref (.s .bld), Tk.sv t] /\ t ∈ toks /\ h.st = some S /\ h.ab = none /\ colQ S h t (colC t) fun h' => ∀ v, Q v h'
theorem ok_col (b : Base w hB) : OrcOK w hB ⟨350, 141, F_col⟩ := fun n hn as h Q s zz => by
  obtain ⟨S, t, e1, e2, e3, e4, e5⟩ := zz
  obtain ⟨st, al, kids, atts, cops, ab, tm⟩ := h
  cases e3; cases e4; subst e1
  exact orc_of b (orcs2_ok b) 70 hn s (kmp (List.map_inj_left.mp (col_eq S al kids atts cops tm _) t e2) e5)
noncomputable def F_row : OrcF := fun as h Q => ∃ S t, as = [.ref (.s .bld), Tk.sv t] /\ t ∈ toks /\ h.st = some S /\ h.ab = none /\ S.mode = "in row" /\ rowQ S h t (rowC t) fun h' => ∀ v, Q v h'
theorem ok_row (b : Base w hB) : OrcOK w hB ⟨378, 141, F_row⟩ := fun n hn as h Q s zz => by
  obtain ⟨S, t, e1, e2, e3, e4, e6, e5⟩ := zz
  obtain ⟨st, al, kids, atts, cops, ab, tm⟩ := h
  cases e3; cases e4; subst e1
  have hS : S = { S with mode := "in row" } := by rw [<- e6]
  rw [hS] at e5 s ⊢
  exact orc_of b (orcs2_ok b) 70 hn s (kmp (List.map_inj_left.mp (row_eq S al kids atts cops tm _) t e2) e5)
noncomputable def unpush (h : HS) : HS := match h.al with
  | p1 :: p2 :: p3 :: al => { h with al := putA p1.1 p1.2 (putA p2.1 p2.2 (putA p3.1 p3.2 al)) }
  | _ => h
noncomputable def lawF (L : (List SO -> HS) -> Due -> List SV -> List Str -> Tk -> (Due -> List SV -> List SO -> Prop) -> Prop) : OrcF := fun as h Q =>
  ∃ D ns sh t, as = [.ref dueO, .ref shO, Tk.sv t] /\ t ∈ toks /\ h.get dueO = some (.sdict (Due.d D)) /\ h.get noO' = some (.list ns) /\ h.get shO = some (.sl sh) /\ h.tm = [] /\
    ∀ H, L H D ns sh t fun D' ns' tm => ∀ v, Q v { h with al := putA dueO (.sdict D'.d) (putA noO' (.list ns') (putA shO (.sl sh) h.al)), tm := tm }
theorem putA_get (o : Oid) (x : SO) (l : List (Oid × SO)) (i : Oid) : (putA o x l).lookup i = if i = o then some x else l.lookup i := lookup_putA
theorem get_al {st kids atts cops ab tm} {al al' : List (Oid × SO)} (e : ∀ i, al.lookup i = al'.lookup i) (o : Oid) : (⟨st, al, kids, atts, cops, ab, tm⟩ : HS).get o = (⟨st, al', kids, atts, cops, ab, tm⟩ : HS).get o := by
  cases o with
  | t k => exact e _
  | s k => cases st with
    | none => exact e _
    | some S => rfl
  | _ => rfl
theorem push3 (p1 p2 p3 : Oid × SO) (al : List (Oid × SO)) (i : Oid) : (p1 :: p2 :: p3 :: al).lookup i = (putA p1.1 p1.2 (putA p2.1 p2.2 (putA p3.1 p3.2 al))).lookup i := by
  rw [putA_get, putA_get, putA_get, List.lookup_cons, List.lookup_cons, List.lookup_cons]
  have z : ∀ p : Oid × SO, (i == p.1) = decide (i = p.1) := fun p => rfl
  by_cases q1 : i = p1.1
  · rw [if_pos q1, z, decide_eq_true q1]
  · rw [if_neg q1, z, decide_eq_false q1]
    by_cases q2 : i = p2.1
    · rw [if_pos q2, z, decide_eq_true q2]
    · rw [if_neg q2, z, decide_eq_false q2]
      by_cases q3 : i = p3.1
      · rw [if_pos q3, z, decide_eq_true q3]
      · rw [if_neg q3, z, decide_eq_false q3]
theorem unpush_get (h : HS) (o : Oid) : h.get o = (unpush h).get o := by
  obtain ⟨st, al, kids, atts, cops, ab, tm⟩ := h
  match al with
  | [] => rfl
  | [_] => rfl
  | [_, _] => rfl
  | p1 :: p2 :: p3 :: al => exact get_al (push3 p1 p2 p3 al) o
theorem law_orc (b : Base w hB) {L fa} (hL : ∀ st D ns sh al kids atts cops ab (Q : HS -> Prop), toks.map (fun t => callF (EV lorcs 70) fa [.ref dueO, .ref shO, t.sv] (hsL st D ns sh al kids atts cops ab []) (AvN Q)) = toks.map (fun t => L (fun u => hsL st D ns sh al kids atts cops ab u) D ns sh t fun D' ns' tm => Q (hsL st D' ns' sh al kids atts cops ab tm))) : OrcOK w hB ⟨fa, 141, lawF L⟩ := fun n hn as h Q s zz => by
  obtain ⟨D, ns, sh, t, e1, e2, e3, e4, e5, e6, e7⟩ := zz
  obtain ⟨st, al, kids, atts, cops, ab, tm⟩ := h
  cases e6; subst e1
  have e3 : al.lookup dueO = some (.sdict D.d) := e3
  have e4 : al.lookup noO' = some (.list ns) := e4
  have e5 : al.lookup shO = some (.sl sh) := e5
  have g0 : ∀ o, (⟨st, al, kids, atts, cops, ab, []⟩ : HS).get o = (hsL st D ns sh al kids atts cops ab []).get o := fun o => by
    refine get_al (fun i => ?_) o
    rw [push3, putA_get, putA_get, putA_get]
    by_cases q1 : i = dueO
    · subst q1; rw [if_pos rfl, e3]
    · rw [if_neg q1]
      by_cases q2 : i = noO'
      · subst q2; rw [if_pos rfl, e4]
      · rw [if_neg q2]
        by_cases q3 : i = shO
        · subst q3; rw [if_pos rfl, e5]
        · rw [if_neg q3]
  rw [mkH_ext g0]
  have s := small_ext g0 s
  let Q' : HS -> Prop := fun h' => ∀ v, Q v (unpush h')
  have key := ((callF_ok b (fun sc hk => EV_ok b (lorcs_ok b) 70 sc hk) s (kmp (List.map_inj_left.mp (hL st D ns sh al kids atts cops ab Q') t e2) (e7 _))).spec.lift hn)
  refine key.mono fun v H ⟨b', hs, q1, q2, q3, q4⟩ => ⟨b', unpush hs, q1, ?_, small_ext (unpush_get hs) q3, q4 b'⟩
  rw [q2]; exact mkH_ext (unpush_get hs)
noncomputable def lcapL : (List SO -> HS) -> Due -> List SV -> List Str -> Tk -> (Due -> List SV -> List SO -> Prop) -> Prop := fun H D ns sh t k => lcapQ H D ns sh t (capC t) k
noncomputable def lcolL : (List SO -> HS) -> Due -> List SV -> List Str -> Tk -> (Due -> List SV -> List SO -> Prop) -> Prop := fun H D ns sh t k => lcolQ D ns sh t (colC t) k
noncomputable def lrowL : (List SO -> HS) -> Due -> List SV -> List Str -> Tk -> (Due -> List SV -> List SO -> Prop) -> Prop := fun H D ns sh t k => lrowQ H D ns sh t (rowC t) k
noncomputable def orcs3 : List Orc := [⟨329, 141, F_cap⟩, ⟨350, 141, F_col⟩, ⟨378, 141, F_row⟩, ⟨788, 141, lawF lcapL⟩, ⟨795, 141, lawF lcolL⟩, ⟨800, 141, lawF lrowL⟩]
theorem orcs3_ok (b : Base w hB) : ∀ o ∈ orcs3, OrcOK w hB o := by
  unfold orcs3
  simp only [List.mem_cons, List.not_mem_nil, or_false]
  rintro o (rfl | rfl | rfl | rfl | rfl | rfl)
  · exact ok_cap b
  · exact ok_col b
  · exact ok_row b
  · exact law_orc b lcap_eq
  · exact law_orc b lcol_eq
  · exact law_orc b lrow_eq
end
theorem case10a (h : HS) (t : Tk) (Q : SOut -> SVS -> HS -> Prop) : stepS (EV orcs3 80) csc (cs 10) (ls9 "in caption" t) h Q = F_cap [.ref (.s .bld), t.sv] h fun _ h1 => lawF lcapL [.ref dueO, .ref shO, t.sv] h1 fun _ h2 => Q .next (ls9 "in caption" t) h2 := by kernel_rfl
theorem case10b (h : HS) (t : Tk) (Q : SOut -> SVS -> HS -> Prop) : stepS (EV orcs3 80) csc (cs 10) (ls9 "in column group" t) h Q = F_col [.ref (.s .bld), t.sv] h fun _ h1 => lawF lcolL [.ref dueO, .ref shO, t.sv] h1 fun _ h2 => Q .next (ls9 "in column group" t) h2 := by kernel_rfl
theorem case10c (h : HS) (t : Tk) (Q : SOut -> SVS -> HS -> Prop) : stepS (EV orcs3 80) csc (cs 10) (ls9 "in row" t) h Q = F_row [.ref (.s .bld), t.sv] h fun _ h1 => lawF lrowL [.ref dueO, .ref shO, t.sv] h1 fun _ h2 => Q .next (ls9 "in row" t) h2 := by kernel_rfl
theorem scopeR_cons (a x : Str) (m : List Str) : scopeR a (x :: m) = if (x == a) = true then (m.length : Int) else if stops.contains x = true then -1 else scopeR a m := by
  show (match x == a with | true => ((m.length : Nat) : Int) | false => match stops.contains x with | true => -1 | false => scopeR a m) = _
  cases x == a with
  | true => rfl
  | false => cases stops.contains x <;> rfl
theorem scopeR_lt (a : Str) : ∀ m : List Str, -1 <= scopeR a m /\ scopeR a m < m.length
  | [] => ⟨Int.le_refl _, by show (-1 : Int) < 0; decide⟩
  | x :: m => by
    have ih := scopeR_lt a m
    rw [scopeR_cons, List.length_cons]
    split
    · lia
    · split <;> lia
theorem scan_scope (a : Str) (f : Int -> Str) : ∀ l : List Int, scanS a f l = (scopeR a (l.map f) != -1)
  | [] => rfl
  | i :: l => by
    rw [List.map_cons, scopeR_cons]
    show (match f i == a with | true => true | false => match stops.contains (f i) with | true => false | false => scanS a f l) = _
    cases q : f i == a with
    | true =>
      rw [if_pos rfl]
      symm
      simp only [bne_iff_ne, ne_eq]
      lia
    | false =>
      rw [if_neg (by decide)]
      cases stops.contains (f i) with
      | true => rfl
      | false => rw [if_neg (by decide)]; exact scan_scope a f l
theorem drop_scope (a : Str) (f : Int -> Str) : ∀ l : List Int, scopeR a (l.map f) ≠ -1 -> dropU (fun i => [a].contains (f i)) l = l.drop (l.length - (scopeR a (l.map f)).toNat)
  | [], h => absurd rfl h
  | i :: l, h => by
    rw [List.map_cons, scopeR_cons] at h ⊢
    have ct : [a].contains (f i) = (f i == a) := by rw [List.contains_cons]; simp
    show (match [a].contains (f i) with | true => l | false => dropU (fun i => [a].contains (f i)) l) = _
    rw [ct]
    cases q : f i == a with
    | true =>
      rw [if_pos rfl, List.length_map]
      have : (i :: l).length - ((l.length : Int)).toNat = 1 := by show l.length + 1 - l.length = 1; lia
      rw [this]; rfl
    | false =>
      rw [q, if_neg (by decide)] at h
      rw [if_neg (by decide)]
      by_cases q2 : stops.contains (f i) = true
      · rw [if_pos q2] at h; exact absurd rfl h
      · rw [if_neg q2] at h ⊢
        have ih := drop_scope a f l h
        have lt := scopeR_lt a (l.map f)
        rw [List.length_map] at lt
        have : (i :: l).length - (scopeR a (l.map f)).toNat = (l.length - (scopeR a (l.map f)).toNat) + 1 := Nat.succ_sub (Nat.le_of_lt (tn_lt (tn_ge lt.1 h) lt.2))
        rw [this]
        exact ih
theorem scopeL_map (a : Str) (f : Int -> Str) (nd : List Int) : scopeL a (nd.map f) = scopeR a (nd.reverse.map f) := by unfold scopeL; rw [List.map_reverse]
theorem scopeL_lt (a : Str) (sh : List Str) : -1 <= scopeL a sh /\ scopeL a sh < sh.length := by
  have := scopeR_lt a sh.reverse
  rwa [List.length_reverse] at this
theorem popU_scope (a : Str) (f : Int -> Str) (nd : List Int) (h : scopeL a (nd.map f) ≠ -1) : popU (fun i => [a].contains (f i)) nd = nd.take (scopeL a (nd.map f)).toNat := by
  unfold popU
  rw [scopeL_map] at h ⊢
  rw [drop_scope a f _ h, List.drop_reverse, List.reverse_reverse]
  have lt := scopeR_lt a (nd.reverse.map f)
  rw [List.length_map, List.length_reverse] at lt
  rw [List.length_reverse, Nat.sub_sub_self (Nat.le_of_lt (tn_lt (tn_ge lt.1 h) lt.2))]
theorem dropU_dropI {p q : Int -> Bool} (h : ∀ i, q i = true -> p i = false) : ∀ l, dropU p (dropI q l) = dropU p l
  | [] => rfl
  | i :: l => by
    show dropU p (match q i with | true => dropI q l | false => i :: l) = match p i with | true => l | false => dropU p l
    cases e : q i with
    | true => rw [h i e]; exact dropU_dropI h l
    | false => rfl
theorem popU_popI {p q : Int -> Bool} (h : ∀ i, q i = true -> p i = false) (l : List Int) : popU p (popI q l) = popU p l := by
  unfold popU popI
  rw [List.reverse_reverse, dropU_dropI h]
noncomputable def headF (f : Int -> Str) : List Int -> Str
  | [] => Str.empty
  | i :: _ => f i
theorem open_eq (a : Str) (f : Int -> Str) (ha : implied.contains a = false) : ∀ l : List Int, scopeR a (l.map f) ≠ -1 ->
    [a].contains (headF f (dropI (fun i => implied.contains (f i)) l)) = (((l.map f).take (l.length - 1 - (scopeR a (l.map f)).toNat)).filter fun x => !implied.contains x).isEmpty
  | [], h => absurd rfl h
  | i :: l, h => by
    have ct : ∀ x, [a].contains x = (x == a) := fun x => by rw [List.contains_cons]; simp
    rw [List.map_cons, scopeR_cons] at h ⊢
    show [a].contains (headF f (match implied.contains (f i) with | true => dropI (fun i => implied.contains (f i)) l | false => i :: l)) = _
    cases q : f i == a with
    | true =>
      have q' : f i = a := by simpa using q
      rw [if_pos rfl, List.length_map, q', ha]
      have : (i :: l).length - 1 - ((l.length : Int)).toNat = 0 := by show l.length + 1 - 1 - l.length = 0; lia
      rw [this, ct]
      show (f i == a) = true
      exact q
    | false =>
      rw [q, if_neg (by decide)] at h
      rw [if_neg (by decide)]
      by_cases q2 : stops.contains (f i) = true
      · rw [if_pos q2] at h; exact absurd rfl h
      · rw [if_neg q2] at h ⊢
        have ih := open_eq a f ha l h
        have lt := scopeR_lt a (l.map f)
        rw [List.length_map] at lt
        have : (i :: l).length - 1 - (scopeR a (l.map f)).toNat = (l.length - 1 - (scopeR a (l.map f)).toNat) + 1 := tn_a (tn_lt (tn_ge lt.1 h) lt.2)
        rw [this, List.take_succ_cons]
        cases q3 : implied.contains (f i) with
        | true => rw [List.filter_cons_of_neg (by rw [q3]; decide)]; exact ih
        | false => rw [List.filter_cons_of_pos (by rw [q3]; decide)]; rw [ct]; exact q
theorem cur_headF {S : St} {its : List Int} : ({ S with items := its } : St).cur = headF S.sh its.reverse := by
  unfold St.cur
  dsimp only
  rcases List.eq_nil_or_concat its with rfl | ⟨l, i, rfl⟩
  · rfl
  · rw [List.concat_eq_append, List.getLast?_append, List.reverse_append]; rfl
theorem open_law (S : St) (nd : List Int) (h : scopeL "caption" (nd.map S.sh) ≠ -1) :
    [Str.ofString "caption"].contains ({ S with items := popI (fun i => implied.contains (S.sh i)) nd } : St).cur = (((nd.map S.sh).drop ((scopeL "caption" (nd.map S.sh)) + 1).toNat).filter fun x => !implied.contains x).isEmpty := by
  rw [cur_headF]
  unfold popI
  rw [List.reverse_reverse]
  rw [scopeL_map] at h ⊢
  rw [open_eq "caption" S.sh (by decide) nd.reverse h]
  have lt := scopeR_lt "caption" (nd.reverse.map S.sh)
  rw [List.length_map, List.length_reverse] at lt
  rw [List.length_reverse, List.map_reverse, List.take_reverse, List.filter_reverse, List.isEmpty_reverse, List.length_map]
  congr 3
  rw [List.map_reverse] at lt h
  exact tn_b (tn_ge lt.1 h) lt.2
section
variable {mode : Str} {k : Nat} {S : St} {sh : List Str} {nd hm : List Int} {kids : List (List Int)} {atts : List (List SV)}
theorem BInv.wf (I : BInv mode k S sh nd hm kids atts) (hk : k <= 10) {its : List Int} (hi : ∀ i ∈ its, i ∈ nd) (hl : its.length <= 1000) {mk : List Int} {es : List SV} (hm' : mk.length <= 1000) (he : es.length <= 1000) (m : Str) (a : Bool) : ({ S with items := its, marks := mk, errors := es, mode := m, ack := a } : St).WF := by
  have h1 := I.big
  have h2 := I.clen
  refine ⟨fun i h => ?_, hl, ?_, ?_, ?_, ?_, ?_, ?_, ?_, ?_, hm', he⟩
  · have := I.rng i (hi i h)
    show 0 <= i /\ i < S.spaces.length /\ i < S.names.length
    rw [I.sp, I.nm]; lia
  · show S.kinds.length <= _; lia
  · show S.spaces.length <= _; rw [I.sp]; lia
  · show S.names.length <= _; rw [I.nm]; lia
  · show S.texts.length <= _; rw [I.tx]; lia
  · show S.nat <= _; rw [I.at']; lia
  · show S.nch <= _; rw [I.ch]; lia
  · show S.parents.length <= _; rw [I.pa]; lia
  · show S.contents.length <= _; lia
theorem BInv.shl (I : BInv mode k S sh nd hm kids atts) : sh.length = k := by rw [I.shE, List.length_map, I.nlen]
theorem pool_sh : pool.all (fun w => PyData.strOk (wSh w)) = true := by kernel_rfl
theorem BInv.strOk (I : BInv mode k S sh nd hm kids atts) : ∀ x ∈ sh, PyData.strOk x = true := fun x hx => by
  obtain ⟨ws, h1, h2⟩ := I.wds
  rw [h2] at hx
  obtain ⟨w, hw, rfl⟩ := List.mem_map.mp hx
  exact List.all_eq_true.mp pool_sh w (h1 w hw)
theorem BInv.stop (I : BInv mode k S sh nd hm kids atts) (h0 : k ≠ 0) : sh.any stops.contains = true := by
  have := I.first h0
  cases sh with
  | nil => cases this
  | cons x r =>
    have : x = Str.ofString "html" := Option.some.inj this
    subst this
    rw [List.any_cons]
    have : stops.contains (Str.ofString "html") = true := by decide
    rw [this]; rfl
theorem BInv.pos' (I : BInv mode k S sh nd hm kids atts) (h0 : k ≠ 0) {a : Str} (ha : a ≠ "html") (hR : scopeL a sh ≠ -1) : 0 < scopeL a sh := by
  obtain ⟨i1, i2, i3, i4⟩ := scopeL_hit a sh hR
  rcases Int.lt_or_eq_of_le i1 with h | h
  · exact h
  · exfalso
    rw [<- h] at i3
    have := I.first h0
    rw [List.head?_eq_getElem?] at this
    have i3 : sh[0]? = some a := i3
    rw [this] at i3
    exact ha (Option.some.inj i3).symm
theorem BInv.sh_sp (I : BInv mode k S sh nd hm kids atts) {i : Int} (hi : i ∈ nd) : S.sp i = "html" ↔ S.sh i ≠ Str.empty := by
  unfold St.sh
  by_cases q : S.sp i = "html"
  · rw [if_pos q]; exact ⟨fun _ => I.nn i hi q, fun _ => q⟩
  · rw [if_neg q]; exact ⟨fun h => absurd h q, fun h => absurd rfl h⟩
end
theorem dropI_sub {q : Int -> Bool} : ∀ {l : List Int} {i}, i ∈ dropI q l -> i ∈ l
  | [], i, h => h
  | x :: l, i, h => by
    have h : i ∈ (match q x with | true => dropI q l | false => x :: l) := h
    cases e : q x with
    | true => rw [e] at h; exact .tail _ (dropI_sub h)
    | false => rw [e] at h; exact h
theorem dropI_len {q : Int -> Bool} : ∀ {l : List Int}, (dropI q l).length <= l.length
  | [] => Nat.le_refl _
  | x :: l => by
    show (match q x with | true => dropI q l | false => x :: l).length <= _
    cases e : q x with
    | true => exact Nat.le_succ_of_le dropI_len
    | false => exact Nat.le_refl _
theorem popI_sub {q : Int -> Bool} {l : List Int} {i} (h : i ∈ popI q l) : i ∈ l := by
  unfold popI at h; exact List.mem_reverse.mp (dropI_sub (List.mem_reverse.mp h))
theorem popI_len {q : Int -> Bool} {l : List Int} : (popI q l).length <= l.length := by
  unfold popI; rw [List.length_reverse]; have := dropI_len (q := q) (l := l.reverse); rwa [List.length_reverse] at this
theorem dropU_len {q : Int -> Bool} : ∀ {l : List Int}, (dropU q l).length <= l.length
  | [] => Nat.le_refl _
  | x :: l => by
    show (match q x with | true => l | false => dropU q l).length <= _
    cases e : q x with
    | true => exact Nat.le_succ _
    | false => exact Nat.le_succ_of_le dropU_len
theorem popM_len {l : List Int} : (popM l).length <= l.length := by
  unfold popM popU; rw [List.length_reverse]; have := dropU_len (q := fun i => i == -1) (l := l.reverse); rwa [List.length_reverse] at this
noncomputable def ruleOf (S : St) (n : Nat) (m : Str) : Str := if S.sh (S.items.getD (n - 1) 0) = Str.empty then "foreign content" else m
noncomputable def mkOut (D : Due) (mk : List Int) : List Int := if D.marks = "clear" then popM mk else mk
noncomputable def endSt (S : St) (t : Tk) (mk : List Int) (D : Due) (ns : List SV) (n : Nat) : St :=
  { S with items := S.items.take n, mode := D.mode, marks := mkOut D mk, errors := ns ++ (match D.again with | true => [.tup [.str (ruleOf S n D.mode), .str D.mode, t.sv]] | false => []), ack := false }
theorem endSt_eq {S : St} (h : S.ack = false) {t : Tk} {mk : List Int} {D : Due} {ns : List SV} {n : Nat} : endSt S t mk D ns n = { S with items := S.items.take n, mode := D.mode, marks := mkOut D mk, errors := ns ++ (match D.again with | true => [.tup [.str (ruleOf S n D.mode), .str D.mode, t.sv]] | false => []) } := by
  unfold endSt; rw [h]
noncomputable def NsD (t : Tk) (x : SV) : Prop := ∃ a b : Str, PyData.strOk a = true /\ PyData.strOk b = true /\ (x = .tup [.str a, .str b] ∨ x = .tup [.str a, .str b, t.sv])
theorem nsd_one {t : Tk} {x : SV} (h : NsD t x) : ∀ y ∈ [] ++ [x], NsD t y := fun y hy => by cases hy with | head => exact h | tail _ h => cases h
theorem nsd_nil {t : Tk} : ∀ y ∈ ([] : List SV), NsD t y := fun y hy => nomatch hy
theorem uw_ok (t : Tk) : PyData.strOk t.uw = true := by cases t <;> kernel_rfl
noncomputable def nmB : List Str := ["", "col", "td", "th"].map Str.ofString
noncomputable def tcOk (b : Bool) (t : Tk) : TC -> Bool
  | .cl kind _ => decide (t.uw = (Str.ofString "unexpected-" ++ kind) ++ Str.ofString "-tag") && decide (kind.length <= 100)
  | .er w => PyData.strOk w
  | .nm w => PyData.strOk w
  | .el n => nmB.contains n && ((n == Str.ofString "col") == b)
  | .tx x => PyData.strOk x
  | .com x => PyData.strOk x
  | .tb n => !stops.contains n && decide (t.uw = "unexpected-end-tag")
  | .lv => decide (t.uw = "unexpected-text")
noncomputable def St.wm (S : St) (mk : List Int) : St := { S with marks := mk }
noncomputable def St.cut (S : St) (n : Nat) (mk : List Int) (m : Str) : St := { S with items := S.items.take n, marks := mk, mode := m }
structure FinA (S S' : St) (t : Tk) (mk : List Int) (D : Due) (ns : List SV) (tm : List SO) : Prop where
  added : D.added = .none
  marks : D.marks = "" ∨ D.marks = "clear" /\ tm ≠ []
  fin : ∃ n : Nat, D.keep = n /\ 0 < n /\ n <= S.items.length /\ S' = endSt S t mk D ns n
  nsl : ns.length <= 10
  tmS : tm = [] ∨ ∃ a b, tm = [.sl a, .sl b, .list []]
  nsd : ∀ x ∈ ns, NsD t x
  dmo : PyData.strOk D.mode = true
theorem take_last {l : List Int} {n : Nat} (h0 : 0 < n) (hn : n <= l.length) : (l.take n).getLastD 0 = l.getD (n - 1) 0 := by
  have hne : l.take n ≠ [] := by intro h; have := congrArg List.length h; rw [List.length_take] at this; have this : min n l.length = 0 := this; lia
  rw [List.getLastD_eq_getLast?, List.getLast?_eq_getElem?, List.length_take, Nat.min_eq_left hn, List.getElem?_take, if_pos (by lia), List.getD_eq_getElem?_getD]
theorem told_ok {S' : St} {m : Str} {t : Tk} {k : St -> Prop} (W : S'.WF) (hv : S'.Svg) (hne : S'.items ≠ []) (he : S'.errors.length <= 100) (hs : S'.sp S'.last = "html" ↔ S'.sh S'.last ≠ Str.empty)
    (h : k (S'.note (if S'.sh S'.last = Str.empty then Str.ofString "foreign content" else m) t)) : toldQ S' m t k := by
  have l1 : lim (S'.errors.length + 1) := by show _ <= _; lia
  refine procQ_ok W hv hne (fun q => ⟨l1, ?_⟩) (fun q => ⟨l1, ?_⟩)
  · rw [if_neg (hs.mp q)] at h; exact h
  · rw [if_pos (Classical.byContradiction fun z => q (hs.mpr z))] at h; exact h
section
variable {k : Nat} {S : St} {sh : List Str} {nd hm : List Int} {kids : List (List Int)} {atts : List (List SV)}
theorem cat_ok {D : Due} {kind : Str} (hkd : kind.length <= 100) {k : Due -> List SV -> List SO -> Prop} (h : k D ([] ++ [noteL D ((Str.ofString "unexpected-" ++ kind) ++ Str.ofString "-tag")]) []) : catQ D [] kind k := by
  have h1 : (Str.ofString "unexpected-").length = 11 := by decide
  have h2 : (Str.ofString "-tag").length = 4 := by decide
  have h3 : (Str.ofString "unexpected-" ++ kind).length = 11 + kind.length := by
    rw [<- h1]; show ((Str.ofString "unexpected-").cps ++ kind.cps).size = _; rw [Array.size_append]; rfl
  exact ⟨by show _ <= _; lia, by rw [h3, h2]; show _ <= _; lia, by show 1 <= _; decide, h⟩
theorem close_cap (I : BInv "in caption" k S sh nd hm kids atts) (h0 : k ≠ 0) (hk : k <= 10) {t : Tk} {mk : List Int} (hmk : mk.length <= 100) {kind : Str} {again : Bool} (hc : tcOk true t (.cl kind again) = true) {K : St -> Due -> List SV -> List SO -> Prop}
    (h : ∀ S' D ns tm, FinA S S' t mk D ns tm -> K S' D ns tm) {G : St -> Prop} (hG : ∀ S', (∀ H, lcloseQ H (Due0 "in caption" sh.length) [] sh kind "caption" "in table" (fun D' ns' tm => K S' { D' with marks := "clear", again := again } ns' tm) (K S')) -> G S') :
    closeQ (S.wm mk) t.uw (fun S' => retell again "in table" S' t G) G := by
  have hc := Bool.and_eq_true_iff.mp hc
  have huw := of_decide_eq_true hc.1
  have shl := I.shl
  have e := I.it
  subst e
  obtain ⟨c1, c2, c3, c4⟩ := I.cst
  have scE : scanS "caption" S.sh S.items.reverse = (scopeL "caption" sh != -1) := by rw [I.shE, scopeL_map, scan_scope]
  have pre : ∀ {P : Prop}, P -> sh.length <= 1000 /\ sh.any stops.contains = true /\ stops.contains (Str.ofString "caption") = false /\ P := fun p => ⟨by lia, I.stop h0, by decide, p⟩
  have hl : S.items.length = k := I.nlen
  refine ⟨I.wf hk (mk := mk) (fun i h => h) (by lia) (by lia) (by rw [c2]; exact Nat.zero_le _) S.mode S.ack, ?_⟩
  by_cases hR : scopeL "caption" sh = -1
  · refine ⟨fun q => ?_, fun _ => ⟨by show S.errors.length + 1 <= _; rw [c2]; decide, hG _ fun H => pre ⟨fun _ => cat_ok (of_decide_eq_true hc.2) (h _ _ _ _ ⟨rfl, .inl rfl, ⟨S.items.length, by show (sh.length : Int) = _; rw [shl, hl], by lia, Nat.le_refl _, ?_⟩, by show 1 <= 10; decide, .inl rfl, nsd_one ⟨_, _, huw ▸ uw_ok t, by kernel_rfl, .inl rfl⟩, by kernel_rfl⟩), fun q => ?_⟩⟩⟩
    · have q : scanS "caption" S.sh S.items.reverse = true := q
      rw [scE, hR] at q; cases q
    · rw [endSt_eq c3]
      show ({ S with marks := mk, errors := S.errors ++ [.tup [.str _, .str S.mode]] } : St) = { S with items := S.items.take S.items.length, mode := "in caption", marks := mk, errors := [noteL (Due0 "in caption" sh.length) _] ++ [] }
      rw [huw, c2, c4, List.take_of_length_le (Nat.le_refl _), List.append_nil]
      have := c4
      cases S; cases this; rfl
    · rw [hR] at q; cases q
  · have hpos := I.pos' h0 (by decide) hR
    have hlt := (scopeL_lt "caption" sh).2
    obtain ⟨n, hn⟩ := Int.eq_ofNat_of_zero_le (Int.le_of_lt hpos)
    have hnl : n < S.items.length := by lia
    have hn0 : 0 < n := by lia
    let P : Str -> Bool := fun x => !implied.contains x
    let es : List Str := cutAt true sh (scopeL "caption" sh + 1).toNat
    let on : SV := .tup [.str "open-elements", .str "in caption"]
    have hop : (![Str.ofString "caption"].contains (cap1 (S.wm mk)).cur) = (!(es.filter P).isEmpty) := by
      have := open_law S S.items (by rw [<- I.shE]; exact hR)
      rw [<- I.shE] at this
      exact congrArg (fun b => !b) this
    have hes : es.length <= 10 := by show (sh.drop _).length <= _; rw [List.length_drop]; lia
    have hfl : (es.filter P).length <= 10 := Nat.le_trans (List.length_filter_le _ _) hes
    have hst : (es.filter P).all PyData.strOk = true := List.all_eq_true.mpr fun x hx => I.strOk x (List.mem_of_mem_drop (List.mem_filter.mp hx).1)
    have hcc : (Str.ofString "caption" == Str.ofString "caption") = true := by decide
    let D1 : Due := ⟨scopeL "caption" sh, "in table", again, .none, "clear"⟩
    have lc : ∀ S', (∀ ns, (ns = [on] /\ (!(es.filter P).isEmpty) = true ∨ ns = [] /\ (!(es.filter P).isEmpty) = false) -> S' = endSt S t mk D1 ns n) ->
        ∀ H, lcloseQ H (Due0 "in caption" sh.length) [] sh kind "caption" "in table" (fun D' ns' tm => K S' { D' with marks := "clear", again := again } ns' tm) (K S') := fun S' hS' H => by
      unfold lcloseQ
      rw [hcc]
      dsimp only
      refine pre ⟨fun q => absurd (by simpa using q) hR, fun _ => ⟨by lia, P, fun i hi part => ⟨fun q => ⟨q.symm, rfl, rfl⟩, fun q => ⟨q.symm, rfl, rfl⟩⟩, by show es.length <= _; lia, ⟨hst, by show (es.filter P).length <= _; lia⟩, fun q => ⟨by show 1 <= _; decide, ?_⟩, fun q => ?_⟩⟩
      · exact h _ _ _ _ ⟨rfl, .inr ⟨rfl, List.cons_ne_nil _ _⟩, ⟨n, hn, hn0, Nat.le_of_lt hnl, hS' _ (.inl ⟨rfl, q⟩)⟩, by show 1 <= 10; decide, .inr ⟨_, _, rfl⟩, nsd_one ⟨_, _, by kernel_rfl, by kernel_rfl, .inl rfl⟩, by kernel_rfl⟩
      · exact h _ _ _ _ ⟨rfl, .inr ⟨rfl, List.cons_ne_nil _ _⟩, ⟨n, hn, hn0, Nat.le_of_lt hnl, hS' _ (.inr ⟨rfl, q⟩)⟩, by show 0 <= 10; decide, .inr ⟨_, _, rfl⟩, nsd_nil, by kernel_rfl⟩
    have hpop : popU (fun i => [Str.ofString "caption"].contains (S.sh i)) (popI (fun i => implied.contains (S.sh i)) S.items) = S.items.take n := by
      rw [popU_popI, popU_scope, <- I.shE, hn]
      · rfl
      · rw [<- I.shE]; exact hR
      · intro i hi
        have ct : [Str.ofString "caption"].contains (S.sh i) = (S.sh i == Str.ofString "caption") := by rw [List.contains_cons]; simp
        rw [ct]
        cases z : S.sh i == Str.ofString "caption" with
        | false => rfl
        | true =>
          have z : S.sh i = Str.ofString "caption" := by simpa using z
          have hi : implied.contains (S.sh i) = true := hi
          rw [z] at hi
          exact absurd hi (by decide)
    have hsub : ∀ i ∈ S.items.take n, i ∈ S.items := fun i hi => List.mem_of_mem_take hi
    have tl : (S.items.take n).length = n := by rw [List.length_take]; lia
    let S3 (es' : List SV) : St := { S with items := S.items.take n, marks := popM mk, mode := "in table", errors := es' }
    have hpm := popM_len (l := mk)
    have tail : ∀ ns, (ns = [on] /\ (!(es.filter P).isEmpty) = true ∨ ns = [] /\ (!(es.filter P).isEmpty) = false) ->
        retell again "in table" (S3 ns) t G := fun ns hns => by
      have uniq : ∀ ns', (ns' = [on] /\ (!(es.filter P).isEmpty) = true ∨ ns' = [] /\ (!(es.filter P).isEmpty) = false) -> ns' = ns := fun ns' hns' => by
        rcases hns with ⟨a, b⟩ | ⟨a, b⟩ <;> rcases hns' with ⟨c, d⟩ | ⟨c, d⟩
        · rw [a, c]
        · rw [b] at d; cases d
        · rw [b] at d; cases d
        · rw [a, c]
      have nsl : ns.length <= 1 := by rcases hns with ⟨a, _⟩ | ⟨a, _⟩ <;> rw [a] <;> decide
      cases again with
      | true =>
        have lastE : (S3 ns).last = S.items.getD (n - 1) 0 := take_last hn0 (Nat.le_of_lt hnl)
        have hmem : (S3 ns).last ∈ S.items := hsub _ (last_mem (S := S3 ns) (by intro z; have z : S.items.take n = [] := z; rw [z] at tl; simp at tl; lia))
        unfold retell
        dsimp only
        refine told_ok (I.wf hk hsub (by lia) (by lia) (by lia) _ _) (fun i hi => I.svg i (hsub i hi)) (by intro z; have z : S.items.take n = [] := z; rw [z] at tl; simp at tl; lia) (by show ns.length <= 100; lia) (I.sh_sp hmem) ?_
        refine hG _ (lc _ fun ns' hns' => ?_)
        rw [uniq ns' hns']
        rw [endSt_eq c3]
        unfold mkOut ruleOf
        rw [<- lastE]
        rfl
      | false =>
        refine hG _ (lc _ fun ns' hns' => ?_)
        rw [uniq ns' hns']
        rw [endSt_eq c3]
        show S3 ns = { S with items := S.items.take n, mode := "in table", marks := popM mk, errors := ns ++ [] }
        rw [List.append_nil]
    have hpl : (popI (fun i => implied.contains (S.sh i)) S.items).length <= 1000 := Nat.le_trans popI_len (by lia)
    have w0 : ∀ {es : List SV}, es.length <= 1000 -> (({ cap1 (S.wm mk) with errors := es } : St)).WF := fun he => I.wf hk (mk := mk) (fun i h => popI_sub h) hpl (by lia) he S.mode S.ack
    have z0 : S.errors.length <= 1000 := by rw [c2]; exact Nat.zero_le _
    have w1 : (cap1 (S.wm mk)).WF := w0 z0
    refine ⟨fun _ => ⟨I.wf hk (mk := mk) (fun i h => h) (by lia) (by lia) z0 S.mode S.ack, w1, fun q => ⟨?_, w0 (by show (S.errors ++ [_]).length <= _; rw [c2]; show 1 <= _; decide), fun r => ?_⟩, fun q => ⟨w1, fun r => ?_⟩⟩, fun q => ?_⟩
    · show S.errors.length + 1 <= _; rw [c2]; decide
    · have e3 : cap3 ((cap1 (S.wm mk)).err "open-elements") = S3 [on] := by
        show ({ S with items := popU (fun i => [Str.ofString "caption"].contains (S.sh i)) (popI (fun i => implied.contains (S.sh i)) S.items), marks := popM mk, mode := "in table", errors := S.errors ++ [.tup [.str "open-elements", .str S.mode]] } : St) = _
        rw [hpop, c2, c4]; rfl
      rw [e3]
      exact tail [on] (.inl ⟨rfl, by rw [<- hop]; exact q⟩)
    · have e3 : cap3 (cap1 (S.wm mk)) = S3 [] := by
        show ({ S with items := popU (fun i => [Str.ofString "caption"].contains (S.sh i)) (popI (fun i => implied.contains (S.sh i)) S.items), marks := popM mk, mode := "in table", errors := S.errors } : St) = _
        rw [hpop, c2]
      rw [e3]
      exact tail [] (.inr ⟨rfl, by rw [<- hop]; exact q⟩)
    · exfalso
      have q : scanS "caption" S.sh S.items.reverse = false := q
      rw [scE] at q
      simp at q
      exact hR q
end
section
variable {mode : Str} {k : Nat} {S : St} {sh : List Str} {nd hm : List Int} {kids : List (List Int)} {atts : List (List SV)}
theorem note_fin (I : BInv mode k S sh nd hm kids atts) (h0 : k ≠ 0) (t : Tk) (mk : List Int) (x : SV) (hx : NsD t x) (hmo : PyData.strOk mode = true) : FinA S { S with marks := mk, errors := S.errors ++ [x] } t mk (Due0 mode sh.length) ([] ++ [x]) [] := by
  obtain ⟨c1, c2, c3, c4⟩ := I.cst
  have hl : S.items.length = k := by rw [I.it]; exact I.nlen
  refine ⟨rfl, .inl rfl, ⟨S.items.length, by show (sh.length : Int) = _; rw [I.shl, hl], by lia, Nat.le_refl _, ?_⟩, by show 1 <= 10; decide, .inl rfl, nsd_one hx, hmo⟩
  rw [endSt_eq c3]
  show _ = ({ S with items := S.items.take S.items.length, mode := mode, marks := mk, errors := [x] ++ [] } : St)
  rw [c2, List.take_of_length_le (Nat.le_refl _), List.append_nil]
  cases S; cases c4; rfl
theorem lim1 : lim 1 := by show 1 <= _; decide
theorem nm_ok (I : BInv mode k S sh nd hm kids atts) (h0 : k ≠ 0) {t : Tk} {mk : List Int} {w : Str} (hw : PyData.strOk w = true) (hmo : PyData.strOk mode = true) {K : St -> Due -> List SV -> List SO -> Prop}
    (hA : ∀ S' D ns tm, FinA S S' t mk D ns tm -> K S' D ns tm) {G : St -> Prop} (hG : ∀ S', lnQ (Due0 mode sh.length) [] (.tup [.str w, .str mode, t.sv]) (K S') -> G S') : nmQ (S.wm mk) w t G := by
  obtain ⟨c1, c2, c3, rfl⟩ := I.cst
  exact ⟨(congrArg (fun e : List SV => lim (e.length + 1)) c2).mpr lim1, hG _ ⟨lim1, hA _ _ _ _ (note_fin I h0 t mk _ ⟨_, _, hw, hmo, .inr rfl⟩ hmo)⟩⟩
theorem er_ok (I : BInv mode k S sh nd hm kids atts) (h0 : k ≠ 0) {t : Tk} {mk : List Int} {w : Str} (hw : PyData.strOk w = true) (hmo : PyData.strOk mode = true) {K : St -> Due -> List SV -> List SO -> Prop}
    (hA : ∀ S' D ns tm, FinA S S' t mk D ns tm -> K S' D ns tm) {G : St -> Prop} (hG : ∀ S', K S' (Due0 mode sh.length) ([] ++ [noteL (Due0 mode sh.length) w]) [] -> G S') : erQ (S.wm mk) w G := by
  obtain ⟨c1, c2, c3, rfl⟩ := I.cst
  exact ⟨(congrArg (fun e : List SV => lim (e.length + 1)) c2).mpr lim1, hG _ (hA _ _ _ _ (note_fin I h0 t mk _ ⟨_, _, hw, hmo, .inl rfl⟩ hmo))⟩
theorem cap_law (I : BInv "in caption" k S sh nd hm kids atts) (h0 : k ≠ 0) (hk : k <= 10) {t : Tk} {c : TC} (hc : tcOk true t c = true) {mk : List Int} (hmk : mk.length <= 100) {K : St -> Due -> List SV -> List SO -> Prop}
    (h : ∀ S' D ns tm, FinA S S' t mk D ns tm -> K S' D ns tm) {G : St -> Prop} (hG : ∀ S', (∀ H, lcapQ H (Due0 "in caption" sh.length) [] sh t c (K S')) -> G S') : capQ (S.wm mk) t c G := by
  cases c with
  | cl kind again => exact close_cap I h0 hk hmk hc h hG
  | er w => exact er_ok I h0 hc (by kernel_rfl) h fun S' h => hG S' fun _ => ⟨lim1, h⟩
  | nm w => exact nm_ok I h0 hc (by kernel_rfl) h fun S' h => hG S' fun _ => h
  | _ => exact True.intro
end
noncomputable def St.plus (S : St) (kind space name text : Str) (p : Int) : St := { S with kinds := S.kinds ++ [kind], spaces := S.spaces ++ [space], names := S.names ++ [name], texts := S.texts ++ [text], nat := S.nat + 1, nch := S.nch + 1, parents := S.parents ++ [p] }
noncomputable def lnB (more : Bool) (x : Int) : List Int := match more with
  | true => [x]
  | false => []
noncomputable def mks (more : Bool) : Str := match more with
  | true => "more"
  | false => ""
noncomputable def endSB (S : St) (kind space name text : Str) (p : Int) (n : Nat) (more : Bool) (x : Int) (mk : List Int) (m : Str) : St :=
  { S.plus kind space name text p with items := S.items.take n ++ lnB more x, marks := mk ++ lnB more (-1), mode := m, ack := name == Str.ofString "col", errors := [] }
inductive FinB (S S' : St) (kids kids' : List (List Int)) (atts atts' : List (List SV)) (hm mk : List Int) (D : Due) (ns : List SV) (tm : List SO) : Prop
  | mk (n : Nat) (m kind space name text : Str) (at' : List SV) (j : Nat) (more : Bool) (l : List Int) (f4 : 0 < n) (f5 : n <= S.items.length) (f7 : tm = [.list at'] /\ j = 0 ∨ ∃ x, tm = [.il x, .list at'] /\ j = 1) (f8 : at' = [] ∨ at' = at1)
    (ok : PyData.strOk kind = true /\ PyData.strOk space = true /\ PyData.strOk text = true /\ PyData.strOk m = true) (o3 : name ∈ nmB) (f10 : kids[(hm.getD n 0).toNat]? = some l) (f11 : l.length <= 100)
    (e1 : D = ⟨n, m, false, .tup [.str kind, .str space, .str name, .ref (.m j), .str text], mks more⟩) (e2 : ns = []) (e3 : kids' = (kids ++ [[]]).set (hm.getD n 0).toNat (l ++ [(S.kinds.length : Int)])) (e4 : atts' = atts ++ [at']) (e5 : S' = endSB S kind space name text (hm.getD n 0) n more S.kinds.length mk m)
section
variable {mode : Str} {k : Nat} {S : St} {sh : List Str} {nd hm : List Int} {kids : List (List Int)} {atts : List (List SV)}
theorem BInv.hmD (I : BInv mode k S sh nd hm kids atts) {n : Nat} (h0 : 0 < n) (hn : n <= S.items.length) : hm.getD n 0 = S.hom (S.items.getD (n - 1) 0) /\ S.items.getD (n - 1) 0 ∈ S.items := by
  obtain ⟨m, rfl⟩ : ∃ m, n = m + 1 := ⟨n - 1, by lia⟩
  have hm' : m < S.items.length := by lia
  have e : S.items.getD (m + 1 - 1) 0 = S.items[m] := by rw [List.getD_eq_getElem?_getD, show m + 1 - 1 = m from rfl, List.getElem?_eq_getElem hm']; rfl
  rw [e, I.hmE, <- I.it]
  refine ⟨?_, List.getElem_mem hm'⟩
  rw [List.getD_eq_getElem?_getD, List.getElem?_cons_succ, List.getElem?_map, List.getElem?_eq_getElem hm']; rfl
theorem set_snoc {l : List Int} {p : Int} : (l ++ [-1]).set l.length p = l ++ [p] := by
  rw [List.set_append_right _ _ (Nat.le_refl _), Nat.sub_self]; rfl
theorem ins_ok (I : BInv mode k S sh nd hm kids atts) (hk : k <= 10) {n : Nat} (h0 : 0 < n) (hn : n <= S.items.length) (hks : ∀ l ∈ kids, l.length <= 100) {mk : List Int} {m : Str} (kind space name text : Str) (attrs : List SV) {al cops tm} {K : HS -> Prop}
    (h : ∀ l, kids[(hm.getD n 0).toNat]? = some l -> l.length <= 100 -> K (hsO ((S.plus kind space name text (hm.getD n 0)).cut n mk m) al ((kids ++ [[]]).set (hm.getD n 0).toNat (l ++ [(S.kinds.length : Int)])) (atts ++ [attrs]) cops none tm)) :
    Even (S.cut n mk m) (hsO (S.cut n mk m) al kids atts cops none tm) /\
    insF ((hsO (S.cut n mk m) al kids atts cops none tm).addN (S.cut n mk m) kind space name text attrs) (fun _ h2 => K h2) (hm.getD n 0) S.kinds.length := by
  have hb := I.big
  have hpos := I.pos
  obtain ⟨e1, e2⟩ := I.hmD h0 hn
  have hr := I.home _ (I.it.subst (motive := fun z => S.items.getD (n - 1) 0 ∈ z) e2)
  rw [<- e1] at hr
  have hpa := I.pa
  have hki := I.ki
  have hch := I.ch
  obtain ⟨l, hl⟩ : ∃ l, kids[(hm.getD n 0).toNat]? = some l := ⟨_, List.getElem?_eq_getElem (by lia)⟩
  have hll := hks l (List.mem_of_getElem? hl)
  refine ⟨⟨I.sp, I.nm, I.tx, I.pa, I.at', I.ch, I.ki, I.tt, by show S.kinds.length <= _; lia⟩, ⟨fun i hi => ?_, by show (S.parents ++ [-1]).length <= _; rw [List.length_append]; show _ + 1 <= _; lia⟩, ⟨by lia, hr.2, by show _ < (((S.parents ++ [-1]).length : Nat) : Int); rw [List.length_append]; show _ < ((_ + 1 : Nat) : Int); lia, by show _ < ((S.nch + 1 : Nat) : Int); lia, ?_⟩, l, ?_, by lia, ?_⟩
  · have e : (S.parents ++ [-1])[i]? = some (S.parents ++ [-1])[i] := List.getElem?_eq_getElem hi
    show (S.parents ++ [-1])[i] < (i : Int) /\ -1 <= (S.parents ++ [-1])[i]
    by_cases q : i < S.parents.length
    · rw [List.getElem?_append_left q] at e; exact I.up i _ e
    · rw [List.getElem?_append_right (by lia)] at e
      have hi' : i < (S.parents ++ [-1]).length := hi
      rw [List.length_append] at hi'
      have hi' : i < S.parents.length + 1 := hi'
      have : i - S.parents.length = 0 := Nat.sub_eq_zero_of_le (Nat.le_of_lt_succ hi')
      rw [this] at e
      have := Option.some.inj e
      exact this ▸ ⟨tn_1 i, Int.le_refl _⟩
  · show (S.parents ++ [-1]).getD ((S.kinds.length : Int)).toNat 0 = -1
    have z : ((S.kinds.length : Int)).toNat = S.kinds.length := rfl
    rw [z, <- hpa, List.getD_eq_getElem?_getD, List.getElem?_append_right (Nat.le_refl _), Nat.sub_self]; rfl
  · show (kids ++ [[]])[_]? = _
    rw [List.getElem?_append_left (by lia)]; exact hl
  · have := h l hl hll
    have e : (S.parents ++ [-1]).set ((S.kinds.length : Int)).toNat (hm.getD n 0) = S.parents ++ [hm.getD n 0] := by
      have z : ((S.kinds.length : Int)).toNat = S.parents.length := hpa.symm
      rw [z]; exact set_snoc
    unfold St.cut St.plus at this
    rw [<- e] at this
    exact this
end
section
variable {mode : Str} {k : Nat} {S : St} {sh : List Str} {nd hm : List Int} {kids : List (List Int)} {atts : List (List SV)}
theorem BInv.whole (I : BInv mode k S sh nd hm kids atts) (h0 : k ≠ 0) : 0 < S.items.length /\ hm.getD S.items.length 0 = S.home /\ S.last ∈ S.items /\ S.items.take S.items.length = S.items /\ (sh.length : Int) = S.items.length /\ hm.getD S.items.length 0 = hm.getLastD 0 := by
  have hl : S.items.length = k := by rw [I.it]; exact I.nlen
  have hne : S.items ≠ [] := by intro h; rw [h] at hl; exact h0 hl.symm
  refine ⟨by lia, ?_, last_mem hne, List.take_of_length_le (Nat.le_refl _), by rw [I.shl, hl], ?_⟩
  · rw [(I.hmD (n := S.items.length) (by lia) (Nat.le_refl _)).1]
    have : S.items.getD (S.items.length - 1) 0 = S.last := by
      rw [<- take_last (by lia) (Nat.le_refl _), List.take_of_length_le (Nat.le_refl _)]; rfl
    rw [this]; rfl
  · have hml : hm.length = S.items.length + 1 := by rw [I.hmE, List.length_cons, List.length_map, <- I.it]
    rw [List.getLastD_eq_getLast?, List.getLast?_eq_getElem?, hml, List.getD_eq_getElem?_getD]; rfl
theorem BInv.lastS (I : BInv mode k S sh nd hm kids atts) : sh.getLastD Str.empty = S.cur := by
  rw [I.shE, <- I.it, List.getLastD_eq_getLast?, List.getLast?_map]
  unfold St.cur
  cases S.items.getLast? <;> rfl
theorem leave_ok (I : BInv "in column group" k S sh nd hm kids atts) (h0 : k ≠ 0) (hk : k <= 10) {t : Tk} {mk : List Int} (hmk : mk.length <= 100) {again : Bool} {nt : St -> Prop} {K : St -> Due -> List SV -> List SO -> Prop}
    (hA : ∀ S' D ns tm, FinA S S' t mk D ns tm -> K S' D ns tm)
    (hn : ∀ S', K S' (Due0 "in column group" sh.length) ([] ++ [noteL (Due0 "in column group" sh.length) t.uw]) [] -> nt S') {G : St -> Prop} (hG : ∀ S', ltailQ (Due0 "in column group" sh.length) [] sh (nt S') again (K S') -> G S') : leaveQ (S.wm mk) t again G := by
  obtain ⟨c1, c2, c3, c4⟩ := I.cst
  obtain ⟨w1, w2, w3, w4, w5, w6⟩ := I.whole h0
  have hl : S.items.length = k := by rw [I.it]; exact I.nlen
  have shl := I.shl
  have shne : sh ≠ [] := by intro h; rw [h] at shl; exact h0 shl.symm
  have el : lim (S.errors.length + 1) := by rw [c2]; exact lim1
  unfold ltailQ at hG
  rw [I.lastS] at hG
  refine ⟨I.wf hk (mk := mk) (fun i h => I.it ▸ h) (by lia) (by lia) (by rw [c2]; exact Nat.zero_le _) S.mode S.ack, ?_⟩
  show br (S.cur != _) _ _
  cases q : S.cur != Str.ofString "colgroup" with
  | true =>
    rw [q] at hG
    have := er_ok I h0 (t := t) (mk := mk) (uw_ok t) (by kernel_rfl) hA fun S' h => hG S' ⟨shne, fun _ => hn S' h, fun h => Bool.noConfusion h⟩
    exact ⟨fun _ => this, fun h => Bool.noConfusion h⟩
  | false =>
    rw [q] at hG
    have qc : S.cur = Str.ofString "colgroup" := by simpa using q
    have h2 : 2 <= S.items.length := by
      by_cases z : S.items.length = 1
      · exfalso
        have hf := I.first h0
        have hs1 : sh.length = 1 := by rw [shl, <- hl, z]
        have hlast := I.lastS
        rw [qc] at hlast
        match sh, hs1, hf, hlast with
        | [x], _, hf, hlast =>
          have hf : some x = some (Str.ofString "html") := hf
          have hlast : x = Str.ofString "colgroup" := hlast
          rw [hlast] at hf
          exact absurd (Option.some.inj hf) (by decide)
      · lia
    have n0 : 0 < S.items.length - 1 := by lia
    have nl : S.items.length - 1 <= S.items.length := by lia
    have dl : S.items.dropLast = S.items.take (S.items.length - 1) := List.dropLast_eq_take
    have hsub : ∀ i ∈ S.items.dropLast, i ∈ S.items := fun i hi => List.dropLast_subset _ hi
    have tl : S.items.dropLast.length = S.items.length - 1 := List.length_dropLast
    have hne : S.items.dropLast ≠ [] := by intro z; rw [z] at tl; have tl : 0 = _ := tl; lia
    let D1 : Due := { Due0 "in column group" sh.length with keep := (sh.length : Int) - 1, mode := "in table", again := again }
    have keepE : (sh.length : Int) - 1 = ((S.items.length - 1 : Nat) : Int) := by lia
    have fin : ∀ S', S' = endSt S t mk D1 [] (S.items.length - 1) -> G S' := fun S' e => hG S' ⟨shne, fun h => Bool.noConfusion h, fun _ => hA _ _ _ _ ⟨rfl, .inl rfl, ⟨S.items.length - 1, keepE, n0, nl, e⟩, Nat.zero_le _, .inl rfl, nsd_nil, by kernel_rfl⟩⟩
    refine ⟨fun h => Bool.noConfusion h, fun _ => ⟨fun h => ?_, fun _ => ⟨by intro z; have z : S.items = [] := z; rw [z] at w1; exact absurd w1 (Nat.lt_irrefl _), ?_⟩⟩⟩
    · have h : ((S.items.length : Int) == 0) = true := h
      simp only [beq_iff_eq] at h
      lia
    · cases again with
      | true =>
        let S3 : St := { S with items := S.items.dropLast, marks := mk, mode := "in table" }
        have lastE : S3.last = S.items.getD (S.items.length - 1 - 1) 0 := by
          show S.items.dropLast.getLastD 0 = _
          rw [dl]; exact take_last n0 nl
        have hmem : S3.last ∈ S.items := hsub _ (last_mem (S := S3) hne)
        refine told_ok (S' := S3) (I.wf hk (fun i h => I.it ▸ hsub i h) (by lia) (by lia) (by rw [c2]; exact Nat.zero_le _) _ _) (fun i hi => I.svg i (I.it ▸ hsub i hi)) hne (by show S.errors.length <= _; rw [c2]; exact Nat.zero_le _) (I.sh_sp (I.it ▸ hmem)) ?_
        refine fin _ ?_
        rw [endSt_eq c3]
        unfold mkOut ruleOf
        rw [<- lastE, <- dl]
        show ({ S with items := S.items.dropLast, marks := mk, mode := "in table", errors := S.errors ++ [_] } : St) = _
        rw [c2]; rfl
      | false =>
        refine fin _ ?_
        rw [endSt_eq c3]
        show ({ S with items := S.items.dropLast, marks := mk, mode := "in table" } : St) = { S with items := S.items.take (S.items.length - 1), mode := "in table", marks := mk, errors := [] ++ [] }
        rw [dl, List.append_nil]
        cases S; cases c2; rfl
theorem BInv.wfm (I : BInv mode k S sh nd hm kids atts) (hk : k <= 10) {mk : List Int} (hmk : mk.length <= 100) : (S.wm mk).WF := by
  have hl : S.items.length = k := by rw [I.it]; exact I.nlen
  exact I.wf hk (mk := mk) (fun i h => I.it ▸ h) (by lia) (by lia) (by rw [I.cst.2.1]; exact Nat.zero_le _) S.mode S.ack
theorem col_ins (I : BInv mode k S sh nd hm kids atts) (h0 : k ≠ 0) (hk : k <= 10) {mk : List Int} (kind space name text : Str) (attrs : List SV) {al cops} {K : HS -> Prop}
    (h : ∀ l, kids[(hm.getD S.items.length 0).toNat]? = some l -> l.length <= 100 -> K (hsO ((S.plus kind space name text (hm.getD S.items.length 0)).cut S.items.length mk S.mode) al ((kids ++ [[]]).set (hm.getD S.items.length 0).toNat (l ++ [(S.kinds.length : Int)])) (atts ++ [attrs]) cops none [])) :
    Even (S.wm mk) (hsO (S.wm mk) al kids atts cops none []) /\ insF ((hsO (S.wm mk) al kids atts cops none []).addN (S.wm mk) kind space name text attrs) (fun _ h2 => K h2) (S.wm mk).home S.kinds.length := by
  obtain ⟨w1, w2, w3, w4, w5, w6⟩ := I.whole h0
  have := ins_ok I hk w1 (Nat.le_refl _) I.kl (mk := mk) (m := S.mode) kind space name text attrs (al := al) (cops := cops) (tm := []) h
  have e : S.cut S.items.length mk S.mode = S.wm mk := by unfold St.cut St.wm; rw [w4]
  rw [e, w2] at this
  exact this
theorem col_fin (I : BInv "in column group" k S sh nd hm kids atts) (h0 : k ≠ 0) {mk : List Int} {kind space name text : Str} {attrs : List SV} {l : List Int} (hl : kids[(hm.getD S.items.length 0).toNat]? = some l) (hll : l.length <= 100) (hat : attrs = [] ∨ attrs = at1) (hok : PyData.strOk kind = true /\ PyData.strOk space = true /\ name ∈ nmB /\ PyData.strOk text = true) {a : Bool} (ha : (name == Str.ofString "col") = a) :
    FinB S { (S.plus kind space name text (hm.getD S.items.length 0)).cut S.items.length mk S.mode with ack := a } kids ((kids ++ [[]]).set (hm.getD S.items.length 0).toNat (l ++ [(S.kinds.length : Int)])) atts (atts ++ [attrs]) hm mk { Due0 "in column group" sh.length with added := .tup [.str kind, .str space, .str name, .ref (.m 0), .str text] } [] [.list attrs] := by
  obtain ⟨c1, c2, c3, c4⟩ := I.cst
  obtain ⟨w1, w2, w3, w4, w5, w6⟩ := I.whole h0
  have hk : (sh.length : Int) = ((S.items.length : Nat) : Int) := w5
  refine .mk S.items.length "in column group" kind space name text attrs 0 false l w1 (Nat.le_refl _) (.inl ⟨rfl, rfl⟩) hat ⟨hok.1, hok.2.1, hok.2.2.2, by kernel_rfl⟩ hok.2.2.1 hl hll ?_ rfl rfl rfl ?_
  · unfold Due0; rw [hk]; rfl
  unfold endSB lnB
  rw [List.append_nil, List.append_nil, <- c2, ha]; dsimp only; rw [<- c4]; rfl
theorem colC_ok : toks.all (fun t => tcOk true t (colC t)) = true := by kernel_rfl
theorem col_law (I : BInv "in column group" k S sh nd hm kids atts) (h0 : k ≠ 0) (hk : k <= 10) {t : Tk} {c : TC} (hc : tcOk true t c = true) {mk : List Int} (hmk : mk.length <= 100) {al cops} {K : St -> List (List Int) -> List (List SV) -> Due -> List SV -> List SO -> Prop}
    (hA : ∀ S' D ns tm, FinA S S' t mk D ns tm -> K S' kids atts D ns tm)
    (hB : ∀ S' kids' atts' D ns tm, FinB S S' kids kids' atts atts' hm mk D ns tm -> K S' kids' atts' D ns tm)
    {G : HS -> Prop} (hG : ∀ S' kids' atts', lcolQ (Due0 "in column group" sh.length) [] sh t c (K S' kids' atts') -> G (hsO S' al kids' atts' cops none [])) : colQ (S.wm mk) (hsO (S.wm mk) al kids atts cops none []) t c G := by
  have c3 := I.cst.2.2.1
  obtain ⟨w1, w2, w3, w4, w5, w6⟩ := I.whole h0
  have W := I.wfm hk hmk
  have wne : S.items ≠ [] := List.ne_nil_of_length_pos w1
  cases c with
  | nm w => exact nm_ok I h0 hc (by kernel_rfl) hA fun S' h => hG S' kids atts h
  | er w => exact er_ok I h0 hc (by kernel_rfl) hA fun S' h => hG S' kids atts ⟨lim1, h⟩
  | tb n => exact er_ok I h0 (by kernel_rfl) (by kernel_rfl) hA fun S' h => hG S' kids atts (cat_ok (kind := "end") (by decide) h)
  | cl kind again =>
    have hc := Bool.and_eq_true_iff.mp hc
    exact leave_ok I h0 hk hmk hA (fun S' h => cat_ok (of_decide_eq_true hc.2) (of_decide_eq_true hc.1 ▸ h)) fun S' h => hG S' kids atts h
  | lv =>
    have hc : t.uw = Str.ofString "unexpected-text" := of_decide_eq_true hc
    exact leave_ok I h0 hk hmk hA (fun S' h => ⟨lim1, hc ▸ h⟩) fun S' h => hG S' kids atts h
  | com x => exact ⟨W, wne, col_ins I h0 hk _ _ _ _ _ fun l hl hll => hG _ _ _ (hB _ _ _ _ _ _ (col_fin I h0 hl hll (.inl rfl) ⟨by kernel_rfl, by kernel_rfl, .head _, hc⟩ (a := S.ack) (by rw [c3]; decide)))⟩
  | el n =>
    have hc := Bool.and_eq_true_iff.mp hc
    refine ⟨W, wne, col_ins I h0 hk _ _ _ _ _ fun l hl hll => ⟨?_, fun h => ?_, fun _ => ⟨List.append_ne_nil_of_right_ne_nil _ (List.cons_ne_nil _ _), ?_⟩⟩⟩
    · show (S.items.take S.items.length).length + 1 <= _
      rw [w4]; have := I.nlen; rw [<- I.it] at this; lia
    · exact absurd (List.eq_nil_of_length_eq_zero (Int.ofNat.inj (eq_of_beq h))) (List.append_ne_nil_of_right_ne_nil _ (List.cons_ne_nil _ _))
    · have := hG _ _ _ (hB _ _ _ _ _ _ (col_fin I h0 (mk := mk) (kind := "element") (space := "html") (text := "") hl hll (.inr rfl) ⟨by kernel_rfl, by kernel_rfl, List.contains_iff_mem.mp hc.1, by kernel_rfl⟩ (a := true) (eq_of_beq hc.2)))
      have e : (S.items.take S.items.length ++ [(S.kinds.length : Int)]).dropLast = S.items.take S.items.length := List.dropLast_concat
      have e2 : ∀ its, its = S.items.take S.items.length -> G (hsO { (S.plus "element" "html" n "" (hm.getD S.items.length 0)).cut S.items.length mk S.mode with items := its, ack := true } al ((kids ++ [[]]).set (hm.getD S.items.length 0).toNat (l ++ [(S.kinds.length : Int)])) (atts ++ [at1]) cops none []) := fun its hi => hi ▸ this
      exact e2 _ e
  | tx x =>
    have hhome := I.home _ (I.it.subst (motive := fun z => S.last ∈ z) w3)
    have hz : S.hom S.last = (S.wm mk).home := rfl
    rw [hz] at hhome
    have hch := I.ch
    have hlt : (S.wm mk).home.toNat < S.kinds.length := by lia
    refine ⟨W, wne, ⟨by lia, hhome.2⟩, fun h => ?_, fun _ => ⟨⟨by lia, by show _ < ((S.nch : Nat) : Int); lia⟩, ?_, col_ins I h0 hk _ _ _ _ _ fun l hl hll => hG _ _ _ (hB _ _ _ _ _ _ (col_fin I h0 hl hll (.inl rfl) ⟨by kernel_rfl, by kernel_rfl, .head _, hc⟩ (a := S.ack) (by rw [c3]; decide)))⟩⟩
    · exfalso
      have h : S.kinds.getD (S.wm mk).home.toNat Str.empty = Str.ofString "document" := eq_of_beq h
      rw [List.getD_eq_getElem?_getD, List.getElem?_eq_getElem hlt] at h
      have h : S.kinds[(S.wm mk).home.toNat] = Str.ofString "document" := h
      refine I.kd (S.wm mk).home.toNat (by lia) ?_
      rw [List.getElem?_eq_getElem hlt, h]; rfl
    · have := I.top
      rw [<- w6, w2] at this
      exact this
end
theorem bneF {a b : Int} (h : (a != b) = false) : a = b := by simpa using h
theorem popT_at (p : Int -> Bool) (n : Nat) (h0 : 0 < n) : ∀ l : List Int, n <= l.length -> p (l.getD (n - 1) 0) = true -> (∀ j, n <= j -> j < l.length -> p (l.getD j 0) = false) -> popT p l = l.take n := by
  refine snoc_ind (fun h => absurd (Nat.lt_of_lt_of_le h0 h) (Nat.lt_irrefl _)) fun l i ih hn h1 h2 => ?_
  rw [List.length_append] at hn h2
  have hn : n <= l.length + 1 := hn
  by_cases q : n = l.length + 1
  · subst q
    rw [getD_at (show l.length + 1 - 1 = l.length from rfl)] at h1
    rw [List.take_of_length_le (by rw [List.length_append]; exact Nat.le_refl _)]
    by_cases e : l = []
    · subst e; rfl
    · rw [popT_snoc _ _ _ e, if_pos h1]
  · have hl : n <= l.length := by lia
    have e : l ≠ [] := by intro z; rw [z] at hl; exact absurd (Nat.lt_of_lt_of_le h0 hl) (Nat.lt_irrefl _)
    have hp := h2 l.length hl (Nat.lt_succ_self _)
    rw [getD_at rfl] at hp
    rw [popT_snoc _ _ _ e, if_neg (by rw [hp]; decide), List.take_append_of_le_length hl]
    rw [getD_left (by lia)] at h1
    refine ih hl h1 fun j hj hjl => ?_
    have := h2 j hj (Nat.lt_succ_of_lt hjl)
    rwa [getD_left hjl] at this
theorem last_at' (p : Int -> Bool) : ∀ l : List Int, (∃ i, i < l.length /\ p (l.getD i 0) = true) -> ∃ n, 0 < n /\ n <= l.length /\ p (l.getD (n - 1) 0) = true /\ ∀ j, n <= j -> j < l.length -> p (l.getD j 0) = false := by
  refine snoc_ind (fun ⟨i, h, _⟩ => absurd h (Nat.not_lt_zero _)) fun l x ih ⟨i, hi, hp⟩ => ?_
  rw [List.length_append] at *
  have hi : i < l.length + 1 := hi
  cases q : p x with
  | true => exact ⟨l.length + 1, Nat.succ_pos _, Nat.le_refl _, by rw [getD_at (show l.length + 1 - 1 = l.length from rfl)]; exact q, fun j h1 h2 => absurd (Nat.lt_of_lt_of_le h2 h1) (Nat.lt_irrefl _)⟩
  | false =>
    have hil : i < l.length := by
      by_cases e : i = l.length
      · rw [getD_at e, q] at hp; cases hp
      · lia
    rw [getD_left hil] at hp
    obtain ⟨n, h1, h2, h3, h4⟩ := ih ⟨i, hil, hp⟩
    refine ⟨n, h1, Nat.le_succ_of_le h2, by rw [getD_left (by lia)]; exact h3, fun j g1 g2 => ?_⟩
    by_cases e : j = l.length
    · rw [getD_at e]; exact q
    · have g2 : j < l.length + 1 := g2
      rw [getD_left (by lia)]; exact h4 j g1 (by lia)
noncomputable def rowS (x : Str) : Bool := [Str.ofString "tr", Str.ofString "template", Str.ofString "html"].contains x
section
variable {mode : Str} {k : Nat} {S : St} {sh : List Str} {nd hm : List Int} {kids : List (List Int)} {atts : List (List SV)}
theorem BInv.shD (I : BInv mode k S sh nd hm kids atts) {i : Nat} (hi : i < S.items.length) : sh.getD i Str.empty = S.sh (S.items.getD i 0) /\ sh[i]? = some (S.sh (S.items.getD i 0)) := by
  have e : S.items.getD i 0 = S.items[i] := by rw [List.getD_eq_getElem?_getD, List.getElem?_eq_getElem hi]; rfl
  have : sh[i]? = some (S.sh (S.items.getD i 0)) := by rw [I.shE, <- I.it, List.getElem?_map, List.getElem?_eq_getElem hi, e]; rfl
  exact ⟨by rw [List.getD_eq_getElem?_getD, this]; rfl, this⟩
theorem row_cut (I : BInv mode k S sh nd hm kids atts) (h0 : k ≠ 0) (hR : scopeL "tr" sh ≠ -1) : ∃ n : Nat, scopeL "tr" sh = n /\ 0 < n /\ n < S.items.length /\ popT (fun i => rowS (S.sh i)) S.items = S.items.take (n + 1) := by
  have hpos := I.pos' h0 (a := "tr") (by decide) hR
  obtain ⟨i1, i2, i3, i4⟩ := scopeL_hit "tr" sh hR
  have hl : S.items.length = k := by rw [I.it]; exact I.nlen
  have shl := I.shl
  obtain ⟨n, hn⟩ := Int.eq_ofNat_of_zero_le i1
  rw [hn] at i3 i4
  have hnl : n < S.items.length := by lia
  refine ⟨n, hn, by lia, hnl, popT_at _ (n + 1) (Nat.succ_pos _) _ hnl ?_ fun j h1 h2 => ?_⟩
  · have := (I.shD hnl).2
    have i3 : sh[n]? = some (Str.ofString "tr") := i3
    rw [this] at i3
    show rowS (S.sh (S.items.getD n 0)) = true
    rw [Option.some.inj i3]; decide
  · obtain ⟨z1, z2⟩ := i4 j (by show n < j; lia) _ (I.shD h2).2
    generalize S.sh (S.items.getD j 0) = x at *
    cases e : rowS x with
    | false => rfl
    | true =>
      exfalso
      unfold rowS at e
      have e := List.contains_iff_mem.mp e
      simp only [List.mem_cons, List.not_mem_nil, or_false] at e
      rcases e with e | e | e
      · exact z1 e
      · rw [e] at z2; exact absurd z2 (by decide)
      · rw [e] at z2; exact absurd z2 (by decide)
theorem row_hit (I : BInv mode k S sh nd hm kids atts) (h0 : k ≠ 0) (hk : k <= 10) {mk : List Int} (hmk : mk.length <= 100) {n : Nat} (h1 : 0 < n) (h2 : n < S.items.length) (h3 : popT (fun i => rowS (S.sh i)) S.items = S.items.take (n + 1)) (hR : scopeL "tr" sh ≠ -1) {uw : Str} {k1 k0 : St -> Prop} (h : k1 (S.cut n mk "in table body")) : closeR (S.wm mk) uw k1 k0 := by
  have W := I.wfm hk hmk
  have scE : scanS "tr" S.sh S.items.reverse = (scopeL "tr" sh != -1) := by rw [I.shE, <- I.it, scopeL_map, scan_scope]
  have hit : (rowP (S.wm mk)).items = S.items.take (n + 1) := h3
  have hlen : (rowP (S.wm mk)).items.length = n + 1 := by rw [hit, List.length_take]; lia
  refine ⟨W, fun _ => ⟨W, fun q => ?_, fun _ => ⟨fun z => ?_, ?_⟩⟩, fun q => ?_⟩
  · rw [hlen] at q; exact absurd (Int.ofNat.inj (eq_of_beq q)) (Nat.succ_ne_zero n)
  · rw [z] at hlen; cases hlen
  · show k1 { S with items := (rowP (S.wm mk)).items.dropLast, marks := mk, mode := "in table body" }
    have dl : (S.items.take (n + 1)).dropLast = S.items.take n := by
      rw [List.dropLast_eq_take, List.length_take, List.take_take, tn_m h2]
    rw [hit, dl]
    exact h
  · have q : scanS "tr" S.sh S.items.reverse = false := q
    rw [scE] at q
    exact absurd (bneF q) hR
theorem row_miss (I : BInv mode k S sh nd hm kids atts) (hk : k <= 10) {mk : List Int} (hmk : mk.length <= 100) (hR : scopeL "tr" sh = -1) {uw : Str} {k1 k0 : St -> Prop} (h : erQ (S.wm mk) uw k0) : closeR (S.wm mk) uw k1 k0 := by
  have scE : scanS "tr" S.sh S.items.reverse = (scopeL "tr" sh != -1) := by rw [I.shE, <- I.it, scopeL_map, scan_scope]
  refine ⟨I.wfm hk hmk, fun q => ?_, fun _ => h⟩
  have q : scanS "tr" S.sh S.items.reverse = true := q
  rw [scE, hR] at q; cases q
theorem lrow_hit (I : BInv mode k S sh nd hm kids atts) (h0 : k ≠ 0) (hk : k <= 10) (hR : scopeL "tr" sh ≠ -1) {H D kind} {k1 k0 : Due -> List SV -> List SO -> Prop} (h : k1 { D with keep := scopeL "tr" sh, mode := "in table body" } [] []) : lcloseQ H D [] sh kind "tr" "in table body" k1 k0 := by
  have shl := I.shl
  refine ⟨by lia, I.stop h0, by decide, fun q => absurd (eq_of_beq q) hR, fun _ => ?_⟩
  have hcc : (Str.ofString "tr" == Str.ofString "caption") = false := by decide
  rw [hcc]
  exact h
theorem lrow_miss (I : BInv mode k S sh nd hm kids atts) (h0 : k ≠ 0) (hk : k <= 10) (hR : scopeL "tr" sh = -1) {H D} {kind : Str} (hkd : kind.length <= 100) {k1 k0 : Due -> List SV -> List SO -> Prop} (h : k0 D ([] ++ [noteL D ((Str.ofString "unexpected-" ++ kind) ++ Str.ofString "-tag")]) []) : lcloseQ H D [] sh kind "tr" "in table body" k1 k0 := by
  have shl := I.shl
  refine ⟨by lia, I.stop h0, by decide, fun _ => cat_ok hkd h, fun q => ?_⟩
  rw [hR] at q; cases q
end
section
variable {k : Nat} {S : St} {sh : List Str} {nd hm : List Int} {kids : List (List Int)} {atts : List (List SV)}
theorem told_row (I : BInv "in row" k S sh nd hm kids atts) (h0 : k ≠ 0) (hk : k <= 10) {mk : List Int} (hmk : mk.length <= 100) {n : Nat} (hn0 : 0 < n) (hnl : n < S.items.length) {t : Tk} (again : Bool) {f : St -> Prop}
    (h : f (endSt S t mk ⟨n, "in table body", again, .none, ""⟩ [] n)) : retell again "in table body" (S.cut n mk "in table body") t f := by
  obtain ⟨c1, c2, c3, c4⟩ := I.cst
  cases again with
  | true =>
    have hl : S.items.length = k := by rw [I.it]; exact I.nlen
    have hsub : ∀ i ∈ S.items.take n, i ∈ S.items := fun i hi => List.mem_of_mem_take hi
    have tl : (S.items.take n).length = n := by rw [List.length_take]; lia
    have hne : S.items.take n ≠ [] := List.ne_nil_of_length_pos (by lia)
    have lastE : (S.cut n mk "in table body").last = S.items.getD (n - 1) 0 := take_last hn0 (Nat.le_of_lt hnl)
    have hmem := hsub _ (last_mem (S := S.cut n mk "in table body") hne)
    refine told_ok (S' := S.cut n mk "in table body") (I.wf hk (fun i h => I.it ▸ hsub i h) (by lia) (by lia) (by rw [c2]; exact Nat.zero_le _) _ _) (fun i hi => I.svg i (I.it ▸ hsub i hi)) hne (by show S.errors.length <= _; rw [c2]; exact Nat.zero_le _) (I.sh_sp (I.it ▸ hmem)) ?_
    have e : (S.cut n mk "in table body").note (if (S.cut n mk "in table body").sh (S.cut n mk "in table body").last = Str.empty then Str.ofString "foreign content" else Str.ofString "in table body") t = endSt S t mk ⟨n, "in table body", true, .none, ""⟩ [] n := by
      rw [endSt_eq c3]
      unfold mkOut ruleOf
      rw [<- lastE]
      show ({ S with items := S.items.take n, marks := mk, mode := "in table body", errors := S.errors ++ [_] } : St) = _
      rw [c2]; rfl
    rw [e]; exact h
  | false =>
    have e : S.cut n mk "in table body" = endSt S t mk ⟨n, "in table body", false, .none, ""⟩ [] n := by
      rw [endSt_eq c3]
      show ({ S with items := S.items.take n, marks := mk, mode := "in table body" } : St) = { S with items := S.items.take n, mode := "in table body", marks := mk, errors := [] ++ [] }
      rw [List.append_nil]
      cases S; cases c2; rfl
    unfold retell
    rw [e]; exact h
theorem row_finA {S' : St} {t : Tk} {mk : List Int} {again : Bool} {n : Nat} (hn : scopeL "tr" sh = n) (h1 : 0 < n) (h2 : n < S.items.length) (e : S' = endSt S t mk ⟨n, "in table body", again, .none, ""⟩ [] n) : FinA S S' t mk ⟨scopeL "tr" sh, "in table body", again, .none, ""⟩ [] [] :=
  ⟨rfl, .inl rfl, ⟨n, hn, h1, Nat.le_of_lt h2, e⟩, Nat.zero_le _, .inl rfl, nsd_nil, by kernel_rfl⟩
section
variable (I : BInv "in row" k S sh nd hm kids atts) (h0 : k ≠ 0) (hk : k <= 10) {t : Tk} {mk : List Int} (hmk : mk.length <= 100)
include I h0 hk hmk
theorem close_row {kind : Str} {again b : Bool} (hc : tcOk b t (.cl kind again) = true) {K : St -> Due -> List SV -> List SO -> Prop}
    (hA : ∀ S' D ns tm, FinA S S' t mk D ns tm -> K S' D ns tm) {G : St -> Prop}
    (hG : ∀ S', (∀ H, lcloseQ H (Due0 "in row" sh.length) [] sh kind "tr" "in table body" (fun D' ns' tm => K S' { D' with again := again } ns' tm) (K S')) -> G S') : closeR (S.wm mk) t.uw (fun S' => retell again "in table body" S' t G) G := by
  have hc := Bool.and_eq_true_iff.mp hc
  by_cases hR : scopeL "tr" sh = -1
  · exact row_miss I hk hmk hR (er_ok I h0 (uw_ok t) (by kernel_rfl) hA fun S' h => hG S' fun _ => lrow_miss I h0 hk hR (of_decide_eq_true hc.2) (of_decide_eq_true hc.1 ▸ h))
  · obtain ⟨n, hn, h1, h2, h3⟩ := row_cut I h0 hR
    exact row_hit I h0 hk hmk h1 h2 h3 hR (told_row I h0 hk hmk h1 h2 again (hG _ fun _ => lrow_hit I h0 hk hR (hA _ _ _ _ (row_finA hn h1 h2 rfl))))
theorem row_td {n : Str} (hn : (nmB.contains n && ((n == Str.ofString "col") == false)) = true) {al cops} {K : St -> List (List Int) -> List (List SV) -> Due -> List SV -> List SO -> Prop}
    (hB : ∀ S' kids' atts' D ns tm, FinB S S' kids kids' atts atts' hm mk D ns tm -> K S' kids' atts' D ns tm)
    {G : HS -> Prop} (hG : ∀ S' kids' atts', (∀ H, ltdQ H (Due0 "in row" sh.length) [] sh n t (K S' kids' atts')) -> G (hsO S' al kids' atts' cops none [])) : tdQ (S.wm mk) (hsO (S.wm mk) al kids atts cops none []) n G := by
  obtain ⟨c1, c2, c3, c4⟩ := I.cst
  have w1 := (I.whole h0).1
  have hl : S.items.length = k := by rw [I.it]; exact I.nlen
  have shl := I.shl
  have hn := Bool.and_eq_true_iff.mp hn
  have h00 : rowS (S.sh (S.items.getD 0 0)) = true := by
    have hf := I.first h0
    rw [List.head?_eq_getElem?, (I.shD w1).2] at hf
    have hf : S.sh (S.items.getD 0 0) = Str.ofString "html" := Option.some.inj hf
    rw [hf]; decide
  obtain ⟨m, m1, m2, m3, m4⟩ := last_at' (fun i => rowS (S.sh i)) S.items ⟨0, w1, h00⟩
  have hP : rowP (S.wm mk) = S.cut m mk S.mode := by
    show ({ S with items := popT (fun i => rowS (S.sh i)) S.items, marks := mk } : St) = _
    rw [popT_at _ m m1 _ m2 m3 m4]; rfl
  have hcell : ∀ i : Nat, i < S.items.length -> cellAt sh (i : Int) = rowS (S.sh (S.items.getD i 0)) := fun i hi => by
    unfold cellAt shAt
    rw [show ((i : Int)).toNat = i from rfl, (I.shD hi).1]
    generalize S.sh (S.items.getD i 0) = x
    unfold rowS
    simp only [List.map_cons, List.map_nil, List.contains_cons, List.contains_nil, Bool.or_false]
    cases (x == Str.ofString "html") <;> cases (x == Str.ofString "tr") <;> cases (x == Str.ofString "template") <;> rfl
  have hsub : ∀ i ∈ S.items.take m, i ∈ S.items := fun i hi => List.mem_of_mem_take hi
  have tl : (S.items.take m).length = m := by rw [List.length_take]; lia
  have hh : (S.cut m mk S.mode).home = hm.getD m 0 := by
    rw [(I.hmD m1 m2).1]
    have : (S.cut m mk S.mode).last = S.items.getD (m - 1) 0 := take_last m1 m2
    unfold St.home St.hom
    rw [this]; rfl
  have hin : ((m - 1 : Nat) : Int) ∈ (rngEls 0 (sh.length : Int) 1).filter (cellAt sh) := List.mem_filter.mpr ⟨rng_mem ⟨by lia, by lia⟩, by rw [hcell _ (by lia)]; exact m3⟩
  unfold tdQ
  rw [hP]
  have := ins_ok I hk m1 m2 I.kl (mk := mk) (m := S.mode) "element" "html" n "" at1 (al := al) (cops := cops) (tm := []) (K := fun h2 => onSt h2 fun S2 => lim (S2.items.length + 1) /\ lim (S2.marks.length + 1) /\ G { h2 with st := some { S2 with items := S2.items ++ [(S.kinds.length : Int)], mode := "in cell", marks := S2.marks ++ [-1] } }) fun l hl hll => ?_
  · rw [<- hh] at this
    exact ⟨I.wfm hk hmk, I.wf hk (fun i h => I.it ▸ hsub i h) (by lia) (by lia) (by rw [c2]; exact Nat.zero_le _) S.mode S.ack, List.ne_nil_of_length_pos (by show 0 < (S.items.take m).length; lia), this⟩
  · refine ⟨by show (S.items.take m).length + 1 <= _; lia, by show mk.length + 1 <= _; lia, hG _ _ _ fun H => ?_⟩
    have hrl := rng_len 0 (sh.length : Int)
    refine ⟨small_one (by lia) (by lia) (by lia) (by lia), cellAt sh, fun i hi part => ⟨mem_rng hi, fun q => ⟨q.symm, rfl, rfl⟩, fun q => ⟨q.symm, rfl, rfl⟩⟩, by show _ <= _; lia, List.ne_nil_of_mem hin, fun M hM1 hM2 => ?_⟩
    obtain ⟨z1, z2⟩ := List.mem_filter.mp hM1
    have z3 := mem_rng z1
    obtain ⟨M', rfl⟩ := Int.eq_ofNat_of_zero_le z3.1
    have hM' : M' < S.items.length := by lia
    rw [hcell _ hM'] at z2
    have hge := hM2 _ hin
    have hlt : M' < m := Nat.lt_of_not_le fun e => by
      have := m4 M' e hM'
      rw [show rowS (S.sh (S.items.getD M' 0)) = true from z2] at this; cases this
    have em : 1 + (M' : Int) = ((m : Nat) : Int) := by lia
    refine hB _ _ _ _ _ _ (.mk m "in cell" "element" "html" n "" at1 1 true l m1 m2 (.inr ⟨_, rfl, rfl⟩) (.inr rfl) ⟨by kernel_rfl, by kernel_rfl, by kernel_rfl, by kernel_rfl⟩ (List.contains_iff_mem.mp hn.1) hl hll ?_ rfl rfl rfl ?_)
    · unfold Due0; dsimp only; rw [em]; rfl
    unfold endSB
    rw [eq_of_beq hn.2, <- c2, <- c3]; rfl
theorem row_tb {n : Str} {b : Bool} (hc : tcOk b t (.tb n) = true) {K : St -> Due -> List SV -> List SO -> Prop}
    (hA : ∀ S' D ns tm, FinA S S' t mk D ns tm -> K S' D ns tm) {G : St -> Prop} (hG : ∀ S', (∀ H, ltbQ H (Due0 "in row" sh.length) [] sh n (K S')) -> G S') : tbQ (S.wm mk) n t G := by
  obtain ⟨c1, c2, c3, c4⟩ := I.cst
  have W := I.wfm hk hmk
  have hc := Bool.and_eq_true_iff.mp hc
  have hst : stops.contains n = false := by simpa using hc.1
  have huw : t.uw = Str.ofString "unexpected-end-tag" := of_decide_eq_true hc.2
  have shl := I.shl
  have scN : ∀ a, scanS a S.sh S.items.reverse = (scopeL a sh != -1) := fun a => by rw [I.shE, <- I.it, scopeL_map, scan_scope]
  unfold tbQ
  rw [show scanS n (S.wm mk).sh (S.wm mk).items.reverse = (scopeL n sh != -1) from scN n, show scanS "tr" (S.wm mk).sh (S.wm mk).items.reverse = (scopeL "tr" sh != -1) from scN "tr"]
  have lh : ∀ {S'}, (∀ H, (scopeL n sh == -1) = true /\ K S' (Due0 "in row" sh.length) ([] ++ [noteL (Due0 "in row" sh.length) "unexpected-end-tag"]) [] ∨ (scopeL n sh == -1) = false /\ ((scopeL "tr" sh != -1) = true /\ lcloseQ H (Due0 "in row" sh.length) [] sh "end" "tr" "in table body" (fun D' ns' tm => K S' { D' with again := true } ns' tm) (fun D' ns' tm => K S' { D' with again := false } ns' tm) ∨ (scopeL "tr" sh != -1) = false /\ K S' (Due0 "in row" sh.length) [] [])) -> G S' := fun {S'} h => hG S' fun H => by
    refine ⟨by lia, I.stop h0, hst, fun q => ⟨lim1, ?_⟩, fun q => ⟨by lia, I.stop h0, by decide, fun r => ?_, fun r => ?_⟩⟩
    · rcases h H with h | h
      · exact h.2
      · rw [q] at h; exact Bool.noConfusion h.1
    · rcases h H with h | ⟨_, h | h⟩
      · rw [q] at h; exact Bool.noConfusion h.1
      · exact h.2
      · rw [r] at h; exact Bool.noConfusion h.1
    · rcases h H with h | ⟨_, h | h⟩
      · rw [q] at h; exact Bool.noConfusion h.1
      · rw [r] at h; exact Bool.noConfusion h.1
      · exact h.2
  refine ⟨W, fun hs => ⟨W, fun hr => ?_, fun hr => ?_⟩, fun hs => ?_⟩
  · have hR : scopeL "tr" sh ≠ -1 := bne_iff_ne.mp hr
    obtain ⟨n', hn', h1, h2, h3⟩ := row_cut I h0 hR
    exact row_hit I h0 hk hmk h1 h2 h3 hR (told_row I h0 hk hmk h1 h2 true (lh fun H => .inr ⟨beq_eq_false_iff_ne.mpr (bne_iff_ne.mp hs), .inl ⟨hr, lrow_hit I h0 hk hR (hA _ _ _ _ (row_finA hn' h1 h2 rfl))⟩⟩))
  · obtain ⟨w1, w2, w3, w4, w5, w6⟩ := I.whole h0
    refine lh fun H => .inr ⟨beq_eq_false_iff_ne.mpr (bne_iff_ne.mp hs), .inr ⟨hr, hA _ _ _ _ ⟨rfl, .inl rfl, ⟨S.items.length, w5, w1, Nat.le_refl _, ?_⟩, Nat.zero_le _, .inl rfl, nsd_nil, by kernel_rfl⟩⟩⟩
    rw [endSt_eq c3]
    show _ = ({ S with items := S.items.take S.items.length, mode := "in row", marks := mk, errors := [] ++ [] } : St)
    rw [w4, List.append_nil]
    cases S; cases c2; cases c4; rfl
  · rw [huw]
    exact er_ok I h0 (by kernel_rfl) (by kernel_rfl) hA fun S' h => lh fun H => .inl ⟨beq_iff_eq.mpr (bneF hs), h⟩
end
theorem rowC_ok : toks.all (fun t => tcOk false t (rowC t)) = true := by kernel_rfl
theorem capC_ok : toks.all (fun t => tcOk true t (capC t)) = true := by kernel_rfl
theorem row_law (I : BInv "in row" k S sh nd hm kids atts) (h0 : k ≠ 0) (hk : k <= 10) {t : Tk} {c : TC} (hc : tcOk false t c = true) {mk : List Int} (hmk : mk.length <= 100) {al cops} {K : St -> List (List Int) -> List (List SV) -> Due -> List SV -> List SO -> Prop}
    (hA : ∀ S' D ns tm, FinA S S' t mk D ns tm -> K S' kids atts D ns tm)
    (hB : ∀ S' kids' atts' D ns tm, FinB S S' kids kids' atts atts' hm mk D ns tm -> K S' kids' atts' D ns tm)
    {G : HS -> Prop} (hG : ∀ S' kids' atts', (∀ H, lrowQ H (Due0 "in row" sh.length) [] sh t c (K S' kids' atts')) -> G (hsO S' al kids' atts' cops none [])) : rowQ (S.wm mk) (hsO (S.wm mk) al kids atts cops none []) t c G := by
  cases c with
  | nm w => exact nm_ok I h0 hc (by kernel_rfl) hA fun S' h => hG S' kids atts fun _ => h
  | er w => exact er_ok I h0 hc (by kernel_rfl) hA fun S' h => hG S' kids atts fun _ => ⟨lim1, h⟩
  | cl kind again => exact close_row I h0 hk hmk hc hA fun S' h => hG S' kids atts h
  | el n => exact row_td I h0 hk hmk hc hB hG
  | tb n => exact row_tb I h0 hk hmk hc hA fun S' h => hG S' kids atts h
  | _ => exact True.intro
end
theorem body5 : (bodyOf caseF.st).drop 5 = cs 5 :: cs 6 :: cs 7 :: cs 8 :: cs 9 :: cs 10 :: (bodyOf caseF.st).drop 11 := by kernel_rfl
noncomputable abbrev hs9 (S0 S : St) (ws : List Str) (mk : List Int) (sh : List Str) (nd hm : List Int) (kids : List (List Int)) (atts : List (List SV)) (cops : List (List Int)) (D : Due) (ns : List SV) (tm : List SO) : HS := hsO S (al9 S0 ws mk sh nd hm D ns) kids atts cops none tm
theorem al9_put (S0 : St) (ws mk sh nd hm) (D D' : Due) (ns ns' : List SV) : putA dueO (.sdict D'.d) (putA noO' (.list ns') (putA shO (.sl sh) (al9 S0 ws mk sh nd hm D ns))) = al9 S0 ws mk sh nd hm D' ns' := by kernel_rfl
theorem al9_due (S0 : St) (ws mk sh nd hm) (D : Due) (ns : List SV) : (al9 S0 ws mk sh nd hm D ns).lookup dueO = some (.sdict D.d) /\ (al9 S0 ws mk sh nd hm D ns).lookup noO' = some (.list ns) /\ (al9 S0 ws mk sh nd hm D ns).lookup shO = some (.sl sh) := ⟨by kernel_rfl, by kernel_rfl, by kernel_rfl⟩
theorem al7_ch (S0 : St) (ws mk sh nd hm) : (al7 S0 ws mk sh nd hm).lookup chO = none := by kernel_rfl
theorem iter5_not : notSet (stT (cs 5)) = true := by kernel_rfl
theorem own5 : ownS csc "mark" = true := by kernel_rfl
theorem case_mid {w : World} {hB : Heap} (b : Base w hB) {env : Env} {A : Around} (hs : env.scope = csc) (hA : AOk 162 A) {mode : Str} (hmode : mode = "in caption" ∨ mode = "in column group" ∨ mode = "in row") {t : Tk} (ht : t ∈ toks) {ws : List Str} {mk : List Int} (hmk : mk.length <= 100) {S sh nd hm kids atts k} (I : BInv mode k S sh nd hm kids atts) (h0 : k ≠ 0) (hk : k <= 10)
    (sm : Small (hsO S (al4 ws mk sh nd hm) kids atts [] none [])) {Q : SOut -> SVS -> HS -> Prop}
    (kA : ∀ S' D ns tm, FinA S S' t mk D ns tm -> Small (hs9 (S.wm mk) S' ws mk sh nd hm kids atts kids D ns tm) -> RS w hB A env (execs ((bodyOf caseF.st).drop 11) env) (vsf (ls9 mode t)) (mkH (hs9 (S.wm mk) S' ws mk sh nd hm kids atts kids D ns tm)) (OQ Q))
    (kB : ∀ S' kids' atts' D ns tm, FinB S S' kids kids' atts atts' hm mk D ns tm -> Small (hs9 (S.wm mk) S' ws mk sh nd hm kids' atts' kids D ns tm) -> RS w hB A env (execs ((bodyOf caseF.st).drop 11) env) (vsf (ls9 mode t)) (mkH (hs9 (S.wm mk) S' ws mk sh nd hm kids' atts' kids D ns tm)) (OQ Q)) :
    RS w hB A env (execs ((bodyOf caseF.st).drop 5) env) (vsf (ls3 mode t)) (mkH (hsO S (al4 ws mk sh nd hm) kids atts [] none [])) (OQ Q) := by
  have hkd := csc_kind
  have hA2 : AOk 142 A := hA.mono (by decide)
  have R0 := EV_ok b (noO (w := w) (hB := hB)) 71 csc hkd
  rw [body5]
  refine s_cons (Run.mono (Q := OQ fun o l h => o = .next /\ l = ls3 mode t /\ h = hsO (S.wm mk) (al4 ws mk sh nd hm) kids atts [] none []) ?_ (OQ.at fun s1 => ?_))
  · rw [cs5_eq]
    refine S_for R0 hs hA2 own5 iter5_not ns3 (fun k l h => l = ls3 mode t /\ h = hsO (S.wm (mk.take k)) (al4 ws mk sh nd hm) kids atts [] none []) sm
      (kmp (case5i S _ kids atts mode t _) ⟨.il mO mk, rfl, ?_, ⟨norm3 mode t, ?_⟩, ?_, ?_⟩)
    · rintro k l2 h2 _ ⟨_, rfl⟩; rfl
    · have := I.cst.1
      show _ = hsO { S with marks := [] } _ _ _ _ _ _
      rw [<- this]
    · rintro k e l2 h2 s2 ⟨rfl, rfl⟩ he
      have he : (mk.map SV.si)[k]? = some e := he
      rw [List.getElem?_map] at he
      obtain ⟨i, hi, rfl⟩ := Option.map_eq_some_iff.mp he
      refine kmp (case5b _ _ kids atts mode t i _) ⟨?_, norm5 mode t _, ?_⟩
      · show (mk.take k).length + 1 <= _; rw [List.length_take]; lia
      · rw [List.take_add_one, hi]; rfl
    · rintro l2 h2 s2 ⟨rfl, rfl⟩
      refine ⟨rfl, rfl, ?_⟩
      have : (SSrc.il mO mk).els.length = mk.length := by show (mk.map SV.si).length = _; rw [List.length_map]
      rw [this, List.take_of_length_le (Nat.le_refl _)]
  let S1 : St := S.wm mk
  refine S_at (k := 70) b noO hkd hs hA2 s1 (ls6 mode t) (hsO S1 (al6 S1 ws mk sh nd hm) kids atts [] none []) (kmp (case6 S1 ws mk sh nd hm kids atts mode t _) ⟨rfl, rfl, rfl⟩) fun s1 => ?_
  refine S_at (k := 70) b noO hkd hs hA2 s1 (ls7 mode t) (hsO S1 (al7 S1 ws mk sh nd hm) kids atts [] none []) (kmp (case7 S1 ws mk sh nd hm kids atts mode t _) ⟨rfl, rfl, rfl⟩) fun s1 => ?_
  have hkn : kids.length = S1.nch := by rw [I.ki]; exact I.ch.symm
  refine case8 (n := 0) b hs hA2 s1 (al7_ch S1 ws mk sh nd hm) hkn (by have := I.big; have := I.ki; lia) fun s1 => ?_
  have tk : kids.take S1.nch = kids := List.take_of_length_le (by lia)
  have e8 : hs8 S1 (al7 S1 ws mk sh nd hm) kids atts S1.nch = hsO S1 (al8 S1 ws mk sh nd hm) kids atts kids none [] := by
    show hsO S1 _ kids atts (kids.take S1.nch) none [] = _
    rw [tk]
  rw [e8] at s1 ⊢
  refine S_at (k := 70) b noO hkd hs hA2 s1 (ls9 mode t) (hs9 S1 S1 ws mk sh nd hm kids atts kids (Due0 mode sh.length) [] []) (kmp (case9 S1 ws mk sh nd hm kids atts kids mode t _) ⟨rfl, rfl, rfl⟩) fun s1 => ?_
  let PQ : SVS -> HS -> Prop := fun l h => l = ls9 mode t /\ ((∃ S' D ns tm, FinA S S' t mk D ns tm /\ h = hs9 S1 S' ws mk sh nd hm kids atts kids D ns tm) ∨ ∃ S' kids' atts' D ns tm, FinB S S' kids kids' atts atts' hm mk D ns tm /\ h = hs9 S1 S' ws mk sh nd hm kids' atts' kids D ns tm)
  have fin : ∀ l h, Small h -> PQ l h -> RS w hB A env (execs ((bodyOf caseF.st).drop 11) env) (vsf l) (mkH h) (OQ Q) := by
    rintro l h sm ⟨rfl, ⟨S', D, ns, tm, F, rfl⟩ | ⟨S', kids', atts', D, ns, tm, F, rfl⟩⟩
    · exact kA S' D ns tm F sm
    · exact kB S' kids' atts' D ns tm F sm
  let KH : St -> List (List Int) -> List (List SV) -> Due -> List SV -> List SO -> Prop := fun S' kids' atts' D ns tm => ∀ v : SV, SOut.next = SOut.next /\ PQ (ls9 mode t) (hsO S' (putA dueO (.sdict D.d) (putA noO' (.list ns) (putA shO (.sl sh) (al9 S1 ws mk sh nd hm (Due0 mode sh.length) [])))) kids' atts' kids none tm)
  have hKA : ∀ S' D ns tm, FinA S S' t mk D ns tm -> KH S' kids atts D ns tm := fun S' D ns tm F v => ⟨rfl, rfl, .inl ⟨S', D, ns, tm, F, by rw [al9_put]⟩⟩
  have hKB : ∀ S' kids' atts' D ns tm, FinB S S' kids kids' atts atts' hm mk D ns tm -> KH S' kids' atts' D ns tm := fun S' kids' atts' D ns tm F v => ⟨rfl, rfl, .inr ⟨S', kids', atts', D, ns, tm, F, by rw [al9_put]⟩⟩
  have hO := orcs3_ok b
  obtain ⟨g1, g2, g3⟩ := al9_due S1 ws mk sh nd hm (Due0 mode sh.length) []
  refine S_first (k := 80) b hO hkd hs hA s1 PQ ?_ fun l h s p => fin l h s p
  rcases hmode with rfl | rfl | rfl
  · exact kmp (case10a _ t _) ⟨S1, t, rfl, ht, rfl, rfl, cap_law I h0 hk (List.all_eq_true.mp capC_ok t ht) hmk hKA fun S' hL v => ⟨_, _, sh, t, rfl, ht, g1, g2, g3, rfl, hL⟩⟩
  · exact kmp (case10b _ t _) ⟨S1, t, rfl, ht, rfl, rfl, col_law I h0 hk (List.all_eq_true.mp colC_ok t ht) hmk hKA hKB fun S' kids' atts' hL v => ⟨_, _, sh, t, rfl, ht, g1, g2, g3, rfl, fun _ => hL⟩⟩
  · exact kmp (case10c _ t _) ⟨S1, t, rfl, ht, rfl, rfl, I.cst.2.2.2, row_law I h0 hk (List.all_eq_true.mp rowC_ok t ht) hmk hKA hKB fun S' kids' atts' hL v => ⟨_, _, sh, t, rfl, ht, g1, g2, g3, rfl, hL⟩⟩
noncomputable def neQ (a b : SV) (h : HS) (f k : Prop) : Prop := ∃ da db, DR (mkH h) a.av da /\ DR (mkH h) b.av db /\ (da.canLay0 = true /\ db.canLay0 = true /\ da.depth <= 64) /\ br (!PyData.eqv da db) f k
noncomputable def lsE (mode : Str) (t : Tk) (kp : Int) (j : Nat) : SVS := vr "line" (.ref (.m j)) :: vr "keep" (.si kp) :: ls9 mode t
noncomputable def fiveL : SO := .list [.ref (.s .kinds), .ref (.s .spaces), .ref (.s .names), .ref (.s .attrs), .ref (.s .texts)]
theorem neQ_same {a b : SV} {h : HS} {f k : Prop} {d : PyData} (d1 : DR (mkH h) a.av d) (d2 : DR (mkH h) b.av d) (l : d.canLay0 = true) (dp : d.depth <= 64) (hk : k) : neQ a b h f k :=
  ⟨d, d, d1, d2, ⟨l, l, dp⟩, fun q => (by rw [PySem.SeqAt.eqv_refl d l] at q; cases q), fun _ => hk⟩
noncomputable def intsD (l : List Int) : PyData := .list (l.map .int)
noncomputable def strsD (l : List Str) : PyData := .list (l.map .str)
theorem ints_dat (H : AHeap) : ∀ l : List Int, DRs H (l.map .int) (l.map .int)
  | [] => .nil
  | _ :: l => .cons (.int _) (ints_dat H l)
theorem ints_lay : ∀ l : List Int, PyData.canLayAll0 (l.map PyData.int) = true
  | [] => rfl
  | x :: l => by
    show (PyData.canLay0 (.int x) && PyData.canLayAll0 (l.map PyData.int)) = true
    rw [ints_lay l, Bool.and_true]; rfl
theorem DR_il {h : HS} {o : Oid} {l : List Int} (e : h.get o = some (.il l)) : DR (mkH h) (.ref o) (intsD l) := .list (mkH_some e) (ints_dat _ l)
theorem DR_sl {h : HS} {o : Oid} {l : List Str} (e : h.get o = some (.sl l)) : DR (mkH h) (.ref o) (strsD l) := .list (mkH_some e) (strs_dat _ l)
theorem DRs_refs {H : AHeap} {α : Type} (o : Nat -> Oid) (g : α -> PyData) : ∀ (l : List α) (k : Nat), (∀ j x, l[j]? = some x -> DR H (.ref (o (k + j))) (g x)) -> DRs H ((List.range' k l.length).map fun j => AV.ref (o j)) (l.map g)
  | [], k, _ => .nil
  | x :: l, k, h => by
    rw [List.length_cons, List.range'_succ, List.map_cons, List.map_cons]
    refine .cons (h 0 x rfl) (DRs_refs o g l (k + 1) fun j y hy => ?_)
    have := h (j + 1) y hy
    rw [show k + 1 + j = k + (j + 1) by lia]
    exact this
noncomputable def kidsD (l : List (List Int)) : PyData := .list (l.map intsD)
theorem DR_kr {h : HS} {o : Oid} {n : Nat} (e : h.get o = some (.kr n)) (hn : h.kids.length = n) : DR (mkH h) (.ref o) (kidsD h.kids) := by
  refine .list (mkH_some e) ?_
  have := DRs_refs (H := mkH h) .kid intsD h.kids 0 fun j x hx => DR_il (by rw [Nat.zero_add]; show (h.kids[j]?).map SO.il = _; rw [hx]; rfl)
  rw [hn, <- List.range_eq_range'] at this
  exact this
theorem DR_cr {h : HS} {o : Oid} {n : Nat} (e : h.get o = some (.list (cRefs n))) (hn : h.cops.length = n) : DR (mkH h) (.ref o) (kidsD h.cops) := by
  refine .list (mkH_some e) ?_
  have := DRs_refs (H := mkH h) .c intsD h.cops 0 fun j x hx => DR_il (by rw [Nat.zero_add]; show (h.cops[j]?).map SO.il = _; rw [hx]; rfl)
  rw [hn, <- List.range_eq_range'] at this
  show DRs _ (avs (cRefs n)) _
  rw [avs_cRefs]
  exact this
theorem DR_ar {h : HS} {o : Oid} {n : Nat} (e : h.get o = some (.ar n)) (hn : h.atts.length = n) (ha : ∀ a ∈ h.atts, a = []) : DR (mkH h) (.ref o) (.list (h.atts.map fun _ => .list [])) := by
  refine .list (mkH_some e) ?_
  have := DRs_refs (H := mkH h) .att (fun _ => PyData.list []) h.atts 0 fun j x hx => by
    rw [Nat.zero_add]
    have hx0 := ha x (List.mem_of_getElem? hx)
    subst hx0
    exact .list (mkH_some (x := .list []) (by show (h.atts[j]?).map SO.list = _; rw [hx]; rfl)) .nil
  rw [hn, <- List.range_eq_range'] at this
  exact this
theorem all_lay {α : Type} (g : α -> PyData) : ∀ l : List α, (∀ x ∈ l, (g x).canLay0 = true) -> PyData.canLayAll0 (l.map g) = true
  | [], _ => rfl
  | x :: l, h => by
    show ((g x).canLay0 && PyData.canLayAll0 (l.map g)) = true
    rw [all_lay g l (fun y hy => h y (.tail _ hy)), h x (.head _)]; rfl
theorem all_depth {α : Type} (g : α -> PyData) (n : Nat) : ∀ l : List α, (∀ x ∈ l, (g x).depth <= n) -> PyData.depthAll (l.map g) <= n
  | [], _ => by rw [List.map_nil, PyData.depthAll]; exact Nat.zero_le _
  | x :: l, h => by
    rw [List.map_cons, PyData.depthAll]
    have h1 := all_depth g n l fun y hy => h y (.tail _ hy)
    have h2 := h x (.head _)
    lia
theorem ints_ok (l : List Int) : (intsD l).canLay0 = true /\ (intsD l).depth <= 3 := by
  refine ⟨?_, ?_⟩
  · unfold intsD; rw [PyData.canLay0]; exact ints_lay l
  · unfold intsD; rw [PyData.depth]
    have := all_depth PyData.int 1 l fun x _ => by rw [PyData.depth]; lia
    lia
theorem kids_ok (l : List (List Int)) : (kidsD l).canLay0 = true /\ (kidsD l).depth <= 5 := by
  refine ⟨?_, ?_⟩
  · unfold kidsD; rw [PyData.canLay0]; exact all_lay _ _ fun x _ => (ints_ok x).1
  · unfold kidsD; rw [PyData.depth]
    have := all_depth intsD 3 l fun x _ => (ints_ok x).2
    lia
theorem strs_ok (l : List Str) (h : ∀ x ∈ l, PyData.strOk x = true) : (strsD l).canLay0 = true /\ (strsD l).depth <= 3 := by
  refine ⟨?_, strs_depth l⟩
  unfold strsD; rw [PyData.canLay0]; exact strs_lay l (List.all_eq_true.mpr h)
theorem nils_ok {α : Type} (l : List α) : (PyData.list (l.map fun _ => PyData.list [])).canLay0 = true /\ (PyData.list (l.map fun _ => PyData.list [])).depth <= 4 := by
  refine ⟨?_, ?_⟩
  · rw [PyData.canLay0]; exact all_lay _ _ fun x _ => rfl
  · rw [PyData.depth]
    have := all_depth (fun _ : α => PyData.list []) 2 l fun x _ => by rw [PyData.depth, PyData.depthAll]; lia
    lia
noncomputable def cmpEnd (h : HS) (mode m : Str) (i j : Nat) (mkv : Oid) (Q : SV -> HS -> Prop) : Prop :=
  let f : Prop := AvQ Q (.bool false) h
  neQ (.ref (.m i)) (.ref (kO 11)) h f (neQ (.ref (.s .children)) (.ref chO) h f (neQ (.ref (.s .parents)) (.ref paO) h f (neQ (.ref (.s .items)) (.ref (.m j)) h f (neQ (.ref (.s .marks)) (.ref mkv) h f
    (∃ da db, DR (mkH h) (SV.tup [.str mode, .ref (.s .errors)]).av da /\ DR (mkH h) (SV.tup [.str m, .ref noO']).av db /\ (da.canLay0 = true /\ db.canLay0 = true /\ da.depth <= 64) /\ AvQ Q (.sb (PyData.eqv da db)) h)))))
noncomputable def ruleQ (sh : List Str) (kp : Int) (m : Str) (k : Str -> Prop) : Prop := (0 <= kp - 1 /\ kp - 1 < sh.length) /\ br (sh.getD (kp - 1).toNat Str.empty != Str.ofString "") (k m) (k "foreign content")
noncomputable def endA (S0 S : St) (ws : List Str) (mk : List Int) (sh : List Str) (nd hm : List Int) (kids : List (List Int)) (atts : List (List SV)) (cops : List (List Int)) (ns : List SV) (t : Tk) (kp : Int) (m : Str) (again : Bool) (tm : List SO) (Q : SV -> HS -> Prop) : Prop :=
  let go (ns' : List SV) : Prop := cmpEnd (hs9 S0 { S with ack := false } ws mk sh nd hm kids atts cops ⟨kp, m, again, .none, ""⟩ ns' (tm ++ [.il (cutAt false nd kp.toNat)] ++ [fiveL])) S.mode m (tm.length + 1) tm.length mO Q
  0 <= kp /\ match again with
    | true => ruleQ sh kp m fun r => lim (ns.length + 1) /\ go (ns ++ [.tup [.str r, .str m, t.sv]])
    | false => go ns
theorem endA_eq (S0 S : St) (ws mk sh nd hm kids atts cops ns mode t) (kp : Int) (m : Str) (a b : List Str) (Q : SV -> HS -> Prop) :
    [(true, []), (false, []), (true, [.sl a, .sl b, .list []]), (false, [.sl a, .sl b, .list []])].map (fun p : Bool × List SO => ((EV [] 80) csc).s ((bodyOf caseF.st).drop 11) (ls9 mode t) (hs9 S0 { S with ack := false } ws mk sh nd hm kids atts cops ⟨kp, m, p.1, .none, ""⟩ ns p.2) (retS (AvQ Q))) =
    [(true, []), (false, []), (true, [.sl a, .sl b, .list []]), (false, [.sl a, .sl b, .list []])].map (fun p : Bool × List SO => endA S0 S ws mk sh nd hm kids atts cops ns t kp m p.1 p.2 Q) := by kernel_rfl
noncomputable def endC (S0 S : St) (ws : List Str) (mk : List Int) (sh : List Str) (nd hm : List Int) (kids : List (List Int)) (atts : List (List SV)) (cops : List (List Int)) (ns : List SV) (mode : Str) (t : Tk) (kp : Int) (m : Str) (again : Bool) (tm : List SO) (Q : SV -> HS -> Prop) : Prop :=
  let len : Int := mk.length
  let f := rngEls 0 len 1
  let H (ns' : List SV) (u : List SO) : HS := hs9 S0 { S with ack := false } ws mk sh nd hm kids atts cops ⟨kp, m, again, .none, "clear"⟩ ns' (tm ++ [.il (cutAt false nd kp.toNat)] ++ u)
  let go (l : SVS) (ns' : List SV) : Prop := let L (i : Int) : SVS := vr "at" (.si i) :: l
    Builtin.Range.small 0 len 1 = true /\ ∃ P : Int -> Bool, (∀ i, i ∈ f -> ∀ part : List Int, (0 <= i /\ i < len) /\ br (mk.getD i.toNat 0 == -1) (true = P i /\ L i = L i /\ H ns' [.il [0], .il part] = H ns' [.il [0], .il part]) (false = P i /\ L i = L i /\ H ns' [.il [0], .il part] = H ns' [.il [0], .il part])) /\
    lim f.length /\ lim ([(0 : Int)].length + (f.filter P).length) /\ [0] ++ f.filter P ≠ [] /\ ∀ M, M ∈ [0] ++ f.filter P -> (∀ a, a ∈ [0] ++ f.filter P -> a <= M) -> 0 <= M /\
      cmpEnd (H ns' [.il [0], .il (f.filter P), .il ([0] ++ f.filter P), .il (cutAt false mk M.toNat), fiveL]) S.mode m (tm.length + 5) tm.length (.m (tm.length + 4)) Q
  0 <= kp /\ match again with
    | true => ruleQ sh kp m fun r => lim (ns.length + 1) /\ go (vr "rule" (.str r) :: lsE mode t kp tm.length) (ns ++ [.tup [.str r, .str m, t.sv]])
    | false => go (lsE mode t kp tm.length) ns
theorem endC_eq (S0 S : St) (ws mk sh nd hm kids atts cops ns mode t) (kp : Int) (m : Str) (a b : List Str) (Q : SV -> HS -> Prop) :
    [true, false].map (fun p : Bool => ((EV [] 80) csc).s ((bodyOf caseF.st).drop 11) (ls9 mode t) (hs9 S0 { S with ack := false } ws mk sh nd hm kids atts cops ⟨kp, m, p, .none, "clear"⟩ ns [.sl a, .sl b, .list []]) (retS (AvQ Q))) =
    [true, false].map (fun p : Bool => endC S0 S ws mk sh nd hm kids atts cops ns mode t kp m p [.sl a, .sl b, .list []] Q) := by kernel_rfl
noncomputable def mkAt (mk : List Int) (i : Int) : Bool := mk.getD i.toNat 0 == -1
theorem popM_cut : ∀ (mk : List Int) (M : Int), M ∈ [0] ++ (rngEls 0 mk.length 1).filter (mkAt mk) -> (∀ a, a ∈ [0] ++ (rngEls 0 mk.length 1).filter (mkAt mk) -> a <= M) -> popM mk = mk.take M.toNat := by
  refine snoc_ind (fun M _ _ => by rw [List.take_nil]; rfl) fun l i ih M h1 h2 => ?_
  have hlen : ((l ++ [i]).length : Int) = l.length + 1 := by rw [List.length_append]; rfl
  rw [hlen] at h1 h2
  have hM0 : 0 <= M := h2 0 (List.mem_append_left _ (.head _))
  unfold popM
  rw [popU_snoc]
  by_cases q : (i == -1) = true
  · rw [if_pos q]
    have hge := h2 (l.length : Int) (List.mem_append_right _ (List.mem_filter.mpr ⟨rng_mem ⟨by lia, by lia⟩, by unfold mkAt; rw [getD_at (show ((l.length : Int)).toNat = l.length from rfl)]; exact q⟩))
    have hle : M <= l.length := by
      rcases List.mem_append.mp h1 with h | h
      · have : M = 0 := List.mem_singleton.mp h; lia
      · have := mem_rng (List.mem_filter.mp h).1; lia
    have : M.toNat = l.length := by lia
    rw [this, List.take_left]
  · rw [if_neg q]
    have sub : ∀ a : Int, a ∈ (rngEls 0 (l.length + 1) 1).filter (mkAt (l ++ [i])) ↔ a ∈ (rngEls 0 l.length 1).filter (mkAt l) := fun a => by
      rw [List.mem_filter, List.mem_filter]
      constructor
      · rintro ⟨x, y⟩
        have x := mem_rng x
        by_cases e : a = l.length
        · subst e; unfold mkAt at y; rw [getD_at (show ((l.length : Int)).toNat = l.length from rfl)] at y; exact absurd y q
        · refine ⟨rng_mem ⟨x.1, by lia⟩, ?_⟩
          unfold mkAt at y ⊢; rwa [getD_left (by lia)] at y
      · rintro ⟨x, y⟩
        have x := mem_rng x
        refine ⟨rng_mem ⟨x.1, by lia⟩, ?_⟩
        unfold mkAt at y ⊢; rwa [getD_left (by lia)]
    have g1 : M ∈ [0] ++ (rngEls 0 l.length 1).filter (mkAt l) := by
      rcases List.mem_append.mp h1 with h | h
      · exact List.mem_append_left _ h
      · exact List.mem_append_right _ ((sub M).mp h)
    have g2 : ∀ a, a ∈ [0] ++ (rngEls 0 l.length 1).filter (mkAt l) -> a <= M := fun a ha => h2 a (by
      rcases List.mem_append.mp ha with h | h
      · exact List.mem_append_left _ h
      · exact List.mem_append_right _ ((sub a).mpr h))
    have := ih M g1 g2
    unfold popM at this
    have hle : M.toNat <= l.length := by
      rcases List.mem_append.mp g1 with h | h
      · have : M = 0 := List.mem_singleton.mp h; lia
      · have := mem_rng (List.mem_filter.mp h).1; lia
    rw [this, List.take_append_of_le_length hle]
noncomputable def DatN (H : AHeap) (a b : AV) (n : Nat) : Prop := ∃ d, DR H a d /\ DR H b d /\ d.canLay0 = true /\ d.depth <= n
noncomputable def DatsN (H : AHeap) (a b : List AV) (n : Nat) : Prop := ∃ d, DRs H a d /\ DRs H b d /\ PyData.canLayAll0 d = true /\ PyData.depthAll d <= n
section
variable {H : AHeap} {h : HS} {n : Nat}
theorem DatsN.nil : DatsN H [] [] n := ⟨[], .nil, .nil, rfl, by rw [PyData.depthAll]; exact Nat.zero_le _⟩
theorem DatsN.cons {a b : AV} {as bs : List AV} (x : DatN H a b n) (y : DatsN H as bs n) : DatsN H (a :: as) (b :: bs) n := by
  obtain ⟨d, a1, a2, a3, a4⟩ := x
  obtain ⟨ds, b1, b2, b3, b4⟩ := y
  refine ⟨d :: ds, .cons a1 b1, .cons a2 b2, ?_, ?_⟩
  · show (d.canLay0 && PyData.canLayAll0 ds) = true
    rw [a3, b3]; rfl
  · rw [PyData.depthAll]; lia
theorem DatsN.list {o o' : Oid} {xs ys : List AV} (d : DatsN H xs ys n) (h1 : H o = some (.list xs)) (h2 : H o' = some (.list ys)) : DatN H (.ref o) (.ref o') (n + 1) := by
  obtain ⟨ds, b1, b2, b3, b4⟩ := d
  refine ⟨.list ds, .list h1 b1, .list h2 b2, ?_, ?_⟩
  · rw [PyData.canLay0]; exact b3
  · rw [PyData.depth]; lia
theorem DatsN.tup {xs ys : List AV} (d : DatsN H xs ys n) : DatN H (.tup xs) (.tup ys) (n + 1) := by
  obtain ⟨ds, b1, b2, b3, b4⟩ := d
  refine ⟨.tuple ds, .tup b1, .tup b2, ?_, ?_⟩
  · rw [PyData.canLay0]; exact b3
  · rw [PyData.depth]; lia
theorem DatN.mono {a b : AV} {m : Nat} (x : DatN H a b n) (l : n <= m) : DatN H a b m := let ⟨d, a1, a2, a3, a4⟩ := x; ⟨d, a1, a2, a3, Nat.le_trans a4 l⟩
theorem DatN.neQ {a b : SV} {f k : Prop} (x : DatN (mkH h) a.av b.av n) (hk : k) (l : n <= 64 := by decide) : neQ a b h f k := let ⟨d, a1, a2, a3, a4⟩ := x; neQ_same a1 a2 a3 (Nat.le_trans a4 l) hk
theorem DatN.str {x : Str} (s : PyData.strOk x = true) : DatN H (.str x) (.str x) n := ⟨.str x, .str x, .str x, by rw [PyData.canLay0]; exact s, by rw [PyData.depth]; exact Nat.zero_le _⟩
theorem dat_il {o o' : Oid} {l : List Int} (h1 : h.get o = some (.il l)) (h2 : h.get o' = some (.il l)) : DatN (mkH h) (.ref o) (.ref o') 3 := ⟨intsD l, DR_il h1, DR_il h2, (ints_ok l).1, (ints_ok l).2⟩
theorem dat_sl {o o' : Oid} {l : List Str} (hl : ∀ x ∈ l, PyData.strOk x = true) (h1 : h.get o = some (.sl l)) (h2 : h.get o' = some (.sl l)) : DatN (mkH h) (.ref o) (.ref o') 3 := ⟨strsD l, DR_sl h1, DR_sl h2, (strs_ok l hl).1, (strs_ok l hl).2⟩
theorem dats_same : ∀ {l : List SV}, (∀ x ∈ l, DatN H x.av x.av n) -> DatsN H (avs l) (avs l) n
  | [], _ => .nil
  | x :: l, hl => .cons (hl x (.head _)) (dats_same fun y hy => hl y (.tail _ hy))
theorem tok_dat : toks.all (fun t => match datOf t.sv with | some d => d.canLay0 && Nat.ble d.depth 10 | none => false) = true := by kernel_rfl
theorem dat_tok {t : Tk} (ht : t ∈ toks) : DatN H t.sv.av t.sv.av 10 := by
  have := List.all_eq_true.mp tok_dat t ht
  cases q : datOf t.sv with
  | none => rw [q] at this; cases this
  | some d =>
    rw [q] at this
    have this := Bool.and_eq_true_iff.mp this
    exact ⟨d, datOf_dr q, datOf_dr q, this.1, Nat.le_of_ble_eq_true this.2⟩
theorem dat_note {t : Tk} (ht : t ∈ toks) {x : SV} (hx : NsD t x) : DatN H x.av x.av 11 := by
  obtain ⟨a, b, h1, h2, rfl | rfl⟩ := hx
  · exact DatsN.tup (.cons (.str h1) (.cons (.str h2) .nil))
  · exact DatsN.tup (.cons (.str h1) (.cons (.str h2) (.cons (dat_tok ht) .nil)))
structure CmpH (h : HS) (m : Str) (i j : Nat) (mkv : Oid) (t : Tk) : Prop where
  i1 : h.get (.m i) = some fiveL
  i2 : h.get (kO 11) = some (.list [.ref (kO 12), .ref (kO 30), .ref (kO 49), .ref (kO 67), .ref (kO 85)])
  k1 : DatN (mkH h) (.ref (.s .kinds)) (.ref (kO 12)) 10
  k2 : DatN (mkH h) (.ref (.s .spaces)) (.ref (kO 30)) 10
  k3 : DatN (mkH h) (.ref (.s .names)) (.ref (kO 49)) 10
  k4 : DatN (mkH h) (.ref (.s .attrs)) (.ref (kO 67)) 10
  k5 : DatN (mkH h) (.ref (.s .texts)) (.ref (kO 85)) 10
  ch : DatN (mkH h) (.ref (.s .children)) (.ref chO) 10
  pa : DatN (mkH h) (.ref (.s .parents)) (.ref paO) 10
  it : DatN (mkH h) (.ref (.s .items)) (.ref (.m j)) 10
  mr : DatN (mkH h) (.ref (.s .marks)) (.ref mkv) 10
  er : ∃ es, h.get (.s .errors) = some (.list es) /\ h.get noO' = some (.list es) /\ ∀ x ∈ es, NsD t x
  mo : PyData.strOk m = true
theorem cmp_ok {m : Str} {i j : Nat} {mkv : Oid} {t : Tk} (ht : t ∈ toks) (c : CmpH h m i j mkv t) {Q : SV -> HS -> Prop} (hq : Q (.bool true) h) : cmpEnd h m m i j mkv Q := by
  have five : DatN (mkH h) (.ref (.m i)) (.ref (kO 11)) 11 := DatsN.list (.cons c.k1 (.cons c.k2 (.cons c.k3 (.cons c.k4 (.cons c.k5 .nil))))) (mkH_some c.i1) (mkH_some c.i2)
  refine five.neQ (c.ch.neQ (c.pa.neQ (c.it.neQ (c.mr.neQ ?_))))
  obtain ⟨es, e1, e2, e3⟩ := c.er
  have er : DatN (mkH h) (.ref (.s .errors)) (.ref noO') 12 := DatsN.list (dats_same fun x hx => dat_note ht (e3 x hx)) (mkH_some e1) (mkH_some e2)
  obtain ⟨d, d1, d2, d3, d4⟩ : DatN (mkH h) (SV.tup [.str m, .ref (.s .errors)]).av (SV.tup [.str m, .ref noO']).av 13 := DatsN.tup (.cons (.str c.mo) (.cons er .nil))
  refine ⟨d, d, d1, d2, ⟨d3, d3, by lia⟩, .bool true, ?_, hq⟩
  rw [PySem.SeqAt.eqv_refl d d3]; rfl
end
noncomputable def caseQ (ws : List Str) (mk : List Int) : SV -> HS -> Prop := fun a h => a = .bool true /\ h.get wO = some (.sl ws) /\ h.get mO = some (.il mk)
section
variable {mode : Str} {k : Nat} {S : St} {sh : List Str} {nd hm : List Int} {kids : List (List Int)} {atts : List (List SV)} {ws : List Str}
theorem of_bne {x : Str} (q : (x != Str.ofString "") = false) : x = Str.empty := by
  have : x = Str.ofString "" := by simpa using q
  rw [this]; rfl
theorem rule_ok (I : BInv mode k S sh nd hm kids atts) {n : Nat} (h0 : 0 < n) (hn : n <= S.items.length) {m : Str} {f : Str -> Prop} (h : f (ruleOf S n m)) : ruleQ sh n m f := by
  have hl : n - 1 < S.items.length := by lia
  have hs : sh.length = S.items.length := by rw [I.shE, I.it, List.length_map]
  have e : ((n : Int) - 1).toNat = n - 1 := tn_p n
  refine ⟨⟨by lia, by lia⟩, ?_⟩
  rw [e, (I.shD hl).1]
  unfold ruleOf at h
  refine ⟨fun q => ?_, fun q => ?_⟩
  · rw [if_neg (fun z => by rw [z] at q; cases q)] at h; exact h
  · rw [if_pos (of_bne q)] at h; exact h
theorem rule_str {n : Nat} {m : Str} (hm : PyData.strOk m = true) : PyData.strOk (ruleOf S n m) = true := by
  unfold ruleOf
  split
  · kernel_rfl
  · exact hm
theorem cmp_A (I : BInv mode k S sh nd hm kids atts) {t : Tk} (ht : t ∈ toks) {mk mk' : List Int} {n : Nat} {D : Due} {es : List SV} {tm : List SO} {i j : Nat} {mkv : Oid} (hes : ∀ x ∈ es, NsD t x) (hmo : PyData.strOk D.mode = true)
    (hi : tm[i]? = some fiveL) (hj : tm[j]? = some (.il (nd.take n))) (hmk : ∀ S', (hs9 (S.wm mk) S' ws mk sh nd hm kids atts kids D es tm).get mkv = some (.il mk')) {T : St} (hS : T = { S with items := S.items.take n, mode := D.mode, marks := mk', errors := es, ack := false }) :
    cmpEnd (hs9 (S.wm mk) T ws mk sh nd hm kids atts kids D es tm) D.mode D.mode i j mkv (caseQ ws mk) := by
  subst hS
  refine cmp_ok ht (CmpH.mk (h := hs9 _ _ ws mk sh nd hm kids atts kids D es tm) hi rfl ?_ ?_ ?_ ?_ ?_ ?_ ?_ ?_ ?_ ⟨es, rfl, rfl, hes⟩ hmo) ⟨rfl, rfl, rfl⟩
  · exact (dat_sl I.lay.1 rfl rfl).mono (by decide)
  · exact (dat_sl I.lay.2.1 rfl rfl).mono (by decide)
  · exact (dat_sl I.lay.2.2.1 rfl rfl).mono (by decide)
  · exact ⟨_, DR_ar (n := S.nat) rfl (by rw [I.at']; exact I.tt) I.ae, DR_ar (n := S.nat) rfl (by rw [I.at']; exact I.tt) I.ae, (nils_ok _).1, Nat.le_trans (nils_ok _).2 (by decide)⟩
  · exact (dat_sl I.lay.2.2.2 rfl rfl).mono (by decide)
  · exact ⟨_, DR_kr (n := S.nch) rfl (by rw [I.ch]; exact I.ki), DR_cr (n := S.nch) rfl (by rw [I.ch]; exact I.ki), (kids_ok _).1, Nat.le_trans (kids_ok _).2 (by decide)⟩
  · exact (dat_il (l := S.parents) rfl rfl).mono (by decide)
  · exact (dat_il (l := S.items.take n) rfl (by rw [I.it]; exact hj)).mono (by decide)
  · exact (dat_il (l := mk') rfl (hmk _)).mono (by decide)
end
section
variable {mode : Str} {k : Nat} {S : St} {sh : List Str} {nd hm : List Int} {kids : List (List Int)} {atts : List (List SV)} {ws : List Str}
theorem nsd_snoc {t : Tk} {ns : List SV} {a b : Str} (h : ∀ x ∈ ns, NsD t x) (ha : PyData.strOk a = true) (hb : PyData.strOk b = true) : ∀ x ∈ ns ++ [.tup [.str a, .str b, t.sv]], NsD t x := fun x hx => by
  rcases List.mem_append.mp hx with hx | hx
  · exact h x hx
  · cases hx with
    | head => exact ⟨a, b, ha, hb, .inr rfl⟩
    | tail _ hx => cases hx
noncomputable def againL (again : Bool) (x : SV) : List SV := match again with
  | true => [x]
  | false => []
theorem endA_ok (I : BInv mode k S sh nd hm kids atts) {t : Tk} (ht : t ∈ toks) {mk : List Int} {S' D ns tm} (F : FinA S S' t mk D ns tm) (hm' : D.marks = "") : endA (S.wm mk) S' ws mk sh nd hm kids atts kids ns t D.keep D.mode D.again tm (caseQ ws mk) := by
  obtain ⟨f1, f2, ⟨n, f3, f4, f5, rfl⟩, f6, f7, f8, f9⟩ := F
  obtain ⟨kp, m, again, added, marks⟩ := D
  dsimp only at *
  subst f1; subst f3; subst hm'
  have hi : ∀ x y : SO, (tm ++ [x] ++ [y])[tm.length + 1]? = some y := fun x y => by simp
  have hj : ∀ x y : SO, (tm ++ [x] ++ [y])[tm.length]? = some x := fun x y => by simp
  have hack := I.cst.2.2.1
  have hmk' : mkOut ⟨(n : Int), m, again, .none, ""⟩ mk = mk := by unfold mkOut; rw [if_neg (by show ¬ (Str.ofString "" = Str.ofString "clear"); decide)]
  refine ⟨Int.natCast_nonneg n, ?_⟩
  cases again with
  | true =>
    refine rule_ok I f4 f5 ⟨by show _ <= _; lia, ?_⟩
    refine cmp_A (D := ⟨(n : Int), m, true, .none, ""⟩) (mk' := mk) (n := n) I ht (nsd_snoc f8 (rule_str f9) f9) f9 (hi _ _) (hj _ _) (fun S' => rfl) ?_
    unfold endSt
    rw [hmk']
  | false =>
    refine cmp_A (D := ⟨(n : Int), m, false, .none, ""⟩) (mk' := mk) (n := n) I ht f8 f9 (hi _ _) (hj _ _) (fun S' => rfl) ?_
    unfold endSt
    rw [hmk']
    dsimp only
    rw [List.append_nil]
theorem endC_ok (I : BInv mode k S sh nd hm kids atts) {t : Tk} (ht : t ∈ toks) {mk : List Int} (hml : mk.length <= 100) {S' D ns} {a b : List Str} (F : FinA S S' t mk D ns [.sl a, .sl b, .list []]) (hm' : D.marks = "clear") : endC (S.wm mk) S' ws mk sh nd hm kids atts kids ns mode t D.keep D.mode D.again [.sl a, .sl b, .list []] (caseQ ws mk) := by
  obtain ⟨f1, f2, ⟨n, f3, f4, f5, rfl⟩, f6, f7, f8, f9⟩ := F
  obtain ⟨kp, m, again, added, marks⟩ := D
  dsimp only at *
  subst f1; subst f3; subst hm'
  have hmk' : mkOut ⟨(n : Int), m, again, .none, "clear"⟩ mk = popM mk := by unfold mkOut; rw [if_pos rfl]
  have hrl := rng_len 0 (mk.length : Int)
  have hfl : ((rngEls 0 (mk.length : Int) 1).filter (mkAt mk)).length <= 100 := Nat.le_trans (List.length_filter_le _ _) (by lia)
  have fin : ∀ (l : SVS) (es : List SV), (∀ x ∈ es, NsD t x) -> es = ns ++ againL again (.tup [.str (ruleOf S n m), .str m, t.sv]) ->
      let H (u : List SO) : HS := hs9 (S.wm mk) (endSt S t mk ⟨(n : Int), m, again, .none, "clear"⟩ ns n) ws mk sh nd hm kids atts kids ⟨n, m, again, .none, "clear"⟩ es ([.sl a, .sl b, .list []] ++ [.il (cutAt false nd n)] ++ u)
      let f := rngEls 0 (mk.length : Int) 1
      let L (i : Int) : SVS := vr "at" (.si i) :: l
      Builtin.Range.small 0 mk.length 1 = true /\ ∃ P : Int -> Bool, (∀ i, i ∈ f -> ∀ part : List Int, (0 <= i /\ i < mk.length) /\ br (mk.getD i.toNat 0 == -1) (true = P i /\ L i = L i /\ H [.il [0], .il part] = H [.il [0], .il part]) (false = P i /\ L i = L i /\ H [.il [0], .il part] = H [.il [0], .il part])) /\
      lim f.length /\ lim ([(0 : Int)].length + (f.filter P).length) /\ [0] ++ f.filter P ≠ [] /\ ∀ M, M ∈ [0] ++ f.filter P -> (∀ a, a ∈ [0] ++ f.filter P -> a <= M) -> 0 <= M /\
        cmpEnd (H [.il [0], .il (f.filter P), .il ([0] ++ f.filter P), .il (cutAt false mk M.toNat), fiveL]) m m 8 3 (.m 7) (caseQ ws mk) := fun l es hes ee => by
    refine ⟨small_one (by lia) (by lia) (by lia) (by lia), mkAt mk, fun i hi part => ⟨mem_rng hi, fun q => ⟨q.symm, rfl, rfl⟩, fun q => ⟨q.symm, rfl, rfl⟩⟩, by show _ <= _; lia, by show _ + _ <= _; show 1 + _ <= _; lia, List.cons_ne_nil _ _, fun M h1 h2 => ⟨h2 0 (List.mem_append_left _ (.head _)), ?_⟩⟩
    have hp := popM_cut mk M h1 h2
    refine cmp_A (D := ⟨(n : Int), m, again, .none, "clear"⟩) (mk' := popM mk) (n := n) I ht hes f9 rfl rfl (fun S' => by rw [hp]; rfl) ?_
    unfold endSt
    rw [hmk', ee]
    cases again <;> rfl
  refine ⟨Int.natCast_nonneg n, ?_⟩
  cases again with
  | true => exact rule_ok I f4 f5 ⟨by show _ <= _; lia, fin _ _ (nsd_snoc f8 (rule_str f9) f9) rfl⟩
  | false => exact fin _ _ f8 (List.append_nil _).symm
end
theorem kA_ok {w : World} {hB : Heap} (b : Base w hB) {env : Env} {A : Around} (hs : env.scope = csc) (hA : AOk 160 A) {mode : Str} {t : Tk} (ht : t ∈ toks) {ws : List Str} {mk : List Int} (hmk : mk.length <= 100) {S sh nd hm kids atts k} (I : BInv mode k S sh nd hm kids atts)
    {S' D ns tm} (F : FinA S S' t mk D ns tm) (s1 : Small (hs9 (S.wm mk) S' ws mk sh nd hm kids atts kids D ns tm)) :
    RS w hB A env (execs ((bodyOf caseF.st).drop 11) env) (vsf (ls9 mode t)) (mkH (hs9 (S.wm mk) S' ws mk sh nd hm kids atts kids D ns tm)) (OQ (retS (AvQ (caseQ ws mk)))) := by
  have R := EV_ok b (noO (w := w) (hB := hB)) 80 csc csc_kind
  refine R.s hs hA s1 ?_
  have fA := F
  obtain ⟨f1, f2, ⟨n, f3, f4, f5, rfl⟩, f6, f7, f8, f9⟩ := F
  obtain ⟨kp, m, again, added, marks⟩ := D
  dsimp only at f1 f2 f3 f9
  subst f1; subst f3
  rcases f2 with rfl | ⟨rfl, hne⟩
  · have eA := endA_ok (ws := ws) I ht fA rfl
    rcases f7 with rfl | ⟨x, y, rfl⟩
    · have e := List.map_inj_left.mp (endA_eq (S.wm mk) (endSt S t mk ⟨(n : Int), m, again, .none, ""⟩ ns n) ws mk sh nd hm kids atts kids ns mode t n m [] [] (caseQ ws mk)) (again, []) (by cases again <;> simp)
      exact kmp e eA
    · have e := List.map_inj_left.mp (endA_eq (S.wm mk) (endSt S t mk ⟨(n : Int), m, again, .none, ""⟩ ns n) ws mk sh nd hm kids atts kids ns mode t n m x y (caseQ ws mk)) (again, [.sl x, .sl y, .list []]) (by cases again <;> simp)
      exact kmp e eA
  · rcases f7 with rfl | ⟨x, y, rfl⟩
    · exact absurd rfl hne
    · have e := List.map_inj_left.mp (endC_eq (S.wm mk) (endSt S t mk ⟨(n : Int), m, again, .none, "clear"⟩ ns n) ws mk sh nd hm kids atts kids ns mode t n m x y (caseQ ws mk)) again (by cases again <;> simp)
      exact kmp e (endC_ok (ws := ws) I ht hmk fA rfl)
noncomputable def ifT : Stmt -> PySem.Expr
  | .If t _ _ _ => t
  | _ => .Constant .none 0 P0
noncomputable def ifB : Stmt -> List Stmt
  | .If _ b _ _ => b
  | _ => []
noncomputable def exE : Stmt -> PySem.Expr
  | .Expr e _ => e
  | _ => .Constant .none 0 P0
noncomputable def sbO : PySem.Expr -> PySem.Expr
  | .Subscript o _ _ => o
  | e => e
noncomputable def sbI : PySem.Expr -> PySem.Expr
  | .Subscript _ i _ => i
  | e => e
@[irreducible] noncomputable def bs (i : Nat) : Stmt := stOf (ifB (cs 13)) i
@[irreducible] noncomputable def bc (i : Nat) : PySem.Expr := exE (bs i)
@[irreducible] noncomputable def bo (i : Nat) : PySem.Expr := atO (caF (bc i))
@[irreducible] noncomputable def ba (i : Nat) : PySem.Expr := ((caA (bc i))[0]?).getD (PySem.Expr.Constant .none 0 P0)
@[irreducible] noncomputable def b3s : Stmt := stOf (ifB (bs 3)) 0
@[irreducible] noncomputable def b3c : PySem.Expr := exE b3s
@[irreducible] noncomputable def b3o : PySem.Expr := atO (caF b3c)
@[irreducible] noncomputable def b3a : PySem.Expr := ((caA b3c)[0]?).getD (PySem.Expr.Constant .none 0 P0)
theorem cs13_eq : cs 13 = .If (ifT (cs 13)) (bs 0 :: bs 1 :: bs 2 :: bs 3 :: bs 4 :: []) [] (cs 13).pos := by kernel_rfl
theorem bs0_eq : bs 0 = .For (.Name "at" (stXp (bs 0))) (stT (bs 0)) (stB (bs 0)) [] (bs 0).pos := by kernel_rfl
theorem bs1_eq : bs 1 = .Expr (.Call (.Attribute (.Subscript (sbO (bo 1)) (sbI (bo 1)) (bo 1).pos) "append" (caF (bc 1)).pos) [ba 1] [] (bc 1).pos) (bs 1).pos := by kernel_rfl
theorem bs3_eq : bs 3 = .If (ifT (bs 3)) [b3s] [] (bs 3).pos := by kernel_rfl
theorem b3s_eq : b3s = .Expr (.Call (.Attribute b3o "append" (caF b3c).pos) [b3a] [] b3c.pos) b3s.pos := by kernel_rfl
theorem lines_ok : ((caF (bc 1)).pos.endLine == (bc 1).pos.line && (caF b3c).pos.endLine == b3c.pos.line && notCallName b3o && notStar b3a && notStar (ba 1) && notSet (stT (bs 0))) = true := by kernel_rfl
theorem body11 : (bodyOf caseF.st).drop 11 = cs 11 :: cs 12 :: cs 13 :: (bodyOf caseF.st).drop 14 := by kernel_rfl
noncomputable abbrev alB (ws : List Str) (mk : List Int) (sh : List Str) (nd hm : List Int) (D : Due) (ns : List SV) (K Sp N : List Str) (A : SO) (T : List Str) (pa : List Int) (ch : SO) : List (Oid × SO) :=
  al4 ws mk sh nd hm ++ [(kO 12, .sl K), (kO 30, .sl Sp), (kO 49, .sl N), (kO 67, A), (kO 85, .sl T), (kO 11, .list [.ref (kO 12), .ref (kO 30), .ref (kO 49), .ref (kO 67), .ref (kO 85)])] ++ [(paO, .il pa)] ++ [(chO, ch)] ++ [(dueO, .sdict D.d), (noO', .list ns)]
noncomputable abbrev DB (kp : Int) (m : Str) (kind space name : Str) (j : Nat) (text marks : Str) : Due := ⟨kp, m, false, .tup [.str kind, .str space, .str name, .ref (.m j), .str text], marks⟩
noncomputable abbrev nkO : Oid := .t (679 * 256)
noncomputable def sls (c : Bool) (l : List Str) (x : Str) : List Str := match c with
  | true => l ++ [x]
  | false => l
noncomputable def asl (c : Bool) (l : List SV) (x : SV) : List SV := match c with
  | true => l ++ [x]
  | false => l
noncomputable abbrev alK (k : Nat) (ws : List Str) (mk : List Int) (sh : List Str) (nd hm : List Int) (D : Due) (kind space name text : Str) (j : Nat) (K Sp N T : List Str) (as : List SV) (pa : List Int) (ch : SO) : List (Oid × SO) :=
  alB ws mk sh nd hm D [] (sls (Nat.blt 0 k) K kind) (sls (Nat.blt 1 k) Sp space) (sls (Nat.blt 2 k) N name) (.list (asl (Nat.blt 3 k) as (.ref (.m j)))) (sls (Nat.blt 4 k) T text) pa ch
section
variable (S : St) (ws : List Str) (mk : List Int) (sh : List Str) (nd hm : List Int) (kids : List (List Int)) (atts : List (List SV)) (cops : List (List Int)) (ns : List SV) (tm : List SO) (mode : Str) (t : Tk) (kp : Int) (m kind space name : Str) (j : Nat) (text marks : Str) (K Sp N T : List Str) (A : SO) (pa : List Int) (ch : SO) (ln : Nat)
theorem case11 (Q : SOut -> SVS -> HS -> Prop) : stepS (EV [] 70) csc (cs 11) (ls9 mode t) (hsO S (alB ws mk sh nd hm (DB kp m kind space name j text marks) ns K Sp N A T pa ch) kids atts cops none tm) Q = Q .next (vr "keep" (.si kp) :: ls9 mode t) (hsO S (alB ws mk sh nd hm (DB kp m kind space name j text marks) ns K Sp N A T pa ch) kids atts cops none tm) := by kernel_rfl
theorem case12 (Q : SOut -> SVS -> HS -> Prop) : stepS (EV [] 70) csc (cs 12) (vr "keep" (.si kp) :: ls9 mode t) (hsO S (alB ws mk sh nd hm (DB kp m kind space name j text marks) ns K Sp N A T pa ch) kids atts cops none tm) Q = (0 <= kp /\ Q .next (lsE mode t kp tm.length) (hsO S (alB ws mk sh nd hm (DB kp m kind space name j text marks) ns K Sp N A T pa ch) kids atts cops none (tm ++ [.il (cutAt false nd kp.toNat)]))) := by kernel_rfl
theorem case13t (Q : Bool -> SVS -> HS -> Prop) : ((EV [] 71) csc).t (ifT (cs 13)) (lsE mode t kp ln) (hsO S (alB ws mk sh nd hm (DB kp m kind space name j text marks) ns K Sp N A T pa ch) kids atts cops none tm) Q = Q true (lsE mode t kp ln) (hsO S (alB ws mk sh nd hm (DB kp m kind space name j text marks) ns K Sp N A T pa ch) kids atts cops none tm) := by kernel_rfl
theorem caseB0i (h : HS) (Q : SV -> SVS -> HS -> Prop) : ((EV [] 71) csc).e (stT (bs 0)) (lsE mode t kp ln) h Q = Q (.rng 0 5 1) (lsE mode t kp ln) h := by kernel_rfl
theorem caseB0 (as : List SV) (Q : SOut -> SVS -> HS -> Prop) : (List.range 5).map (fun k : Nat => ((EV [] 71) csc).s (stB (bs 0)) (vr "at" (.int k) :: lsE mode t kp ln) (hsO S (alK k ws mk sh nd hm (DB kp m kind space name j text marks) kind space name text j K Sp N T as pa ch) kids atts cops none tm) Q) =
    (List.range 5).map (fun k : Nat => lim ((match k with | 0 => K.length | 1 => Sp.length | 2 => N.length | 3 => as.length | _ => T.length) + 1) /\ Q .next (vr "at" (.int k) :: lsE mode t kp ln) (hsO S (alK (k + 1) ws mk sh nd hm (DB kp m kind space name j text marks) kind space name text j K Sp N T as pa ch) kids atts cops none tm)) := by kernel_rfl
theorem caseB1o (h : HS) (Q : SV -> SVS -> HS -> Prop) : ((EV [] 71) csc).e (sbO (bo 1)) (lsE mode t kp ln) h Q = Q (.ref chO) (lsE mode t kp ln) h := by kernel_rfl
theorem caseB1i (D : Due) (Q : SV -> SVS -> HS -> Prop) : ((EV [] 71) csc).e (sbI (bo 1)) (lsE mode t kp ln) (hsO S (alB ws mk sh nd hm D ns K Sp N A T pa ch) kids atts cops none tm) Q = ((0 <= kp /\ kp < hm.length) /\ Q (.si (hm.getD kp.toNat 0)) (lsE mode t kp ln) (hsO S (alB ws mk sh nd hm D ns K Sp N A T pa ch) kids atts cops none tm)) := by kernel_rfl
theorem caseB1a (D : Due) (Q : SV -> SVS -> HS -> Prop) : ((EV [] 71) csc).e (ba 1) (lsE mode t kp ln) (hsO S (alB ws mk sh nd hm D ns K Sp N A T pa ch) kids atts cops none tm) Q = Q (.si pa.length) (lsE mode t kp ln) (hsO S (alB ws mk sh nd hm D ns K Sp N A T pa ch) kids atts cops none tm) := by kernel_rfl
theorem caseB2 (D : Due) (xs : List SV) (Q : SOut -> SVS -> HS -> Prop) : stepS (EV [] 70) csc (bs 2) (lsE mode t kp ln) (hsO S (alB ws mk sh nd hm D ns K Sp N A T pa (.list xs)) kids atts cops none tm) Q = (lim (xs.length + 1) /\ Q .next (lsE mode t kp ln) (hsO S (alB ws mk sh nd hm D ns K Sp N A T pa (.list (xs ++ [.ref nkO])) ++ [(nkO, .il [])]) kids atts cops none tm)) := by kernel_rfl
theorem caseB3t (Q : Bool -> SVS -> HS -> Prop) : [Str.ofString "", Str.ofString "more"].map (fun marks => ((EV [] 71) csc).t (ifT (bs 3)) (lsE mode t kp ln) (hsO S (alB ws mk sh nd hm (DB kp m kind space name j text marks) ns K Sp N A T pa ch ++ [(nkO, .il [])]) kids atts cops none tm) Q) = [Str.ofString "", Str.ofString "more"].map (fun marks => Q (marks == Str.ofString "more") (lsE mode t kp ln) (hsO S (alB ws mk sh nd hm (DB kp m kind space name j text marks) ns K Sp N A T pa ch ++ [(nkO, .il [])]) kids atts cops none tm)) := by kernel_rfl
theorem caseB3o (h : HS) (Q : SV -> SVS -> HS -> Prop) : ((EV [] 71) csc).e b3o (lsE mode t kp ln) h Q = Q (.ref (.m ln)) (lsE mode t kp ln) h := by kernel_rfl
theorem caseB3a (D : Due) (Q : SV -> SVS -> HS -> Prop) : ((EV [] 71) csc).e b3a (lsE mode t kp ln) (hsO S (alB ws mk sh nd hm D ns K Sp N A T pa ch ++ [(nkO, .il [])]) kids atts cops none tm) Q = Q (.si pa.length) (lsE mode t kp ln) (hsO S (alB ws mk sh nd hm D ns K Sp N A T pa ch ++ [(nkO, .il [])]) kids atts cops none tm) := by kernel_rfl
theorem caseB4 (D : Due) (Q : SOut -> SVS -> HS -> Prop) : stepS (EV [] 70) csc (bs 4) (lsE mode t kp ln) (hsO S (alB ws mk sh nd hm D ns K Sp N A T pa ch ++ [(nkO, .il [])]) kids atts cops none tm) Q = ((0 <= kp /\ kp < hm.length) /\ lim (pa.length + 1) /\ Q .next (lsE mode t kp ln) (hsO S (alB ws mk sh nd hm D ns K Sp N A T (pa ++ [hm.getD kp.toNat 0]) ch ++ [(nkO, .il [])]) kids atts cops none tm)) := by kernel_rfl
end
noncomputable def nsE : List Str := ["line", "keep", "due", "children", "parents", "kept"].map Str.ofString ++ ns3
theorem normE (mode t kp ln) : norm nsE (lsE mode t kp ln) = lsE mode t kp ln := by kernel_rfl
theorem normE1 (mode t kp ln) (a : SV) : norm nsE (vr "at" a :: lsE mode t kp ln) = lsE mode t kp ln := by kernel_rfl
noncomputable def endB (h : List SO -> HS) (mode m : Str) (mk : List Int) (more : Bool) (tmL : List SO) (ln : Nat) (Q : SV -> HS -> Prop) : Prop := match more with
  | true => lim (mk.length + 1) /\ cmpEnd (h (tmL ++ [.il [-1]] ++ [.il (mk ++ [-1])] ++ [fiveL])) mode m (tmL.length + 2) ln (.m (tmL.length + 1)) Q
  | false => cmpEnd (h (tmL ++ [fiveL])) mode m tmL.length ln mO Q
noncomputable def nmM : List (Str × Bool) := nmB.map (fun x => (x, false)) ++ nmB.map (fun x => (x, true))
section
variable (S : St) (ws : List Str) (mk : List Int) (sh : List Str) (nd hm : List Int) (kids : List (List Int)) (atts : List (List SV)) (cops : List (List Int)) (ns : List SV) (mode : Str) (t : Tk) (kp : Int) (m kind space : Str) (j : Nat) (text : Str) (K Sp N T : List Str) (A : SO) (pa : List Int) (ch : SO)
theorem endB_eq1 (x : List SV) (li : List Int) (Q : SV -> HS -> Prop) : nmM.map (fun p => ((EV [] 80) csc).s ((bodyOf caseF.st).drop 14) (lsE mode t kp 1) (hsO { S with ack := p.1 == Str.ofString "col" } (alB ws mk sh nd hm (DB kp m kind space p.1 j text (mks p.2)) ns K Sp N A T pa ch ++ [(nkO, .il [])]) kids atts cops none [.list x, .il li]) (retS (AvQ Q))) =
    nmM.map (fun p => endB (fun tm => hsO { S with ack := p.1 == Str.ofString "col" } (alB ws mk sh nd hm (DB kp m kind space p.1 j text (mks p.2)) ns K Sp N A T pa ch ++ [(nkO, .il [])]) kids atts cops none tm) S.mode m mk p.2 [.list x, .il li] 1 Q) := by kernel_rfl
theorem endB_eq2 (y : List Int) (x : List SV) (li : List Int) (Q : SV -> HS -> Prop) : nmM.map (fun p => ((EV [] 80) csc).s ((bodyOf caseF.st).drop 14) (lsE mode t kp 2) (hsO { S with ack := p.1 == Str.ofString "col" } (alB ws mk sh nd hm (DB kp m kind space p.1 j text (mks p.2)) ns K Sp N A T pa ch ++ [(nkO, .il [])]) kids atts cops none [.il y, .list x, .il li]) (retS (AvQ Q))) =
    nmM.map (fun p => endB (fun tm => hsO { S with ack := p.1 == Str.ofString "col" } (alB ws mk sh nd hm (DB kp m kind space p.1 j text (mks p.2)) ns K Sp N A T pa ch ++ [(nkO, .il [])]) kids atts cops none tm) S.mode m mk p.2 [.il y, .list x, .il li] 2 Q) := by kernel_rfl
end
section
variable {w : World} {hB : Heap} {n : Nat} {A : Around} {env : Env} {vs : VS} {H : AHeap}
set_option tactic.hygienic true in
theorem s_app (b : Base w hB) (hA : AOk n A) (hi : interactive env = false) {o arg : PySem.Expr} {ap p p2 : Pos} {Q : Out -> VS -> AHeap -> Prop} (hn : notCallName o = true) (hc : notStar arg = true) (hp : (ap.endLine == p.line) = true)
    (h : RV w hB A env (eval o env) vs H fun a v1 H1 => ∃ oid xs, a = .ref oid /\ oid ≠ zO /\ H1 oid = some (.list xs) /\ xs.length <= 1000000 /\ RV w hB A env (eval arg env) v1 H1 fun c v2 H2 => H2 oid = some (.list xs) /\ Q .next v2 (upd H2 oid (.list (xs ++ [c])))) :
    RS w hB A env (exec (.Expr (.Call (.Attribute o "append" ap) [arg] [] p) p2) env) vs H Q :=
  s_expr hi (swaps_ok (by rfl)) (e_meth b hA hn (by show (notStar arg && true) = true; rw [hc]; rfl) (by show 1 < 30; decide) hp (h.mono fun a v1 H1 ⟨oid, xs, e1, nz, e2, e3, h2⟩ => by
    subst e1
    exact ⟨_, [.ref oid], meth_list e2 PySem.F.slot_list_append lty_append, keep_builtin _, l_cons hc (h2.mono fun c v2 H2 ⟨e4, q⟩ => l_nil (sp_append e4 e3 q))⟩))
end
section
variable {h : HS} {p k : Nat}
theorem get_cop {xs : List Int} (hp : h.cops[p]? = some xs) (ys : List Int) (i : Oid) : ({ h with cops := h.cops.set p ys } : HS).get i = if i = .c p then some (.il ys) else h.get i := by
  cases i with
  | c m =>
    show ((h.cops.set p ys)[m]?).map SO.il = _
    have hl := (List.getElem?_eq_some_iff.mp hp).1
    by_cases q : m = p
    · subst q; rw [if_pos rfl, List.getElem?_set_self hl]; rfl
    · rw [if_neg (by intro e; cases e; exact q rfl), List.getElem?_set_ne (Ne.symm q)]; rfl
  | _ => rfl
theorem get_tm (hk : k < h.tm.length) (y : SO) (i : Oid) : ({ h with tm := h.tm.set k y } : HS).get i = if i = .m k then some y else h.get i := by
  cases i with
  | m m =>
    show (h.tm.set k y)[m]? = _
    by_cases q : m = k
    · subst q; rw [if_pos rfl, List.getElem?_set_self hk]
    · rw [if_neg (by intro e; cases e; exact q rfl), List.getElem?_set_ne (Ne.symm q)]; rfl
  | _ => rfl
end
noncomputable def aRefs (n : Nat) : List SV := (List.range n).map fun k => SV.ref (.att k)
theorem aRefs_ao (n : Nat) : (SO.list (aRefs n)).ao = (SO.ar n).ao := by
  show AO.list (avs (aRefs n)) = _
  rw [avs_map]; unfold aRefs; rw [List.map_map]; rfl
theorem els5 : (SSrc.rngK 0 5 1).els = (List.range 5).map fun k : Nat => SV.int k := by kernel_rfl
theorem small5 : Builtin.Range.small 0 5 1 = true := by kernel_rfl
theorem csc_at : ownS csc "at" = true := by kernel_rfl
section
variable {w : World} {hB : Heap} {env : Env} {A : Around} {S : St} {ws : List Str} {mk : List Int} {sh : List Str} {nd hm : List Int} {kids : List (List Int)} {atts : List (List SV)} {cops : List (List Int)} {tm : List SO} {mode : Str} {t : Tk} {kp : Int} {m kind space name : Str} {j : Nat} {text marks : Str} {K Sp N T : List Str} {as : List SV} {pa : List Int} {ch : SO} {ln : Nat}
theorem loop5 (b : Base w hB) (hs : env.scope = csc) (hA : AOk 142 A) (hl : K.length <= 1000 /\ Sp.length <= 1000 /\ N.length <= 1000 /\ as.length <= 1000 /\ T.length <= 1000)
    (sm : Small (hsO S (alB ws mk sh nd hm (DB kp m kind space name j text marks) [] K Sp N (.list as) T pa ch) kids atts cops none tm)) :
    RS w hB A env (exec (bs 0) env) (vsf (lsE mode t kp ln)) (mkH (hsO S (alB ws mk sh nd hm (DB kp m kind space name j text marks) [] K Sp N (.list as) T pa ch) kids atts cops none tm))
      (OQ fun o l h => o = .next /\ l = lsE mode t kp ln /\ h = hsO S (alB ws mk sh nd hm (DB kp m kind space name j text marks) [] (K ++ [kind]) (Sp ++ [space]) (N ++ [name]) (.list (as ++ [.ref (.m j)])) (T ++ [text]) pa ch) kids atts cops none tm) := by
  have R := EV_ok b (noO (w := w) (hB := hB)) 71 csc csc_kind
  have hls := lines_ok
  simp only [Bool.and_eq_true] at hls
  rw [bs0_eq]
  refine S_for R hs hA csc_at hls.2 nsE (fun k l h => l = lsE mode t kp ln /\ h = hsO S (alK k ws mk sh nd hm (DB kp m kind space name j text marks) kind space name text j K Sp N T as pa ch) kids atts cops none tm) sm
    (kmp (caseB0i mode t kp ln _ _) ⟨.rngK 0 5 1, rfl, fun _ _ _ _ _ => small5, ⟨normE mode t kp ln, rfl⟩, ?_, ?_⟩)
  · rintro k e l2 h2 s2 ⟨rfl, rfl⟩ he
    rw [els5, List.getElem?_map] at he
    obtain ⟨k', hk', rfl⟩ := Option.map_eq_some_iff.mp he
    have hk5 : k < 5 := by have := (List.getElem?_eq_some_iff.mp hk').1; rwa [List.length_range] at this
    rw [List.getElem?_range hk5] at hk'
    cases hk'
    obtain ⟨l1, l2, l3, l4, l5⟩ := hl
    refine kmp (List.map_inj_left.mp (caseB0 S ws mk sh nd hm kids atts cops tm mode t kp m kind space name j text marks K Sp N T pa ch ln as _) k (List.mem_range.mpr hk5)) ⟨?_, normE1 mode t kp ln _, rfl⟩
    show _ <= _
    split <;> lia
  · rintro l2 h2 s2 ⟨rfl, rfl⟩
    rw [els5]
    exact ⟨rfl, rfl, rfl⟩
end
theorem int_false {env : Env} (hs : env.scope = csc) : interactive env = false := by unfold interactive; rw [hs, csc_kind]; rfl
section
variable {w : World} {hB : Heap} {env : Env} {A : Around} {S : St} {ws : List Str} {mk : List Int} {sh : List Str} {nd hm : List Int} {kids : List (List Int)} {atts : List (List SV)} {cops : List (List Int)} {tm : List SO} {mode : Str} {t : Tk} {n : Nat} {D : Due} {K Sp N T : List Str} {A' : SO} {pa : List Int} {ch : SO} {ln c : Nat} {ns : List SV}
theorem put1 (b : Base w hB) (hs : env.scope = csc) (hA : AOk 142 A) {xs : List Int} (hn : n < hm.length) (h0 : 0 <= hm.getD n 0) (hc : hm.getD n 0 < c) (hl : cops[(hm.getD n 0).toNat]? = some xs) (hx : xs.length <= 1000) (hc' : c <= 1000)
    (sm : Small (hsO S (alB ws mk sh nd hm D ns K Sp N A' T pa (.list (cRefs c))) kids atts cops none tm)) :
    RS w hB A env (exec (bs 1) env) (vsf (lsE mode t n ln)) (mkH (hsO S (alB ws mk sh nd hm D ns K Sp N A' T pa (.list (cRefs c))) kids atts cops none tm))
      (OQ fun o l h => o = .next /\ l = lsE mode t n ln /\ h = hsO S (alB ws mk sh nd hm D ns K Sp N A' T pa (.list (cRefs c))) kids atts (cops.set (hm.getD n 0).toNat (xs ++ [(pa.length : Int)])) none tm) := by
  have R := EV_ok b (noO (w := w) (hB := hB)) 71 csc csc_kind
  have hls := lines_ok
  simp only [Bool.and_eq_true] at hls
  rw [bs1_eq]
  let h1 := hsO S (alB ws mk sh nd hm D ns K Sp N A' T pa (.list (cRefs c))) kids atts cops none tm
  refine s_app b hA (int_false hs) (by rfl) hls.1.2 hls.1.1.1.1.1 (e_sub hA ((R.e hs hA sm (Q := fun a l h => a = .ref chO /\ l = lsE mode t n ln /\ h = h1) (kmp (caseB1o mode t n ln _ _) ⟨rfl, rfl, rfl⟩)).mono (SQ.at fun s1 => ?_)))
  refine (R.e hs hA sm (Q := fun a l h => a = .si (hm.getD n 0) /\ l = lsE mode t n ln /\ h = h1) (kmp (caseB1i S ws mk sh nd hm kids atts cops ns tm mode t n K Sp N T A' pa (.list (cRefs c)) ln D _) ⟨⟨Int.natCast_nonneg n, by lia⟩, rfl, rfl, rfl⟩)).mono (SQ.at fun s1 => ?_)
  have hcl : (cRefs c).length = c := by unfold cRefs; rw [List.length_map, List.length_range]
  have g1 : mkH h1 chO = some (.list (avs (cRefs c))) := rfl
  have g2 : mkH h1 (.c (hm.getD n 0).toNat) = some (.list (xs.map .int)) := by
    show ((cops[(hm.getD n 0).toNat]?).map SO.il).map SO.ao = _
    rw [hl]; rfl
  refine u_list g1 (by rw [avs_len, hcl]; exact placeOf_nat ⟨h0, hc⟩) (by rw [avs_len, hcl]; lia) (a := .ref (.c (hm.getD n 0).toNat)) ?_ ⟨_, _, rfl, (by nofun), g2, by rw [List.length_map]; lia, ?_⟩
  · refine avs_get (a := .ref (.c (hm.getD n 0).toNat)) ?_
    unfold cRefs
    rw [List.getElem?_map, List.getElem?_range (by lia)]; rfl
  refine (R.e hs hA sm (Q := fun a l h => a = .si pa.length /\ l = lsE mode t n ln /\ h = h1) (kmp (caseB1a S ws mk sh nd hm kids atts cops ns tm mode t n K Sp N T A' pa (.list (cRefs c)) ln D _) ⟨rfl, rfl, rfl⟩)).mono (SQ.at fun s1 => ?_)
  refine ⟨g2, .next, _, _, rfl, rfl, ?_, small_get sm (sok_il (l := xs ++ [(pa.length : Int)]) (by rw [List.length_append]; show _ + 1 <= _; lia)) (get_cop hl _), rfl, rfl, rfl⟩
  rw [mkH_get (get_cop hl _)]
  show _ = upd _ _ (AO.list ((xs ++ [(pa.length : Int)]).map _))
  rw [List.map_append]; rfl
theorem put3 (b : Base w hB) (hs : env.scope = csc) (hA : AOk 142 A) {kp : Int} {m kind space name : Str} {j : Nat} {text : Str} {li : List Int} (hl : tm[ln]? = some (.il li)) (hx : li.length <= 1000) (more : Bool)
    (sm : Small (hsO S (alB ws mk sh nd hm (DB kp m kind space name j text (mks more)) ns K Sp N A' T pa ch ++ [(nkO, .il [])]) kids atts cops none tm)) :
    RS w hB A env (exec (bs 3) env) (vsf (lsE mode t kp ln)) (mkH (hsO S (alB ws mk sh nd hm (DB kp m kind space name j text (mks more)) ns K Sp N A' T pa ch ++ [(nkO, .il [])]) kids atts cops none tm))
      (OQ fun o l h => o = .next /\ l = lsE mode t kp ln /\ h = hsO S (alB ws mk sh nd hm (DB kp m kind space name j text (mks more)) ns K Sp N A' T pa ch ++ [(nkO, .il [])]) kids atts cops none (tm.set ln (.il (li ++ lnB more pa.length)))) := by
  have R := EV_ok b (noO (w := w) (hB := hB)) 71 csc csc_kind
  have hls := lines_ok
  simp only [Bool.and_eq_true] at hls
  rw [bs3_eq]
  have hlt := (List.getElem?_eq_some_iff.mp hl).1
  let h1 := hsO S (alB ws mk sh nd hm (DB kp m kind space name j text (mks more)) ns K Sp N A' T pa ch ++ [(nkO, .il [])]) kids atts cops none tm
  refine s_if ((R.t hs hA sm (Q := fun c l h => c = more /\ l = lsE mode t kp ln /\ h = h1) (kmp (List.map_inj_left.mp (caseB3t S ws mk sh nd hm kids atts cops ns tm mode t kp m kind space name j text K Sp N T A' pa ch ln _) (mks more) (by cases more <;> simp [mks])) ⟨by cases more <;> rfl, rfl, rfl⟩)).mono (TQ.at fun s1 => ?_))
  refine ⟨fun q => ?_, fun q => ?_⟩
  · subst q
    refine s_cons (Run.mono (Q := OQ fun o l h => o = .next /\ l = lsE mode t kp ln /\ h = hsO S (alB ws mk sh nd hm (DB kp m kind space name j text (mks true)) ns K Sp N A' T pa ch ++ [(nkO, .il [])]) kids atts cops none (tm.set ln (.il (li ++ [(pa.length : Int)])))) ?_ (OQ.at fun s1 => ?_))
    · rw [b3s_eq]
      have g2 : mkH h1 (.m ln) = some (.list (li.map .int)) := by
        show (tm[ln]?).map SO.ao = _
        rw [hl]; rfl
      refine s_app b hA (int_false hs) hls.1.1.1.2 hls.1.1.2 hls.1.1.1.1.2 ((R.e hs hA sm (Q := fun a l h => a = .ref (.m ln) /\ l = lsE mode t kp ln /\ h = h1) (kmp (caseB3o mode t kp ln _ _) ⟨rfl, rfl, rfl⟩)).mono (SQ.at fun s1 => ?_))
      refine ⟨_, _, rfl, (by nofun), g2, by rw [List.length_map]; lia, ?_⟩
      refine (R.e hs hA sm (Q := fun a l h => a = .si pa.length /\ l = lsE mode t kp ln /\ h = h1) (kmp (caseB3a S ws mk sh nd hm kids atts cops ns tm mode t kp K Sp N T A' pa ch ln _ _) ⟨rfl, rfl, rfl⟩)).mono (SQ.at fun s1 => ?_)
      have gt := get_tm (h := h1) hlt (.il (li ++ [(pa.length : Int)]))
      refine ⟨g2, .next, _, _, rfl, rfl, ?_, small_get sm (sok_il (l := li ++ [(pa.length : Int)]) (by rw [List.length_append]; show _ + 1 <= _; lia)) gt, rfl, rfl, rfl⟩
      rw [mkH_get gt]
      show _ = upd _ _ (AO.list ((li ++ [(pa.length : Int)]).map _))
      rw [List.map_append]; rfl
    · exact s_nil ⟨.next, _, _, rfl, rfl, rfl, s1, rfl, rfl, rfl⟩
  · subst q
    refine s_nil ⟨.next, _, _, rfl, rfl, rfl, sm, rfl, rfl, ?_⟩
    have : tm.set ln (.il (li ++ [])) = tm := by
      rw [List.append_nil]
      obtain ⟨h3, h4⟩ := List.getElem?_eq_some_iff.mp hl
      rw [<- h4, List.set_getElem_self]
    show h1 = hsO _ _ _ _ _ _ (tm.set ln (.il (li ++ [])))
    rw [this]
end
theorem dats_of {H : AHeap} {n : Nat} : ∀ {xs ys : List AV}, xs.length = ys.length -> (∀ (i : Nat) x y, xs[i]? = some x -> ys[i]? = some y -> DatN H x y n) -> DatsN H xs ys n
  | [], [], _, _ => .nil
  | x :: xs, y :: ys, hl, h => .cons (h 0 x y rfl rfl) (dats_of (Nat.succ.inj hl) fun i a b ha hb => h (i + 1) a b ha hb)
theorem get_snoc {α : Type} {l : List α} {x y : α} {i : Nat} (h : (l ++ [x])[i]? = some y) : i < l.length /\ l[i]? = some y ∨ i = l.length /\ y = x := by
  by_cases q : i < l.length
  · rw [List.getElem?_append_left q] at h; exact .inl ⟨q, h⟩
  · rw [List.getElem?_append_right (by lia)] at h
    have : i - l.length = 0 := by
      have := (List.getElem?_eq_some_iff.mp h).1
      have this : i - l.length < 1 := this
      lia
    rw [this] at h; cases h
    exact .inr ⟨by lia, rfl⟩
theorem range_get {α : Type} {n i : Nat} {f : Nat -> α} {y : α} (h : ((List.range n).map f)[i]? = some y) : i < n /\ y = f i := by
  rw [List.getElem?_map] at h
  obtain ⟨k, hk, rfl⟩ := Option.map_eq_some_iff.mp h
  have hlt := (List.getElem?_eq_some_iff.mp hk).1
  rw [List.length_range] at hlt
  rw [List.getElem?_range hlt] at hk
  cases hk; exact ⟨hlt, rfl⟩
theorem dat_at1 {H : AHeap} {n : Nat} : DatsN H (avs at1) (avs at1) (n + 1) := .cons (DatsN.tup (.cons (.str (by kernel_rfl)) (.cons (.str (by kernel_rfl)) .nil))) .nil
theorem str_snoc {l : List Str} {x : Str} (h : ∀ y ∈ l, PyData.strOk y = true) (hx : PyData.strOk x = true) : ∀ y ∈ l ++ [x], PyData.strOk y = true := fun y hy => by
  rcases List.mem_append.mp hy with hy | hy
  · exact h y hy
  · rw [List.mem_singleton.mp hy]; exact hx
structure AlB (al : List (Oid × SO)) (S : St) (ws : List Str) (mk : List Int) (kind space name text : Str) (p : Int) (j : Nat) : Prop where
  a11 : al.lookup (kO 11) = some (.list [.ref (kO 12), .ref (kO 30), .ref (kO 49), .ref (kO 67), .ref (kO 85)])
  a12 : al.lookup (kO 12) = some (.sl (S.kinds ++ [kind]))
  a30 : al.lookup (kO 30) = some (.sl (S.spaces ++ [space]))
  a49 : al.lookup (kO 49) = some (.sl (S.names ++ [name]))
  a67 : al.lookup (kO 67) = some (.list (aRefs S.nat ++ [.ref (.m j)]))
  a85 : al.lookup (kO 85) = some (.sl (S.texts ++ [text]))
  apa : al.lookup paO = some (.il (S.parents ++ [p]))
  ach : al.lookup chO = some (.list (cRefs S.nch ++ [.ref nkO]))
  ank : al.lookup nkO = some (.il [])
  ano : al.lookup noO' = some (.list [])
  aw : al.lookup wO = some (.sl ws)
  am : al.lookup mO = some (.il mk)
section
variable {mode : Str} {k : Nat} {S : St} {sh : List Str} {nd hm : List Int} {kids : List (List Int)} {atts : List (List SV)} {ws : List Str}
theorem cmp_B (I : BInv mode k S sh nd hm kids atts) {t : Tk} (ht : t ∈ toks) {mk mk' : List Int} {tm : List SO} {i j ln : Nat} {mkv : Oid} {kind space name text m : Str} {at' : List SV} {its : List Int} {a : Bool} {l : List Int} {p : Int} {al : List (Oid × SO)}
    (B : AlB al S ws mk kind space name text p j) (ok : PyData.strOk kind = true /\ PyData.strOk space = true /\ PyData.strOk name = true /\ PyData.strOk text = true /\ PyData.strOk m = true) (hat : at' = [] ∨ at' = at1) (hp : p.toNat < kids.length)
    (hi : tm[i]? = some fiveL) (hj : tm[j]? = some (.list at')) (hln : tm[ln]? = some (.il its)) (hmk : ∀ S' : St, (hsO S' al [] [] [] none tm).get mkv = some (.il mk') /\ ∃ j, mkv = .t j ∨ mkv = .m j) :
    cmpEnd (hsO { S.plus kind space name text p with items := its, marks := mk', mode := m, ack := a, errors := [] } al ((kids ++ [[]]).set p.toNat (l ++ [(S.kinds.length : Int)])) (atts ++ [at']) (kids.set p.toNat (l ++ [(S.parents.length : Int)])) none tm) m m i ln mkv (caseQ ws mk) := by
  obtain ⟨o1, o2, o3, o4, o5⟩ := ok
  have hki := I.ki
  have hch := I.ch
  have htt := I.tt
  have hna := I.at'
  generalize hK : (kids ++ [[]]).set p.toNat (l ++ [(S.kinds.length : Int)]) = kids'
  generalize hC : kids.set p.toNat (l ++ [(S.parents.length : Int)]) = cops'
  generalize hA : atts ++ [at'] = atts'
  have kid1 : ∀ i z, i < S.nch -> kids'[i]? = some z -> cops'[i]? = some z := fun i z hi h => by
    subst hK; subst hC
    rw [I.pa]
    rwa [List.set_append_left _ _ hp, List.getElem?_append_left (by rw [List.length_set]; lia)] at h
  have kid2 : kids'[S.nch]? = some [] := by
    subst hK
    rw [List.set_append_left _ _ hp, List.getElem?_append_right (by rw [List.length_set]; lia), List.length_set, show S.nch - kids.length = 0 by lia]; rfl
  have kidl : kids'.length = S.nch + 1 := by subst hK; rw [List.length_set, List.length_append]; show _ + 1 = _; lia
  have att1 : ∀ i, i < S.nat -> atts'[i]? = some [] := fun i hi => by
    subst hA
    rw [List.getElem?_append_left (by lia)]
    obtain ⟨z, hz⟩ : ∃ z, atts[i]? = some z := ⟨_, List.getElem?_eq_getElem (by lia)⟩
    have hz0 := I.ae z (List.mem_of_getElem? hz)
    subst hz0; exact hz
  have att2 : atts'[S.nat]? = some at' := by subst hA; rw [List.getElem?_append_right (by lia), show S.nat - atts.length = 0 by lia]; rfl
  let T : St := { S.plus kind space name text p with items := its, marks := mk', mode := m, ack := a, errors := [] }
  let h : HS := hsO T al kids' atts' cops' none tm
  have g : ∀ {j : Nat} {x : SO}, al.lookup (.t j) = some x -> h.get (.t j) = some x := fun e => e
  have gm : ∀ {j : Nat} {x : SO}, tm[j]? = some x -> h.get (.m j) = some x := fun e => e
  have gs : ∀ f : Fix, h.get (.s f) = some (T.get f) := fun f => rfl
  refine cmp_ok (h := h) ht (CmpH.mk (gm hi) (g B.a11) (dat_sl (str_snoc I.lay.1 o1) (gs .kinds) (g B.a12) |>.mono (by decide)) (dat_sl (str_snoc I.lay.2.1 o2) (gs .spaces) (g B.a30) |>.mono (by decide)) (dat_sl (str_snoc I.lay.2.2.1 o3) (gs .names) (g B.a49) |>.mono (by decide)) ?_ (dat_sl (str_snoc I.lay.2.2.2 o4) (gs .texts) (g B.a85) |>.mono (by decide)) ?_
    (dat_il (l := S.parents ++ [p]) (gs .parents) (g B.apa) |>.mono (by decide)) (dat_il (l := its) (gs .items) (gm hln) |>.mono (by decide)) (dat_il (h := h) (l := mk') (gs .marks) ?_ |>.mono (by decide)) ⟨[], gs .errors, g B.ano, fun x hx => nomatch hx⟩ o5) ⟨rfl, g B.aw, g B.am⟩
  · refine (DatsN.list (n := 4) (xs := (List.range (S.nat + 1)).map fun k => .ref (.att k)) (ys := avs (aRefs S.nat ++ [.ref (.m j)])) (dats_of ?_ fun i x y hx hy => ?_) (mkH_some (x := .ar (S.nat + 1)) (gs .attrs)) (mkH_some (x := .list _) (g B.a67))).mono (by decide)
    · rw [avs_len, List.length_map, List.length_range, List.length_append]; unfold aRefs; rw [List.length_map, List.length_range]; rfl
    · obtain ⟨x1, rfl⟩ := range_get hx
      rw [avs_map, List.map_append] at hy
      have hal : (List.map SV.av (aRefs S.nat)) = (List.range S.nat).map fun k => AV.ref (.att k) := by unfold aRefs; rw [List.map_map]; rfl
      rw [hal] at hy
      rcases get_snoc hy with ⟨y1, y2⟩ | ⟨y1, rfl⟩
      · obtain ⟨y3, rfl⟩ := range_get y2
        have g : mkH h (.att i) = some (.list []) := by show ((atts'[i]?).map SO.list).map SO.ao = _; rw [att1 i y3]; rfl
        exact (DatsN.list (n := 2) .nil g g).mono (by decide)
      · rw [List.length_map, List.length_range] at y1
        subst y1
        refine (DatsN.list (n := 3) (xs := avs at') (ys := avs at') ?_ (by show ((atts'[S.nat]?).map SO.list).map SO.ao = _; rw [att2]; rfl) (by show (tm[j]?).map SO.ao = _; rw [hj]; rfl)).mono (by decide)
        rcases hat with rfl | rfl
        · exact .nil
        · exact dat_at1
  · refine (DatsN.list (n := 4) (xs := (List.range (S.nch + 1)).map fun k => .ref (.kid k)) (ys := avs (cRefs S.nch ++ [.ref nkO])) (dats_of ?_ fun i x y hx hy => ?_) (mkH_some (x := .kr (S.nch + 1)) (gs .children)) (mkH_some (x := .list _) (g B.ach))).mono (by decide)
    · rw [avs_len, List.length_map, List.length_range, List.length_append]; unfold cRefs; rw [List.length_map, List.length_range]; rfl
    · obtain ⟨x1, rfl⟩ := range_get hx
      rw [avs_append, avs_cRefs] at hy
      rcases get_snoc hy with ⟨y1, y2⟩ | ⟨y1, rfl⟩
      · obtain ⟨y3, rfl⟩ := range_get y2
        obtain ⟨z, hz⟩ : ∃ z, kids'[i]? = some z := ⟨_, List.getElem?_eq_getElem (by lia)⟩
        refine (dat_il (h := h) (l := z) ?_ ?_).mono (by decide)
        · show (kids'[i]?).map SO.il = _
          rw [hz]; rfl
        · show (cops'[i]?).map SO.il = _
          rw [kid1 i z y3 hz]; rfl
      · rw [List.length_map, List.length_range] at y1
        subst y1
        refine (dat_il (h := h) (l := []) ?_ (g B.ank)).mono (by decide)
        show (kids'[S.nch]?).map SO.il = _
        rw [kid2]; rfl
  · obtain ⟨h1, x, rfl | rfl⟩ := hmk { S.plus kind space name text p with items := its, marks := mk', mode := m, ack := a, errors := [] }
    · exact h1
    · exact h1
end
theorem put67 (S : St) (ws mk sh nd hm) (D : Due) (ns K Sp N A T pa ch kids atts cops tm) (X : SO) : (hsO S (alB ws mk sh nd hm D ns K Sp N A T pa ch) kids atts cops none tm).put (kO 67) X = hsO S (alB ws mk sh nd hm D ns K Sp N X T pa ch) kids atts cops none tm := by kernel_rfl
theorem get67 (S : St) (ws mk sh nd hm) (D : Due) (ns K Sp N A T pa ch kids atts cops tm) : (hsO S (alB ws mk sh nd hm D ns K Sp N A T pa ch) kids atts cops none tm).get (kO 67) = some A := by kernel_rfl
set_option tactic.hygienic true in
theorem ar_list {S : St} {ws mk sh nd hm} {D : Due} {ns K Sp N T pa ch kids atts cops tm} {n : Nat} (hn : n <= 1000000) (sm : Small (hsO S (alB ws mk sh nd hm D ns K Sp N (.ar n) T pa ch) kids atts cops none tm)) :
    mkH (hsO S (alB ws mk sh nd hm D ns K Sp N (.ar n) T pa ch) kids atts cops none tm) = mkH (hsO S (alB ws mk sh nd hm D ns K Sp N (.list (aRefs n)) T pa ch) kids atts cops none tm) /\ Small (hsO S (alB ws mk sh nd hm D ns K Sp N (.list (aRefs n)) T pa ch) kids atts cops none tm) := by
  have e := put67 S ws mk sh nd hm D ns K Sp N (.ar n) T pa ch kids atts cops tm (.list (aRefs n))
  refine ⟨?_, ?_⟩
  · rw [<- e, mkH_put rfl]
    funext o
    unfold upd
    split
    · rename_i q; subst q
      rw [mkH_some (get67 S ws mk sh nd hm D ns K Sp N (.ar n) T pa ch kids atts cops tm), aRefs_ao]
    · rfl
  · rw [<- e]
    exact small_put sm rfl (sok_list (by unfold aRefs; rw [List.length_map, List.length_range]; exact hn))
theorem alB_B (S : St) (ws mk sh nd hm) (D : Due) (kind space name text : Str) (p : Int) (j : Nat) : AlB (alB ws mk sh nd hm D [] (S.kinds ++ [kind]) (S.spaces ++ [space]) (S.names ++ [name]) (.list (aRefs S.nat ++ [.ref (.m j)])) (S.texts ++ [text]) (S.parents ++ [p]) (.list (cRefs S.nch ++ [.ref nkO])) ++ [(nkO, .il [])]) S ws mk kind space name text p j :=
  ⟨by kernel_rfl, by kernel_rfl, by kernel_rfl, by kernel_rfl, by kernel_rfl, by kernel_rfl, by kernel_rfl, by kernel_rfl, by kernel_rfl, by kernel_rfl, by kernel_rfl, by kernel_rfl⟩
section
variable {w : World} {hB : Heap} {env : Env} {A : Around} {S T : St} {ws : List Str} {mk : List Int} {sh : List Str} {nd hm : List Int} {kids kids' : List (List Int)} {atts' : List (List SV)} {tm : List SO} {mode : Str} {t : Tk} {n : Nat} {m kind space name : Str} {j : Nat} {text : Str} {more : Bool} {l : List Int}
theorem midB1 (b : Base w hB) (hs : env.scope = csc) (hA : AOk 142 A) {K Sp N Te : List Str} {A' : SO} {pa : List Int} {c : Nat} {D : Due} (hD : D = DB n m kind space name j text (mks more)) (hpa : pa.length <= 1000) (hc' : c <= 900) {li : List Int} (hli : li.length <= 1000) (hn : n < hm.length) (h0 : 0 <= hm.getD n 0) (hc : hm.getD n 0 < c) (hl : kids[(hm.getD n 0).toNat]? = some l) (hll : l.length <= 100)
    (sm : Small (hsO T (alB ws mk sh nd hm D [] K Sp N A' Te pa (.list (cRefs c))) kids' atts' kids none (tm ++ [.il li]))) :
    RS w hB A env (execs [bs 1, bs 2, bs 3, bs 4] env) (vsf (lsE mode t n tm.length)) (mkH (hsO T (alB ws mk sh nd hm D [] K Sp N A' Te pa (.list (cRefs c))) kids' atts' kids none (tm ++ [.il li])))
      (OQ fun o l' h => o = .next /\ l' = lsE mode t n tm.length /\ h = hsO T (alB ws mk sh nd hm D [] K Sp N A' Te (pa ++ [hm.getD n 0]) (.list (cRefs c ++ [.ref nkO])) ++ [(nkO, .il [])]) kids' atts' (kids.set (hm.getD n 0).toNat (l ++ [(pa.length : Int)])) none (tm ++ [.il (li ++ lnB more pa.length)])) := by
  have hkd := csc_kind
  have hcl : (cRefs c).length = c := by unfold cRefs; rw [List.length_map, List.length_range]
  refine s_cons (Run.mono (put1 b hs hA hn h0 hc hl (by lia) (by lia) sm) (OQ.at fun s1 => ?_))
  generalize kids.set (hm.getD n 0).toNat (l ++ [(pa.length : Int)]) = cops' at *
  refine S_at (k := 70) b noO hkd hs hA s1 (lsE mode t n tm.length) (hsO T (alB ws mk sh nd hm D [] K Sp N A' Te pa (.list (cRefs c ++ [.ref nkO])) ++ [(nkO, .il [])]) kids' atts' cops' none (tm ++ [.il li])) (kmp (caseB2 T ws mk sh nd hm kids' atts' cops' [] (tm ++ [.il li]) mode t n K Sp N Te A' pa tm.length D (cRefs c) _) ⟨by show _ <= _; lia, rfl, rfl, rfl⟩) fun s1 => ?_
  generalize cRefs c ++ [.ref nkO] = ch at *
  subst hD
  refine s_cons (Run.mono (put3 (ln := tm.length) (li := li) b hs hA (by simp) hli more s1) (OQ.at fun s1 => ?_))
  have hset : ∀ x, (tm ++ [SO.il li]).set tm.length x = tm ++ [x] := fun x => by
    rw [List.set_append_right _ _ (Nat.le_refl _), Nat.sub_self]; rfl
  rw [hset] at s1 ⊢
  refine S_at (k := 70) b noO hkd hs hA s1 (lsE mode t n tm.length) (hsO T (alB ws mk sh nd hm (DB n m kind space name j text (mks more)) [] K Sp N A' Te (pa ++ [hm.getD n 0]) (.list ch) ++ [(nkO, .il [])]) kids' atts' cops' none (tm ++ [.il (li ++ lnB more pa.length)])) (kmp (caseB4 T ws mk sh nd hm kids' atts' cops' [] (tm ++ [.il (li ++ lnB more pa.length)]) mode t n K Sp N Te A' pa (.list ch) tm.length _ _) ⟨⟨Int.natCast_nonneg n, by lia⟩, by show _ <= _; lia, rfl, rfl, rfl⟩) fun s1 => ?_
  exact s_nil ⟨.next, _, _, rfl, rfl, rfl, s1, rfl, rfl, rfl⟩
theorem midB (b : Base w hB) (hs : env.scope = csc) (hA : AOk 142 A) (hz : S.kinds.length <= 1000 /\ S.spaces.length <= 1000 /\ S.names.length <= 1000 /\ S.nat <= 900 /\ S.texts.length <= 1000 /\ S.nch <= 900 /\ S.parents.length <= 1000 /\ nd.length <= 1000) (hn : n < hm.length) (h0 : 0 <= hm.getD n 0) (hc : hm.getD n 0 < S.nch) (hl : kids[(hm.getD n 0).toNat]? = some l) (hll : l.length <= 100)
    {Q : SOut -> SVS -> HS -> Prop} (sm : Small (hsO T (alB ws mk sh nd hm (DB n m kind space name j text (mks more)) [] S.kinds S.spaces S.names (.ar S.nat) S.texts S.parents (.list (cRefs S.nch))) kids' atts' kids none tm))
    (k2 : ∀ h, h = hsO T (alB ws mk sh nd hm (DB n m kind space name j text (mks more)) [] (S.kinds ++ [kind]) (S.spaces ++ [space]) (S.names ++ [name]) (.list (aRefs S.nat ++ [.ref (.m j)])) (S.texts ++ [text]) (S.parents ++ [hm.getD n 0]) (.list (cRefs S.nch ++ [.ref nkO])) ++ [(nkO, .il [])]) kids' atts' (kids.set (hm.getD n 0).toNat (l ++ [(S.parents.length : Int)])) none (tm ++ [.il (nd.take n ++ lnB more S.parents.length)]) ->
      Small h -> RS w hB A env (execs ((bodyOf caseF.st).drop 14) env) (vsf (lsE mode t n tm.length)) (mkH h) (OQ Q)) :
    RS w hB A env (execs ((bodyOf caseF.st).drop 11) env) (vsf (ls9 mode t)) (mkH (hsO T (alB ws mk sh nd hm (DB n m kind space name j text (mks more)) [] S.kinds S.spaces S.names (.ar S.nat) S.texts S.parents (.list (cRefs S.nch))) kids' atts' kids none tm)) (OQ Q) := by
  obtain ⟨z1, z2, z3, z4, z5, z6, z7, z8⟩ := hz
  have R := EV_ok b (noO (w := w) (hB := hB)) 71 csc csc_kind
  have hkd := csc_kind
  rw [body11]
  refine S_at (k := 70) b noO hkd hs hA sm (vr "keep" (.si n) :: ls9 mode t) (hsO T (alB ws mk sh nd hm (DB n m kind space name j text (mks more)) [] S.kinds S.spaces S.names (.ar S.nat) S.texts S.parents (.list (cRefs S.nch))) kids' atts' kids none tm) (kmp (case11 T ws mk sh nd hm kids' atts' kids [] tm mode t n m kind space name j text (mks more) S.kinds S.spaces S.names S.texts (.ar S.nat) S.parents (.list (cRefs S.nch)) _) ⟨rfl, rfl, rfl⟩) fun s1 => ?_
  refine S_at (k := 70) b noO hkd hs hA s1 (lsE mode t n tm.length) (hsO T (alB ws mk sh nd hm (DB n m kind space name j text (mks more)) [] S.kinds S.spaces S.names (.ar S.nat) S.texts S.parents (.list (cRefs S.nch))) kids' atts' kids none (tm ++ [.il (nd.take n)])) (kmp (case12 T ws mk sh nd hm kids' atts' kids [] tm mode t n m kind space name j text (mks more) S.kinds S.spaces S.names S.texts (.ar S.nat) S.parents (.list (cRefs S.nch)) _) ⟨Int.natCast_nonneg n, rfl, rfl, rfl⟩) fun s1 => ?_
  let hE := hsO T (alB ws mk sh nd hm (DB n m kind space name j text (mks more)) [] (S.kinds ++ [kind]) (S.spaces ++ [space]) (S.names ++ [name]) (.list (aRefs S.nat ++ [.ref (.m j)])) (S.texts ++ [text]) (S.parents ++ [hm.getD n 0]) (.list (cRefs S.nch ++ [.ref nkO])) ++ [(nkO, .il [])]) kids' atts' (kids.set (hm.getD n 0).toNat (l ++ [(S.parents.length : Int)])) none (tm ++ [.il (nd.take n ++ lnB more S.parents.length)])
  refine s_cons (Run.mono (Q := OQ fun o l h => o = .next /\ l = lsE mode t n tm.length /\ h = hE) ?_ (OQ.at fun s1 => k2 _ rfl s1))
  rw [cs13_eq]
  refine s_if ((R.t hs hA s1 (Q := fun c l h => c = true /\ l = lsE mode t n tm.length /\ h = hsO T (alB ws mk sh nd hm (DB n m kind space name j text (mks more)) [] S.kinds S.spaces S.names (.ar S.nat) S.texts S.parents (.list (cRefs S.nch))) kids' atts' kids none (tm ++ [SO.il (nd.take n)])) (kmp (case13t T ws mk sh nd hm kids' atts' kids [] (tm ++ [SO.il (nd.take n)]) mode t n m kind space name j text (mks more) S.kinds S.spaces S.names S.texts (.ar S.nat) S.parents (.list (cRefs S.nch)) tm.length _) ⟨rfl, rfl, rfl⟩)).mono (TQ.at fun s1 => ?_))
  refine ⟨fun _ => ?_, fun q => by cases q⟩
  obtain ⟨e1, s1⟩ := ar_list (by lia) s1
  rw [e1]
  have hal : (aRefs S.nat).length = S.nat := by unfold aRefs; rw [List.length_map, List.length_range]
  refine s_cons (Run.mono (loop5 (kind := kind) (space := space) (name := name) (text := text) (j := j) (as := aRefs S.nat) (K := S.kinds) (Sp := S.spaces) (N := S.names) (T := S.texts) b hs hA ⟨z1, z2, z3, by lia, z5⟩ s1) (OQ.at fun s1 => ?_))
  exact midB1 b hs hA rfl z7 z6 (by rw [List.length_take]; lia) hn h0 hc hl hll s1
end
theorem nm_mem {name : Str} (h : name ∈ nmB) (more : Bool) : (name, more) ∈ nmM := by
  unfold nmM
  cases more
  · exact List.mem_append_left _ (List.mem_map.mpr ⟨name, h, rfl⟩)
  · exact List.mem_append_right _ (List.mem_map.mpr ⟨name, h, rfl⟩)
theorem nm_str : nmB.all PyData.strOk = true := by kernel_rfl
section
variable {mode : Str} {k : Nat} {S : St} {sh : List Str} {nd hm : List Int} {kids : List (List Int)} {atts : List (List SV)} {ws : List Str}
theorem endB_ok (I : BInv mode k S sh nd hm kids atts) {t : Tk} (ht : t ∈ toks) {mk : List Int} (hml : mk.length <= 100) {tm : List SO} {j n : Nat} {kind space name text m : Str} {at' : List SV} {l : List Int} {p x : Int} {al : List (Oid × SO)} {more : Bool}
    (B : AlB al S ws mk kind space name text p j) (ok : PyData.strOk kind = true /\ PyData.strOk space = true /\ PyData.strOk name = true /\ PyData.strOk text = true /\ PyData.strOk m = true) (hat : at' = [] ∨ at' = at1) (hp : p.toNat < kids.length) (hj : tm[j]? = some (.list at')) :
    endB (fun tm => hsO (endSB S kind space name text p n more x mk m) al ((kids ++ [[]]).set p.toNat (l ++ [(S.kinds.length : Int)])) (atts ++ [at']) (kids.set p.toNat (l ++ [(S.parents.length : Int)])) none tm) m m mk more (tm ++ [.il (S.items.take n ++ lnB more x)]) tm.length (caseQ ws mk) := by
  unfold endSB
  generalize S.items.take n ++ lnB more x = its
  have hjl := (List.getElem?_eq_some_iff.mp hj).1
  have gj : ∀ x, (tm ++ x)[j]? = some (.list at') := fun x => by rw [List.getElem?_append_left hjl]; exact hj
  have gl : ∀ x : List SO, (tm ++ (.il its :: x))[tm.length]? = some (.il its) := fun x => by rw [List.getElem?_append_right (Nat.le_refl _), Nat.sub_self]; rfl
  cases more with
  | true =>
    refine ⟨by show _ <= _; lia, ?_⟩
    have e : tm ++ [SO.il its] ++ [.il [-1]] ++ [.il (mk ++ [-1])] ++ [fiveL] = tm ++ (.il its :: .il [-1] :: .il (mk ++ [-1]) :: [fiveL]) := by simp
    have hln : (tm ++ [SO.il its]).length = tm.length + 1 := by simp
    rw [e, hln]
    refine cmp_B I ht B ok hat hp ?_ (gj _) (gl _) fun S' => ⟨?_, _, .inr rfl⟩
    · rw [List.getElem?_append_right (by lia), show tm.length + 1 + 2 - tm.length = 3 by lia]; rfl
    · show (tm ++ _)[tm.length + 1 + 1]? = _
      rw [List.getElem?_append_right (by lia), show tm.length + 1 + 1 - tm.length = 2 by lia]; rfl
  | false =>
    have e : tm ++ [SO.il its] ++ [fiveL] = tm ++ (.il its :: [fiveL]) := by simp
    have hln : (tm ++ [SO.il its]).length = tm.length + 1 := by simp
    show cmpEnd (hsO _ _ _ _ _ _ (tm ++ [SO.il its] ++ [fiveL])) m m (tm ++ [SO.il its]).length tm.length mO _
    rw [e, hln]
    refine cmp_B I ht B ok hat hp ?_ (gj _) (gl _) fun S' => ⟨?_, _, .inl rfl⟩
    · rw [List.getElem?_append_right (by lia), show tm.length + 1 - tm.length = 1 by lia]; rfl
    · show al.lookup mO = some (.il (mk ++ []))
      rw [List.append_nil]; exact B.am
theorem zs_ok (I : BInv mode k S sh nd hm kids atts) (h : S.kinds.length <= 900) (hk : k <= 10) : S.kinds.length <= 1000 /\ S.spaces.length <= 1000 /\ S.names.length <= 1000 /\ S.nat <= 900 /\ S.texts.length <= 1000 /\ S.nch <= 900 /\ S.parents.length <= 1000 /\ nd.length <= 1000 := by
  rw [I.sp, I.nm, I.tx, I.pa, I.at', I.ch, I.nlen]
  exact ⟨by lia, by lia, by lia, h, by lia, h, by lia, by lia⟩
theorem endB_fin {T : St} {kids' cops' : List (List Int)} {atts' : List (List SV)} {mk : List Int} {t : Tk} {n : Nat} {m kind space name text : Str} {j : Nat} {K Sp N Te : List Str} {A' ch : SO} {pa its : List Int} {at' : List SV} {more : Bool} {tm : List SO} {Q : SV -> HS -> Prop}
    (hTm : T.mode = m) (hTa : { T with ack := name == Str.ofString "col" } = T) (hn : name ∈ nmB) (f7 : tm = [.list at'] /\ j = 0 ∨ ∃ x, tm = [.il x, .list at'] /\ j = 1)
    (ok : endB (fun tm => hsO T (alB ws mk sh nd hm (DB n m kind space name j text (mks more)) [] K Sp N A' Te pa ch ++ [(nkO, .il [])]) kids' atts' cops' none tm) m m mk more (tm ++ [.il its]) tm.length Q) :
    ((EV [] 80) csc).s ((bodyOf caseF.st).drop 14) (lsE mode t n tm.length) (hsO T (alB ws mk sh nd hm (DB n m kind space name j text (mks more)) [] K Sp N A' Te pa ch ++ [(nkO, .il [])]) kids' atts' cops' none (tm ++ [.il its])) (retS (AvQ Q)) := by
  subst hTm
  rcases f7 with ⟨rfl, rfl⟩ | ⟨x, rfl, rfl⟩
  · have e := List.map_inj_left.mp (endB_eq1 T ws mk sh nd hm kids' atts' cops' [] mode t n T.mode kind space 0 text K Sp N Te A' pa ch at' its Q) (name, more) (nm_mem hn more)
    dsimp only at e
    rw [hTa] at e
    exact kmp e ok
  · have e := List.map_inj_left.mp (endB_eq2 T ws mk sh nd hm kids' atts' cops' [] mode t n T.mode kind space 1 text K Sp N Te A' pa ch x at' its Q) (name, more) (nm_mem hn more)
    dsimp only at e
    rw [hTa] at e
    exact kmp e ok
theorem hs9_B (S0 S' : St) (ws mk sh nd hm kids atts cops) (D : Due) (ns tm) : hs9 S0 S' ws mk sh nd hm kids atts cops D ns tm = hsO S' (alB ws mk sh nd hm D ns S0.kinds S0.spaces S0.names (.ar S0.nat) S0.texts S0.parents (.list (cRefs S0.nch))) kids atts cops none tm := by kernel_rfl
theorem kB_ok {w : World} {hB : Heap} (b : Base w hB) {env : Env} {A : Around} (hs : env.scope = csc) (hA : AOk 160 A) {t : Tk} (ht : t ∈ toks) {mk : List Int} (hmk : mk.length <= 100) (I : BInv mode k S sh nd hm kids atts) (hk : k <= 10)
    {S' kids' atts' D ns tm} (F : FinB S S' kids kids' atts atts' hm mk D ns tm) (s1 : Small (hs9 (S.wm mk) S' ws mk sh nd hm kids' atts' kids D ns tm)) :
    RS w hB A env (execs ((bodyOf caseF.st).drop 11) env) (vsf (ls9 mode t)) (mkH (hs9 (S.wm mk) S' ws mk sh nd hm kids' atts' kids D ns tm)) (OQ (retS (AvQ (caseQ ws mk)))) := by
  have hnd := I.it
  subst hnd
  obtain ⟨n, m, kind, space, name, text, at', j, more, l, f4, f5, f7, f8, ⟨o1, o2, o4, o5⟩, o3, f10, f11, e1, e2, e3, e4, e5⟩ := F
  rw [<- I.pa] at e5
  subst e1; subst e2; subst e3; subst e4; subst e5
  rw [hs9_B] at s1 ⊢
  have hbig := I.big
  have hml : hm.length = S.items.length + 1 := by rw [I.hmE, List.length_cons, List.length_map, <- I.it]
  obtain ⟨e1, e2⟩ := I.hmD f4 f5
  have hr := I.home _ (I.it.subst (motive := fun z => S.items.getD (n - 1) 0 ∈ z) e2)
  rw [<- e1] at hr
  have hz : S.kinds.length <= 900 /\ (hm.getD n 0).toNat < kids.length /\ hm.getD n 0 < S.nch := ⟨by lia, by rw [I.ki]; lia, by rw [I.ch]; lia⟩
  refine midB (more := more) b hs (hA.mono (by decide)) (S := S) (l := l) (zs_ok I hz.1 hk) (by lia) (Int.le_of_lt hr.1) hz.2.2 f10 f11 s1 ?_
  rintro _ rfl s2
  exact (EV_ok b (noO (w := w) (hB := hB)) 80 csc csc_kind).s hs hA s2 (endB_fin rfl rfl o3 f7 (endB_ok I ht hmk (alB_B S ws mk sh S.items hm _ kind space name text (hm.getD n 0) j) ⟨o1, o2, List.all_eq_true.mp nm_str name o3, o4, o5⟩ f8 hz.2.1 (by
    rcases f7 with ⟨rfl, rfl⟩ | ⟨x, rfl, rfl⟩ <;> rfl)))
end
theorem caseF_at : fnAt 805 4 fnC = some caseF := by kernel_rfl
theorem caseF_args (mode t) : ((argNames caseF.st).zip [SV.str mode, .ref wO, Tk.sv t, .ref mO]).reverse = ls0 mode t := by kernel_rfl
theorem fdE_case : (fdE caseF).scope = csc := by kernel_rfl
noncomputable def modes3 (mode : Str) : Prop := mode = "in caption" ∨ mode = "in column group" ∨ mode = "in row"
section
variable {w : World} {hB : Heap}
set_option tactic.hygienic true in
theorem small_hs0 {ws : List Str} {mk : List Int} (hw : ws.length <= 1000) (hm : mk.length <= 1000) : Small (hs0 ws mk) := fun o x e => by
  cases o with
  | t k =>
    have e : List.lookup (Oid.t k) (arL ws mk) = some x := e
    rw [List.lookup_cons] at e
    split at e
    · cases e; exact sok_sl (by lia)
    · rw [List.lookup_cons] at e
      split at e
      · cases e; exact sok_il (by lia)
      · cases e
  | s k =>
    have e : List.lookup (Oid.s k) (arL ws mk) = some x := e
    rw [List.lookup_cons] at e
    split at e
    · rename_i q; cases eq_of_beq q
    · rw [List.lookup_cons] at e
      split at e
      · rename_i q; cases eq_of_beq q
      · cases e
  | ab => cases e
  | kid k => cases e
  | att k => cases e
  | c k => cases e
  | m k => cases e
theorem case_ok (b : Base w hB) {mode : Str} (hmode : modes3 mode) {t : Tk} (ht : t ∈ toks) {ws : List Str} {mk : List Int} (hws : ∀ x ∈ ws, x ∈ pool) (hwl : ws.length <= 9) (hmk : mk.length <= 100) :
    Spec w hB 163 (.ref 805) [.str mode, .ref wO, t.sv.av, .ref mO] (mkH (hs0 ws mk)) (HQ (caseQ ws mk)) := by
  obtain ⟨h1, h2, h3⟩ := fnAt_mem caseF_at
  have sm := small_hs0 (ws := ws) (mk := mk) (by lia) (by lia)
  have := enterK (w := w) (hB := hB) (n := 162) (h := hs0 ws mk) (Q := AvQ (caseQ ws mk)) b h1 (as := [.str mode, .ref wO, t.sv, .ref mO]) h3.symm fun L A' hA' => by
    rw [caseF_args]
    have hs : (callEnvC (fdE caseF) L caseF.fa).scope = csc := fdE_case
    exact case_pre b hs (hA'.mono (by decide)) hws hwl sm fun S sh nd hm kids atts I hsh s1 =>
      case_mid b hs hA' hmode ht hmk I (Nat.succ_ne_zero _) (by lia) s1 (fun S' D ns tm F s2 => kA_ok b hs (hA'.mono (by decide)) ht hmk I F s2) (fun S' kids' atts' D ns tm F s2 => kB_ok b hs (hA'.mono (by decide)) ht hmk I (by lia) F s2)
  rw [h2] at this
  exact this.spec.mono fun _ _ => HQ_av
end
mutual
noncomputable def noRef : AV -> Bool
  | .ref _ => false
  | .tup xs => noRefs xs
  | _ => true
noncomputable def noRefs : List AV -> Bool
  | [] => true
  | x :: xs => noRef x && noRefs xs
end
theorem VR.res {h : Heap} {ρ ρ' : Rho} {H H' : AHeap} : (∀ {a v}, VR h ρ H a v -> noRef a = true -> VR h ρ' H' a v) /\ (∀ {xs us}, VRs h ρ H xs us -> noRefs xs = true -> VRs h ρ' H' xs us) :=
  VR.map (c := fun a => noRef a = true) (cs := fun xs => noRefs xs = true) (fun _ _ _ ho => ho) (fun _ _ _ _ _ _ _ hr => hr) (fun _ _ e => Bool.noConfusion e) (fun _ e => e) (fun _ _ e => Bool.and_eq_true_iff.mp e)
theorem VR.re {h : Heap} {ρ ρ' : Rho} {H H' : AHeap} {a : AV} {v : Value} (r : VR h ρ H a v) (e : noRef a = true) : VR h ρ' H' a v := VR.res.1 r e
theorem VRs.re {h : Heap} {ρ ρ' : Rho} {H H' : AHeap} {xs : List AV} {ys : List Value} (r : VRs h ρ H xs ys) (e : noRefs xs = true) : VRs h ρ' H' xs ys := VR.res.2 r e
theorem tok_noRef : toks.all (fun t => noRef t.sv.av) = true := by kernel_rfl
theorem ints_noRef : ∀ l : List Int, noRefs (l.map AV.int) = true
  | [] => rfl
  | _ :: l => by show (true && noRefs (l.map AV.int)) = true; rw [ints_noRef l]; rfl
theorem strs_noRef : ∀ l : List Str, noRefs (l.map AV.str) = true
  | [] => rfl
  | _ :: l => by show (true && noRefs (l.map AV.str)) = true; rw [strs_noRef l]; rfl
noncomputable def cellV (h : Heap) (c : Addr) : Option Value := match h.get? c with
  | some o => match o.data with
    | .cell v => v
    | _ => none
  | none => none
theorem cellV_eq {h : Heap} {c : Addr} {v : Option Value} (e : h.IsCell c v) : cellV h c = v := by
  obtain ⟨o, h1, h2⟩ := e
  unfold cellV
  rw [h1]; dsimp only; rw [h2]
noncomputable def vsRaw (env : Env) (vs : VS) (m : Str -> Option Value) (h : Heap) : VS := fun x => match vs x with
  | some _ => if env.kindOf x = some .local then (m x).map .val else match env.cells.lookup x with
    | some c => (cellV h c).map .val
    | none => none
  | none => none
theorem hs0_only {ws : List Str} {mk : List Int} (o : Oid) (ho : mkH (hs0 ws mk) o ≠ none) : o = wO ∨ o = mO := by
  cases o with
  | t k =>
    by_cases q1 : k = 1
    · subst q1; exact .inl rfl
    · by_cases q2 : k = 2
      · subst q2; exact .inr rfl
      · exfalso
        apply ho
        show (List.lookup (Oid.t k) (arL ws mk)).map SO.ao = none
        rw [List.lookup_cons, show (Oid.t k == wO) = false by simpa using q1, List.lookup_cons]
        dsimp only
        rw [show (Oid.t k == mO) = false by simpa using q2]; rfl
  | s k =>
    exfalso; apply ho
    show (List.lookup (Oid.s k) (arL ws mk)).map SO.ao = none
    rw [List.lookup_cons, show (Oid.s k == wO) = false by simp, List.lookup_cons]
    dsimp only
    rw [show (Oid.s k == mO) = false by simp]; rfl
  | ab => exact absurd rfl ho
  | kid k => exact absurd rfl ho
  | att k => exact absurd rfl ho
  | c k => exact absurd rfl ho
  | m k => exact absurd rfl ho
inductive Ar where
  | w | m
  | a (x : AV)
noncomputable def Ar.i : Ar -> AV
  | .w => .ref wO
  | .m => .ref mO
  | .a x => x
noncomputable def Ar.o (o1 o2 : Oid) : Ar -> AV
  | .w => .ref o1
  | .m => .ref o2
  | .a x => x
noncomputable def Ar.good : Ar -> Bool
  | .a x => noRef x
  | _ => true
theorem ar_rel {h : Heap} {ρ ρ₀ : Rho} {H : AHeap} {ws : List Str} {mk : List Int} {o1 o2 : Oid} (e1 : ρ₀ wO = ρ o1) (e2 : ρ₀ mO = ρ o2) : ∀ {args : List Ar} {vals : List Value}, args.all Ar.good = true -> VRs h ρ H (args.map (Ar.o o1 o2)) vals -> VRs h ρ₀ (mkH (hs0 ws mk)) (args.map Ar.i) vals
  | [], _, _, r => by cases r; exact .nil
  | x :: args, _, g, r => by
    have g := Bool.and_eq_true_iff.mp (show (x.good && args.all Ar.good) = true from g)
    cases r with | cons hx hs =>
    refine .cons ?_ (ar_rel e1 e2 g.2 hs)
    cases x with
    | w => cases hx; rw [<- e1]; exact .ref wO (by show some _ ≠ none; simp)
    | m => cases hx; rw [<- e2]; exact .ref mO (by show some _ ≠ none; simp)
    | a x => exact hx.re g.1
section
variable {w : World} {hB : Heap} {env : Env} {vs : VS} {H : AHeap} {ρ : Rho} {s : Shared}
theorem raw_loc {m : Str -> Option Value} {h : Heap} {x : Str} {a : AV} (hk : env.kindOf x = some .local) (e : vs x = some a) : vsRaw env vs m h x = (m x).map .val := by
  unfold vsRaw; rw [e]; dsimp only; rw [if_pos hk]
theorem raw_cell {m : Str -> Option Value} {h : Heap} {x : Str} {a : AV} {c : Addr} (hk : env.kindOf x ≠ some .local) (hc : env.cells.lookup x = some c) (e : vs x = some a) : vsRaw env vs m h x = (cellV h c).map .val := by
  unfold vsRaw; rw [e]; dsimp only; rw [if_neg hk, hc]
theorem raw_some {m : Str -> Option Value} {h : Heap} {x : Str} {b : AV} (e : vsRaw env vs m h x = some b) : ∃ a, vs x = some a := by
  unfold vsRaw at e
  cases q : vs x with
  | none => rw [q] at e; cases e
  | some a => exact ⟨a, rfl⟩
theorem two_ok (O : Ok w hB env vs H ρ s) {ws : List Str} {mk : List Int} {o1 o2 : Oid} (ne : o1 ≠ o2) (h1 : H o1 = some (.list (ws.map .str))) (h2 : H o2 = some (.list (mk.map .int))) :
    ∃ m ρ₀, ρ₀ wO = ρ o1 /\ ρ₀ mO = ρ o2 /\ (∀ x a, env.kindOf x = some .local -> vs x = some a -> ∃ v, m x = some v /\ VR s.heap ρ H a v) /\ Ok w hB env (vsRaw env vs m s.heap) (mkH (hs0 ws mk)) ρ₀ s := by
  obtain ⟨m, hm, hl⟩ := O.fr.loc
  have d1 : H o1 ≠ none := by rw [h1]; simp
  have d2 : H o2 ≠ none := by rw [h2]; simp
  have nw : wO ≠ mO := by decide
  let ρ₀ : Rho := fun o => if o = wO then ρ o1 else ρ o2
  have e1 : ρ₀ wO = ρ o1 := if_pos rfl
  have e2 : ρ₀ mO = ρ o2 := if_neg (by decide)
  have only := fun o ho => hs0_only (ws := ws) (mk := mk) o ho
  refine ⟨m, ρ₀, e1, e2, hl, O.base, O.last, fun o ao h => ?_, fun o ho => ?_, fun o o' ho ho' e => ?_, ⟨⟨m, hm, fun x a hk hv => ?_⟩, fun x hx => ?_, fun x a hx hv => ?_⟩, fun o ho => ?_, O.bigL, O.bigC, O.cinj, O.kind, O.glob, O.bi, O.gens⟩
  · rcases only o (by rw [h]; simp) with rfl | rfl
    · have h : some (AO.list (ws.map .str)) = some ao := h
      cases h
      obtain ⟨us, n, g1, g2⟩ := O.objs o1 _ h1
      exact ⟨us, n, by rw [e1]; exact g1, g2.re (strs_noRef ws)⟩
    · have h : some (AO.list (mk.map .int)) = some ao := h
      cases h
      obtain ⟨us, n, g1, g2⟩ := O.objs o2 _ h2
      exact ⟨us, n, by rw [e2]; exact g1, g2.re (ints_noRef mk)⟩
  · rcases only o ho with rfl | rfl
    · rw [e1]; exact O.big o1 d1
    · rw [e2]; exact O.big o2 d2
  · rcases only o ho with rfl | rfl <;> rcases only o' ho' with rfl | rfl
    · rfl
    · rw [e1, e2] at e; exact absurd (O.inj _ _ d1 d2 e) ne
    · rw [e1, e2] at e; exact absurd (O.inj _ _ d2 d1 e).symm ne
    · rfl
  · obtain ⟨a', ha⟩ := raw_some hv
    rw [raw_loc hk ha] at hv
    obtain ⟨v, g1, rfl⟩ := Option.map_eq_some_iff.mp hv
    exact ⟨v, g1, .val v⟩
  · obtain ⟨c, v₀, g1, g2, g3⟩ := O.fr.cel x hx
    refine ⟨c, v₀, g1, g2, fun a hv => ?_⟩
    obtain ⟨a', ha⟩ := raw_some hv
    rw [raw_cell (by rw [hx]; simp) g1 ha, cellV_eq g2] at hv
    obtain ⟨v, g4, rfl⟩ := Option.map_eq_some_iff.mp hv
    exact ⟨v, g4, .val v⟩
  · obtain ⟨a', ha⟩ := raw_some hv
    obtain ⟨c, v, g1, g2, g3⟩ := O.fr.fre x a' hx ha
    rw [raw_cell (by rw [hx]; simp) g1 ha, cellV_eq g2] at hv
    cases hv
    exact ⟨c, v, g1, g2, .val v⟩
  · rcases only o ho with rfl | rfl
    · rw [e1]; exact O.nL o1 d1
    · rw [e2]; exact O.nL o2 d2
theorem two_back (O : Ok w hB env vs H ρ s) {ws : List Str} {mk : List Int} {o1 : Oid} (nz : o1 ≠ zO) (h1 : H o1 = some (.list (ws.map .str))) {m : Str -> Option Value} {ρ₀ : Rho} (e1 : ρ₀ wO = ρ o1) (hl : ∀ x a, env.kindOf x = some .local -> vs x = some a -> ∃ v, m x = some v /\ VR s.heap ρ H a v)
    {ρ' : Rho} {H' : AHeap} {s' : Shared} (O' : Ok w hB env (vsRaw env vs m s.heap) H' ρ' s') (S : Step env ρ₀ (mkH (hs0 ws mk)) s ρ' H' s') (g1 : H' wO = some (.list (ws.map .str))) :
    Ok w hB env vs H ρ s' /\ Step env ρ H s ρ H s' := by
  have d1 : H o1 ≠ none := by rw [h1]; simp
  have w1 : mkH (hs0 ws mk) wO ≠ none := by show some _ ≠ none; simp
  have only : ∀ i, Mv (mkH (hs0 ws mk)) i -> ρ₀ i = ρ o1 := fun i hi => by
    rcases hs0_only i hi.1 with rfl | rfl
    · exact e1
    · exact absurd rfl hi.2
  have S2 : Step env ρ H s ρ H s' := ⟨fun _ h => h, fun _ _ => rfl, fun o h h' => absurd h' h, S.live, fun b x hx hn hl hc => S.keep b x hx (fun i hi e => hn o1 ⟨d1, nz⟩ (e.trans (only i hi))) hl hc, S.os⟩
  have keepO : ∀ {o ao x}, H o = some ao -> o ≠ o1 -> s.heap.get? (ρ o) = some x -> s'.heap.get? (ρ o) = some x := fun {o ao x} ho n1 hx => by
    have d : H o ≠ none := by rw [ho]; simp
    refine S.keep _ x hx (fun i hi e => n1 (O.inj _ _ d d1 (e.trans (only i hi)))) (O.nL o d) (fun p hp e => ?_)
    obtain ⟨_, v, hv⟩ := O.bigC p hp
    exact (O.not_cell hv).1 o d e.symm
  refine ⟨⟨O'.base, O'.last, fun o ao ho => ?_, O.big, O.inj, ⟨?_, fun x hx => ?_, fun x a hx hv => ?_⟩, O.nL, O.bigL, O'.bigC, O.cinj, O.kind, O.glob, O.bi, O'.gens⟩, S2⟩
  · by_cases q1 : o = o1
    · subst q1
      rw [h1] at ho; cases ho
      obtain ⟨us, n, k1, k2⟩ := O'.objs wO _ g1
      rw [S.rho wO w1, e1] at k1
      exact ⟨us, n, k1, k2.re (strs_noRef ws)⟩
    · exact OR.keep O S2 ho fun x hx => keepO ho q1 hx
  · obtain ⟨m', hm', hl'⟩ := O'.fr.loc
    refine ⟨m', hm', fun x a hk hv => ?_⟩
    obtain ⟨v, k1, k2⟩ := hl x a hk hv
    obtain ⟨v', k3, k4⟩ := hl' x (.val v) hk (by rw [raw_loc hk hv, k1]; rfl)
    cases k4
    exact ⟨v, k3, k2.mono O S2⟩
  · obtain ⟨c, v₀, a1, a2, a3⟩ := O.fr.cel x hx
    obtain ⟨c', v₀', b1, b2, b3⟩ := O'.fr.cel x hx
    refine ⟨c', v₀', b1, b2, fun a ha => ?_⟩
    obtain ⟨v, rfl, r⟩ := a3 a ha
    obtain ⟨v', k3, k4⟩ := b3 (.val v) (by rw [raw_cell (by rw [hx]; simp) a1 ha, cellV_eq a2]; rfl)
    cases k4
    exact ⟨v, k3, r.mono O S2⟩
  · obtain ⟨c, v, a1, a2, a3⟩ := O.fr.fre x a hx hv
    obtain ⟨c', v', b1, b2, b3⟩ := O'.fr.fre x (.val v) hx (by rw [raw_cell (by rw [hx]; simp) a1 hv, cellV_eq a2]; rfl)
    cases b3
    exact ⟨c', v, b1, b2, a3.mono O S2⟩
theorem frame_two {n : Nat} {f : Value} {ws : List Str} {mk : List Int} {o1 o2 : Oid} (args : List Ar) (hn : args.all Ar.good = true) {P : AV -> Prop} (nz : o1 ≠ zO) (ne : o1 ≠ o2) (h1 : H o1 = some (.list (ws.map .str))) (h2 : H o2 = some (.list (mk.map .int)))
    (sp : Spec w hB n f (args.map Ar.i) (mkH (hs0 ws mk)) (fun a H' => noRef a = true /\ H' wO = some (.list (ws.map .str)) /\ P a)) :
    Spec w hB n f (args.map (Ar.o o1 o2)) H (fun a H' => P a /\ H' = H) := fun A env vs ρ s K vals hA O hv k => by
  obtain ⟨m, ρ₀, e1, e2, hl, O₀⟩ := two_ok O ne h1 h2
  refine sp A env _ ρ₀ s K vals hA O₀ (ar_rel e1 e2 hn hv) fun v a ρ' H' s' O' S' r ⟨q0, q1, q3⟩ => ?_
  obtain ⟨O2, S2⟩ := two_back O nz h1 e1 hl O' S' q1
  exact k v a ρ H s' O2 S2 (VR.re r q0) ⟨q3, rfl⟩
end
end Mine
namespace Mine
open PySem PySem.W PySem.Calls PyProof.Rows PySem.Spec
open PySem.Builtin PySem.Builtin.Str PySem.StrLaws
noncomputable def isWord (x : Str) : Bool := !x.cps.toList.isEmpty && x.cps.toList.all fun c => !Unicode.isSpace c
noncomputable def spans : Nat -> List Str -> List (Nat × Nat)
  | _, [] => []
  | cur, w :: r => (cur, cur + w.length) :: spans (cur + w.length + 1) r
theorem join_cons (w v : Str) (r : List Str) : (Str.join " " (w :: v :: r)).cps.toList = w.cps.toList ++ 32 :: (Str.join " " (v :: r)).cps.toList := by
  show ((w ++ (Str.ofString " ")) ++ Str.join " " (v :: r)).cps.toList = _
  rw [Str.cps_append, Str.cps_append, Array.toList_append, Array.toList_append]
  show w.cps.toList ++ [32] ++ _ = _
  rw [List.append_assoc]; rfl
theorem step_in (s : Str) (lim cur b : Nat) (acc : Array (Nat × Nat)) (h : ¬ ((acc.size == lim) = true)) (hs : Unicode.isSpace (s.cps.getD cur 0) = false) : swBody s lim cur (none, acc, some b) = pure (.yield (none, acc, some b)) := by
  unfold swBody; rw [if_neg h]; dsimp only; rw [hs]
theorem step_new (s : Str) (lim cur : Nat) (acc : Array (Nat × Nat)) (h : ¬ ((acc.size == lim) = true)) (hs : Unicode.isSpace (s.cps.getD cur 0) = false) : swBody s lim cur (none, acc, none) = pure (.yield (none, acc, some cur)) := by
  unfold swBody; rw [if_neg h]; dsimp only; rw [hs]
theorem step_out (s : Str) (lim cur b : Nat) (acc : Array (Nat × Nat)) (h : ¬ ((acc.size == lim) = true)) (hs : Unicode.isSpace (s.cps.getD cur 0) = true) : swBody s lim cur (none, acc, some b) = pure (.yield (none, acc.push (b, cur), none)) := by
  unfold swBody; rw [if_neg h]; dsimp only; rw [hs]
theorem run_in (s : Str) (lim b : Nat) (acc : Array (Nat × Nat)) (h : ¬ ((acc.size == lim) = true)) (rest : Nat) : ∀ (u : List Nat) (cur : Nat) (tl : List Nat), s.cps.toList.drop cur = u ++ tl -> (u.all fun c => !Unicode.isSpace c) = true ->
    (forIn (List.range' cur (u.length + rest)) ((none, acc, some b) : SwSt) (swBody s lim)).run = (forIn (List.range' (cur + u.length) rest) ((none, acc, some b) : SwSt) (swBody s lim)).run
  | [], cur, tl, _, _ => by rw [List.length_nil, Nat.zero_add]; rfl
  | c :: u, cur, tl, hd, hu => by
    have h' := Bool.and_eq_true_iff.mp (show ((!Unicode.isSpace c) && (u.all fun c => !Unicode.isSpace c)) = true from hu)
    have hc : s.cps.getD cur 0 = c := by
      have : s.cps.toList[cur]? = some c := by
        have := congrArg (fun l : List Nat => l[0]?) hd
        simpa using this
      rw [Array.getD_eq_getD_getElem?, <- Array.getElem?_toList, this]; rfl
    have hd' : s.cps.toList.drop (cur + 1) = u ++ tl := by
      have := congrArg (List.drop 1) hd
      simpa [List.drop_drop] using this
    have e : (c :: u).length + rest = (u.length + rest) + 1 := by rw [List.length_cons]; lia
    rw [e, List.range'_succ, List.forIn_cons, step_in s lim cur b acc h (by rw [hc]; simpa using h'.1)]
    have := run_in s lim b acc h rest u (cur + 1) tl hd' h'.2
    rw [List.length_cons, show cur + (u.length + 1) = cur + 1 + u.length by lia]
    exact this
theorem run_words (s : Str) (lim : Nat) : ∀ (ws : List Str) (cur : Nat) (acc : Array (Nat × Nat)), (∀ w ∈ ws, isWord w = true) -> acc.size + ws.length <= lim -> s.cps.toList.drop cur = (Str.join " " ws).cps.toList -> ws ≠ [] ->
    swEnd s (forIn (List.range' cur (s.length - cur)) ((none, acc, none) : SwSt) (swBody s lim)).run = acc.toList ++ spans cur ws := by
  intro ws
  induction ws with
  | nil => intro _ _ _ _ _ h; exact absurd rfl h
  | cons w r ih =>
    intro cur acc hw hl hd _
    have h1 := Bool.and_eq_true_iff.mp (hw w (.head _))
    have hacc : ¬ ((acc.size == lim) = true) := by rw [List.length_cons] at hl; rw [beq_iff_eq]; lia
    obtain ⟨c, u, hcu⟩ : ∃ c u, w.cps.toList = c :: u := by
      cases q : w.cps.toList with
      | nil => rw [q] at h1; exact absurd h1.1 (by simp)
      | cons c u => exact ⟨c, u, rfl⟩
    have hall := h1.2
    rw [hcu] at hall
    have h' := Bool.and_eq_true_iff.mp (show ((!Unicode.isSpace c) && (u.all fun c => !Unicode.isSpace c)) = true from hall)
    have hwl : w.length = u.length + 1 := by show w.cps.size = _; rw [<- Array.length_toList, hcu]; rfl
    obtain ⟨tl, htl⟩ : ∃ tl, s.cps.toList.drop cur = c :: u ++ tl /\ (r = [] /\ tl = [] ∨ ∃ v r', r = v :: r' /\ tl = 32 :: (Str.join " " (v :: r')).cps.toList) := by
      cases r with
      | nil => exact ⟨[], by rw [hd, List.append_nil, <- hcu]; rfl, .inl ⟨rfl, rfl⟩⟩
      | cons v r' => exact ⟨_, by rw [hd, join_cons, hcu], .inr ⟨v, r', rfl, rfl⟩⟩
    obtain ⟨ht, htr⟩ := htl
    have hlen : s.length - cur = u.length + 1 + tl.length := by
      have := congrArg List.length ht
      rw [List.length_drop, List.length_append, List.length_cons] at this
      show s.cps.size - cur = _
      rw [<- Array.length_toList]; lia
    have hat : ∀ (k : Nat) (x : Nat), (c :: u ++ tl)[k]? = some x -> s.cps.getD (cur + k) 0 = x := fun k x hx => by
      rw [<- ht, List.getElem?_drop] at hx
      rw [Array.getD_eq_getD_getElem?, <- Array.getElem?_toList, hx]; rfl
    have hd1 : s.cps.toList.drop (cur + 1) = u ++ tl := by
      have := congrArg (List.drop 1) ht
      simpa [List.drop_drop] using this
    rw [hlen, show u.length + 1 + tl.length = (u.length + tl.length) + 1 by lia, List.range'_succ, List.forIn_cons, step_new s lim cur acc hacc (by rw [<- Nat.add_zero cur, hat 0 c rfl]; simpa using h'.1)]
    show swEnd s (forIn (List.range' (cur + 1) (u.length + tl.length)) ((none, acc, some cur) : SwSt) (swBody s lim)).run = _
    rw [run_in s lim cur acc hacc tl.length u (cur + 1) tl hd1 h'.2]
    rcases htr with ⟨rfl, rfl⟩ | ⟨v, r', rfl, rfl⟩
    · show (acc.push (cur, s.length)).toList = _
      rw [Array.toList_push]
      have : s.length = cur + w.length := by rw [hwl]; simp at hlen; lia
      rw [this]; rfl
    · have hsp : s.cps.getD (cur + 1 + u.length) 0 = 32 := by
        rw [Nat.add_assoc, hat (1 + u.length) 32]
        rw [show c :: u ++ 32 :: (Str.join " " (v :: r')).cps.toList = (c :: u) ++ 32 :: (Str.join " " (v :: r')).cps.toList from rfl, List.getElem?_append_right (by simp; lia), List.length_cons, show 1 + u.length - (u.length + 1) = 0 by lia]; rfl
      rw [List.length_cons, List.range'_succ, List.forIn_cons, step_out s lim _ cur acc hacc (by rw [hsp]; kernel_rfl)]
      show swEnd s (forIn (List.range' (cur + 1 + u.length + 1) _) ((none, acc.push (cur, cur + 1 + u.length), none) : SwSt) (swBody s lim)).run = _
      have hd2 : s.cps.toList.drop (cur + 1 + u.length + 1) = (Str.join " " (v :: r')).cps.toList := by
        have := congrArg (List.drop (u.length + 1)) hd1
        rw [List.drop_drop] at this
        rw [show cur + 1 + u.length + 1 = cur + 1 + (u.length + 1) by lia, this, List.drop_append]
        simp
      have hm : (Str.join " " (v :: r')).cps.toList.length = s.length - (cur + 1 + u.length + 1) := by
        have := congrArg List.length hd2
        rw [List.length_drop] at this
        rw [<- this]; show s.cps.toList.length - _ = s.cps.size - _
        rw [Array.length_toList]
      rw [hm, ih (cur + 1 + u.length + 1) (acc.push (cur, cur + 1 + u.length)) (fun x hx => hw x (.tail _ hx)) (by rw [Array.size_push]; rw [List.length_cons] at hl; lia) hd2 (List.cons_ne_nil _ _)]
      rw [Array.toList_push, List.append_assoc]
      show _ = acc.toList ++ ((cur, cur + w.length) :: spans (cur + w.length + 1) (v :: r'))
      rw [hwl, show cur + (u.length + 1) = cur + 1 + u.length by lia]; rfl
theorem sub_at (s : Str) (cur : Nat) (w : Str) (tl : List Nat) (h : s.cps.toList.drop cur = w.cps.toList ++ tl) : strSub s cur (cur + w.length) = w := by
  refine Str.ext' (Array.toList_inj.mp ?_)
  rw [strSub_toList, h, show cur + w.length - cur = w.cps.toList.length by rw [Array.length_toList]; show cur + w.cps.size - cur = _; lia, List.take_left]
theorem sub_words (s : Str) : ∀ (ws : List Str) (cur : Nat), s.cps.toList.drop cur = (Str.join " " ws).cps.toList -> (spans cur ws).map (fun p => strSub s p.1 p.2) = ws
  | [], _, _ => rfl
  | [w], cur, h => by
    show [strSub s cur (cur + w.length)] = [w]
    rw [sub_at s cur w [] (by rw [List.append_nil]; exact h)]
  | w :: v :: r, cur, h => by
    rw [join_cons] at h
    show strSub s cur (cur + w.length) :: (spans (cur + w.length + 1) (v :: r)).map (fun p => strSub s p.1 p.2) = _
    rw [sub_at s cur w _ h, sub_words s (v :: r) (cur + w.length + 1) ?_]
    have := congrArg (List.drop (w.cps.toList.length + 1)) h
    rw [List.drop_drop] at this
    have e : w.cps.toList.length = w.length := Array.length_toList
    rw [show cur + w.length + 1 = cur + (w.cps.toList.length + 1) by lia, this, List.drop_append]
    simp
theorem words_join {ws : List Str} (hw : ∀ w ∈ ws, isWord w = true) (hl : ws.length <= (Str.join " " ws).length + 1) : Txt.words (Txt.join " " ws) = ws := by
  have e : Txt.join " " ws = Str.join " " ws := glued_eq_join _ _
  rw [e]
  generalize hs : Str.join " " ws = s at *
  unfold Txt.words
  cases ws with
  | nil => subst hs; kernel_rfl
  | cons w r =>
    have h1 := run_words s (s.length + 1) (w :: r) 0 #[] hw (by simpa using hl) (by rw [List.drop_zero, hs]) (List.cons_ne_nil _ _)
    rw [Nat.sub_zero, <- sw_eq] at h1
    have h1 : spaceWords s (s.length + 1) = spans 0 (w :: r) := h1
    have h2 := sub_words s (w :: r) 0 (by rw [List.drop_zero, hs])
    rw [h1]
    cases r with
    | nil =>
      have : (spans 0 [w] == [(0, s.length)]) = true := by
        rw [<- hs]; show ([(0, 0 + w.length)] == [(0, w.length)]) = true
        rw [Nat.zero_add]; simp
      rw [if_pos this]
      rw [<- hs]; rfl
    | cons v r' =>
      rw [if_neg (fun q => absurd (congrArg List.length (eq_of_beq q)) (by show ¬ ((spans _ r').length + 1 + 1 = 1); lia))]
      show (spaceWords s (s.length + 1)).map (fun p => strSub s p.1 p.2) = _
      rw [h1]; exact h2
end Mine
namespace Mine
open PySem PySem.W PySem.Calls PyProof.Rows PySem.Spec
noncomputable def CaseC (h : HS) (as : List SV) (r : Prop) : Prop := ∃ (mode : Str) (t : Tk) (ws : List Str) (mk : List Int) (o1 o2 : Oid), as = [.str mode, .ref o1, Tk.sv t, .ref o2] /\ modes3 mode /\ t ∈ toks /\ o1 ≠ zO /\ o1 ≠ o2 /\ mkH h o1 = some (.list (ws.map .str)) /\ mkH h o2 = some (.list (mk.map .int)) /\ (∀ x ∈ ws, x ∈ pool) /\ ws.length <= 9 /\ mk.length <= 100 /\ r
noncomputable def F_case : OrcF := fun as h Q => CaseC h as (Q (.bool true) h)
noncomputable def tkK : Tk -> Str
  | .start _ => "start"
  | .end_ _ => "end"
  | .chr _ => "char"
  | .com _ => "comment"
  | .dct => "doctype"
  | .eof => "eof"
noncomputable def tkN : Tk -> Str
  | .start n => n
  | .end_ n => n
  | .chr c => Str.ofString (toString (c : Int))
  | .com x => x
  | .dct => "html"
  | .eof => "end"
noncomputable def tkW (t : Tk) : Str := (tkK t ++ Str.ofString " ") ++ tkN t
theorem tok_eq (ws mk) (Q : SV -> HS -> Prop) : toks.map (fun t => callF (EV [] 20) 757 [.str (tkW t)] (hs0 ws mk) Q) = toks.map (fun t => match t with
    | .chr c => (0 <= (c : Int) /\ (c : Int) <= 1114111) /\ Q (Tk.sv (.chr c)) ((hs0 ws mk).newM (.list [.str (tkK (.chr c)), .str (tkN (.chr c))]))
    | t => Q t.sv ((hs0 ws mk).newM (.list [.str (tkK t), .str (tkN t)]))) := by kernel_rfl
theorem tok_chr : toks.all (fun t => match t with | .chr c => Nat.ble c 1114111 | _ => true) = true := by kernel_rfl
noncomputable def TokC (h : HS) (as : List SV) (r : Tk -> Prop) : Prop := ∃ (t : Tk) (ws : List Str) (mk : List Int) (o1 o2 : Oid), (∃ x : SV, as = [x] /\ x.av = .str (tkW t)) /\ t ∈ toks /\ o1 ≠ zO /\ o1 ≠ o2 /\ mkH h o1 = some (.list (ws.map .str)) /\ mkH h o2 = some (.list (mk.map .int)) /\ ws.length <= 1000 /\ mk.length <= 1000 /\ r t
noncomputable def F_tok : OrcF := fun as h Q => TokC h as fun t => Q t.sv h
section
variable {w : World} {hB : Heap}
theorem ok_case (b : Base w hB) : OrcOK w hB ⟨805, 163, F_case⟩ := fun n hn as h Q s zz => by
  obtain ⟨mode, t, ws, mk, o1, o2, e1, e2, e3, nz, e4, e5, e6, e7, e8, e9, e10⟩ := zz
  subst e1
  have sp := frame_two (w := w) (hB := hB) (n := 163) (f := .ref 805) (P := fun a => a = .bool true) [.a (.str mode), .w, .a t.sv.av, .m] (by show (true && (true && (noRef t.sv.av && _))) = true; rw [List.all_eq_true.mp tok_noRef t e3]; rfl) nz e4 e5 e6
    ((case_ok b e2 e3 e7 e8 e9).mono fun a H' ⟨a', hs, q1, q2, q3, q4, q5, q6⟩ => by subst q1; subst q2; subst q4; exact ⟨rfl, mkH_some q5, rfl⟩)
  exact (sp.lift hn).mono fun a H' ⟨q1, q2⟩ => ⟨.bool true, h, q1, q2, s, e10⟩
set_option tactic.hygienic true in
theorem ok_tok (b : Base w hB) : OrcOK w hB ⟨757, 60, F_tok⟩ := fun n hn as h Q s zz => by
  obtain ⟨t, ws, mk, o1, o2, ⟨x, e1, e2⟩, e3, nz, e4, e5, e6, e7, e8, e9⟩ := zz
  subst e1
  have hn' := List.all_eq_true.mp tok_noRef t e3
  have sp := frame_two (w := w) (hB := hB) (n := 60) (f := .ref 757) (P := fun a => a = t.sv.av) [.a (.str (tkW t))] rfl nz e4 e5 e6
    (((callF_ok b (fun sc hk => EV_ok b noO 20 sc hk) (small_hs0 e7 e8) (Q := fun a h' => a = t.sv /\ h'.get wO = some (.sl ws) /\ h'.get mO = some (.il mk)) (kmp (List.map_inj_left.mp (tok_eq ws mk _) t e3) (by
      have hc := List.all_eq_true.mp tok_chr t e3
      cases t <;> first | exact ⟨rfl, rfl, rfl⟩ | skip
      rename_i c
      have hc : c <= 1114111 := Nat.le_of_ble_eq_true hc
      exact ⟨by lia, rfl, rfl, rfl⟩))).spec.lift (by decide)).mono fun a H' ⟨a', hs, q1, q2, q3, q4, q5, q6⟩ => by subst q1; subst q2; subst q4; exact ⟨hn', mkH_some q5, rfl⟩)
  show Spec w hB n (.ref 757) [x.av] _ _
  rw [e2]
  exact (sp.lift hn).mono fun a H' ⟨q1, q2⟩ => ⟨t.sv, h, q1, q2, s, e9⟩
end
@[irreducible] noncomputable def drawF : FnE := (fnAt 750 2 fnC).getD ⟨0, stAt 0, "", .none, .none, 0, 0, []⟩
@[irreducible] noncomputable def ds (i : Nat) : Stmt := stOf (bodyOf drawF.st) i
@[irreducible] noncomputable def dsc : Scope := scopeOf drawF.st
theorem drawF_at : fnAt 750 2 fnC = some drawF := by kernel_rfl
theorem fdE_draw : (fdE drawF).scope = dsc := by kernel_rfl
theorem dsc_kind : dsc.kind = .function := by kernel_rfl
noncomputable abbrev dgO : Oid := .t (555 * 256)
noncomputable def ld0 (k : Int) : SVS := [vr "k" (.int k), vr "script" (.ref mO)]
noncomputable def ld1 (k : Int) : SVS := vr "digits" (.ref dgO) :: ld0 k
noncomputable def ld2 (k : Int) : SVS := vr "pool" (.ref (.m 0)) :: ld1 k
noncomputable def ld3 (k : Int) : SVS := vr "words" (.ref (.m 2)) :: ld2 k
noncomputable abbrev hsD (ws : List Str) (mk l : List Int) (tm : List SO) : HS := ⟨none, arL ws mk ++ [(dgO, .il l)], [], [], [], none, tm⟩
theorem drawF_args (k : Int) : ((argNames drawF.st).zip [SV.ref mO, .int k]).reverse = ld0 k := by kernel_rfl
theorem draw_body : bodyOf drawF.st = ds 0 :: ds 1 :: ds 2 :: ds 3 :: ds 4 :: ds 5 :: ds 6 :: ds 7 :: ds 8 :: ds 9 :: [] := by kernel_rfl
theorem draw0 (ws mk) (k : Int) (Q : SOut -> SVS -> HS -> Prop) : stepS (EV [] 70) dsc (ds 0) (ld0 k) (hs0 ws mk) Q = Q .next (ld1 k) (hsD ws mk [] []) := by kernel_rfl
theorem ds1_eq : ds 1 = .For (.Name "place" (stXp (ds 1))) (stT (ds 1)) (stB (ds 1)) [] (ds 1).pos := by kernel_rfl
theorem draw1i (ws mk l) (k : Int) (Q : SV -> SVS -> HS -> Prop) : ((EV [] 71) dsc).e (stT (ds 1)) (ld1 k) (hsD ws mk l []) Q = (IntMulOk 6 k /\ IntMulOk 6 k /\ Q (.rng (6 * k) (6 * k + 6) 1) (ld1 k) (hsD ws mk l [])) := by kernel_rfl
theorem draw1b (ws mk l) (k p : Int) (Q : SOut -> SVS -> HS -> Prop) : ((EV [] 71) dsc).s (stB (ds 1)) (vr "place" (.si p) :: ld1 k) (hsD ws mk l []) Q = br (decide (p < mk.length))
    ((0 <= p /\ p < mk.length) /\ lim (l.length + 1) /\ Q .next (vr "place" (.si p) :: ld1 k) (hsD ws mk (l ++ [mk.getD p.toNat 0]) []))
    (IntMulOk 5 p /\ IntMulOk 3 k /\ lim (l.length + 1) /\ Q .next (vr "place" (.si p) :: ld1 k) (hsD ws mk (l ++ [5 * p + 3 * k + 1]) [])) := by kernel_rfl
noncomputable def poolW : List Str := ["table", "tbody", "tr", "td", "caption", "colgroup", "template", "p", "b", "*tr", "thead", "tfoot", "*caption", "*colgroup", "li", "-"].map Str.ofString
noncomputable def nameW : List Str := ["caption", "col", "colgroup", "tbody", "td", "tfoot", "th", "thead", "tr", "table", "body", "html", "template", "p"].map Str.ofString
theorem draw2 (ws mk l) (k : Int) (Q : SOut -> SVS -> HS -> Prop) : stepS (EV [] 70) dsc (ds 2) (ld1 k) (hsD ws mk l []) Q = Q .next (ld2 k) (hsD ws mk l [.list (poolW.map .str)]) := by kernel_rfl
@[irreducible] noncomputable def d3 : PySem.Expr := stV (ds 3)
@[irreducible] noncomputable def d3s : Scope := lcS d3
@[irreducible] noncomputable def d3i : PySem.Expr := lcI (lcG d3)
@[irreducible] noncomputable def d3e : PySem.Expr := lcE d3
theorem ds3_eq : ds 3 = .Assign [.Name "words" (asP (ds 3))] (.ListComp d3e [⟨.Name "digit" (lcX (lcG d3)).pos, d3i, [], 0⟩] d3s d3.pos) (ds 3).pos := by kernel_rfl
theorem d3_ok : compOK d3s dsc "digit" = true := by kernel_rfl
theorem d3_not : notSet d3i = true := by kernel_rfl
theorem d3_own : ownS dsc "words" = true := by kernel_rfl
theorem sw3d {env : Env} (hs : env.scope = dsc) : swapsWith (.ListComp d3e [⟨.Name "digit" (lcX (lcG d3)).pos, d3i, [], 0⟩] d3s d3.pos) (some (.Name "words" (asP (ds 3)))) (ds 3).pos.line env = pure true := by
  obtain ⟨⟩ := env; cases hs; kernel_rfl
noncomputable def wAt (a : Int) : Str := poolW.getD (Int.fmod a 16).toNat Str.empty
section
variable (ws : List Str) (mk : List Int) (k a b c d e f : Int)
noncomputable abbrev hD1 : HS := hsD ws mk [a, b, c, d, e, f] [.list (poolW.map .str), .il [a, b, c, d]]
theorem draw3i (Q : SV -> SVS -> HS -> Prop) : ((EV [] 71) dsc).e d3i (ld2 k) (hsD ws mk [a, b, c, d, e, f] [.list (poolW.map .str)]) Q = ((0 : Int) <= 4 /\ Q (.ref (.m 1)) (ld2 k) (hD1 ws mk a b c d e f)) := by kernel_rfl
noncomputable def dgQ (x : Int) (part : List SV) (r : Prop) : Prop := (16 : Int) ≠ 0 /\ (0 <= Int.fmod x 16 /\ Int.fmod x 16 < (16 : Nat)) /\ (vr "digit" (.si x) :: innerL d3s (ld2 k) = vr "digit" (.si x) :: innerL d3s (ld2 k) /\ (hD1 ws mk a b c d e f).newM (.list part) = (hD1 ws mk a b c d e f).newM (.list part)) /\ r
end
noncomputable def mapT (c : SV -> Prop -> Prop) (g : SV -> SV) (x : Str) (sc' : Scope) : List SV -> List SV -> SVS -> HS -> (List SV -> Prop) -> Prop
  | [], part, _, _, k => k part
  | e :: es, part, l, h, k => c e (((x, e) :: innerL sc' l = (x, e) :: innerL sc' l /\ h.newM (.list part) = h.newM (.list part)) /\ mapT c g x sc' es (part ++ [g e]) l h k)
theorem mapT_ok {c : SV -> Prop -> Prop} {g : SV -> SV} {x : Str} {sc' : Scope} {l : SVS} {h : HS} {k : List SV -> Prop} : ∀ {es part : List SV}, (∀ e ∈ es, ∀ r, r -> c e r) -> k (part ++ es.map g) -> mapT c g x sc' es part l h k
  | [], part, _, hk => by rw [List.map_nil, List.append_nil] at hk; exact hk
  | e :: es, part, hc, hk => hc e (.head _) _ ⟨⟨rfl, rfl⟩, mapT_ok (fun y hy => hc y (.tail _ hy)) (by rw [List.append_assoc]; exact hk)⟩
noncomputable def pfx (p : Str) : SV -> SV
  | .str n => .str (p ++ n)
  | _ => .none
noncomputable def pfxC (p : Str) : SV -> Prop -> Prop
  | .str n, r => lim (p.length + n.length) /\ r
  | _, _ => False
noncomputable def chW : SV -> SV
  | .int i => .str (Str.ofString "char " ++ Str.ofString (toString i))
  | _ => .none
noncomputable def chC : SV -> Prop -> Prop
  | .int i, r => lim ((Str.ofString "char ").length + (Str.ofString (toString i)).length) /\ r
  | _, _ => False
noncomputable def chrs : List Int := [120, 32, 9, 10, 12, 13, 11, 0, 160]
noncomputable def tkS : List Str := nameW.map (Str.ofString "start " ++ ·)
noncomputable def tkE : List Str := nameW.map (Str.ofString "end " ++ ·)
noncomputable def tkC : List Str := chrs.map fun i => Str.ofString "char " ++ Str.ofString (toString i)
noncomputable def tkL : List Str := ["comment d", "doctype html", "eof end"].map Str.ofString
noncomputable def binL : PySem.Expr -> PySem.Expr
  | .BinOp a _ _ _ => a
  | e => e
noncomputable def binR : PySem.Expr -> PySem.Expr
  | .BinOp _ _ b _ => b
  | e => e
@[irreducible] noncomputable def d5a : Scope := lcS (binL (stV (ds 5)))
@[irreducible] noncomputable def d5b : Scope := lcS (binR (stV (ds 5)))
@[irreducible] noncomputable def d6b : Scope := lcS (binR (stV (ds 6)))
noncomputable def ld4 (k : Int) : SVS := vr "names" (.ref (.m 3)) :: ld3 k
noncomputable def ld5 (k : Int) : SVS := vr "tokens" (.ref (.m 6)) :: ld4 k
noncomputable def ld6 (k : Int) : SVS := vr "tokens" (.ref (.m 8)) :: ld5 k
noncomputable def ld7 (k : Int) : SVS := vr "tokens" (.ref (.m 10)) :: ld6 k
noncomputable def modeI (k : Int) : Str := match Int.fmod k 3 with
  | 0 => "in caption"
  | 1 => "in column group"
  | _ => "in row"
noncomputable def ld8 (k : Int) : SVS := vr "mode" (.str (modeI k)) :: ld7 k
noncomputable abbrev tm3 (a b c d : Int) : List SO := [.list (poolW.map .str), .il [a, b, c, d], .sl [wAt a, wAt b, wAt c, wAt d]]
noncomputable abbrev tm4 (a b c d : Int) : List SO := tm3 a b c d ++ [.list (nameW.map .str)]
noncomputable abbrev tm5 (a b c d : Int) : List SO := tm4 a b c d ++ [.sl tkS, .sl tkE, .sl (tkS ++ tkE)]
noncomputable abbrev tm6 (a b c d : Int) : List SO := tm5 a b c d ++ [.sl tkC, .sl (tkS ++ tkE ++ tkC)]
noncomputable abbrev tm7 (a b c d : Int) : List SO := tm6 a b c d ++ [.sl tkL, .sl (tkS ++ tkE ++ tkC ++ tkL)]
section
variable (ws : List Str) (mk : List Int) (k a b c d e f : Int)
theorem draw3m (kk : List SV -> Prop) : (match elsOf (.ref (.m 1)) (hD1 ws mk a b c d e f) with
      | some es => chk (Nat.ble es.length 1000) (compM ((EV [] 71) (relS d3s dsc)) d3s "digit" d3e es [] (ld2 k) (hD1 ws mk a b c d e f) kk)
      | none => False) = dgQ ws mk k a b c d e f a [] (dgQ ws mk k a b c d e f b [.ss (wAt a)] (dgQ ws mk k a b c d e f c [.ss (wAt a), .ss (wAt b)] (dgQ ws mk k a b c d e f d [.ss (wAt a), .ss (wAt b), .ss (wAt c)] (kk [.ss (wAt a), .ss (wAt b), .ss (wAt c), .ss (wAt d)])))) := by kernel_rfl
theorem draw4 (Q : SOut -> SVS -> HS -> Prop) : stepS (EV [] 70) dsc (ds 4) (ld3 k) (hsD ws mk [a, b, c, d, e, f] (tm3 a b c d)) Q = Q .next (ld4 k) (hsD ws mk [a, b, c, d, e, f] (tm4 a b c d)) := by kernel_rfl
theorem draw5 (Q : SOut -> SVS -> HS -> Prop) : stepS (EV [] 70) dsc (ds 5) (ld4 k) (hsD ws mk [a, b, c, d, e, f] (tm4 a b c d)) Q =
    mapT (pfxC "start ") (pfx "start ") "name" d5a (nameW.map .str) [] (ld4 k) (hsD ws mk [a, b, c, d, e, f] (tm4 a b c d)) fun p1 => mapT (pfxC "end ") (pfx "end ") "name" d5b (nameW.map .str) [] (ld4 k) (hsD ws mk [a, b, c, d, e, f] (tm4 a b c d ++ [typed' p1])) fun p2 =>
      match typed' p1, typed' p2 with
      | .sl l, .sl l' => lim (l.length + l'.length) /\ Q .next (ld5 k) (hsD ws mk [a, b, c, d, e, f] (tm4 a b c d ++ [.sl l, .sl l', .sl (l ++ l')]))
      | _, _ => False := by kernel_rfl
theorem draw6 (Q : SOut -> SVS -> HS -> Prop) : stepS (EV [] 70) dsc (ds 6) (ld5 k) (hsD ws mk [a, b, c, d, e, f] (tm5 a b c d)) Q =
    mapT chC chW "point" d6b (chrs.map .int) [] (ld5 k) (hsD ws mk [a, b, c, d, e, f] (tm5 a b c d)) fun p1 => match typed' p1 with
      | .sl l => lim ((tkS ++ tkE).length + l.length) /\ Q .next (ld6 k) (hsD ws mk [a, b, c, d, e, f] (tm5 a b c d ++ [.sl l, .sl (tkS ++ tkE ++ l)]))
      | _ => False := by kernel_rfl
theorem draw7 (Q : SOut -> SVS -> HS -> Prop) : stepS (EV [] 70) dsc (ds 7) (ld6 k) (hsD ws mk [a, b, c, d, e, f] (tm6 a b c d)) Q = (lim ((tkS ++ tkE ++ tkC).length + tkL.length) /\ Q .next (ld7 k) (hsD ws mk [a, b, c, d, e, f] (tm7 a b c d))) := by kernel_rfl
theorem draw8 (Q : SOut -> SVS -> HS -> Prop) : (List.range 9).map (fun k : Nat => stepS (EV [] 70) dsc (ds 8) (ld7 k) (hsD ws mk [a, b, c, d, e, f] (tm7 a b c d)) Q) = (List.range 9).map (fun k : Nat => (3 : Int) ≠ 0 /\ Q .next (ld8 k) (hsD ws mk [a, b, c, d, e, f] (tm7 a b c d))) := by kernel_rfl
noncomputable def notDash (x : Str) : Bool := x != Str.ofString "-"
theorem draw9 (Q : SOut -> SVS -> HS -> Prop) : stepS (EV [] 70) dsc (ds 9) (ld8 k) (hsD ws mk [a, b, c, d, e, f] (tm7 a b c d)) Q = (let L (i : Str) : SVS := vr "word" (.ss i) :: ld8 k
      let H (l : List Str) : HS := hsD ws mk [a, b, c, d, e, f] (tm7 a b c d ++ [.sl l])
      let es : List Str := [wAt a, wAt b, wAt c, wAt d]
      ∃ P : Str -> Bool, (∀ i, i ∈ es -> ∀ part : List Str, br (i != Str.ofString "-") (true = P i /\ L i = L i /\ H part = H part) (false = P i /\ L i = L i /\ H part = H part)) /\ lim es.length /\
      (((es.filter P).length <= 1000 /\ ∀ y, y ∈ es.filter P -> y.length <= 1000) /\ ((0 : Int) <= 4 /\ (4 : Int) < (6 : Nat)) /\ (40 : Int) ≠ 0 /\ (0 <= Int.fmod e 40 /\ Int.fmod e 40 < (tkS ++ tkE ++ tkC ++ tkL).length) /\ ((0 : Int) <= 5 /\ (5 : Int) < (6 : Nat)) /\
        Q (.ret (.tup [.str (modeI k), .ss (Txt.join " " (es.filter P)), .ss ((tkS ++ tkE ++ tkC ++ tkL).getD (Int.fmod e 40).toNat Str.empty), .si f])) (ld8 k) (H (es.filter P)))) := by kernel_rfl
end
noncomputable def dig (mk : List Int) (k p : Int) : Int := if p < mk.length then mk.getD p.toNat 0 else 5 * p + 3 * k + 1
noncomputable def nsD : List Str := ["digits", "k", "script"].map Str.ofString
theorem normD (k : Int) : norm nsD (ld1 k) = ld1 k := by kernel_rfl
theorem normD1 (k : Int) (a : SV) : norm nsD (vr "place" a :: ld1 k) = ld1 k := by kernel_rfl
theorem six_els : (List.range 9).map (fun k : Nat => rngEls (6 * k) (6 * k + 6) 1) = (List.range 9).map (fun k : Nat => [6 * (k : Int), 6 * k + 1, 6 * k + 2, 6 * k + 3, 6 * k + 4, 6 * k + 5]) := by kernel_rfl
theorem six_small : (List.range 9).all (fun k : Nat => Builtin.Range.small (6 * k) (6 * k + 6) 1) = true := by kernel_rfl
theorem own_place : ownS dsc "place" = true /\ notSet (stT (ds 1)) = true := ⟨by kernel_rfl, by kernel_rfl⟩
theorem tkL_ok : (tkS ++ tkE ++ tkC ++ tkL).all (fun x => toks.any fun t => tkW t == x) = true := by kernel_rfl
theorem tkL_len : (tkS ++ tkE ++ tkC ++ tkL).length = 40 /\ (tkS ++ tkE).length + tkC.length = 37 /\ tkS.length + tkE.length = 28 := ⟨by kernel_rfl, by kernel_rfl, by kernel_rfl⟩
theorem tkL_nm : typed' (nameW.map fun n => .str (Str.ofString "start " ++ n)) = .sl tkS /\ typed' (nameW.map fun n => .str (Str.ofString "end " ++ n)) = .sl tkE /\ typed' (chrs.map fun i => .str (Str.ofString "char " ++ Str.ofString (toString i))) = .sl tkC := ⟨by kernel_rfl, by kernel_rfl, by kernel_rfl⟩
theorem nameW_len : nameW.all (fun n => Nat.ble n.length 100) = true /\ chrs.all (fun i => Nat.ble (Str.ofString (toString i)).length 100) = true := ⟨by kernel_rfl, by kernel_rfl⟩
theorem pool_ok : poolW.all (fun x => Nat.ble x.length 100 && (x == Str.ofString "-" || pool.contains x)) = true := by kernel_rfl
theorem fmod_rng (a : Int) {n : Int} (hn : 0 < n) : 0 <= Int.fmod a n /\ Int.fmod a n < n := by
  rw [Int.fmod_eq_emod_of_nonneg _ (Int.le_of_lt hn)]
  exact ⟨Int.emod_nonneg _ (by lia), Int.emod_lt_of_pos _ hn⟩
theorem wAt_mem (a : Int) : wAt a ∈ poolW := by
  have h := fmod_rng a (n := 16) (by decide)
  have hl : poolW.length = 16 := by kernel_rfl
  unfold wAt
  rw [List.getD_eq_getElem?_getD, List.getElem?_eq_getElem (tn_lt h.1 (hl ▸ h.2))]
  exact List.getElem_mem _
noncomputable def drawnQ (ws : List Str) (mk : List Int) (k : Nat) : SV -> HS -> Prop := fun a h => ∃ us t d, (∀ x ∈ us, x ∈ pool) /\ us.length <= 4 /\ t ∈ toks /\ a = .tup [.str (modeI k), .ss (Txt.join " " us), .ss (tkW t), .si d] /\ h.get wO = some (.sl ws) /\ h.get mO = some (.il mk)
section
variable {w : World} {hB : Heap}
theorem draw_loop (b : Base w hB) {env : Env} {A : Around} (hs : env.scope = dsc) (hA : AOk 142 A) {ws : List Str} {mk : List Int} {k : Nat} (hk : k < 9) (hm : mk.length <= 1000) (sm : Small (hsD ws mk [] [])) :
    RS w hB A env (exec (ds 1) env) (vsf (ld1 k)) (mkH (hsD ws mk [] [])) (OQ fun o l h => o = .next /\ l = ld1 k /\ h = hsD ws mk ((rngEls (6 * k) (6 * k + 6) 1).map (dig mk k)) []) := by
  have R := EV_ok b (noO (w := w) (hB := hB)) 71 dsc dsc_kind
  have hel := List.map_inj_left.mp six_els k (List.mem_range.mpr hk)
  rw [ds1_eq]
  have b6 : IntMulOk 6 k := .of_left (by decide)
  refine S_for R hs hA own_place.1 own_place.2 nsD (fun i l h => l = ld1 k /\ h = hsD ws mk (((rngEls (6 * k) (6 * k + 6) 1).take i).map (dig mk k)) []) sm
    (kmp (draw1i ws mk [] k _) ⟨b6, b6, .rng (6 * k) (6 * k + 6) 1, rfl, fun _ _ _ _ _ => List.all_eq_true.mp six_small k (List.mem_range.mpr hk), ⟨normD k, rfl⟩, ?_, ?_⟩)
  · rintro i e l2 h2 s2 ⟨rfl, rfl⟩ he
    have he : ((rngEls (6 * k) (6 * k + 6) 1).map SV.si)[i]? = some e := he
    rw [List.getElem?_map] at he
    obtain ⟨p, hp, rfl⟩ := Option.map_eq_some_iff.mp he
    have hlen : (((rngEls (6 * k) (6 * k + 6) 1).take i).map (dig mk k)).length <= 6 := by
      rw [List.length_map, List.length_take, hel]; exact Nat.min_le_right _ _
    have hp0 := mem_rng (List.mem_of_getElem? hp)
    have hsn : ((rngEls (6 * k) (6 * k + 6) 1).take (i + 1)).map (dig mk k) = ((rngEls (6 * k) (6 * k + 6) 1).take i).map (dig mk k) ++ [dig mk k p] := by
      rw [List.take_add_one, hp, List.map_append]; rfl
    have hl : lim ((((rngEls (6 * k) (6 * k + 6) 1).take i).map (dig mk k)).length + 1) := by show _ <= _; lia
    refine kmp (draw1b ws mk _ k p _) ⟨fun q => ?_, fun q => ?_⟩
    · have q : p < mk.length := of_decide_eq_true q
      refine ⟨by lia, hl, normD1 k _, ?_⟩
      rw [hsn, show dig mk k p = mk.getD p.toNat 0 from if_pos q]
    · have q : ¬ p < mk.length := of_decide_eq_false q
      refine ⟨.of_left (by decide), .of_left (by decide), hl, normD1 k _, ?_⟩
      rw [hsn, show dig mk k p = 5 * p + 3 * k + 1 from if_neg q]
  · rintro l2 h2 s2 ⟨rfl, rfl⟩
    refine ⟨rfl, rfl, ?_⟩
    rw [List.take_of_length_le (by show _ <= ((rngEls (6 * k) (6 * k + 6) 1).map SV.si).length; rw [List.length_map]; exact Nat.le_refl _)]
theorem draw_rest (b : Base w hB) {env : Env} {A : Around} (hs : env.scope = dsc) (hA : AOk 142 A) {ws : List Str} {mk : List Int} {k : Nat} (hk : k < 9) (a c d f g e : Int) (sm : Small (hsD ws mk [a, c, d, f, e, g] (tm3 a c d f))) :
    RS w hB A env (execs [ds 4, ds 5, ds 6, ds 7, ds 8, ds 9] env) (vsf (ld3 k)) (mkH (hsD ws mk [a, c, d, f, e, g] (tm3 a c d f))) (OQ (retS (AvQ (drawnQ ws mk k)))) := by
  have hkd := dsc_kind
  obtain ⟨n1, n2⟩ := nameW_len
  obtain ⟨l1, l2, l3⟩ := tkL_len
  obtain ⟨t1, t2, t3⟩ := tkL_nm
  refine S_at (k := 70) b noO hkd hs hA sm (ld4 k) (hsD ws mk [a, c, d, f, e, g] (tm4 a c d f)) (kmp (draw4 ws mk k a c d f e g _) ⟨rfl, rfl, rfl⟩) fun s1 => ?_
  have pc : ∀ p : Str, p.length <= 100 -> ∀ x ∈ nameW.map SV.str, ∀ r, r -> pfxC p x r := fun p hp x hx r hr => by
    obtain ⟨y, hy, rfl⟩ := List.mem_map.mp hx
    have : y.length <= 100 := Nat.le_of_ble_eq_true (List.all_eq_true.mp n1 y hy)
    exact ⟨by show _ <= _; lia, hr⟩
  have pm : ∀ p : Str, (nameW.map SV.str).map (pfx p) = nameW.map fun n => .str (p ++ n) := fun p => by rw [List.map_map]; rfl
  refine S_at (k := 70) b noO hkd hs hA s1 (ld5 k) (hsD ws mk [a, c, d, f, e, g] (tm5 a c d f)) (kmp (draw5 ws mk k a c d f e g _) (mapT_ok (pc _ (by decide)) ?_)) ?_
  · rw [List.nil_append, pm]
    refine mapT_ok (pc _ (by decide)) ?_
    rw [List.nil_append, pm, t1, t2]
    exact ⟨by show _ <= _; lia, rfl, rfl, rfl⟩
  intro s1
  refine S_at (k := 70) b noO hkd hs hA s1 (ld6 k) (hsD ws mk [a, c, d, f, e, g] (tm6 a c d f)) (kmp (draw6 ws mk k a c d f e g _) (mapT_ok (fun x hx r hr => ?_) ?_)) ?_
  · obtain ⟨y, hy, rfl⟩ := List.mem_map.mp hx
    have : (Str.ofString (toString y)).length <= 100 := Nat.le_of_ble_eq_true (List.all_eq_true.mp n2 y hy)
    have h5 : (Str.ofString "char ").length = 5 := by decide
    exact ⟨by show _ <= _; lia, hr⟩
  · rw [List.nil_append, show (chrs.map SV.int).map chW = chrs.map fun i => .str (Str.ofString "char " ++ Str.ofString (toString i)) from by rw [List.map_map]; rfl, t3]
    exact ⟨by show _ <= _; lia, rfl, rfl, rfl⟩
  intro s1
  refine S_at (k := 70) b noO hkd hs hA s1 (ld7 k) (hsD ws mk [a, c, d, f, e, g] (tm7 a c d f)) (kmp (draw7 ws mk k a c d f e g _) ⟨by show _ <= _; rw [List.length_append]; show _ + 3 <= _; lia, rfl, rfl, rfl⟩) fun s1 => ?_
  refine S_at (k := 70) b noO hkd hs hA s1 (ld8 k) (hsD ws mk [a, c, d, f, e, g] (tm7 a c d f)) (kmp (List.map_inj_left.mp (draw8 ws mk a c d f e g _) k (List.mem_range.mpr hk)) ⟨by decide, rfl, rfl, rfl⟩) fun s1 => ?_
  refine s_cons (stepS_ok ⟨b, noO, EV_ok b noO 70, hkd, hs, hA⟩ s1 (kmp (draw9 ws mk k a c d f e g fun o l h => retS (AvQ (drawnQ ws mk k)) o l h) ?_) |>.mono (OQ.go fun o l h s1 q => ?_))
  rotate_left
  · cases o with
    | ret x => exact ⟨.ret x, l, h, rfl, rfl, rfl, s1, q⟩
    | next => exact s_nil ⟨.next, l, h, rfl, rfl, rfl, s1, q⟩
    | brk => exact q.elim
    | cont => exact q.elim
  let es : List Str := [wAt a, wAt c, wAt d, wAt f]
  have hes : ∀ x ∈ es, x ∈ poolW := fun x hx => by
    simp only [es, List.mem_cons, List.not_mem_nil, or_false] at hx
    rcases hx with rfl | rfl | rfl | rfl <;> exact wAt_mem _
  have hfl : (es.filter notDash).length <= 4 := List.length_filter_le _ _
  have hr := fmod_rng e (n := 40) (by decide)
  have hp : ∀ x ∈ es.filter notDash, x ∈ pool /\ x.length <= 100 := fun x hx => by
    obtain ⟨x1, x2⟩ := List.mem_filter.mp hx
    have h1 := Bool.and_eq_true_iff.mp (List.all_eq_true.mp pool_ok x (hes x x1))
    refine ⟨?_, Nat.le_of_ble_eq_true h1.1⟩
    rcases Bool.or_eq_true_iff.mp h1.2 with q | q
    · have : (!(x == Str.ofString "-")) = true := x2
      rw [q] at this; cases this
    · exact List.contains_iff_mem.mp q
  have hlt : (Int.fmod e 40).toNat < (tkS ++ tkE ++ tkC ++ tkL).length := tn_lt hr.1 (tkL_len.1 ▸ hr.2)
  obtain ⟨t, ht, htw⟩ := List.any_eq_true.mp (List.all_eq_true.mp tkL_ok _ (List.getElem_mem hlt))
  have htw : tkW t = _ := eq_of_beq htw
  refine ⟨notDash, fun i hi part => ⟨fun q => ⟨q.symm, rfl, rfl⟩, fun q => ⟨q.symm, rfl, rfl⟩⟩, by show 4 <= _; lia, ⟨Nat.le_trans hfl (by decide), fun y hy => Nat.le_trans (hp y hy).2 (by decide)⟩, by decide, by decide, ⟨hr.1, by rw [l1]; exact hr.2⟩, by decide, ?_⟩
  refine ⟨_, rfl, es.filter notDash, t, g, fun x hx => (hp x hx).1, hfl, ht, ?_, rfl, rfl⟩
  rw [htw, List.getD_eq_getElem?_getD, List.getElem?_eq_getElem hlt]; rfl
end
section
variable {w : World} {hB : Heap}
theorem draw_comp (b : Base w hB) {env : Env} {A : Around} (hs : env.scope = dsc) (hA : AOk 144 A) {ws : List Str} {mk : List Int} {k : Int} (a c d f e g : Int) (sm : Small (hsD ws mk [a, c, d, f, e, g] [.list (poolW.map .str)])) :
    RS w hB A env (exec (ds 3) env) (vsf (ld2 k)) (mkH (hsD ws mk [a, c, d, f, e, g] [.list (poolW.map .str)])) (OQ fun o l h => o = .next /\ l = ld3 k /\ h = hsD ws mk [a, c, d, f, e, g] (tm3 a c d f)) := by
  intro ρ s K O kk
  obtain ⟨cl, F⟩ := comp_facts O hs dsc_kind d3_ok
  have R := EV_ok b (noO (w := w) (hB := hB)) 71 dsc dsc_kind
  rw [ds3_eq]
  refine s_name_comp (n := 144) hA (sw3d hs) (ownS_ok hs d3_own) F.clos F.kind F.cell F.names F.hx F.ok (notSet_ok d3_not) ?_ ρ s K O kk
  refine (R.e hs (hA.mono (by decide)) sm (Q := fun x l h => x = .ref (.m 1) /\ l = ld2 k /\ h = hD1 ws mk a c d f e g) (kmp (draw3i ws mk k a c d f e g _) ⟨by decide, rfl, rfl, rfl⟩)).mono (SQ.at fun s1 => ?_)
  have dg : ∀ (x : Int) part r, r -> dgQ ws mk k a c d f e g x part r := fun x part r hr => ⟨by decide, fmod_rng x (by decide), ⟨rfl, rfl⟩, hr⟩
  obtain ⟨o, q⟩ := compM_Q (m := 144) (n := 142) (rr := fun sc => EV [] 71 sc) (x := "digit") (sc' := d3s) (elt := d3e) (a := .ref (.m 1)) (k := fun part => part = [.ss (wAt a), .ss (wAt c), .ss (wAt d), .ss (wAt f)])
    (Q := fun H2 => OQ (fun o l h => o = .next /\ l = ld3 k /\ h = hsD ws mk [a, c, d, f, e, g] (tm3 a c d f)) .next (updV (vsf (ld2 k)) "words" (.ref (.m 2))) H2) hs (hA.mono (by decide)) s1 (fun sc hk => EV_ok b noO 71 sc hk) F
    (kmp (draw3m ws mk k a c d f e g _) (dg _ _ _ (dg _ _ _ (dg _ _ _ (dg _ _ _ rfl))))) fun part s2 hp => by
      subst hp
      exact ⟨.next, _, _, rfl, updV_vsf (ld2 k) "words" (.ref (.m 2)), rfl, s2, rfl, rfl, rfl⟩
  exact ⟨o, q.mono fun H2 ⟨e1, qq⟩ => by subst e1; exact qq⟩
theorem drawn_ok (b : Base w hB) {ws : List Str} {mk : List Int} (hw : ws.length <= 1000) (hm : mk.length <= 1000) {k : Nat} (hk : k < 9) : Spec w hB 163 (.ref 750) [.ref mO, .int k] (mkH (hs0 ws mk)) (HQ (drawnQ ws mk k)) := by
  obtain ⟨h1, h2, h3⟩ := fnAt_mem drawF_at
  have sm := small_hs0 (ws := ws) (mk := mk) hw hm
  have hkd := dsc_kind
  have := enterK (w := w) (hB := hB) (n := 162) (h := hs0 ws mk) (Q := AvQ (drawnQ ws mk k)) b h1 (as := [.ref mO, .int k]) h3.symm fun L A' hA' => by
    rw [drawF_args]
    have hs : (callEnvC (fdE drawF) L drawF.fa).scope = dsc := fdE_draw
    have hA : AOk 142 A' := hA'.mono (by decide)
    rw [draw_body]
    refine S_at (k := 70) b noO hkd hs hA sm (ld1 k) (hsD ws mk [] []) (kmp (draw0 ws mk k _) ⟨rfl, rfl, rfl⟩) fun s1 => ?_
    refine s_cons (Run.mono (draw_loop b hs hA hk hm s1) (OQ.at fun s1 => ?_))
    rw [List.map_inj_left.mp six_els k (List.mem_range.mpr hk)] at s1 ⊢
    simp only [List.map_cons, List.map_nil] at s1 ⊢
    generalize dig mk k (6 * (k : Int)) = a at *
    generalize dig mk k (6 * (k : Int) + 1) = c at *
    generalize dig mk k (6 * (k : Int) + 2) = d at *
    generalize dig mk k (6 * (k : Int) + 3) = f at *
    generalize dig mk k (6 * (k : Int) + 4) = e at *
    generalize dig mk k (6 * (k : Int) + 5) = g at *
    refine S_at (k := 70) b noO hkd hs hA s1 (ld2 k) (hsD ws mk [a, c, d, f, e, g] [.list (poolW.map .str)]) (kmp (draw2 ws mk _ k _) ⟨rfl, rfl, rfl⟩) fun s1 => ?_
    refine s_cons (Run.mono (draw_comp b hs (hA'.mono (by decide)) a c d f e g s1) (OQ.at fun s1 => ?_))
    exact draw_rest b hs hA hk a c d f g e s1
  rw [h2] at this
  exact this.spec.mono fun _ _ => HQ_av
noncomputable def DrC (h : HS) (o2 : Oid) (k : Int) (r : List Str -> Tk -> Int -> Prop) : Prop := ∃ (ws : List Str) (mk : List Int) (o1 : Oid) (kk : Nat), k = kk /\ kk < 9 /\ o1 ≠ zO /\ o1 ≠ o2 /\ mkH h o1 = some (.list (ws.map .str)) /\ mkH h o2 = some (.list (mk.map .int)) /\ ws.length <= 1000 /\ mk.length <= 1000 /\ ∀ us t d, (∀ x ∈ us, x ∈ pool) -> us.length <= 4 -> t ∈ toks -> r us t d
noncomputable def F_drawn : OrcF := fun as h Q => a2 as fun x y => gR x fun o2 => gN y fun k => DrC h o2 k fun us t d => Q (.tup [.str (modeI k), .ss (Txt.join " " us), .ss (tkW t), .si d]) h
theorem ok_drawn (b : Base w hB) : OrcOK w hB ⟨750, 163, F_drawn⟩ := fun n hn as h Q s e => by
  replace e := a2_inv e
  obtain ⟨x, y, rfl, e⟩ := e
  replace e := gR_inv e
  obtain ⟨o2, rfl, e⟩ := e
  replace e := gN_inv e
  obtain ⟨k, rfl, e⟩ := e
  · obtain ⟨ws, mk, o1, kk, rfl, e2, nz, e3, e4, e5, e6, e7, e8⟩ := e
    have sp := frame_two (w := w) (hB := hB) (n := 163) (f := .ref 750) (P := fun a => ∃ us t d, (∀ x ∈ us, x ∈ pool) /\ us.length <= 4 /\ t ∈ toks /\ a = (SV.tup [.str (modeI kk), .ss (Txt.join " " us), .ss (tkW t), .si d]).av) [.m, .a (.int kk)] rfl nz e3 e4 e5
      ((drawn_ok b e6 e7 e2).mono fun a H' ⟨a', hs, q1, q2, q3, us, t, d, p1, p2, p3, p4, p5, p6⟩ => by subst q1; subst q2; subst p4; exact ⟨rfl, mkH_some p5, us, t, d, p1, p2, p3, rfl⟩)
    exact (sp.lift hn).mono fun a H' ⟨⟨us, t, d, p1, p2, p3, p4⟩, q2⟩ => ⟨_, h, p4, q2, s, e8 us t d p1 p2 p3⟩
end
@[irreducible] noncomputable def lawE : FnE := ⟨812, stAt 73, "law", .none, S "law_nt0619_01" 1113, 811, 1, []⟩
@[irreducible] noncomputable def lws (i : Nat) : Stmt := stOf (bodyOf lawE.st) i
@[irreducible] noncomputable def wsc : Scope := scopeOf lawE.st
theorem wsc_kind : wsc.kind = .function := by kernel_rfl
theorem law_body : bodyOf lawE.st = lws 0 :: lws 1 :: lws 2 :: lws 3 :: lws 4 :: [] := by kernel_rfl
noncomputable def cstS : PySem.Expr -> SV
  | .Constant (.str s) _ _ => .str s
  | _ => .none
noncomputable def row3S : PySem.Expr -> SV
  | .Tuple es _ _ => .tup (es.map cstS)
  | _ => .none
noncomputable def rowsS : Stmt -> List SV
  | .Return (some (.Tuple es _ _)) _ => es.map row3S
  | _ => []
@[irreducible] noncomputable def toldSV : List SV := rowsS (stOf (bodyOf (fe 745 0).st) 0)
noncomputable def tdAt (k : Nat) : SV := toldSV.getD k .none
noncomputable def tdS (i : Nat) : SV -> Str
  | .tup xs => match xs[i]? with
    | some (.str s) => s
    | _ => Str.empty
  | _ => Str.empty
noncomputable def tdW (k : Nat) : List Str := Txt.words (tdS 1 (tdAt k))
noncomputable def lw0 : SVS := [vr "script" (.ref zO)]
noncomputable def lists4 : List SV := [.ref (.m 0), .ref (.m 1), .ref (.m 2), .ref (.m 3)]
noncomputable def lw1 : SVS := vr "lists" (.tup lists4) :: lw0
noncomputable def lw2 : SVS := vr "told" (.tup toldSV) :: lw1
noncomputable def L4 : List SO := [.il [1, -1, 1], .il [], .il [1, 1], .il [-1, 1, -1, 1]]
noncomputable def tmT (k : Nat) : List SO := L4 ++ (List.range k).map fun i => .list ((tdW i).map .str)
noncomputable def tmD (f : Nat -> List Str) (k : Nat) : List SO := tmT 25 ++ (List.range k).map fun i => .sl (f i)
noncomputable abbrev hsW (mk : List Int) (tm : List SO) : HS := ⟨none, [(zO, .il mk)], [], [], [], none, tm⟩
noncomputable def orcs4 : List Orc := [⟨805, 163, F_case⟩, ⟨757, 60, F_tok⟩, ⟨750, 163, F_drawn⟩]
theorem orcs4_ok {w : World} {hB : Heap} (b : Base w hB) : ∀ o ∈ orcs4, OrcOK w hB o := by
  unfold orcs4
  simp only [List.mem_cons, List.not_mem_nil, or_false]
  rintro o (rfl | rfl | rfl)
  · exact ok_case b
  · exact ok_tok b
  · exact ok_drawn b
section
variable (mk : List Int)
set_option tactic.hygienic true in
theorem law0 (Q : SOut -> SVS -> HS -> Prop) : stepS (EV [] 95) wsc (lws 0) lw0 (hsW mk []) Q = Q .next lw1 (hsW mk (tmT 0)) := by kernel_rfl
set_option tactic.hygienic true in
theorem law1 (Q : SOut -> SVS -> HS -> Prop) : stepS (EV [] 95) wsc (lws 1) lw1 (hsW mk (tmT 0)) Q = Q .next lw2 (hsW mk (tmT 0)) := by kernel_rfl
theorem lws2_eq : lws 2 = .For (.Name "k" (stXp (lws 2))) (stT (lws 2)) (stB (lws 2)) [] (lws 2).pos := by kernel_rfl
theorem lws3_eq : lws 3 = .For (.Name "k" (stXp (lws 3))) (stT (lws 3)) (stB (lws 3)) [] (lws 3).pos := by kernel_rfl
theorem law2i (h : HS) (Q : SV -> SVS -> HS -> Prop) : ((EV orcs4 96) wsc).e (stT (lws 2)) lw2 h Q = Q (.rng 0 25 1) lw2 h := by kernel_rfl
theorem law3i (h : HS) (Q : SV -> SVS -> HS -> Prop) : ((EV orcs4 96) wsc).e (stT (lws 3)) lw2 h Q = Q (.rng 0 9 1) lw2 h := by kernel_rfl
theorem law4 (h : HS) (Q : SOut -> SVS -> HS -> Prop) : stepS (EV [] 95) wsc (lws 4) lw2 h Q = Q (.ret (.bool true)) lw2 h := by kernel_rfl
noncomputable def lwT (k : Nat) : SVS := vr "word" (.str (tdS 2 (tdAt k))) :: vr "words" (.str (tdS 1 (tdAt k))) :: vr "mode" (.str (tdS 0 (tdAt k))) :: vr "k" (.int k) :: lw2
noncomputable def caseAll (h : HS) (mode : Str) (o : Oid) (t : Tk) (i : Int) (R : Prop) : Prop := (4 : Int) ≠ 0 /\ (0 <= Int.fmod i 4 /\ Int.fmod i 4 < (4 : Nat)) /\ allL (fun v => CaseC h [.str mode, .ref o, t.sv, v] R) lists4
noncomputable def tldQ (k : Nat) (R : HS -> Prop) : Prop := TokC (hsW mk (tmT (k + 1))) [.str (tdS 2 (tdAt k))] fun t => ∀ M : Int, caseAll (hsW mk (tmT (k + 1))) (tdS 0 (tdAt k)) (.m (4 + k)) t (k + M) (R (hsW mk (tmT (k + 1))))
theorem law2b (Q : SOut -> SVS -> HS -> Prop) : (List.range 25).map (fun k : Nat => ((EV orcs4 96) wsc).s (stB (lws 2)) (vr "k" (.int k) :: lw2) (hsW mk (tmT k)) Q) = (List.range 25).map (fun k : Nat => tldQ mk k fun h => Q .next (lwT k) h) := by kernel_rfl
noncomputable def lwD (k : Nat) (us : List Str) (t : Tk) (d : Int) : SVS := vr "digit" (.si d) :: vr "word" (.ss (tkW t)) :: vr "words" (.ss (Txt.join " " us)) :: vr "mode" (.str (modeI k)) :: vr "k" (.int k) :: lw2
noncomputable def drwQ (f : Nat -> List Str) (k : Nat) (R : List Str -> Tk -> Int -> HS -> Prop) : Prop := DrC (hsW mk (tmD f k)) zO k fun us t d =>
  let x := Txt.join " " us
  let h1 : HS := hsW mk (tmD f k ++ [.sl (Txt.words x)])
  x.length <= 1000 /\ (Builtin.Str.spaceWords x (x.length + 1)).length <= 1000 /\ TokC h1 [.ss (tkW t)] fun t' => caseAll h1 (modeI k) (.m (29 + k)) t' d (R us t d h1)
theorem law3b (f : Nat -> List Str) (Q : SOut -> SVS -> HS -> Prop) : (List.range 9).map (fun k : Nat => ((EV orcs4 96) wsc).s (stB (lws 3)) (vr "k" (.int k) :: lw2) (hsW mk (tmD f k)) Q) = (List.range 9).map (fun k : Nat => drwQ mk f k fun us t d h => Q .next (lwD k us t d) h) := by kernel_rfl
end
noncomputable def nsW : List Str := ["told", "lists", "script"].map Str.ofString
theorem normW : norm nsW lw2 = lw2 := by kernel_rfl
theorem normWT (k : Nat) : norm nsW (lwT k) = lw2 := by kernel_rfl
theorem normWD (k : Nat) (us t d) : norm nsW (lwD k us t d) = lw2 := by kernel_rfl
theorem els25 : (SSrc.rngK 0 25 1).els = (List.range 25).map fun k : Nat => SV.int k := by kernel_rfl
theorem els9 : (SSrc.rngK 0 9 1).els = (List.range 9).map fun k : Nat => SV.int k := by kernel_rfl
theorem small25 : Builtin.Range.small 0 25 1 = true /\ Builtin.Range.small 0 9 1 = true := ⟨by kernel_rfl, by kernel_rfl⟩
theorem wsc_k : ownS wsc "k" = true /\ notSet (stT (lws 2)) = true /\ notSet (stT (lws 3)) = true := ⟨by kernel_rfl, by kernel_rfl, by kernel_rfl⟩
noncomputable def mode3 (m : Str) : Bool := m == Str.ofString "in caption" || m == Str.ofString "in column group" || m == Str.ofString "in row"
theorem mode3_ok {m : Str} (h : mode3 m = true) : modes3 m := by
  unfold mode3 at h
  simp only [Bool.or_eq_true, beq_iff_eq] at h
  rcases h with (h | h) | h
  · exact .inl h
  · exact .inr (.inl h)
  · exact .inr (.inr h)
theorem tld_ok : (List.range 25).all (fun k => mode3 (tdS 0 (tdAt k)) && (toks.any fun t => tkW t == tdS 2 (tdAt k)) && (tdW k).all (fun x => pool.contains x) && Nat.ble (tdW k).length 9) = true := by kernel_rfl
theorem modeI_ok : (List.range 9).all (fun k : Nat => mode3 (modeI k)) = true := by kernel_rfl
theorem pool_word : pool.all (fun x => isWord x && Nat.ble x.length 100) = true := by kernel_rfl
theorem map_at {l : List SO} {f : Nat -> SO} {k i : Nat} (h : i < k) {r : List SO} : (l ++ (List.range k).map f ++ r)[l.length + i]? = some (f i) := by
  rw [List.append_assoc, List.getElem?_append_right (Nat.le_add_right _ _), Nat.add_sub_cancel_left, List.getElem?_append_left (by rw [List.length_map, List.length_range]; exact h), List.getElem?_map, List.getElem?_range h]; rfl
theorem tmT_at {k i : Nat} (h : i < k) {r : List SO} : (tmT k ++ r)[4 + i]? = some (.list ((tdW i).map .str)) := map_at (l := L4) h
theorem tmT_len (k : Nat) : (tmT k).length = 4 + k := by unfold tmT; rw [List.length_append, List.length_map, List.length_range]; rfl
theorem strs_sv (l : List Str) : (SO.list (l.map .str)).ao = .list (l.map .str) := by
  show AO.list (avs (l.map SV.str)) = _
  rw [avs_map, List.map_map]; rfl
theorem word_join {us : List Str} (hu : ∀ x ∈ us, x ∈ pool) (hl : us.length <= 4) : Txt.words (Txt.join " " us) = us /\ (Txt.join " " us).length <= 1000 /\ (Builtin.Str.spaceWords (Txt.join " " us) ((Txt.join " " us).length + 1)).length <= 1000 := by
  have e : Txt.join " " us = Str.join " " us := PySem.StrLaws.glued_eq_join _ _
  have hw : ∀ x ∈ us, isWord x = true /\ x.length <= 100 := fun x hx => by
    have := Bool.and_eq_true_iff.mp (List.all_eq_true.mp pool_word x (hu x hx))
    exact ⟨this.1, Nat.le_of_ble_eq_true this.2⟩
  have h1 := PySem.StrLaws.join_length_le " " us
  have h2 := PySem.StrLaws.sumLen_le us fun x hx => (hw x hx).2
  have h3 : (Str.ofString " ").length = 1 := by decide
  rw [h3] at h1
  have h4 := PySem.StrLaws.len_le_wsum (Builtin.Str.spaceWords (Txt.join " " us) ((Txt.join " " us).length + 1))
  have h5 := (PySem.StrLaws.sw_weight (Txt.join " " us)).1
  refine ⟨words_join (fun x hx => (hw x hx).1) ?_, by rw [e]; lia, ?_⟩
  · have : ∀ l : List Str, (∀ x ∈ l, isWord x = true) -> l.length <= (Str.join " " l).length + 1 := fun l => by
      induction l with
      | nil => intro _; exact Nat.zero_le _
      | cons x r ih =>
        intro h
        cases r with
        | nil => show 1 <= _; lia
        | cons y r =>
          have h6 := ih fun z hz => h z (.tail _ hz)
          have h7 := congrArg List.length (join_cons x y r)
          rw [List.length_append, List.length_cons, Array.length_toList, Array.length_toList, Array.length_toList] at h7
          rw [List.length_cons]
          show _ <= (Str.join " " (x :: y :: r)).cps.size + 1
          have h6 : _ <= (Str.join " " (y :: r)).cps.size + 1 := h6
          lia
    exact this us fun x hx => (hw x hx).1
  · rw [e] at h4 h5 ⊢; lia
section
variable {h : HS}
theorem caseAll_ok {mode : Str} {j : Nat} {t : Tk} {i : Int} {R : Prop} {ws : List Str} (hm : modes3 mode) (ht : t ∈ toks) (hj : 4 <= j) (hg : mkH h (.m j) = some (.list (ws.map .str))) (hl : ∃ r, h.tm = L4 ++ r) (hw : ∀ x ∈ ws, x ∈ pool) (hwl : ws.length <= 9) (hR : R) : caseAll h mode (.m j) t i R := by
  have hr := fmod_rng i (n := 4) (by decide)
  obtain ⟨r, hr4⟩ := hl
  have go : ∀ (k : Nat) (mk : List Int), k < 4 -> mk.length <= 100 -> (L4 ++ r)[k]? = some (.il mk) -> CaseC h [.str mode, .ref (.m j), t.sv, .ref (.m k)] R := fun k mk hk hmk e =>
    ⟨mode, t, ws, mk, .m j, .m k, rfl, hm, ht, (by nofun), (fun q => by cases q; lia), hg, by show (h.tm[k]?).map SO.ao = _; rw [hr4, e]; rfl, hw, hwl, hmk, hR⟩
  exact ⟨by decide, ⟨hr.1, hr.2⟩, go 0 [1, -1, 1] (by decide) (by decide) rfl, go 1 [] (by decide) (by decide) rfl, go 2 [1, 1] (by decide) (by decide) rfl, go 3 [-1, 1, -1, 1] (by decide) (by decide) rfl, trivial⟩
end
section
variable {mk : List Int}
theorem toldP_ok {k : Nat} (hk : k < 25) (hm : mk.length <= 1000) {R : HS -> Prop} (hR : R (hsW mk (tmT (k + 1)))) : tldQ mk k R := by
  have h := List.all_eq_true.mp tld_ok k (List.mem_range.mpr hk)
  simp only [Bool.and_eq_true] at h
  obtain ⟨⟨⟨h1, h2⟩, h3⟩, h4⟩ := h
  obtain ⟨t, ht, e⟩ := List.any_eq_true.mp h2
  have e := eq_of_beq e
  have at' : ∀ i, i < k + 1 -> mkH (hsW mk (tmT (k + 1))) (.m (4 + i)) = some (.list ((tdW i).map .str)) := fun i hi => by
    have := tmT_at hi (r := [])
    rw [List.append_nil] at this
    show ((tmT (k + 1))[4 + i]?).map SO.ao = _
    rw [this]; exact congrArg some (strs_sv _)
  have h0 := List.all_eq_true.mp tld_ok 0 (List.mem_range.mpr (by decide))
  simp only [Bool.and_eq_true] at h0
  have h04 : (tdW 0).length <= 9 := Nat.le_of_ble_eq_true h0.2
  exact ⟨t, tdW 0, mk, .m (4 + 0), zO, ⟨_, rfl, by rw [e]; rfl⟩, ht, (by nofun), (by nofun), at' 0 (by lia), rfl, by lia, hm, fun M => caseAll_ok (mode3_ok h1) ht (by lia) (at' k (by lia)) ⟨_, rfl⟩ (fun x hx => List.contains_iff_mem.mp (List.all_eq_true.mp h3 x hx)) (Nat.le_of_ble_eq_true h4) hR⟩
theorem drawnP_ok {f : Nat -> List Str} {k : Nat} (hk : k < 9) (hm : mk.length <= 1000) {R : List Str -> Tk -> Int -> HS -> Prop} (hR : ∀ us t d, R us t d (hsW mk (tmD f k ++ [.sl us]))) : drwQ mk f k R := by
  have h0 := List.all_eq_true.mp tld_ok 0 (List.mem_range.mpr (by decide))
  simp only [Bool.and_eq_true] at h0
  have h04 : (tdW 0).length <= 9 := Nat.le_of_ble_eq_true h0.2
  have a0 : ∀ r, mkH (hsW mk (tmT 25 ++ r)) (.m (4 + 0)) = some (.list ((tdW 0).map .str)) := fun r => by
    have := tmT_at (k := 25) (i := 0) (by decide) (r := r)
    show ((tmT 25 ++ r)[4 + 0]?).map SO.ao = _
    rw [this]; exact congrArg some (strs_sv _)
  refine ⟨tdW 0, mk, .m (4 + 0), k, rfl, hk, (by nofun), (by nofun), a0 _, rfl, by lia, hm, fun us t d hu hl ht => ?_⟩
  obtain ⟨w1, w2, w3⟩ := word_join hu hl
  refine ⟨w2, w3, ?_⟩
  rw [w1]
  have e : tmD f k ++ [SO.sl us] = tmT 25 ++ ((List.range k).map (fun i => SO.sl (f i)) ++ [.sl us]) := List.append_assoc _ _ _
  have hlast : mkH (hsW mk (tmD f k ++ [.sl us])) (.m (29 + k)) = some (.list (us.map .str)) := by
    show ((tmD f k ++ [SO.sl us])[29 + k]?).map SO.ao = _
    have hlen : (tmD f k).length = 29 + k := by unfold tmD; rw [List.length_append, tmT_len, List.length_map, List.length_range]
    rw [<- hlen, List.getElem?_append_right (Nat.le_refl _), Nat.sub_self]; rfl
  refine ⟨t, tdW 0, mk, .m (4 + 0), zO, ⟨_, rfl, rfl⟩, ht, (by nofun), (by nofun), by rw [e]; exact a0 _, rfl, by lia, hm, ?_⟩
  exact caseAll_ok (mode3_ok (List.all_eq_true.mp modeI_ok k (List.mem_range.mpr hk))) ht (by lia) hlast (by rw [e]; exact ⟨_, List.append_assoc _ _ _⟩) hu (by lia) (hR us t d)
end
theorem rng_els {n : Nat} {k : Nat} {e : SV} (he : ((List.range n).map fun k : Nat => SV.int k)[k]? = some e) : k < n /\ e = .int k := range_get he
theorem law_run {w : World} {hB : Heap} (b : Base w hB) {env : Env} {A : Around} (hs : env.scope = wsc) (hA : AOk 192 A) {mk : List Int} (hm : mk.length <= 1000) (sm : Small (hsW mk [])) :
    RS w hB A env (execs (bodyOf lawE.st) env) (vsf lw0) (mkH (hsW mk [])) (OQ (retS fun a h => a = .bool true)) := by
  have hkd := wsc_kind
  have R := EV_ok b (orcs4_ok b) 96 wsc hkd
  rw [law_body]
  refine S_at (k := 95) b noO hkd hs hA sm (lw1) (hsW mk (tmT 0)) (kmp (law0 mk _) ⟨rfl, rfl, rfl⟩) fun s1 => ?_
  refine S_at (k := 95) b noO hkd hs hA s1 (lw2) (hsW mk (tmT 0)) (kmp (law1 mk _) ⟨rfl, rfl, rfl⟩) fun s1 => ?_
  refine s_cons (Run.mono (Q := OQ fun o l h => o = .next /\ l = lw2 /\ h = hsW mk (tmT 25)) ?_ (OQ.at fun s1 => ?_))
  · rw [lws2_eq]
    refine S_for R hs hA wsc_k.1 wsc_k.2.1 nsW (fun k l h => l = lw2 /\ h = hsW mk (tmT k)) s1 (kmp (law2i _ _) ⟨.rngK 0 25 1, rfl, fun _ _ _ _ _ => small25.1, ⟨normW, rfl⟩, ?_, ?_⟩)
    · rintro k e l2 h2 s2 ⟨rfl, rfl⟩ he
      rw [els25] at he
      obtain ⟨hk, rfl⟩ := rng_els he
      exact kmp (List.map_inj_left.mp (law2b mk _) k (List.mem_range.mpr hk)) (toldP_ok hk hm ⟨normWT k, rfl⟩)
    · rintro l2 h2 s2 ⟨rfl, rfl⟩
      rw [els25]
      exact ⟨rfl, rfl, rfl⟩
  refine s_cons (Run.mono (Q := OQ fun o l h => o = .next /\ l = lw2) ?_ (OQ.go fun o l h s1 q => ?_))
  · rw [lws3_eq]
    refine S_for R hs hA wsc_k.1 wsc_k.2.2 nsW (fun k l h => l = lw2 /\ ∃ f, h = hsW mk (tmD f k)) s1 (kmp (law3i _ _) ⟨.rngK 0 9 1, rfl, fun _ _ _ _ _ => small25.2, ⟨normW, fun _ => [], by unfold tmD; rw [List.range_zero, List.map_nil, List.append_nil]⟩, ?_, ?_⟩)
    · rintro k e l2 h2 s2 ⟨rfl, f, rfl⟩ he
      rw [els9] at he
      obtain ⟨hk, rfl⟩ := rng_els he
      refine kmp (List.map_inj_left.mp (law3b mk f _) k (List.mem_range.mpr hk)) (drawnP_ok hk hm fun us t d => ⟨normWD k us t d, fun i => if i = k then us else f i, ?_⟩)
      have : tmD f k ++ [SO.sl us] = tmD (fun i => if i = k then us else f i) (k + 1) := by
        unfold tmD
        rw [List.range_succ, List.map_append, List.append_assoc]
        congr 2
        · refine List.map_congr_left fun i hi => ?_
          have := List.mem_range.mp hi
          dsimp only
          rw [if_neg (by lia)]
        · show _ = [SO.sl (if k = k then us else f k)]
          rw [if_pos rfl]
      rw [this]
    · rintro l2 h2 s2 ⟨rfl, f, rfl⟩
      exact ⟨rfl, rfl⟩
  obtain ⟨rfl, rfl⟩ := q
  refine s_cons (stepS_ok ⟨b, noO, EV_ok b noO 95, hkd, hs, hA⟩ s1 (kmp (law4 h fun o l h => o = .ret (.bool true)) rfl) |>.mono (OQ.go fun o l h s1 q => ?_))
  subst q
  exact ⟨.ret (.bool true), l, h, rfl, rfl, rfl, s1, rfl⟩
theorem hl_live (P : Params) : (hl P).all (fun o => !o.isFreed) = true := by kernel_rfl
theorem base_H1 (w : World) : Base w (H1 w.params) := fun i o h => by
  refine Heap.get?_some_iff.mpr ⟨?_, ?_⟩
  · show (hl w.params).toArray[i]? = some o
    rw [List.getElem?_toArray]; exact h
  · have := List.all_eq_true.mp (hl_live w.params) o (List.mem_of_getElem? h)
    simpa using this
theorem last_H1 (w : World) : ∃ a x, (H1 w.params).get? a = some x /\ (H1 w.params).objs.size = a + 1 := by
  have h : 812 < (hl w.params).length := by rw [len_hl]; decide
  refine ⟨812, (hl w.params)[812], base_H1 w 812 _ (List.getElem?_eq_getElem h), ?_⟩
  show (hl w.params).toArray.size = _
  rw [List.size_toArray, len_hl]
theorem law_at (P : Params) : (hl P)[812]? = some (Fn lawE.st lawE.q lawE.dV lawE.md (R lawE.code)) := by kernel_rfl
theorem law_code (P : Params) : codeQ P lawE.code = some (Str.ofString lawE.q) := by kernel_rfl
theorem law_bind (a : Value) : bindArgs (fdE lawE) ⟨[a], []⟩ = pure ((argNames lawE.st).zip [a]) := by kernel_rfl
theorem law_scope : scopeGood lawE.st = true := by kernel_rfl
theorem law_sc : scopeOf lawE.st = wsc := by kernel_rfl
theorem law_names : argNames lawE.st = [Str.ofString "script"] := by kernel_rfl
theorem law_fd : (fdE lawE).body = .stmts (bodyOf lawE.st) /\ (fdE lawE).scope = wsc /\ (fdE lawE).code = .ref lawE.code /\ (fdE lawE).qualname = Str.ofString lawE.q /\ (fdE lawE).globals = mainGlobals /\ (fdE lawE).builtins = builtinsNs /\ (fdE lawE).closure = [] := ⟨by kernel_rfl, by kernel_rfl, by kernel_rfl, by kernel_rfl, by kernel_rfl, by kernel_rfl, by kernel_rfl⟩
theorem law_glob (P : Params) : gmap P (Str.ofString "law") = some (.ref 812) := by kernel_rfl
theorem lawD_name : lawD.name = Str.ofString "law" := by kernel_rfl
theorem enter_law {w : World} {hB : Heap} (b : Base w hB) (hlast : ∃ a x, hB.get? a = some x /\ hB.objs.size = a + 1) {A : Around} (hA : AOk 193 A) {s : Shared} (base : ∀ b o, hB.get? b = some o -> s.heap.get? b = some o) (hg : s.gens = #[]) {a : Addr} (ha : hB.objs.size <= a) {mk : List Int} (hm : mk.length <= 1000) {vs : List Value} {m : Nat}
    (hl : s.heap.get? a = some (W.listOf vs.toArray m)) (hv : ∀ (h : Heap) (ρ : Rho) (H : AHeap), VRs h ρ H (mk.map .int) vs) {K : Value -> Shared -> Prop}
    (k : ∀ s', (∀ b o, s.heap.get? b = some o -> s'.heap.get? b = some o) -> s'.os = s.os -> s'.gens = #[] -> K (.bool true) s') : wpAny (model pw w) A (call (.ref 812) [.ref a]) K (fun _ _ => False) s := by
  obtain ⟨g1, g2, g3, g4, g5, g6, g7⟩ := law_fd
  obtain ⟨hsc, h6⟩ := Bool.and_eq_true_iff.mp law_scope
  obtain ⟨hsc, h5⟩ := Bool.and_eq_true_iff.mp hsc
  have D : DefOK w lawE := defOK_of hsc (law_code w.params)
  rw [law_sc] at h5 h6
  obtain ⟨co, cvs, t, hc1, hc2, hc3⟩ := ref_of_some (law_code w.params)
  have ho := law_at w.params
  have hsize : hB.objs.size <= s.heap.objs.size := by
    obtain ⟨c, x, e1, e2⟩ := hlast
    rw [e2]; exact Heap.lt_size (base _ _ e1)
  have hns : argNames lawE.st = [Str.ofString "script"] := law_names
  have hloc : wsc.names.lookup (Str.ofString "script") = some .local := by
    have := List.all_eq_true.mp h6 (Str.ofString "script") (by rw [hns]; exact .head _)
    exact eq_of_beq this
  have hcell : ∀ x ∈ wsc.names, x.2 ≠ NameKind.cell := fun x hx q => by
    have := List.all_eq_true.mp h5 x hx
    rw [q] at this; simp at this
  refine wpAny_call (codeAny_call_def (binds := (argNames lawE.st).zip [.ref a]) (fd := fdE lawE) (by have := hA.2.1; unfold recursionLimit; lia) (base _ _ (b _ _ ho)) rfl (b.nolim.keeps base) ⟨lawE.code, co, cvs, t, g3, base _ _ (b _ _ hc1), hc2, by rw [g4]; exact hc3⟩ g1 (BindsTo.of_eq (law_bind _)) (by rw [g2]; exact hcell) (fun x hx => ?_) (fun h₀ hn hk => ?_) D.co D.gen D.kind)
  · rw [hns] at hx
    rw [g2, List.mem_singleton.mp (show x ∈ [(Str.ofString "script", Value.ref a)] from hx)]; exact hloc
  · rw [hns] at hn ⊢
    let E' := callEnv (fdE lawE) s.heap.objs.size 812
    have hcl : E'.cells = [] := g7
    let ρ : Rho := fun _ => a
    let s0 : Shared := { s with heap := h₀, toks := s.toks + ([Str.ofString "script"].zip [Value.ref a]).length }
    have only : ∀ o, mkH (hsW mk []) o ≠ none -> o = zO := fun o ho => by
      cases o with
      | t j =>
        by_cases q : j = 2
        · subst q; rfl
        · exfalso; apply ho
          show (List.lookup (Oid.t j) [(zO, SO.il mk)]).map SO.ao = none
          rw [List.lookup_cons, show (Oid.t j == zO) = false by simpa using q]; rfl
      | s j =>
        exfalso; apply ho
        show (List.lookup (Oid.s j) [(zO, SO.il mk)]).map SO.ao = none
        rw [List.lookup_cons, show (Oid.s j == zO) = false by simp]; rfl
      | ab => exact absurd rfl ho
      | kid j => exact absurd rfl ho
      | att j => exact absurd rfl ho
      | c j => exact absurd rfl ho
      | m j => exact absurd rfl ho
    have hlt : ∀ c x, s.heap.get? c = some x -> c ≠ s.heap.objs.size := fun c x e q => by have := Heap.lt_size e; rw [q] at this; exact Nat.lt_irrefl _ this
    have sm : Small (hsW mk []) := fun o x e => by
      have := only o (by unfold mkH; rw [e]; simp)
      subst this
      have e : some (SO.il mk) = some x := e
      cases e; exact sok_il (Nat.le_trans hm (by decide))
    have O : Ok w hB E' (vsf lw0) (mkH (hsW mk [])) ρ s0 := by
      refine ⟨fun c o e => hk _ _ (base _ _ e), hlast, fun o ao h => ?_, fun o ho => ha, fun o o' h h' _ => (only o h).trans (only o' h').symm, ⟨⟨_, hn, fun x c q1 q2 => ?_⟩, fun x q => ?_, fun x c q q2 => ?_⟩, fun o ho q => hlt a _ hl q, hsize, fun p hp => ?_, (fun x y c h _ => by rw [hcl] at h; simp at h), by show (fdE lawE).scope.kind = _; rw [g2]; exact wsc_kind, g5, g6, hg⟩
      · have := only o (by rw [h]; simp)
        subst this
        have h : some (AO.list (mk.map .int)) = some ao := h
        cases h
        exact ⟨vs, m, hk _ _ hl, hv _ _ _⟩
      · have q2 : (([(Str.ofString "script", SV.ref zO)] : SVS).lookup x).map SV.av = some c := q2
        rw [List.lookup_cons] at q2
        by_cases q3 : x = Str.ofString "script"
        · subst q3
          simp at q2
          subst q2
          exact ⟨.ref a, by simp, .ref zO (by show some _ ≠ none; simp)⟩
        · have : (x == Str.ofString "script") = false := by simpa using q3
          rw [this] at q2; cases q2
      · exfalso
        have q : (fdE lawE).scope.names.lookup x = some .cell := q
        rw [g2] at q
        exact hcell _ (lookup_memS q) rfl
      · exfalso
        have q2 : (([(Str.ofString "script", SV.ref zO)] : SVS).lookup x).map SV.av = some c := q2
        rw [List.lookup_cons] at q2
        by_cases q3 : x = Str.ofString "script"
        · subst q3
          have q : (fdE lawE).scope.names.lookup (Str.ofString "script") = some .free := q
          rw [g2, hloc] at q; cases q
        · have : (x == Str.ofString "script") = false := by simpa using q3
          rw [this] at q2; cases q2
      · have hp : p ∈ E'.cells := hp
        rw [hcl] at hp; cases hp
    refine wpAny_mono (law_run b (env := E') g2 hA.deeper hm sm ρ s0 (fun f s' => match f with | .ret v => K v s' | .next => K .none s' | _ => False) O fun f out ρ' vs' H' s' O' S' r q => ?_) (fun f s' h => ?_) (fun _ _ h => h.elim)
    · obtain ⟨b', l, hs', q1, q2, q3, q4, q5⟩ := q
      subst q1; subst q3
      have fin : ∀ {x : SV}, x = .bool true -> ∀ v, VR s'.heap ρ' (mkH hs') x.av v -> K v s' := fun e v r => by
        subst e
        cases r
        refine k s' (fun c o e => S'.keep c o (hk _ _ e) (fun i hi => absurd (only i hi.1) hi.2) (hlt c o e) (fun p hp => ?_)) S'.os O'.gens
        rw [hcl] at hp; cases hp
      cases b' with
      | ret x => cases f <;> first | exact r.elim | exact fin q5 _ r
      | next => exact SV.noConfusion q5
      | brk => exact q5.elim
      | cont => exact q5.elim
    · cases f <;> first | exact h | exact h.elim
theorem well_ints {P : Params} {h : Heap} {R : WRecords} {xs : List WData} : ∀ {vs : List Value}, WellAll P h vs xs -> WShape.hasItems R xs .int = true -> ∃ mk : List Int, mk.length = xs.length /\ ∀ (h' : Heap) (ρ : Rho) (H : AHeap), VRs h' ρ H (mk.map .int) vs := by
  induction xs with
  | nil =>
    intro vs z _
    cases z
    exact ⟨[], rfl, fun _ _ _ => .nil⟩
  | cons d xs ih =>
    intro vs z e
    cases z with | cons hw hs =>
    obtain ⟨mk, h1, h2⟩ := ih hs (by simp only [WShape.hasItems, Bool.and_eq_true] at e; exact e.2)
    obtain ⟨i, rfl⟩ := hasW_int (hasItemsW_at e d (.head _))
    cases hw with | int _ t =>
    exact ⟨i :: mk, by rw [List.length_cons, h1]; rfl, fun h' ρ H => .cons (.int i t) (h2 h' ρ H)⟩
theorem pre_len {xs : List WData} (h : rl.pre.holds [] { args := [.list xs] } = true) : xs.length <= 63 := by
  have e : rl.pre = .and (.not (.lt (.lit (.int 63)) (.len (.arg 0)))) (.lit (.bool true)) := by kernel_rfl
  rw [e] at h
  unfold WTm.holds at h
  simp only [WTm.value, List.getElem?_cons_zero] at h
  have e2 : W.less? (.int 63) (.int (xs.length : Int)) = some (decide ((63 : Int) < xs.length)) := rfl
  rw [e2] at h
  by_cases q : (63 : Int) < xs.length
  · rw [decide_eq_true q] at h; cases h
  · omega
theorem post_ok (args : List WData) : rr.toRowW.claim.post args (.bool true) args = true := by kernel_rfl
theorem walk : WalkX qv loose (fun _ _ => True) (fun s => (s.heap, s.toks)) (fun w => (H1 w.params, 1252)) rr.toRowW lawD [] fun f vs => PySem.call f vs := by
  intro w s₀ s₁ mg mb G Y a o pm cd doc dV kV ho hd hcd hdf hmg hg args vals as L hpre hlay hrd hwell hlow
  have Y1 : s₀.heap = H1 w.params := congrArg Prod.fst Y
  have keeps := L.keeps
  rw [Y1] at keeps
  have b := base_H1 w
  obtain ⟨hA, hP⟩ := pre_splitW hpre
  obtain ⟨d, r, rfl, e1, e2⟩ := hasAllW_cons (R := rr.toRowW.records) (e := .list .int) (es := []) hA
  have := hasAllW_nil e2
  subst this
  obtain ⟨xs, rfl, e3⟩ := hasW_list e1
  obtain ⟨v, vs', rfl, hw, hw'⟩ := wellAll_cons_inv hwell
  cases hw'
  cases hw with | @list a' vs _ hl hi =>
  obtain ⟨mk, hmk, hv⟩ := well_ints hi e3
  have hlen := pre_len hP
  have ea : a = 812 := by
    have h1 := Heap.Ns.agree G.T.g (b.gns.keeps keeps) (Str.ofString "law")
    rw [law_glob, <- lawD_name, hmg] at h1
    cases h1; rfl
  subst ea
  have ha : (H1 w.params).objs.size <= a' := by
    cases hrd with | cons r1 r2 =>
    obtain ⟨l, o', its, n, ai, g1, _, _, _, _, g2⟩ := readsW_list_open r1
    cases g1
    rw [<- Y1]
    exact (L.within.2.2 a' (by rw [g2]; exact .head _)).1
  refine wpAny_mono (enter_law (A := callerA) (K := fun v s' => v = .bool true /\ (∀ b o, s₁.heap.get? b = some o -> s'.heap.get? b = some o) /\ s'.os = s₁.os /\ s'.gens = #[]) b (last_H1 w) ⟨rfl, by decide, by decide⟩ keeps hg ha (mk := mk) (by omega) hl hv fun s' k1 k2 k3 => ⟨rfl, k1, k2, k3⟩) (fun v s' ⟨k0, k1, k2, k3⟩ => ?_) (fun _ _ h => h.elim)
  subst k0
  exact GoodW.toG ⟨.inl ⟨.bool true, .bool true, [], rfl, fun cls => rfl, .bool true, post_ok _, fun _ => ⟨List.nodup_nil, fun a h => nomatch h⟩⟩, k1, k2, k3⟩
theorem holds : PySem.Challenge.rw_nt0619_01.Holds := hold_of_walk walk
end Mine
theorem PySem.Challenge.cw_nt0619_01_holds : PySem.Challenge.rw_nt0619_01.Holds :=
  Mine.holds
