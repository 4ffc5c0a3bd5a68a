import PyProof.Rows.All
import PyProof.Rows.SetFrom
import Wide.All
import OpenK.KWalk
import OpenK.KMake
import OpenK.KFacts
import OpenK.KMore
import OpenK.KCell
import OpenK.KDescr
import OpenK.KDict
import OpenK.KCall
import OpenK.XOpen
import Wide.FinOn
import PySem.Challenge.RW_on0011_01
open PySem PySem.W PyProof.Rows
set_option Elab.async false
set_option linter.unusedVariables false
set_option linter.unusedSimpArgs false
open PySem PySem.W PySem.Spec PySem.Calls PyProof.Rows
set_option maxRecDepth 100000
namespace Mine
/-- the functions of the row's program, by their places -/
noncomputable def fnAt (i : Nat) : Stmt := PySem.Challenge.pw_on0011_01.main.body.getD i (.Pass default)
noncomputable def meAt (i j : Nat) : Stmt := match fnAt i with
  | .ClassDef _ _ _ b _ _ _ _ _ _ _ => b.getD j (.Pass default)
  | x => x
noncomputable def fArgs : Stmt → Arguments
  | .FunctionDef _ a _ _ _ _ _ _ _ _ => a
  | _ => default
noncomputable def fBody : Stmt → List Stmt
  | .FunctionDef _ _ b _ _ _ _ _ _ _ => b
  | _ => []
noncomputable def fScope : Stmt → Scope
  | .FunctionDef _ _ _ _ _ _ s _ _ _ => s
  | _ => default
noncomputable abbrev ks (x : String) (t : Nat) : Value := .str (Str.ofString x) t
noncomputable abbrev ke (P : Params) (x : String) (t : Nat) (v : Value) : DictEntry := { hash := PyData.keyHash P (Str.ofString x), key := .str (Str.ofString x) t, val := v }
/-- the objects of the top that the walk knows -/
noncomputable def heap39 (P : Params) : Frag := [
  (2, { cls := Value.none, data := Data.dict #[ke P "type.__subclasses__.Exception.0" 217 (Value.int 32 0), ke P "type.__subclasses__.Exception.n" 218 (Value.int 1 0)] 2 }),
  (3, { cls := Value.type "dict", data := Data.dict #[ke P "__name__" 165 (ks "law_on0011_01" 376), ke P "__doc__" 166 (Value.none), ke P "__package__" 167 (Value.none), ke P "__loader__" 168 (Value.builtin "__main__.__loader__#opaque"), ke P "__spec__" 169 (Value.none), ke P "__annotations__" 170 (Value.ref 6), ke P "__builtins__" 171 (Value.ref 4), ke P "__file__" 173 (ks "/claim/cut.py" 172), ke P "__cached__" 174 (Value.none), ke P "ChanError" 220 (Value.ref 32), ke P "FlowFault" 236 (Value.ref 45), ke P "LOOPS" 241 (Value.ref 48), ke P "LEFT_BY_BREAK" 247 (Value.ref 49), ke P "case_rows" 255 (Value.ref 56), ke P "inner_lists" 261 (Value.ref 61), ke P "has_break" 273 (Value.ref 69), ke P "is_panic" 281 (Value.ref 76), ke P "is_case_ended" 288 (Value.ref 83), ke P "ends_by_cases" 294 (Value.ref 88), ke P "is_terminating" 303 (Value.ref 95), ke P "LabelChecker" 367 (Value.ref 138), ke P "check_labels" 375 (Value.ref 149), ke P "_law_pool" 388 (Value.ref 156), ke P "_law_take" 397 (Value.ref 163), ke P "_law_one" 405 (Value.ref 170), ke P "_law_call" 412 (Value.ref 177), ke P "_law_body" 418 (Value.ref 182), ke P "_law_block" 427 (Value.ref 189), ke P "_law_cases" 441 (Value.ref 196), ke P "_law_labelled" 454 (Value.ref 203), ke P "_law_statement" 466 (Value.ref 210), ke P "_law_parts" 472 (Value.ref 215), ke P "_law_ways" 484 (Value.ref 222), ke P "_law_is_left" 495 (Value.ref 229), ke P "_law_ends" 501 (Value.ref 234), ke P "_law_labels" 511 (Value.ref 241), ke P "_law_labels_right" 517 (Value.ref 246), ke P "_law_is_let" 524 (Value.ref 253), ke P "law" 530 (Value.ref 258)] 39 }),
  (15, { cls := Value.type "tuple", data := Data.seq #[Value.type "Exception"] }),
  (22, { cls := Value.type "tuple", data := Data.seq #[Value.int 0 201] }),
  (23, { cls := Value.type "tuple", data := Data.seq #[] }),
  (25, { cls := Value.type "tuple", data := Data.seq #[ks "self" 205, ks "message" 206, ks "spot" 207] }),
  (26, { cls := Value.type "tuple", data := Data.seq #[] }),
  (28, { cls := Value.type "code", data := Data.fields #[ks "__init__" 202, ks "ChanError.__init__" 203, ks "/claim/cut.py" 204, Value.int 4 0, Value.int 3 0, Value.int 0 0, Value.int 0 0, Value.int 3 0, Value.ref 23, Value.bool Bool.true, Value.int 181 0, Value.ref 24, Value.none, Value.ref 25, Value.ref 26, Value.ref 27, Value.int 208 0, Value.int 4 0, ks "/claim/cut.py" 209] }),
  (29, { cls := Value.type "function", dict := Option.none, data := Data.func { params := fArgs (meAt 1 0), body := .stmts (fBody (meAt 1 0)), scope := fScope (meAt 1 0), name := Str.ofString "__init__", qualname := Str.ofString "ChanError.__init__", globals := 3, closure := [], defaults := Value.ref 22, kwdefaults := Value.none, doc := Value.none, pyModule := ks "chancore.errors" 187, annotations := Option.none, code := Value.ref 28, closureTuple := Value.none, builtins := 0 }, slots := #[] }),
  (30, { cls := Value.type "tuple", data := Data.seq #[ks "message" 211, ks "spot" 212] }),
  (31, { cls := Value.type "dict", data := Data.dict #[ke P "__module__" 196 (ks "chancore.errors" 187), ke P "__firstlineno__" 200 (Value.int 2 199), ke P "__init__" 210 (Value.ref 29), ke P "__static_attributes__" 213 (Value.ref 30), ke P "__weakref__" 215 (Value.ref 33), ke P "__doc__" 216 (Value.none)] 3 }),
  (32, { cls := Value.type "type", data := Data.cls { name := Str.ofString "ChanError", bases := [Value.type "Exception"], mro := [Value.ref 32, Value.type "Exception", Value.type "BaseException", Value.type "object"], ns := 31, qualname := Str.ofString "ChanError", subclasses := [Value.ref 45] }, slots := #[Option.some (Value.ref 15), Option.none, Option.some (ks "ChanError" 189), Option.some (ks "ChanError" 197), Option.some (Value.builtin "Exception.__new__"), Option.some (Value.bool Bool.true)] }),
  (33, { cls := Value.type "getset_descriptor", data := Data.fields #[ks "__weakref__" 214, Value.ref 32, Value.builtin "ExceptionGroup.__weakref__", Value.none] }),
  (36, { cls := Value.type "tuple", data := Data.seq #[Value.ref 32] }),
  (43, { cls := Value.type "tuple", data := Data.seq #[] }),
  (44, { cls := Value.type "dict", data := Data.dict #[ke P "__module__" 228 (ks "chancore.errors" 187), ke P "__firstlineno__" 232 (Value.int 8 231), ke P "__static_attributes__" 233 (Value.ref 43), ke P "__doc__" 234 (Value.none)] 2 }),
  (45, { cls := Value.type "type", data := Data.cls { name := Str.ofString "FlowFault", bases := [Value.ref 32], mro := [Value.ref 45, Value.ref 32, Value.type "Exception", Value.type "BaseException", Value.type "object"], ns := 44, qualname := Str.ofString "FlowFault" }, slots := #[Option.some (Value.ref 36), Option.none, Option.some (ks "FlowFault" 221), Option.some (ks "FlowFault" 229), Option.some (Value.builtin "Exception.__new__"), Option.some (Value.bool Bool.true)] }),
  (48, { cls := Value.type "tuple", data := Data.seq #[ks "for" 239, ks "range" 240] }),
  (49, { cls := Value.type "tuple", data := Data.seq #[ks "for" 242, ks "range" 243, ks "switch" 244, ks "typeswitch" 245, ks "choose" 246] }),
  (50, { cls := Value.type "tuple", data := Data.seq #[] }),
  (52, { cls := Value.type "tuple", data := Data.seq #[ks "statement" 251, ks "places" 252] }),
  (53, { cls := Value.type "tuple", data := Data.seq #[] }),
  (55, { cls := Value.type "code", data := Data.fields #[ks "case_rows" 248, ks "case_rows" 249, ks "/claim/cut.py" 250, Value.int 13 0, Value.int 1 0, Value.int 0 0, Value.int 0 0, Value.int 3 0, Value.ref 50, Value.bool Bool.true, Value.int 181 0, Value.ref 51, Value.none, Value.ref 52, Value.ref 53, Value.ref 54, Value.int 253 0, Value.int 13 0, ks "/claim/cut.py" 254] }),
  (56, { cls := Value.type "function", dict := Option.none, data := Data.func { params := fArgs (fnAt 6), body := .stmts (fBody (fnAt 6)), scope := fScope (fnAt 6), name := Str.ofString "case_rows", qualname := Str.ofString "case_rows", globals := 3, closure := [], defaults := Value.none, kwdefaults := Value.none, doc := Value.none, pyModule := ks "chancore.flow_checks" 237, annotations := Option.none, code := Value.ref 55, closureTuple := Value.none, builtins := 0 }, slots := #[] }),
  (57, { cls := Value.type "tuple", data := Data.seq #[] }),
  (60, { cls := Value.type "code", data := Data.fields #[ks "inner_lists" 256, ks "inner_lists" 257, ks "/claim/cut.py" 258, Value.int 16 0, Value.int 1 0, Value.int 0 0, Value.int 0 0, Value.int 3 0, Value.ref 57, Value.bool Bool.true, Value.int 181 0, Value.ref 58, Value.none, Value.none, Value.none, Value.ref 59, Value.int 259 0, Value.int 16 0, ks "/claim/cut.py" 260] }),
  (61, { cls := Value.type "function", dict := Option.none, data := Data.func { params := fArgs (fnAt 7), body := .stmts (fBody (fnAt 7)), scope := fScope (fnAt 7), name := Str.ofString "inner_lists", qualname := Str.ofString "inner_lists", globals := 3, closure := [], defaults := Value.none, kwdefaults := Value.none, doc := Value.none, pyModule := ks "chancore.flow_checks" 237, annotations := Option.none, code := Value.ref 60, closureTuple := Value.none, builtins := 0 }, slots := #[] }),
  (62, { cls := Value.type "tuple", data := Data.seq #[Value.bool Bool.true] }),
  (63, { cls := Value.type "tuple", data := Data.seq #[] }),
  (65, { cls := Value.type "tuple", data := Data.seq #[ks "statements" 265, ks "label" 266, ks "is_near" 267, ks "statement" 268, ks "near" 269, ks "inner" 270] }),
  (66, { cls := Value.type "tuple", data := Data.seq #[] }),
  (68, { cls := Value.type "code", data := Data.fields #[ks "has_break" 262, ks "has_break" 263, ks "/claim/cut.py" 264, Value.int 29 0, Value.int 3 0, Value.int 0 0, Value.int 0 0, Value.int 3 0, Value.ref 63, Value.bool Bool.true, Value.int 181 0, Value.ref 64, Value.none, Value.ref 65, Value.ref 66, Value.ref 67, Value.int 271 0, Value.int 29 0, ks "/claim/cut.py" 272] }),
  (69, { cls := Value.type "function", dict := Option.none, data := Data.func { params := fArgs (fnAt 8), body := .stmts (fBody (fnAt 8)), scope := fScope (fnAt 8), name := Str.ofString "has_break", qualname := Str.ofString "has_break", globals := 3, closure := [], defaults := Value.ref 62, kwdefaults := Value.none, doc := Value.none, pyModule := ks "chancore.flow_checks" 237, annotations := Option.none, code := Value.ref 68, closureTuple := Value.none, builtins := 0 }, slots := #[] }),
  (70, { cls := Value.type "tuple", data := Data.seq #[] }),
  (72, { cls := Value.type "tuple", data := Data.seq #[ks "statement" 277, ks "called" 278] }),
  (73, { cls := Value.type "tuple", data := Data.seq #[] }),
  (75, { cls := Value.type "code", data := Data.fields #[ks "is_panic" 274, ks "is_panic" 275, ks "/claim/cut.py" 276, Value.int 39 0, Value.int 1 0, Value.int 0 0, Value.int 0 0, Value.int 3 0, Value.ref 70, Value.bool Bool.true, Value.int 181 0, Value.ref 71, Value.none, Value.ref 72, Value.ref 73, Value.ref 74, Value.int 279 0, Value.int 39 0, ks "/claim/cut.py" 280] }),
  (76, { cls := Value.type "function", dict := Option.none, data := Data.func { params := fArgs (fnAt 9), body := .stmts (fBody (fnAt 9)), scope := fScope (fnAt 9), name := Str.ofString "is_panic", qualname := Str.ofString "is_panic", globals := 3, closure := [], defaults := Value.none, kwdefaults := Value.none, doc := Value.none, pyModule := ks "chancore.flow_checks" 237, annotations := Option.none, code := Value.ref 75, closureTuple := Value.none, builtins := 0 }, slots := #[] }),
  (77, { cls := Value.type "tuple", data := Data.seq #[] }),
  (79, { cls := Value.type "tuple", data := Data.seq #[ks "statements" 285] }),
  (80, { cls := Value.type "tuple", data := Data.seq #[] }),
  (82, { cls := Value.type "code", data := Data.fields #[ks "is_case_ended" 282, ks "is_case_ended" 283, ks "/claim/cut.py" 284, Value.int 44 0, Value.int 1 0, Value.int 0 0, Value.int 0 0, Value.int 3 0, Value.ref 77, Value.bool Bool.true, Value.int 181 0, Value.ref 78, Value.none, Value.ref 79, Value.ref 80, Value.ref 81, Value.int 286 0, Value.int 44 0, ks "/claim/cut.py" 287] }),
  (83, { cls := Value.type "function", dict := Option.none, data := Data.func { params := fArgs (fnAt 10), body := .stmts (fBody (fnAt 10)), scope := fScope (fnAt 10), name := Str.ofString "is_case_ended", qualname := Str.ofString "is_case_ended", globals := 3, closure := [], defaults := Value.none, kwdefaults := Value.none, doc := Value.none, pyModule := ks "chancore.flow_checks" 237, annotations := Option.none, code := Value.ref 82, closureTuple := Value.none, builtins := 0 }, slots := #[] }),
  (84, { cls := Value.type "tuple", data := Data.seq #[] }),
  (87, { cls := Value.type "code", data := Data.fields #[ks "ends_by_cases" 289, ks "ends_by_cases" 290, ks "/claim/cut.py" 291, Value.int 46 0, Value.int 1 0, Value.int 0 0, Value.int 0 0, Value.int 3 0, Value.ref 84, Value.bool Bool.true, Value.int 181 0, Value.ref 85, Value.none, Value.none, Value.none, Value.ref 86, Value.int 292 0, Value.int 46 0, ks "/claim/cut.py" 293] }),
  (88, { cls := Value.type "function", dict := Option.none, data := Data.func { params := fArgs (fnAt 11), body := .stmts (fBody (fnAt 11)), scope := fScope (fnAt 11), name := Str.ofString "ends_by_cases", qualname := Str.ofString "ends_by_cases", globals := 3, closure := [], defaults := Value.none, kwdefaults := Value.none, doc := Value.none, pyModule := ks "chancore.flow_checks" 237, annotations := Option.none, code := Value.ref 87, closureTuple := Value.none, builtins := 0 }, slots := #[] }),
  (89, { cls := Value.type "tuple", data := Data.seq #[] }),
  (91, { cls := Value.type "tuple", data := Data.seq #[ks "statements" 298, ks "last" 299, ks "kind" 300] }),
  (92, { cls := Value.type "tuple", data := Data.seq #[] }),
  (94, { cls := Value.type "code", data := Data.fields #[ks "is_terminating" 295, ks "is_terminating" 296, ks "/claim/cut.py" 297, Value.int 54 0, Value.int 1 0, Value.int 0 0, Value.int 0 0, Value.int 3 0, Value.ref 89, Value.bool Bool.true, Value.int 181 0, Value.ref 90, Value.none, Value.ref 91, Value.ref 92, Value.ref 93, Value.int 301 0, Value.int 54 0, ks "/claim/cut.py" 302] }),
  (95, { cls := Value.type "function", dict := Option.none, data := Data.func { params := fArgs (fnAt 12), body := .stmts (fBody (fnAt 12)), scope := fScope (fnAt 12), name := Str.ofString "is_terminating", qualname := Str.ofString "is_terminating", globals := 3, closure := [], defaults := Value.none, kwdefaults := Value.none, doc := Value.none, pyModule := ks "chancore.flow_checks" 237, annotations := Option.none, code := Value.ref 94, closureTuple := Value.none, builtins := 0 }, slots := #[] }),
  (103, { cls := Value.type "tuple", data := Data.seq #[] }),
  (105, { cls := Value.type "tuple", data := Data.seq #[ks "self" 319] }),
  (106, { cls := Value.type "tuple", data := Data.seq #[] }),
  (108, { cls := Value.type "code", data := Data.fields #[ks "__init__" 316, ks "LabelChecker.__init__" 317, ks "/claim/cut.py" 318, Value.int 72 0, Value.int 1 0, Value.int 0 0, Value.int 0 0, Value.int 3 0, Value.ref 103, Value.bool Bool.true, Value.int 181 0, Value.ref 104, Value.none, Value.ref 105, Value.ref 106, Value.ref 107, Value.int 320 0, Value.int 72 0, ks "/claim/cut.py" 321] }),
  (109, { cls := Value.type "function", dict := Option.none, data := Data.func { params := fArgs (meAt 13 0), body := .stmts (fBody (meAt 13 0)), scope := fScope (meAt 13 0), name := Str.ofString "__init__", qualname := Str.ofString "LabelChecker.__init__", globals := 3, closure := [], defaults := Value.none, kwdefaults := Value.none, doc := Value.none, pyModule := ks "chancore.flow_checks" 237, annotations := Option.none, code := Value.ref 108, closureTuple := Value.none, builtins := 0 }, slots := #[] }),
  (110, { cls := Value.type "tuple", data := Data.seq #[] }),
  (112, { cls := Value.type "tuple", data := Data.seq #[ks "self" 326, ks "statements" 327, ks "statement" 328] }),
  (113, { cls := Value.type "tuple", data := Data.seq #[] }),
  (115, { cls := Value.type "code", data := Data.fields #[ks "all" 323, ks "LabelChecker.all" 324, ks "/claim/cut.py" 325, Value.int 77 0, Value.int 2 0, Value.int 0 0, Value.int 0 0, Value.int 3 0, Value.ref 110, Value.bool Bool.true, Value.int 181 0, Value.ref 111, Value.none, Value.ref 112, Value.ref 113, Value.ref 114, Value.int 329 0, Value.int 77 0, ks "/claim/cut.py" 330] }),
  (116, { cls := Value.type "function", dict := Option.none, data := Data.func { params := fArgs (meAt 13 1), body := .stmts (fBody (meAt 13 1)), scope := fScope (meAt 13 1), name := Str.ofString "all", qualname := Str.ofString "LabelChecker.all", globals := 3, closure := [], defaults := Value.none, kwdefaults := Value.none, doc := Value.none, pyModule := ks "chancore.flow_checks" 237, annotations := Option.none, code := Value.ref 115, closureTuple := Value.none, builtins := 0 }, slots := #[] }),
  (117, { cls := Value.type "tuple", data := Data.seq #[] }),
  (119, { cls := Value.type "tuple", data := Data.seq #[ks "self" 335, ks "statement" 336, ks "kind" 337, ks "inner" 338, ks "label" 339] }),
  (120, { cls := Value.type "tuple", data := Data.seq #[] }),
  (122, { cls := Value.type "code", data := Data.fields #[ks "statement" 332, ks "LabelChecker.statement" 333, ks "/claim/cut.py" 334, Value.int 81 0, Value.int 2 0, Value.int 0 0, Value.int 0 0, Value.int 3 0, Value.ref 117, Value.bool Bool.true, Value.int 181 0, Value.ref 118, Value.none, Value.ref 119, Value.ref 120, Value.ref 121, Value.int 340 0, Value.int 81 0, ks "/claim/cut.py" 341] }),
  (123, { cls := Value.type "function", dict := Option.none, data := Data.func { params := fArgs (meAt 13 2), body := .stmts (fBody (meAt 13 2)), scope := fScope (meAt 13 2), name := Str.ofString "statement", qualname := Str.ofString "LabelChecker.statement", globals := 3, closure := [], defaults := Value.none, kwdefaults := Value.none, doc := Value.none, pyModule := ks "chancore.flow_checks" 237, annotations := Option.none, code := Value.ref 122, closureTuple := Value.none, builtins := 0 }, slots := #[] }),
  (124, { cls := Value.type "tuple", data := Data.seq #[] }),
  (127, { cls := Value.type "code", data := Data.fields #[ks "lead" 343, ks "LabelChecker.lead" 344, ks "/claim/cut.py" 345, Value.int 99 0, Value.int 2 0, Value.int 0 0, Value.int 0 0, Value.int 3 0, Value.ref 124, Value.bool Bool.true, Value.int 181 0, Value.ref 125, Value.none, Value.none, Value.none, Value.ref 126, Value.int 346 0, Value.int 99 0, ks "/claim/cut.py" 347] }),
  (128, { cls := Value.type "function", dict := Option.none, data := Data.func { params := fArgs (meAt 13 3), body := .stmts (fBody (meAt 13 3)), scope := fScope (meAt 13 3), name := Str.ofString "lead", qualname := Str.ofString "LabelChecker.lead", globals := 3, closure := [], defaults := Value.none, kwdefaults := Value.none, doc := Value.none, pyModule := ks "chancore.flow_checks" 237, annotations := Option.none, code := Value.ref 127, closureTuple := Value.none, builtins := 0 }, slots := #[] }),
  (129, { cls := Value.type "tuple", data := Data.seq #[] }),
  (131, { cls := Value.type "tuple", data := Data.seq #[ks "self" 352, ks "label" 353] }),
  (132, { cls := Value.type "tuple", data := Data.seq #[] }),
  (134, { cls := Value.type "code", data := Data.fields #[ks "check_used" 349, ks "LabelChecker.check_used" 350, ks "/claim/cut.py" 351, Value.int 108 0, Value.int 1 0, Value.int 0 0, Value.int 0 0, Value.int 3 0, Value.ref 129, Value.bool Bool.true, Value.int 181 0, Value.ref 130, Value.none, Value.ref 131, Value.ref 132, Value.ref 133, Value.int 354 0, Value.int 108 0, ks "/claim/cut.py" 355] }),
  (135, { cls := Value.type "function", dict := Option.none, data := Data.func { params := fArgs (meAt 13 4), body := .stmts (fBody (meAt 13 4)), scope := fScope (meAt 13 4), name := Str.ofString "check_used", qualname := Str.ofString "LabelChecker.check_used", globals := 3, closure := [], defaults := Value.none, kwdefaults := Value.none, doc := Value.none, pyModule := ks "chancore.flow_checks" 237, annotations := Option.none, code := Value.ref 134, closureTuple := Value.none, builtins := 0 }, slots := #[] }),
  (136, { cls := Value.type "tuple", data := Data.seq #[ks "open" 357, ks "told" 358, ks "used" 359] }),
  (137, { cls := Value.type "dict", data := Data.dict #[ke P "__module__" 311 (ks "chancore.flow_checks" 237), ke P "__firstlineno__" 315 (Value.int 70 314), ke P "__init__" 322 (Value.ref 109), ke P "all" 331 (Value.ref 116), ke P "statement" 342 (Value.ref 123), ke P "lead" 348 (Value.ref 128), ke P "check_used" 356 (Value.ref 135), ke P "__static_attributes__" 360 (Value.ref 136), ke P "__dict__" 362 (Value.ref 139), ke P "__weakref__" 364 (Value.ref 140), ke P "__doc__" 365 (Value.none)] 4 }),
  (138, { cls := Value.type "type", data := Data.cls { name := Str.ofString "LabelChecker", bases := [Value.type "object"], mro := [Value.ref 138, Value.type "object"], ns := 137, qualname := Str.ofString "LabelChecker" }, slots := #[Option.none, Option.none, Option.some (ks "LabelChecker" 304), Option.some (ks "LabelChecker" 312), Option.some (Value.builtin "object.__new__"), Option.some (Value.bool Bool.true)] }),
  (139, { cls := Value.type "getset_descriptor", data := Data.fields #[ks "__dict__" 361, Value.ref 138, Value.builtin "function.__dict__", Value.builtin "function.__dict__#set"] }),
  (140, { cls := Value.type "getset_descriptor", data := Data.fields #[ks "__weakref__" 363, Value.ref 138, Value.builtin "ExceptionGroup.__weakref__", Value.none] }),
  (143, { cls := Value.type "tuple", data := Data.seq #[] }),
  (145, { cls := Value.type "tuple", data := Data.seq #[ks "statements" 371, ks "checker" 372] }),
  (146, { cls := Value.type "tuple", data := Data.seq #[] }),
  (148, { cls := Value.type "code", data := Data.fields #[ks "check_labels" 368, ks "check_labels" 369, ks "/claim/cut.py" 370, Value.int 112 0, Value.int 1 0, Value.int 0 0, Value.int 0 0, Value.int 3 0, Value.ref 143, Value.bool Bool.true, Value.int 181 0, Value.ref 144, Value.none, Value.ref 145, Value.ref 146, Value.ref 147, Value.int 373 0, Value.int 112 0, ks "/claim/cut.py" 374] }),
  (149, { cls := Value.type "function", dict := Option.none, data := Data.func { params := fArgs (fnAt 14), body := .stmts (fBody (fnAt 14)), scope := fScope (fnAt 14), name := Str.ofString "check_labels", qualname := Str.ofString "check_labels", globals := 3, closure := [], defaults := Value.none, kwdefaults := Value.none, doc := Value.none, pyModule := ks "chancore.flow_checks" 237, annotations := Option.none, code := Value.ref 148, closureTuple := Value.none, builtins := 0 }, slots := #[] }),
  (150, { cls := Value.type "tuple", data := Data.seq #[] }),
  (152, { cls := Value.type "tuple", data := Data.seq #[ks "script" 381, ks "k" 382, ks "cell" 383, ks "big" 384, ks "stirred" 385] }),
  (153, { cls := Value.type "tuple", data := Data.seq #[] }),
  (155, { cls := Value.type "code", data := Data.fields #[ks "_law_pool" 378, ks "_law_pool" 379, ks "/claim/cut.py" 380, Value.int 117 0, Value.int 2 0, Value.int 0 0, Value.int 0 0, Value.int 3 0, Value.ref 150, Value.bool Bool.true, Value.int 181 0, Value.ref 151, Value.none, Value.ref 152, Value.ref 153, Value.ref 154, Value.int 386 0, Value.int 117 0, ks "/claim/cut.py" 387] }),
  (156, { cls := Value.type "function", dict := Option.none, data := Data.func { params := fArgs (fnAt 16), body := .stmts (fBody (fnAt 16)), scope := fScope (fnAt 16), name := Str.ofString "_law_pool", qualname := Str.ofString "_law_pool", globals := 3, closure := [], defaults := Value.none, kwdefaults := Value.none, doc := Value.none, pyModule := ks "law_on0011_01" 376, annotations := Option.none, code := Value.ref 155, closureTuple := Value.none, builtins := 0 }, slots := #[] }),
  (157, { cls := Value.type "tuple", data := Data.seq #[] }),
  (159, { cls := Value.type "tuple", data := Data.seq #[ks "source" 392, ks "top" 393, ks "figure" 394] }),
  (160, { cls := Value.type "tuple", data := Data.seq #[] }),
  (162, { cls := Value.type "code", data := Data.fields #[ks "_law_take" 389, ks "_law_take" 390, ks "/claim/cut.py" 391, Value.int 124 0, Value.int 2 0, Value.int 0 0, Value.int 0 0, Value.int 3 0, Value.ref 157, Value.bool Bool.true, Value.int 181 0, Value.ref 158, Value.none, Value.ref 159, Value.ref 160, Value.ref 161, Value.int 395 0, Value.int 124 0, ks "/claim/cut.py" 396] }),
  (163, { cls := Value.type "function", dict := Option.none, data := Data.func { params := fArgs (fnAt 17), body := .stmts (fBody (fnAt 17)), scope := fScope (fnAt 17), name := Str.ofString "_law_take", qualname := Str.ofString "_law_take", globals := 3, closure := [], defaults := Value.none, kwdefaults := Value.none, doc := Value.none, pyModule := ks "law_on0011_01" 376, annotations := Option.none, code := Value.ref 162, closureTuple := Value.none, builtins := 0 }, slots := #[] }),
  (164, { cls := Value.type "tuple", data := Data.seq #[] }),
  (166, { cls := Value.type "tuple", data := Data.seq #[ks "source" 401, ks "things" 402] }),
  (167, { cls := Value.type "tuple", data := Data.seq #[] }),
  (169, { cls := Value.type "code", data := Data.fields #[ks "_law_one" 398, ks "_law_one" 399, ks "/claim/cut.py" 400, Value.int 131 0, Value.int 2 0, Value.int 0 0, Value.int 0 0, Value.int 3 0, Value.ref 164, Value.bool Bool.true, Value.int 181 0, Value.ref 165, Value.none, Value.ref 166, Value.ref 167, Value.ref 168, Value.int 403 0, Value.int 131 0, ks "/claim/cut.py" 404] }),
  (170, { cls := Value.type "function", dict := Option.none, data := Data.func { params := fArgs (fnAt 18), body := .stmts (fBody (fnAt 18)), scope := fScope (fnAt 18), name := Str.ofString "_law_one", qualname := Str.ofString "_law_one", globals := 3, closure := [], defaults := Value.none, kwdefaults := Value.none, doc := Value.none, pyModule := ks "law_on0011_01" 376, annotations := Option.none, code := Value.ref 169, closureTuple := Value.none, builtins := 0 }, slots := #[] }),
  (171, { cls := Value.type "tuple", data := Data.seq #[] }),
  (173, { cls := Value.type "tuple", data := Data.seq #[ks "name" 409] }),
  (174, { cls := Value.type "tuple", data := Data.seq #[] }),
  (176, { cls := Value.type "code", data := Data.fields #[ks "_law_call" 406, ks "_law_call" 407, ks "/claim/cut.py" 408, Value.int 133 0, Value.int 1 0, Value.int 0 0, Value.int 0 0, Value.int 3 0, Value.ref 171, Value.bool Bool.true, Value.int 181 0, Value.ref 172, Value.none, Value.ref 173, Value.ref 174, Value.ref 175, Value.int 410 0, Value.int 133 0, ks "/claim/cut.py" 411] }),
  (177, { cls := Value.type "function", dict := Option.none, data := Data.func { params := fArgs (fnAt 19), body := .stmts (fBody (fnAt 19)), scope := fScope (fnAt 19), name := Str.ofString "_law_call", qualname := Str.ofString "_law_call", globals := 3, closure := [], defaults := Value.none, kwdefaults := Value.none, doc := Value.none, pyModule := ks "law_on0011_01" 376, annotations := Option.none, code := Value.ref 176, closureTuple := Value.none, builtins := 0 }, slots := #[] }),
  (178, { cls := Value.type "tuple", data := Data.seq #[] }),
  (181, { cls := Value.type "code", data := Data.fields #[ks "_law_body" 413, ks "_law_body" 414, ks "/claim/cut.py" 415, Value.int 135 0, Value.int 3 0, Value.int 0 0, Value.int 0 0, Value.int 3 0, Value.ref 178, Value.bool Bool.true, Value.int 181 0, Value.ref 179, Value.none, Value.none, Value.none, Value.ref 180, Value.int 416 0, Value.int 135 0, ks "/claim/cut.py" 417] }),
  (182, { cls := Value.type "function", dict := Option.none, data := Data.func { params := fArgs (fnAt 20), body := .stmts (fBody (fnAt 20)), scope := fScope (fnAt 20), name := Str.ofString "_law_body", qualname := Str.ofString "_law_body", globals := 3, closure := [], defaults := Value.none, kwdefaults := Value.none, doc := Value.none, pyModule := ks "law_on0011_01" 376, annotations := Option.none, code := Value.ref 181, closureTuple := Value.none, builtins := 0 }, slots := #[] }),
  (183, { cls := Value.type "tuple", data := Data.seq #[] }),
  (185, { cls := Value.type "tuple", data := Data.seq #[ks "source" 422, ks "deep" 423, ks "labels" 424] }),
  (186, { cls := Value.type "tuple", data := Data.seq #[] }),
  (188, { cls := Value.type "code", data := Data.fields #[ks "_law_block" 419, ks "_law_block" 420, ks "/claim/cut.py" 421, Value.int 137 0, Value.int 3 0, Value.int 0 0, Value.int 0 0, Value.int 3 0, Value.ref 183, Value.bool Bool.true, Value.int 181 0, Value.ref 184, Value.none, Value.ref 185, Value.ref 186, Value.ref 187, Value.int 425 0, Value.int 137 0, ks "/claim/cut.py" 426] }),
  (189, { cls := Value.type "function", dict := Option.none, data := Data.func { params := fArgs (fnAt 21), body := .stmts (fBody (fnAt 21)), scope := fScope (fnAt 21), name := Str.ofString "_law_block", qualname := Str.ofString "_law_block", globals := 3, closure := [], defaults := Value.none, kwdefaults := Value.none, doc := Value.none, pyModule := ks "law_on0011_01" 376, annotations := Option.none, code := Value.ref 188, closureTuple := Value.none, builtins := 0 }, slots := #[] }),
  (190, { cls := Value.type "tuple", data := Data.seq #[] }),
  (192, { cls := Value.type "tuple", data := Data.seq #[ks "source" 431, ks "deep" 432, ks "labels" 433, ks "heads" 434, ks "can_fall" 435, ks "found" 436, ks "turn" 437, ks "body" 438] }),
  (193, { cls := Value.type "tuple", data := Data.seq #[] }),
  (195, { cls := Value.type "code", data := Data.fields #[ks "_law_cases" 428, ks "_law_cases" 429, ks "/claim/cut.py" 430, Value.int 139 0, Value.int 5 0, Value.int 0 0, Value.int 0 0, Value.int 3 0, Value.ref 190, Value.bool Bool.true, Value.int 181 0, Value.ref 191, Value.none, Value.ref 192, Value.ref 193, Value.ref 194, Value.int 439 0, Value.int 139 0, ks "/claim/cut.py" 440] }),
  (196, { cls := Value.type "function", dict := Option.none, data := Data.func { params := fArgs (fnAt 22), body := .stmts (fBody (fnAt 22)), scope := fScope (fnAt 22), name := Str.ofString "_law_cases", qualname := Str.ofString "_law_cases", globals := 3, closure := [], defaults := Value.none, kwdefaults := Value.none, doc := Value.none, pyModule := ks "law_on0011_01" 376, annotations := Option.none, code := Value.ref 195, closureTuple := Value.none, builtins := 0 }, slots := #[] }),
  (197, { cls := Value.type "tuple", data := Data.seq #[] }),
  (199, { cls := Value.type "tuple", data := Data.seq #[ks "source" 445, ks "deep" 446, ks "labels" 447, ks "label" 448, ks "within" 449, ks "way" 450, ks "yes" 451] }),
  (200, { cls := Value.type "tuple", data := Data.seq #[] }),
  (202, { cls := Value.type "code", data := Data.fields #[ks "_law_labelled" 442, ks "_law_labelled" 443, ks "/claim/cut.py" 444, Value.int 147 0, Value.int 3 0, Value.int 0 0, Value.int 0 0, Value.int 3 0, Value.ref 197, Value.bool Bool.true, Value.int 181 0, Value.ref 198, Value.none, Value.ref 199, Value.ref 200, Value.ref 201, Value.int 452 0, Value.int 147 0, ks "/claim/cut.py" 453] }),
  (203, { cls := Value.type "function", dict := Option.none, data := Data.func { params := fArgs (fnAt 23), body := .stmts (fBody (fnAt 23)), scope := fScope (fnAt 23), name := Str.ofString "_law_labelled", qualname := Str.ofString "_law_labelled", globals := 3, closure := [], defaults := Value.none, kwdefaults := Value.none, doc := Value.none, pyModule := ks "law_on0011_01" 376, annotations := Option.none, code := Value.ref 202, closureTuple := Value.none, builtins := 0 }, slots := #[] }),
  (204, { cls := Value.type "tuple", data := Data.seq #[] }),
  (206, { cls := Value.type "tuple", data := Data.seq #[ks "source" 458, ks "deep" 459, ks "labels" 460, ks "way" 461, ks "label" 462, ks "other" 463] }),
  (207, { cls := Value.type "tuple", data := Data.seq #[] }),
  (209, { cls := Value.type "code", data := Data.fields #[ks "_law_statement" 455, ks "_law_statement" 456, ks "/claim/cut.py" 457, Value.int 160 0, Value.int 3 0, Value.int 0 0, Value.int 0 0, Value.int 3 0, Value.ref 204, Value.bool Bool.true, Value.int 181 0, Value.ref 205, Value.none, Value.ref 206, Value.ref 207, Value.ref 208, Value.int 464 0, Value.int 160 0, ks "/claim/cut.py" 465] }),
  (210, { cls := Value.type "function", dict := Option.none, data := Data.func { params := fArgs (fnAt 24), body := .stmts (fBody (fnAt 24)), scope := fScope (fnAt 24), name := Str.ofString "_law_statement", qualname := Str.ofString "_law_statement", globals := 3, closure := [], defaults := Value.none, kwdefaults := Value.none, doc := Value.none, pyModule := ks "law_on0011_01" 376, annotations := Option.none, code := Value.ref 209, closureTuple := Value.none, builtins := 0 }, slots := #[] }),
  (211, { cls := Value.type "tuple", data := Data.seq #[] }),
  (214, { cls := Value.type "code", data := Data.fields #[ks "_law_parts" 467, ks "_law_parts" 468, ks "/claim/cut.py" 469, Value.int 175 0, Value.int 1 0, Value.int 0 0, Value.int 0 0, Value.int 3 0, Value.ref 211, Value.bool Bool.true, Value.int 181 0, Value.ref 212, Value.none, Value.none, Value.none, Value.ref 213, Value.int 470 0, Value.int 175 0, ks "/claim/cut.py" 471] }),
  (215, { cls := Value.type "function", dict := Option.none, data := Data.func { params := fArgs (fnAt 25), body := .stmts (fBody (fnAt 25)), scope := fScope (fnAt 25), name := Str.ofString "_law_parts", qualname := Str.ofString "_law_parts", globals := 3, closure := [], defaults := Value.none, kwdefaults := Value.none, doc := Value.none, pyModule := ks "law_on0011_01" 376, annotations := Option.none, code := Value.ref 214, closureTuple := Value.none, builtins := 0 }, slots := #[] }),
  (216, { cls := Value.type "tuple", data := Data.seq #[] }),
  (218, { cls := Value.type "tuple", data := Data.seq #[ks "rows" 476, ks "around" 477, ks "found" 478, ks "told" 479, ks "is_left" 480, ks "part" 481] }),
  (219, { cls := Value.type "tuple", data := Data.seq #[] }),
  (221, { cls := Value.type "code", data := Data.fields #[ks "_law_ways" 473, ks "_law_ways" 474, ks "/claim/cut.py" 475, Value.int 183 0, Value.int 2 0, Value.int 0 0, Value.int 0 0, Value.int 3 0, Value.ref 216, Value.bool Bool.true, Value.int 181 0, Value.ref 217, Value.none, Value.ref 218, Value.ref 219, Value.ref 220, Value.int 482 0, Value.int 183 0, ks "/claim/cut.py" 483] }),
  (222, { cls := Value.type "function", dict := Option.none, data := Data.func { params := fArgs (fnAt 26), body := .stmts (fBody (fnAt 26)), scope := fScope (fnAt 26), name := Str.ofString "_law_ways", qualname := Str.ofString "_law_ways", globals := 3, closure := [], defaults := Value.none, kwdefaults := Value.none, doc := Value.none, pyModule := ks "law_on0011_01" 376, annotations := Option.none, code := Value.ref 221, closureTuple := Value.none, builtins := 0 }, slots := #[] }),
  (223, { cls := Value.type "tuple", data := Data.seq #[] }),
  (225, { cls := Value.type "tuple", data := Data.seq #[ks "told" 488, ks "part" 489, ks "word" 490, ks "label" 491, ks "around" 492] }),
  (226, { cls := Value.type "tuple", data := Data.seq #[] }),
  (228, { cls := Value.type "code", data := Data.fields #[ks "_law_is_left" 485, ks "_law_is_left" 486, ks "/claim/cut.py" 487, Value.int 192 0, Value.int 1 0, Value.int 0 0, Value.int 0 0, Value.int 3 0, Value.ref 223, Value.bool Bool.true, Value.int 181 0, Value.ref 224, Value.none, Value.ref 225, Value.ref 226, Value.ref 227, Value.int 493 0, Value.int 192 0, ks "/claim/cut.py" 494] }),
  (229, { cls := Value.type "function", dict := Option.none, data := Data.func { params := fArgs (fnAt 27), body := .stmts (fBody (fnAt 27)), scope := fScope (fnAt 27), name := Str.ofString "_law_is_left", qualname := Str.ofString "_law_is_left", globals := 3, closure := [], defaults := Value.none, kwdefaults := Value.none, doc := Value.none, pyModule := ks "law_on0011_01" 376, annotations := Option.none, code := Value.ref 228, closureTuple := Value.none, builtins := 0 }, slots := #[] }),
  (230, { cls := Value.type "tuple", data := Data.seq #[] }),
  (233, { cls := Value.type "code", data := Data.fields #[ks "_law_ends" 496, ks "_law_ends" 497, ks "/claim/cut.py" 498, Value.int 198 0, Value.int 1 0, Value.int 0 0, Value.int 0 0, Value.int 3 0, Value.ref 230, Value.bool Bool.true, Value.int 181 0, Value.ref 231, Value.none, Value.none, Value.none, Value.ref 232, Value.int 499 0, Value.int 198 0, ks "/claim/cut.py" 500] }),
  (234, { cls := Value.type "function", dict := Option.none, data := Data.func { params := fArgs (fnAt 28), body := .stmts (fBody (fnAt 28)), scope := fScope (fnAt 28), name := Str.ofString "_law_ends", qualname := Str.ofString "_law_ends", globals := 3, closure := [], defaults := Value.none, kwdefaults := Value.none, doc := Value.none, pyModule := ks "law_on0011_01" 376, annotations := Option.none, code := Value.ref 233, closureTuple := Value.none, builtins := 0 }, slots := #[] }),
  (235, { cls := Value.type "tuple", data := Data.seq #[] }),
  (237, { cls := Value.type "tuple", data := Data.seq #[ks "rows" 505, ks "found" 506, ks "told" 507, ks "part" 508] }),
  (238, { cls := Value.type "tuple", data := Data.seq #[] }),
  (240, { cls := Value.type "code", data := Data.fields #[ks "_law_labels" 502, ks "_law_labels" 503, ks "/claim/cut.py" 504, Value.int 214 0, Value.int 1 0, Value.int 0 0, Value.int 0 0, Value.int 3 0, Value.ref 235, Value.bool Bool.true, Value.int 181 0, Value.ref 236, Value.none, Value.ref 237, Value.ref 238, Value.ref 239, Value.int 509 0, Value.int 214 0, ks "/claim/cut.py" 510] }),
  (241, { cls := Value.type "function", dict := Option.none, data := Data.func { params := fArgs (fnAt 29), body := .stmts (fBody (fnAt 29)), scope := fScope (fnAt 29), name := Str.ofString "_law_labels", qualname := Str.ofString "_law_labels", globals := 3, closure := [], defaults := Value.none, kwdefaults := Value.none, doc := Value.none, pyModule := ks "law_on0011_01" 376, annotations := Option.none, code := Value.ref 240, closureTuple := Value.none, builtins := 0 }, slots := #[] }),
  (242, { cls := Value.type "tuple", data := Data.seq #[] }),
  (245, { cls := Value.type "code", data := Data.fields #[ks "_law_labels_right" 512, ks "_law_labels_right" 513, ks "/claim/cut.py" 514, Value.int 222 0, Value.int 1 0, Value.int 0 0, Value.int 0 0, Value.int 3 0, Value.ref 242, Value.bool Bool.true, Value.int 181 0, Value.ref 243, Value.none, Value.none, Value.none, Value.ref 244, Value.int 515 0, Value.int 222 0, ks "/claim/cut.py" 516] }),
  (246, { cls := Value.type "function", dict := Option.none, data := Data.func { params := fArgs (fnAt 30), body := .stmts (fBody (fnAt 30)), scope := fScope (fnAt 30), name := Str.ofString "_law_labels_right", qualname := Str.ofString "_law_labels_right", globals := 3, closure := [], defaults := Value.none, kwdefaults := Value.none, doc := Value.none, pyModule := ks "law_on0011_01" 376, annotations := Option.none, code := Value.ref 245, closureTuple := Value.none, builtins := 0 }, slots := #[] }),
  (247, { cls := Value.type "tuple", data := Data.seq #[] }),
  (249, { cls := Value.type "tuple", data := Data.seq #[ks "rows" 521] }),
  (250, { cls := Value.type "tuple", data := Data.seq #[] }),
  (252, { cls := Value.type "code", data := Data.fields #[ks "_law_is_let" 518, ks "_law_is_let" 519, ks "/claim/cut.py" 520, Value.int 230 0, Value.int 1 0, Value.int 0 0, Value.int 0 0, Value.int 3 0, Value.ref 247, Value.bool Bool.true, Value.int 181 0, Value.ref 248, Value.none, Value.ref 249, Value.ref 250, Value.ref 251, Value.int 522 0, Value.int 230 0, ks "/claim/cut.py" 523] }),
  (253, { cls := Value.type "function", dict := Option.none, data := Data.func { params := fArgs (fnAt 31), body := .stmts (fBody (fnAt 31)), scope := fScope (fnAt 31), name := Str.ofString "_law_is_let", qualname := Str.ofString "_law_is_let", globals := 3, closure := [], defaults := Value.none, kwdefaults := Value.none, doc := Value.none, pyModule := ks "law_on0011_01" 376, annotations := Option.none, code := Value.ref 252, closureTuple := Value.none, builtins := 0 }, slots := #[] }),
  (254, { cls := Value.type "tuple", data := Data.seq #[] }),
  (257, { cls := Value.type "code", data := Data.fields #[ks "law" 525, ks "law" 526, ks "/claim/cut.py" 527, Value.int 236 0, Value.int 1 0, Value.int 0 0, Value.int 0 0, Value.int 3 0, Value.ref 254, Value.bool Bool.true, Value.int 181 0, Value.ref 255, Value.none, Value.none, Value.none, Value.ref 256, Value.int 528 0, Value.int 236 0, ks "/claim/cut.py" 529] }),
  (258, { cls := Value.type "function", dict := Option.none, data := Data.func { params := fArgs (fnAt 32), body := .stmts (fBody (fnAt 32)), scope := fScope (fnAt 32), name := Str.ofString "law", qualname := Str.ofString "law", globals := 3, closure := [], defaults := Value.none, kwdefaults := Value.none, doc := Value.none, pyModule := ks "law_on0011_01" 376, annotations := Option.none, code := Value.ref 257, closureTuple := Value.none, builtins := 0 }, slots := #[] })]
noncomputable def heapAs : List Nat := [2, 3, 15, 22, 23, 25, 26, 28, 29, 30, 31, 32, 33, 36, 43, 44, 45, 48, 49, 50, 52, 53, 55, 56, 57, 60, 61, 62, 63, 65, 66, 68, 69, 70, 72, 73, 75, 76, 77, 79, 80, 82, 83, 84, 87, 88, 89, 91, 92, 94, 95, 103, 105, 106, 108, 109, 110, 112, 113, 115, 116, 117, 119, 120, 122, 123, 124, 127, 128, 129, 131, 132, 134, 135, 136, 137, 138, 139, 140, 143, 145, 146, 148, 149, 150, 152, 153, 155, 156, 157, 159, 160, 162, 163, 164, 166, 167, 169, 170, 171, 173, 174, 176, 177, 178, 181, 182, 183, 185, 186, 188, 189, 190, 192, 193, 195, 196, 197, 199, 200, 202, 203, 204, 206, 207, 209, 210, 211, 214, 215, 216, 218, 219, 221, 222, 223, 225, 226, 228, 229, 230, 233, 234, 235, 237, 238, 240, 241, 242, 245, 246, 247, 249, 250, 252, 253, 254, 257, 258]
end Mine
namespace Mine
/-- the words of what is drawn -/
noncomputable abbrev Lab := Option (Fin 4)
noncomputable def labStr (i : Fin 4) : Str := match i with
  | 0 => "M" | 1 => "L1" | 2 => "L2" | 3 => "L3"
noncomputable def encL : Lab → PyData
  | none => .none
  | some i => .str (labStr i)
inductive Sw where
  | switch | typeswitch | choose
mutual
inductive St where
  | ret | fall
  | call (panic : Bool)
  | brk (l : Lab)
  | cont (l : Lab)
  | block (b : Sts)
  | if1 (b : Sts)
  | if2 (b o : Sts)
  | forr (l : Lab) (c : Bool) (b : Sts)
  | range (l : Lab) (b : Sts)
  | sw (k : Sw) (l : Lab) (cs : Cs)
inductive Sts where
  | nil
  | cons (s : St) (r : Sts)
inductive Cs where
  | nil
  | cons (dflt : Bool) (b : Sts) (r : Cs)
end
noncomputable def yes : PyData := .tuple [.str "name", .int 0, .str "x"]
noncomputable def encCall (p : Bool) : PyData := .tuple [.str "expr", .int 0, .tuple [.str "call", .int 0, .tuple [.str "name", .int 0, .str (if p then "panic" else "f")], .tuple [], .bool false]]
noncomputable def swHead : Sw → PyData
  | .switch => .tuple [yes]
  | .typeswitch => .tuple [.none]
  | .choose => .tuple [.str "send", .int 0, yes, yes]
mutual
noncomputable def enc : St → PyData
  | .ret => .tuple [.str "return", .int 0, .tuple []]
  | .fall => .tuple [.str "fallthrough", .int 0]
  | .call p => encCall p
  | .brk l => .tuple [.str "break", .int 0, encL l]
  | .cont l => .tuple [.str "continue", .int 0, encL l]
  | .block b => .tuple [.str "block", .int 0, .tuple (encs b)]
  | .if1 b => .tuple [.str "if", .int 0, .none, yes, .tuple [.str "block", .int 0, .tuple (encs b)], .none]
  | .if2 b o => .tuple [.str "if", .int 0, .none, yes, .tuple [.str "block", .int 0, .tuple (encs b)], .tuple [.str "block", .int 0, .tuple (encs o)]]
  | .forr l c b => .tuple [.str "for", .int 0, encL l, .none, (if c then yes else .none), .none, .tuple [.str "block", .int 0, .tuple (encs b)]]
  | .range l b => .tuple [.str "range", .int 0, encL l, .tuple [], .bool false, yes, .tuple [.str "block", .int 0, .tuple (encs b)]]
  | .sw .switch l cs => .tuple [.str "switch", .int 0, encL l, .none, yes, .tuple (encCs .switch cs)]
  | .sw .typeswitch l cs => .tuple [.str "typeswitch", .int 0, encL l, .none, .none, yes, .tuple (encCs .typeswitch cs)]
  | .sw .choose l cs => .tuple [.str "choose", .int 0, encL l, .tuple (encCs .choose cs)]
noncomputable def encs : Sts → List PyData
  | .nil => []
  | .cons s r => enc s :: encs r
noncomputable def encCs (k : Sw) : Cs → List PyData
  | .nil => []
  | .cons d b r => .tuple [(if d then .none else swHead k), .tuple (encs b)] :: encCs k r
end
end Mine
namespace Mine

/-- the ghost store of frozen sequences: true = tuple, false = list -/
noncomputable abbrev Frz := Addr → Option (Bool × List Value)
noncomputable def Frz.le (Φ Ψ : Frz) : Prop := ∀ a x, Φ a = some x → Ψ a = some x
theorem Frz.le.refl (Φ : Frz) : Φ.le Φ := fun _ _ h => h
theorem Frz.le.trans {a b c : Frz} (h : a.le b) (k : b.le c) : a.le c := fun x y e => k x y (h x y e)

mutual
noncomputable def R (Φ : Frz) : PyData → Value → Prop
  | .none, v => v = .none
  | .bool b, v => v = .bool b
  | .int i, v => ∃ t, v = .int i t
  | .str x, v => ∃ t, v = .str x t
  | .tuple l, v => ∃ a vs, v = .ref a ∧ Φ a = some (true, vs) ∧ Rs Φ l vs
  | .list l, v => ∃ a vs, v = .ref a ∧ Φ a = some (false, vs) ∧ Rs Φ l vs
  | .dict _, _ => False
noncomputable def Rs (Φ : Frz) : List PyData → List Value → Prop
  | [], vs => vs = []
  | d :: l, vs => ∃ v ws, vs = v :: ws ∧ R Φ d v ∧ Rs Φ l ws
end
mutual
theorem R.mono {Φ Ψ : Frz} (h : Φ.le Ψ) : ∀ {d : PyData} {v : Value}, R Φ d v → R Ψ d v
  | .none, _, e => by simpa only [R] using e
  | .bool _, _, e => by simpa only [R] using e
  | .int _, _, e => by simpa only [R] using e
  | .str _, _, e => by simpa only [R] using e
  | .tuple l, _, e => by
    simp only [R] at e ⊢
    obtain ⟨a, vs, e1, e2, e3⟩ := e
    exact ⟨a, vs, e1, h _ _ e2, Rs.mono h e3⟩
  | .list l, _, e => by
    simp only [R] at e ⊢
    obtain ⟨a, vs, e1, e2, e3⟩ := e
    exact ⟨a, vs, e1, h _ _ e2, Rs.mono h e3⟩
  | .dict _, _, e => by simp only [R] at e
theorem Rs.mono {Φ Ψ : Frz} (h : Φ.le Ψ) : ∀ {d : List PyData} {v : List Value}, Rs Φ d v → Rs Ψ d v
  | [], _, e => by simpa only [Rs] using e
  | d :: l, _, e => by
    simp only [Rs] at e ⊢
    obtain ⟨v, ws, e1, e2, e3⟩ := e
    exact ⟨v, ws, e1, R.mono h e2, Rs.mono h e3⟩
end
theorem Rs.length {Φ : Frz} : ∀ {ds : List PyData} {vs : List Value}, Rs Φ ds vs → vs.length = ds.length
  | [], _, e => by simp only [Rs] at e; subst e; rfl
  | d :: l, _, e => by
    simp only [Rs] at e
    obtain ⟨v, ws, rfl, _, e3⟩ := e
    simp [Rs.length e3]
theorem Rs.get {Φ : Frz} : ∀ {ds : List PyData} {vs : List Value} {i : Nat} {d : PyData}, Rs Φ ds vs → ds[i]? = some d → ∃ v, vs[i]? = some v ∧ R Φ d v
  | [], _, _, _, _, h => by simp at h
  | e :: l, _, i, d, r, h => by
    simp only [Rs] at r
    obtain ⟨v, ws, rfl, r2, r3⟩ := r
    cases i with
    | zero => simp at h; subst h; exact ⟨v, rfl, r2⟩
    | succ i =>
      have q := Rs.get (i := i) r3 (by simpa using h)
      simpa using q
theorem Rs.get' {Φ : Frz} : ∀ {ds : List PyData} {vs : List Value} {i : Nat} {v : Value}, Rs Φ ds vs → vs[i]? = some v → ∃ d, ds[i]? = some d ∧ R Φ d v
  | [], _, _, _, r, h => by simp only [Rs] at r; subst r; simp at h
  | e :: l, _, i, w, r, h => by
    simp only [Rs] at r
    obtain ⟨v, ws, rfl, r2, r3⟩ := r
    cases i with
    | zero => simp at h; subst h; exact ⟨e, rfl, r2⟩
    | succ i =>
      have q := Rs.get' (i := i) r3 (by simpa using h)
      simpa using q
theorem Rs.append {Φ : Frz} : ∀ {ds es : List PyData} {vs ws : List Value}, Rs Φ ds vs → Rs Φ es ws → Rs Φ (ds ++ es) (vs ++ ws)
  | [], _, _, _, r, k => by simp only [Rs] at r; subst r; exact k
  | d :: l, _, _, _, r, k => by
    simp only [Rs] at r
    obtain ⟨v, us, rfl, r2, r3⟩ := r
    simp only [List.cons_append, Rs]
    exact ⟨v, _, rfl, r2, Rs.append r3 k⟩
theorem Rs.nil {Φ : Frz} : Rs Φ [] [] := by simp only [Rs]
theorem Rs.cons {Φ : Frz} {d : PyData} {ds : List PyData} {v : Value} {vs : List Value} (h : R Φ d v) (k : Rs Φ ds vs) : Rs Φ (d :: ds) (v :: vs) := by
  simp only [Rs]; exact ⟨v, vs, rfl, h, k⟩
theorem Rs.one {Φ : Frz} {d : PyData} {v : Value} (h : R Φ d v) : Rs Φ [d] [v] := Rs.cons h Rs.nil
noncomputable def tyOf (b : Bool) : Value := .type (if b then "tuple" else "list")
/-- the heap bears the frozen store -/
noncomputable def FrzOk (Φ : Frz) (h : Heap) : Prop := ∀ a b vs, Φ a = some (b, vs) → ∃ n, h.get? a = some { cls := tyOf b, data := .seq vs.toArray n }

mutual
theorem R.reads {Φ : Frz} {h : Heap} (k : FrzOk Φ h) : ∀ {d : PyData} {v : Value}, R Φ d v → ∃ as, Reads h v d as
  | .none, _, e => by simp only [R] at e; subst e; exact ⟨_, .none⟩
  | .bool _, _, e => by simp only [R] at e; subst e; exact ⟨_, .bool _⟩
  | .int _, _, e => by simp only [R] at e; obtain ⟨t, rfl⟩ := e; exact ⟨_, .int _ _⟩
  | .str _, _, e => by simp only [R] at e; obtain ⟨t, rfl⟩ := e; exact ⟨_, .str _ _⟩
  | .tuple l, _, e => by
    simp only [R] at e
    obtain ⟨a, vs, rfl, e2, e3⟩ := e
    obtain ⟨n, h1⟩ := k _ _ _ e2
    obtain ⟨as, q⟩ := Rs.reads k e3
    exact ⟨_, .tuple h1 rfl rfl (by simpa using q)⟩
  | .list l, _, e => by
    simp only [R] at e
    obtain ⟨a, vs, rfl, e2, e3⟩ := e
    obtain ⟨n, h1⟩ := k _ _ _ e2
    obtain ⟨as, q⟩ := Rs.reads k e3
    exact ⟨_, .list h1 rfl rfl (by simpa using q)⟩
  | .dict _, _, e => by simp only [R] at e
theorem Rs.reads {Φ : Frz} {h : Heap} (k : FrzOk Φ h) : ∀ {d : List PyData} {v : List Value}, Rs Φ d v → ∃ as, ReadsAll h v d as
  | [], _, e => by simp only [Rs] at e; subst e; exact ⟨_, .nil⟩
  | d :: l, _, e => by
    simp only [Rs] at e
    obtain ⟨v, ws, rfl, e2, e3⟩ := e
    obtain ⟨as, q⟩ := R.reads k e2
    obtain ⟨bs, r⟩ := Rs.reads k e3
    exact ⟨_, .cons q r⟩
end

/-- what a name holds: data, or a value as it is -/
inductive AV where
  | d (x : PyData)
  | v (x : Value)
noncomputable def RA (Φ : Frz) : AV → Value → Prop
  | .d x, v => R Φ x v
  | .v x, v => v = x
theorem RA.mono {Φ Ψ : Frz} (h : Φ.le Ψ) {d : AV} {v : Value} (r : RA Φ d v) : RA Ψ d v := by
  cases d with
  | d x => exact R.mono h r
  | v x => exact r

theorem ra_d {Φ : Frz} {x : PyData} {v : Value} (h : R Φ x v) : RA Φ (.d x) v := h
theorem ra_v {Φ : Frz} (x : Value) : RA Φ (.v x) x := rfl
theorem ra_v' {Φ : Frz} {x v : Value} (h : RA Φ (.v x) v) : v = x := h
theorem ra_int {Φ : Frz} (i : Int) (t : Tok) : RA Φ (.d (.int i)) (.int i t) := by show R _ _ _; simp only [R]; exact ⟨_, rfl⟩
theorem ra_str {Φ : Frz} (i : Str) (t : Tok) : RA Φ (.d (.str i)) (.str i t) := by show R _ _ _; simp only [R]; exact ⟨_, rfl⟩
theorem ra_bool {Φ : Frz} (b : Bool) : RA Φ (.d (.bool b)) (.bool b) := by show R _ _ _; simp only [R]
theorem ra_none {Φ : Frz} : RA Φ (.d .none) .none := by show R _ _ _; simp only [R]
theorem ra_tup {Φ : Frz} {a : Addr} {vs : List Value} {ds : List PyData} (h : Φ a = some (true, vs)) (k : Rs Φ ds vs) : RA Φ (.d (.tuple ds)) (.ref a) := by show R _ _ _; simp only [R]; exact ⟨_, _, rfl, h, k⟩
theorem ra_lst {Φ : Frz} {a : Addr} {vs : List Value} {ds : List PyData} (h : Φ a = some (false, vs)) (k : Rs Φ ds vs) : RA Φ (.d (.list ds)) (.ref a) := by show R _ _ _; simp only [R]; exact ⟨_, _, rfl, h, k⟩
theorem ra_int' {Φ : Frz} {i : Int} {v : Value} (h : RA Φ (.d (.int i)) v) : ∃ t, v = .int i t := by have h : R _ _ _ := h; simpa only [R] using h
theorem ra_str' {Φ : Frz} {i : Str} {v : Value} (h : RA Φ (.d (.str i)) v) : ∃ t, v = .str i t := by have h : R _ _ _ := h; simpa only [R] using h
theorem ra_bool' {Φ : Frz} {i : Bool} {v : Value} (h : RA Φ (.d (.bool i)) v) : v = .bool i := by have h : R _ _ _ := h; simpa only [R] using h
theorem ra_none' {Φ : Frz} {v : Value} (h : RA Φ (.d .none) v) : v = .none := by have h : R _ _ _ := h; simpa only [R] using h
theorem ra_tup' {Φ : Frz} {ds : List PyData} {v : Value} (h : RA Φ (.d (.tuple ds)) v) : ∃ a vs, v = .ref a ∧ Φ a = some (true, vs) ∧ Rs Φ ds vs := by have h : R _ _ _ := h; simpa only [R] using h
theorem ra_lst' {Φ : Frz} {ds : List PyData} {v : Value} (h : RA Φ (.d (.list ds)) v) : ∃ a vs, v = .ref a ∧ Φ a = some (false, vs) ∧ Rs Φ ds vs := by have h : R _ _ _ := h; simpa only [R] using h

/-- mutable objects -/
inductive MO where
  | list (ds : List PyData)
  | dict (es : List (Str × PyData))
  | attrs (es : List (Str × AV))
  | raw (o : Obj)
  | listP (ds : List PyData) (o : Obj)
  | dictP (es : List (Str × PyData)) (o : Obj)
/-- an object that stands just so -/
noncomputable def pinOf : MO → Option Obj
  | .raw o => some o
  | .listP _ o => some o
  | .dictP _ o => some o
  | _ => none
noncomputable def KvR (Φ : Frz) : List (Str × PyData) → List (Str × Value) → Prop
  | [], es => es = []
  | (x, d) :: r, es => ∃ v rest, es = (x, v) :: rest ∧ R Φ d v ∧ KvR Φ r rest
theorem KvR.mono {Φ Ψ : Frz} (h : Φ.le Ψ) : ∀ {ds : List (Str × PyData)} {es : List (Str × Value)}, KvR Φ ds es → KvR Ψ ds es
  | [], _, e => e
  | (x, d) :: r, _, e => by
    obtain ⟨v, rest, rfl, e2, e3⟩ := e
    exact ⟨v, rest, rfl, R.mono h e2, KvR.mono h e3⟩
noncomputable def KvA (Φ : Frz) : List (Str × AV) → List (Str × Value) → Prop
  | [], es => es = []
  | (x, d) :: r, es => ∃ v rest, es = (x, v) :: rest ∧ RA Φ d v ∧ KvA Φ r rest
theorem KvA.mono {Φ Ψ : Frz} (h : Φ.le Ψ) : ∀ {ds : List (Str × AV)} {es : List (Str × Value)}, KvA Φ ds es → KvA Ψ ds es
  | [], _, e => e
  | (x, d) :: r, _, e => by
    obtain ⟨v, rest, rfl, e2, e3⟩ := e
    exact ⟨v, rest, rfl, e2.mono h, KvA.mono h e3⟩
noncomputable abbrev PW := Program × World
noncomputable def MOk (w : PW) (Φ : Frz) : MO → Obj → Prop
  | .list ds, o => ∃ vs n, o = { cls := .type "list", data := .seq vs.toArray n } ∧ Rs Φ ds vs
  | .dict es, o => ∃ kvs, o.IsDictOf (strKind w.1 w.2) kvs ∧ KvR Φ es kvs
  | .attrs es, o => ∃ kvs, o.IsDictOf (strKind w.1 w.2) kvs ∧ KvA Φ es kvs
  | .raw o', o => o = o' ∧ (∀ vs, o'.data ≠ .fields vs) ∧ (∀ v, o'.data ≠ .cell v) ∧ o'.cls ≠ .type "frame"
  | .listP ds o', o => o = o' ∧ ∃ vs n, o = { cls := .type "list", data := .seq vs.toArray n } ∧ Rs Φ ds vs
  | .dictP es o', o => o = o' ∧ ∃ kvs, o.IsDictOf (strKind w.1 w.2) kvs ∧ KvR Φ es kvs
theorem MOk.pinned {w : PW} {Φ : Frz} {m : MO} {o o' : Obj} (k : MOk w Φ m o) (e : pinOf m = some o') : o = o' := by
  cases m with
  | raw x => cases e; exact k.1
  | listP ds x => cases e; exact k.1
  | dictP ds x => cases e; exact k.1
  | _ => cases e
theorem MOk.mono {w : PW} {Φ Ψ : Frz} (h : Φ.le Ψ) {m : MO} {o : Obj} (k : MOk w Φ m o) : MOk w Ψ m o := by
  cases m with
  | list ds => obtain ⟨vs, n, b, c⟩ := k; exact ⟨vs, n, b, Rs.mono h c⟩
  | dict es => obtain ⟨kvs, b, c⟩ := k; exact ⟨kvs, b, c.mono h⟩
  | attrs es => obtain ⟨kvs, b, c⟩ := k; exact ⟨kvs, b, c.mono h⟩
  | raw o' => exact k
  | listP ds o' => obtain ⟨e, vs, n, b, c⟩ := k; exact ⟨e, vs, n, b, Rs.mono h c⟩
  | dictP es o' => obtain ⟨e, kvs, b, c⟩ := k; exact ⟨e, kvs, b, c.mono h⟩
theorem MOk.cls {w : PW} {Φ : Frz} {m : MO} {o : Obj} (k : MOk w Φ m o) : o.cls ≠ .type "frame" := by
  cases m with
  | list ds => obtain ⟨vs, n, rfl, c⟩ := k; simp
  | dict es => obtain ⟨kvs, ⟨_, _, b, _⟩, c⟩ := k; rw [b.1]; simp
  | attrs es => obtain ⟨kvs, ⟨_, _, b, _⟩, c⟩ := k; rw [b.1]; simp
  | raw o' => obtain ⟨rfl, _, _, c⟩ := k; exact c
  | listP ds o' => obtain ⟨_, vs, n, rfl, c⟩ := k; simp
  | dictP es o' => obtain ⟨_, kvs, ⟨_, _, b, _⟩, c⟩ := k; rw [b.1]; simp
theorem MOk.slots {w : PW} {Φ : Frz} {m : MO} {o : Obj} (k : MOk w Φ m o) (sl : Array (Option Value)) (h : o.cls ≠ .type "frame" → sl = o.slots) : MOk w Φ m { o with slots := sl } := by
  rw [h k.cls]; exact k
theorem MOk.plain {w : PW} {Φ : Frz} {m : MO} {o : Obj} (k : MOk w Φ m o) : ∀ vs, o.data ≠ .fields vs := by
  intro vs e
  cases m with
  | list ds => obtain ⟨_, _, rfl, _⟩ := k; cases e
  | dict es => obtain ⟨_, ⟨_, _, _, b, _⟩, _⟩ := k; rw [b] at e; cases e
  | attrs es => obtain ⟨_, ⟨_, _, _, b, _⟩, _⟩ := k; rw [b] at e; cases e
  | raw o' => obtain ⟨rfl, c, _⟩ := k; exact c vs e
  | listP ds o' => obtain ⟨_, _, _, rfl, _⟩ := k; cases e
  | dictP es o' => obtain ⟨_, _, ⟨_, _, _, b, _⟩, _⟩ := k; rw [b] at e; cases e
theorem MOk.noCell {w : PW} {Φ : Frz} {m : MO} {o : Obj} (k : MOk w Φ m o) : ∀ v, o.data ≠ .cell v := by
  intro vs e
  cases m with
  | list ds => obtain ⟨_, _, rfl, _⟩ := k; cases e
  | dict es => obtain ⟨_, ⟨_, _, _, b, _⟩, _⟩ := k; rw [b] at e; cases e
  | attrs es => obtain ⟨_, ⟨_, _, _, b, _⟩, _⟩ := k; rw [b] at e; cases e
  | raw o' => obtain ⟨rfl, _, c, _⟩ := k; exact c vs e
  | listP ds o' => obtain ⟨_, _, _, rfl, _⟩ := k; cases e
  | dictP es o' => obtain ⟨_, _, ⟨_, _, _, b, _⟩, _⟩ := k; rw [b] at e; cases e
noncomputable abbrev Mu := List (Addr × MO)
noncomputable def MuOk (w : PW) (h₀ : Heap) (Φ : Frz) (μ : Mu) (h : Heap) : Prop :=
  (μ.map (·.1)).Nodup ∧ ∀ p ∈ μ, (∃ o, h.get? p.1 = some o ∧ MOk w Φ p.2 o) ∧ (h₀.get? p.1 = none ∧ (p.1 == sysModules) = false) ∧ Φ p.1 = none

/-- all stands, but for the slots of dicts (frames) and the places in S -/
noncomputable def Keep (S : Addr → Prop) (h h' : Heap) : Prop := ∀ a o, h.get? a = some o → ¬ S a → ∃ sl, h'.get? a = some { o with slots := sl } ∧ (o.cls ≠ .type "frame" → sl = o.slots)
theorem Keep.refl (S : Addr → Prop) (h : Heap) : Keep S h h := fun _ o e _ => ⟨o.slots, e, fun _ => rfl⟩
theorem Keep.mono {S T : Addr → Prop} {a b : Heap} (h : Keep S a b) (st : ∀ x, S x → T x) : Keep T a b := fun x o e s => h x o e fun q => s (st _ q)
theorem Keep.of_keeps {S : Addr → Prop} {h h' : Heap} (k : ∀ b o, h.get? b = some o → h'.get? b = some o) : Keep S h h' := fun a o e _ => ⟨o.slots, k a o e, fun _ => rfl⟩
theorem Keep.of_keepsBut {S : Addr → Prop} {h h' : Heap} (k : ∀ b o, ¬ S b → h.get? b = some o → h'.get? b = some o) : Keep S h h' := fun a o e s => ⟨o.slots, k a o s e, fun _ => rfl⟩
theorem Keep.exact {S : Addr → Prop} {h h' : Heap} (k : Keep S h h') {a : Addr} {o : Obj} (e : h.get? a = some o) (s : ¬ S a) (n : o.cls ≠ .type "frame") : h'.get? a = some o := by
  obtain ⟨sl, e1, n1⟩ := k a o e s
  rw [e1, n1 n]
theorem FrzOk.keep {Φ : Frz} {S : Addr → Prop} {h h' : Heap} (x : FrzOk Φ h) (k : Keep S h h') (hs : ∀ a, S a → Φ a = none) : FrzOk Φ h' := fun a b vs e => by
  obtain ⟨n, h1⟩ := x a b vs e
  exact ⟨n, k.exact h1 (fun q => by rw [hs a q] at e; cases e) (by cases b <;> simp [tyOf])⟩
theorem ns_keep {S : Addr → Prop} {h h' : Heap} {L : Addr} {m : Str → Option Value} (n : h.Ns L m) (k : Keep S h h') (hs : ¬ S L) : h'.Ns L m := by
  obtain ⟨o, es, ep, e, d, r⟩ := n
  obtain ⟨sl, e', _⟩ := k L o e hs
  exact ⟨_, es, ep, e', d, r⟩
theorem cell_keep {S : Addr → Prop} {h h' : Heap} {c : Addr} {v : Option Value} (n : h.IsCell c v) (k : Keep S h h') (hs : ¬ S c) : h'.IsCell c v := by
  obtain ⟨o, e, d⟩ := n
  obtain ⟨sl, e', _⟩ := k c o e hs
  exact ⟨_, e', d⟩
theorem funFrames_gen {bs bs' h h' : Heap} {l : List Env} (k : ∀ b ∈ l.filterMap (·.frame), bs.get? b = none → ∀ o, h.get? b = some o → (∀ vs, o.data ≠ .fields vs) → bs'.get? b = none ∧ ∃ o', h'.get? b = some o' ∧ ∀ vs, o'.data ≠ .fields vs) (x : h.FunFrames bs l) : h'.FunFrames bs' l := by
  induction l with
  | nil => trivial
  | cons env r ih =>
    obtain ⟨hk, ⟨L, o, hf, hn, ho, hd⟩, hr⟩ := x
    have e : (env :: r).filterMap (·.frame) = L :: r.filterMap (·.frame) := by rw [List.filterMap_cons, hf]
    obtain ⟨hn', o', ho', hd'⟩ := k L (by rw [e]; exact .head _) hn o ho hd
    exact ⟨hk, ⟨L, o', hf, hn', ho', hd'⟩, ih (fun b m => k b (by rw [e]; exact .tail _ m)) hr⟩
theorem funFrames_keep {S : Addr → Prop} {base h h' : Heap} (k : Keep S h h') (hm : ∀ a, S a → ∃ o, h'.get? a = some o ∧ ∀ vs, o.data ≠ .fields vs) {l : List Env} (x : h.FunFrames base l) : h'.FunFrames base l :=
  funFrames_gen (fun b _ n o e d => ⟨n, by
    by_cases s : S b
    · exact hm b s
    · obtain ⟨sl, e, _⟩ := k b o e s; exact ⟨_, e, d⟩⟩) x
set_option genInjectivity false in
set_option genSizeOf false in
/-- the ground: what the top left -/
structure Gd where
  prog : Program
  w : World
  p : Program
  loose : List Str
  mean : ExcName → Option Value
  mg : Str → Option Value
  mb : Str → Option Value
  h₀ : Heap
  bs : Heap
  sub : ∀ b o, bs.get? b = some o → h₀.get? b = some o
  gn : Array GenState
  dr : Drawn
  os : OsState
  X : Frag.In (Mine.heap39 w.params) h₀
  T : Top p loose mean mg mb h₀
theorem Gd.bsNone (g : Gd) {a : Addr} (h : g.h₀.get? a = none) : g.bs.get? a = none := by
  cases q : g.bs.get? a with
  | none => rfl
  | some o => have := g.sub a o q; rw [h] at this; cases this
noncomputable def Gd.pw (g : Gd) : PW := (g.prog, g.w)
noncomputable def Gd.K (g : Gd) : Frag := Mine.heap39 g.w.params
set_option genInjectivity false in
set_option genSizeOf false in
/-- a running body -/
structure Cx where
  g : Gd
  A : Around
  env : Env
  room : Nat
  ro : Bool
  E : Value → Shared → Prop
noncomputable abbrev Rho := List (Str × AV)
noncomputable def look (ρ : Rho) (x : Str) : Option AV := match ρ with
  | [] => none
  | (y, a) :: r => if y = x then some a else look r x
/-- where a name's value lies -/
noncomputable def At (env : Env) (h : Heap) (x : Str) (v : Value) : Prop := (x == ("__debug__" : Str)) = false ∧ (x == ("__classdict__" : Str)) = false ∧
  match env.kindOf x with
  | some .local => ∃ m, h.Ns env.locals m ∧ m x = some v
  | some .cell => ∃ c, env.cells.lookup x = some c ∧ h.IsCell c (some v)
  | some .free => ∃ c, env.cells.lookup x = some c ∧ h.IsCell c (some v)
  | _ => False

set_option genInjectivity false in
set_option genSizeOf false in
structure CxOk (c : Cx) : Prop where
  hh : c.A.handled = none
  kind : c.env.scope.kind = .function
  glob : c.env.globals = mainGlobals
  blt : c.env.builtins = builtinsNs
  depth : c.A.depth + c.room < recursionLimit
  units : c.A.units + 8 * c.room + 200 < cLine
  apart : ∀ x y a, c.env.cells.lookup x = some a → c.env.cells.lookup y = some a → x = y
  pass : PassesOwn (model c.g.prog c.g.w) c.A c.env c.E
  frames : ∃ l, c.A.frames = some (l : List Env)

set_option genInjectivity false in
set_option genSizeOf false in
structure Inv (c : Cx) (Φ : Frz) (μ : Mu) (ρ : Rho) (s : Shared) : Prop where
  ok : CxOk c
  old : ∀ b o, c.g.h₀.get? b = some o → s.heap.get? b = some o
  ns : ∃ m, s.heap.Ns c.env.locals m
  above : c.g.h₀.objs.size ≤ c.env.locals
  cells : ∀ x a, c.env.cells.lookup x = some a → (∃ v, s.heap.IsCell a v) ∧ c.g.h₀.get? a = none
  vars : ∀ x a, look ρ x = some a → ∃ v, At c.env s.heap x v ∧ RA Φ a v
  frz : FrzOk Φ s.heap
  mu : MuOk c.g.pw c.g.h₀ Φ μ s.heap
  muOff : ∀ p ∈ μ, p.1 ≠ c.env.locals
  ff : ∀ l, c.A.frames = some l → s.heap.FunFrames c.g.bs l
  still : s.gens = c.g.gn ∧ s.drawn = c.g.dr ∧ s.os = c.g.os

theorem At.keep {env : Env} {S : Addr → Prop} {h h' : Heap} {x : Str} {v : Value} (r : At env h x v) (k : Keep S h h') (hl : ¬ S env.locals) (hc : ∀ y a, env.cells.lookup y = some a → ¬ S a) : At env h' x v := by
  obtain ⟨d1, d2, r⟩ := r
  refine ⟨d1, d2, ?_⟩
  cases e : env.kindOf x with
  | none => rw [e] at r; exact r
  | some kd =>
    rw [e] at r
    cases kd <;> first | exact r | skip
    · obtain ⟨m, a, b⟩ := r; exact ⟨m, ns_keep a k hl, b⟩
    · obtain ⟨c, a, b⟩ := r; exact ⟨c, a, cell_keep b k (hc _ _ a)⟩
    · obtain ⟨c, a, b⟩ := r; exact ⟨c, a, cell_keep b k (hc _ _ a)⟩

noncomputable def keysOf (μ : Mu) : Addr → Prop := fun a => a ∈ μ.map (·.1)
theorem keysOf_iff {μ : Mu} {a : Addr} : keysOf μ a ↔ ∃ p ∈ μ, p.1 = a := by simp [keysOf]
/-- the places of the body's own names -/
noncomputable def Own (c : Cx) (a : Addr) : Prop := a = c.env.locals ∨ ∃ x, c.env.cells.lookup x = some a
/-- the places that the body may store to -/
noncomputable def Sto (c : Cx) (a : Addr) : Prop := a = c.env.locals ∨ (c.ro = false ∧ ∃ x, c.env.cells.lookup x = some a)
theorem Sto.own {c : Cx} {a : Addr} (h : Sto c a) : Own c a := h.imp id fun ⟨_, e⟩ => e
set_option genInjectivity false in
set_option genSizeOf false in
/-- forward: new or mutable places are written, and those in F -/
structure Fw (h₀ : Heap) (F : Addr → Prop) (Φ : Frz) (μ : Mu) (s : Shared) (Ψ : Frz) (ν : Mu) (s' : Shared) : Prop where
  le : Φ.le Ψ
  fz : ∀ a x, Ψ a = some x → Φ a = some x ∨ s.heap.get? a = none ∨ keysOf μ a ∨ ∃ o, h₀.get? a = some o
  keep : Keep (fun a => F a ∨ keysOf μ a) s.heap s'.heap
  keys : ∀ a, keysOf ν a → keysOf μ a ∨ s.heap.get? a = none
  alive : ∀ a o, s.heap.get? a = some o → ∃ o', s'.heap.get? a = some o'
  gens : s'.gens = s.gens
  drawn : s'.drawn = s.drawn
  os : s'.os = s.os
theorem Fw.refl (h₀ : Heap) (F : Addr → Prop) (Φ : Frz) (μ : Mu) (s : Shared) : Fw h₀ F Φ μ s Φ μ s := ⟨Frz.le.refl _, fun _ _ h => .inl h, Keep.refl _ _, fun _ h => .inl h, fun _ o e => ⟨o, e⟩, rfl, rfl, rfl⟩
theorem Fw.dead {h₀ : Heap} {F : Addr → Prop} {Φ Ψ : Frz} {μ ν : Mu} {s s' : Shared} (x : Fw h₀ F Φ μ s Ψ ν s') {a : Addr} (q : s'.heap.get? a = none) : s.heap.get? a = none := by
  cases r : s.heap.get? a with
  | none => rfl
  | some o => obtain ⟨o', e'⟩ := x.alive a o r; rw [q] at e'; cases e'
theorem Fw.trans {h₀ : Heap} {F : Addr → Prop} {Φ₁ Φ₂ Φ₃ : Frz} {μ₁ μ₂ μ₃ : Mu} {s₁ s₂ s₃ : Shared} (x : Fw h₀ F Φ₁ μ₁ s₁ Φ₂ μ₂ s₂) (y : Fw h₀ F Φ₂ μ₂ s₂ Φ₃ μ₃ s₃) : Fw h₀ F Φ₁ μ₁ s₁ Φ₃ μ₃ s₃ where
  le := x.le.trans y.le
  fz := fun a z h => by
    rcases y.fz a z h with q | q | q | q
    · exact x.fz a z q
    · exact .inr (.inl (x.dead q))
    · rcases x.keys a q with q | q
      · exact .inr (.inr (.inl q))
      · exact .inr (.inl q)
    · exact .inr (.inr (.inr q))
  keep := fun a o e h => by
    obtain ⟨sl, e1, n1⟩ := x.keep a o e h
    obtain ⟨sl', e2, n2⟩ := y.keep a _ e1 fun q => by
      rcases q with q | q
      · exact h (.inl q)
      · rcases x.keys a q with q | q
        · exact h (.inr q)
        · rw [q] at e; cases e
    exact ⟨sl', e2, fun q => (n2 q).trans (n1 q)⟩
  keys := fun a h => by
    rcases y.keys a h with q | q
    · exact x.keys a q
    · exact .inr (x.dead q)
  alive := fun a o e => let ⟨o', e'⟩ := x.alive a o e; y.alive a o' e'
  gens := y.gens.trans x.gens
  drawn := y.drawn.trans x.drawn
  os := y.os.trans x.os
theorem Fw.mono {h₀ : Heap} {F G : Addr → Prop} {Φ Ψ : Frz} {μ ν : Mu} {s s' : Shared} (m : Fw h₀ F Φ μ s Ψ ν s') (h : ∀ a o, s.heap.get? a = some o → F a → G a) : Fw h₀ G Φ μ s Ψ ν s' :=
  ⟨m.le, m.fz, fun a o e n => m.keep a o e fun q => n (q.imp (h a o e) id), m.keys, m.alive, m.gens, m.drawn, m.os⟩
theorem Fw.forgetKeys {h₀ : Heap} {F : Addr → Prop} {Φ₁ Φ₂ : Frz} {μ₁ μ₂ μ₃ : Mu} {s₁ s₂ : Shared} (x : Fw h₀ F Φ₁ μ₁ s₁ Φ₂ μ₂ s₂) (h : ∀ a, keysOf μ₃ a → keysOf μ₂ a) : Fw h₀ F Φ₁ μ₁ s₁ Φ₂ μ₃ s₂ := { x with keys := fun a k => x.keys a (h a k) }
/-- a place in F changes -/
theorem Fw.touch {h₀ : Heap} {F : Addr → Prop} {Φ Ψ : Frz} {μ ν : Mu} {s t : Shared} (x : Fw h₀ F Φ μ s Ψ ν t) {a : Addr} {h' : Heap} (f : s.heap.get? a = none ∨ (F a ∧ ∃ o, h'.get? a = some o)) {tk : Nat} (k : ∀ b o, b ≠ a → t.heap.get? b = some o → h'.get? b = some o) : Fw h₀ F Φ μ s Ψ ν { t with heap := h', toks := tk } where
  le := x.le
  fz := x.fz
  keep := fun b o e n => by
    obtain ⟨sl, e1, n1⟩ := x.keep b o e n
    refine ⟨sl, k b _ (fun q => ?_) e1, n1⟩
    rcases f with f | ⟨f, _⟩
    · rw [q, f] at e; cases e
    · exact n (.inl (q ▸ f))
  keys := x.keys
  alive := fun b o e => by
    obtain ⟨o', e'⟩ := x.alive b o e
    by_cases q : b = a
    · rcases f with f | ⟨_, f⟩
      · rw [q, f] at e; cases e
      · exact q ▸ f
    · exact ⟨o', k b _ q e'⟩
  gens := x.gens
  drawn := x.drawn
  os := x.os
/-- from one state to a later one -/
noncomputable abbrev Mv (c : Cx) (Φ : Frz) (μ : Mu) (s : Shared) (Ψ : Frz) (ν : Mu) (s' : Shared) : Prop := Fw c.g.h₀ (Sto c) Φ μ s Ψ ν s'
theorem Mv.refl (c : Cx) (Φ : Frz) (μ : Mu) (s : Shared) : Mv c Φ μ s Φ μ s := Fw.refl ..

theorem Inv.muCell {c : Cx} {Φ : Frz} {μ : Mu} {ρ : Rho} {s : Shared} (I : Inv c Φ μ ρ s) {p : Addr × MO} (hp : p ∈ μ) {y : Str} {a : Addr} (e : c.env.cells.lookup y = some a) : a ≠ p.1 := by
  rintro rfl
  obtain ⟨⟨v, o, h1, h2⟩, _⟩ := I.cells _ _ e
  obtain ⟨⟨o', h3, h4⟩, _⟩ := I.mu.2 p hp
  rw [h1] at h3; cases h3
  exact h4.noCell _ h2
theorem Inv.keyOff {c : Cx} {Φ : Frz} {μ : Mu} {ρ : Rho} {s : Shared} (I : Inv c Φ μ ρ s) {a : Addr} (h : keysOf μ a) : ¬ Own c a := by
  obtain ⟨p, hp, rfl⟩ := keysOf_iff.mp h
  rintro (q | ⟨x, q⟩)
  · exact I.muOff p hp q
  · exact I.muCell hp q rfl
theorem Inv.ownAlive {c : Cx} {Φ : Frz} {μ : Mu} {ρ : Rho} {s : Shared} (I : Inv c Φ μ ρ s) {a : Addr} (h : Own c a) : ∃ o, s.heap.get? a = some o := by
  rcases h with rfl | ⟨x, q⟩
  · obtain ⟨m, o, es, ep, e, _⟩ := I.ns; exact ⟨o, e⟩
  · obtain ⟨⟨v, o, e, _⟩, _⟩ := I.cells x a q; exact ⟨o, e⟩
theorem Inv.noKey {c : Cx} {Φ : Frz} {μ : Mu} {ρ : Rho} {s : Shared} (I : Inv c Φ μ ρ s) {a : Addr} (e : s.heap.get? a = none) : ¬ keysOf μ a := fun q => by
  obtain ⟨p, hp, rfl⟩ := keysOf_iff.mp q
  obtain ⟨⟨o, e', _⟩, _⟩ := I.mu.2 p hp
  rw [e] at e'; cases e'
theorem Inv.noBase {c : Cx} {Φ : Frz} {μ : Mu} {ρ : Rho} {s : Shared} (I : Inv c Φ μ ρ s) {a : Addr} (e : s.heap.get? a = none) : c.g.h₀.get? a = none := by
  cases q : c.g.h₀.get? a with
  | none => rfl
  | some o => have := I.old a o q; rw [e] at this; cases this

/-- the state moves on: places in T may change, all else stands -/
theorem Inv.move {c : Cx} {Φ Ψ : Frz} {μ ν : Mu} {ρ : Rho} {s : Shared} (I : Inv c Φ μ ρ s) (T : Addr → Prop) {h' : Heap} {tk : Nat}
    (old : ∀ b o, c.g.h₀.get? b = some o → h'.get? b = some o) (le : Φ.le Ψ) (frz : FrzOk Ψ h') (mu : MuOk c.g.pw c.g.h₀ Ψ ν h') (k : Keep T s.heap h')
    (tO : ∀ a, T a → ¬ Own c a) (tF : ∀ a, T a → ∃ o, h'.get? a = some o ∧ ∀ vs, o.data ≠ .fields vs) (muOff : ∀ p ∈ ν, p.1 ≠ c.env.locals) : Inv c Ψ ν ρ { s with heap := h', toks := tk } where
  ok := I.ok
  old := old
  ns := let ⟨m, n⟩ := I.ns; ⟨m, ns_keep n k fun t => tO _ t (.inl rfl)⟩
  above := I.above
  cells := fun x a e => let ⟨⟨v, q⟩, r⟩ := I.cells x a e; ⟨⟨v, cell_keep q k fun t => tO _ t (.inr ⟨x, e⟩)⟩, r⟩
  vars := fun x a e => let ⟨v, p, q⟩ := I.vars x a e; ⟨v, p.keep k (fun t => tO _ t (.inl rfl)) (fun y b z t => tO _ t (.inr ⟨y, z⟩)), q.mono le⟩
  frz := frz
  mu := mu
  muOff := muOff
  ff := fun l e => funFrames_keep k tF (I.ff l e)
  still := I.still
theorem Keep.alive {S : Addr → Prop} {h h' : Heap} (k : Keep S h h') (t : ∀ a, S a → ∃ o, h'.get? a = some o) : ∀ a o, h.get? a = some o → ∃ o', h'.get? a = some o' := fun a o e => by
  by_cases s : S a
  · exact t a s
  · obtain ⟨sl, e', _⟩ := k a o e s; exact ⟨_, e'⟩
/-- nothing that stood has changed -/
theorem Inv.ext {c : Cx} {Φ : Frz} {μ : Mu} {ρ : Rho} {s : Shared} (I : Inv c Φ μ ρ s) {h' : Heap} {tk : Nat} (k : Keep (fun _ => False) s.heap h') (old : ∀ b o, c.g.h₀.get? b = some o → h'.get? b = some o) :
    Mv c Φ μ s Φ μ { s with heap := h', toks := tk } ∧ Inv c Φ μ ρ { s with heap := h', toks := tk } := by
  refine ⟨⟨Frz.le.refl _, fun _ _ h => .inl h, k.mono fun _ q => q.elim, fun a q => .inl q, k.alive fun _ q => q.elim, rfl, rfl, rfl⟩, ?_⟩
  refine I.move (fun _ => False) old (Frz.le.refl _) (I.frz.keep k fun _ q => q.elim) ⟨I.mu.1, fun p hp => ?_⟩ k (fun _ q => q.elim) (fun _ q => q.elim) I.muOff
  obtain ⟨⟨o, e, m⟩, r⟩ := I.mu.2 p hp
  obtain ⟨sl, e', n⟩ := k _ _ e id
  exact ⟨⟨_, e', m.slots sl n⟩, r⟩
theorem Inv.keeps {c : Cx} {Φ : Frz} {μ : Mu} {ρ : Rho} {s : Shared} (I : Inv c Φ μ ρ s) {h' : Heap} {tk : Nat} (k : ∀ b o, s.heap.get? b = some o → h'.get? b = some o) :
    Mv c Φ μ s Φ μ { s with heap := h', toks := tk } ∧ Inv c Φ μ ρ { s with heap := h', toks := tk } := I.ext (Keep.of_keeps k) fun b o e => k b o (I.old b o e)
theorem Inv.toks {c : Cx} {Φ : Frz} {μ : Mu} {ρ : Rho} {s : Shared} (I : Inv c Φ μ ρ s) (tk : Nat) : Mv c Φ μ s Φ μ { s with toks := tk } ∧ Inv c Φ μ ρ { s with toks := tk } := I.keeps (h' := s.heap) fun _ _ e => e
theorem Inv.push {c : Cx} {Φ : Frz} {μ : Mu} {ρ : Rho} {s : Shared} (I : Inv c Φ μ ρ s) (o : Obj) : Mv c Φ μ s Φ μ { s with heap := s.heap.push o } ∧ Inv c Φ μ ρ { s with heap := s.heap.push o } := I.keeps fun _ _ e => Heap.get?_push_of_some _ e

noncomputable def Frz.put (Φ : Frz) (a : Addr) (x : Bool × List Value) : Frz := fun b => if b = a then some x else Φ b
theorem Frz.put_self (Φ : Frz) (a : Addr) (x : Bool × List Value) : Φ.put a x a = some x := by simp [Frz.put]
theorem Frz.le_put {Φ : Frz} {a : Addr} {x : Bool × List Value} (h : Φ a = none) : Φ.le (Φ.put a x) := fun b y e => by
  unfold Frz.put
  split
  · rename_i q; subst q; rw [h] at e; cases e
  · exact e
theorem FrzOk.none {Φ : Frz} {h : Heap} (k : FrzOk Φ h) {a : Addr} (e : h.get? a = none) : Φ a = none := by
  cases q : Φ a with
  | none => rfl
  | some x => obtain ⟨n, e'⟩ := k a x.1 x.2 q; rw [e] at e'; cases e'
theorem Heap.fresh (h : Heap) : h.get? h.objs.size = none := Heap.get?_none_of_le (Nat.le_refl _)
/-- a place that holds a sequence is noted in the frozen store -/
theorem Inv.note {c : Cx} {Φ : Frz} {μ : Mu} {ρ : Rho} {s : Shared} (I : Inv c Φ μ ρ s) {a : Addr} {b : Bool} {vs : List Value} {n : Nat} (e : s.heap.get? a = some { cls := tyOf b, data := .seq vs.toArray n })
    (hΦ : Φ a = none) (hμ : ¬ keysOf μ a) : Inv c (Φ.put a (b, vs)) μ ρ s := by
  have le := Frz.le_put (x := (b, vs)) hΦ
  have := I.move (h' := s.heap) (tk := s.toks) (Ψ := Φ.put a (b, vs)) (ν := μ) (fun _ => False) I.old le (fun a' b' vs' q => ?_) ⟨I.mu.1, fun p hp => ?_⟩ (Keep.refl _ _) (fun _ q => q.elim) (fun _ q => q.elim) I.muOff
  · exact this
  · unfold Frz.put at q
    split at q
    · rename_i z; subst z; cases q; exact ⟨n, e⟩
    · exact I.frz a' b' vs' q
  · obtain ⟨⟨o', e', m⟩, r, f⟩ := I.mu.2 p hp
    refine ⟨⟨o', e', m.mono le⟩, r, ?_⟩
    unfold Frz.put
    rw [if_neg (fun z => hμ (keysOf_iff.mpr ⟨p, hp, z⟩)), f]
theorem Fw.note {h₀ : Heap} {F : Addr → Prop} {Φ Ψ : Frz} {μ ν : Mu} {s s' : Shared} (m : Fw h₀ F Φ μ s Ψ ν s') {a : Addr} {x : Bool × List Value} (hΨ : Ψ a = none) (h : s.heap.get? a = none ∨ keysOf μ a ∨ ∃ o, h₀.get? a = some o) : Fw h₀ F Φ μ s (Ψ.put a x) ν s' :=
  { m with
    le := m.le.trans (Frz.le_put hΨ)
    fz := fun b y e => by
      unfold Frz.put at e
      split at e
      · rename_i q; subst q; exact .inr h
      · exact m.fz b y e }
/-- a new frozen sequence -/
theorem Inv.newSeq {c : Cx} {Φ : Frz} {μ : Mu} {ρ : Rho} {s : Shared} (I : Inv c Φ μ ρ s) (b : Bool) (vs : List Value) (n : Nat) :
    Mv c Φ μ s (Φ.put s.heap.objs.size (b, vs)) μ { s with heap := s.heap.push { cls := tyOf b, data := .seq vs.toArray n } } ∧ Inv c (Φ.put s.heap.objs.size (b, vs)) μ ρ { s with heap := s.heap.push { cls := tyOf b, data := .seq vs.toArray n } } := by
  have f := I.frz.none (Heap.fresh s.heap)
  obtain ⟨m, J⟩ := I.push (ρ := ρ) { cls := tyOf b, data := .seq vs.toArray n }
  exact ⟨m.note f (.inl (Heap.fresh _)), J.note (Heap.get?_push_size _ rfl) f (I.noKey (Heap.fresh _))⟩
/-- a new mutable object -/
theorem Inv.newMut {c : Cx} {Φ : Frz} {μ : Mu} {ρ : Rho} {s : Shared} (I : Inv c Φ μ ρ s) (o : Obj) (mo : MO) (hm : MOk c.g.pw Φ mo o) (hf : o.isFreed = false) :
    Mv c Φ μ s Φ ((s.heap.objs.size, mo) :: μ) { s with heap := s.heap.push o } ∧ Inv c Φ ((s.heap.objs.size, mo) :: μ) ρ { s with heap := s.heap.push o } := by
  have fr := Heap.fresh s.heap
  obtain ⟨m, J⟩ := I.push (ρ := ρ) o
  refine ⟨{ m with keys := fun a h => ?_ }, ?_⟩
  · obtain ⟨p, hp, rfl⟩ := keysOf_iff.mp h
    rcases List.mem_cons.mp hp with rfl | hp
    · exact .inr fr
    · exact .inl (keysOf_iff.mpr ⟨p, hp, rfl⟩)
  · refine { J with mu := ⟨?_, fun p hp => ?_⟩, muOff := fun p hp => ?_ }
    · exact List.nodup_cons.mpr ⟨I.noKey fr, I.mu.1⟩
    · rcases List.mem_cons.mp hp with rfl | hp
      · exact ⟨⟨o, Heap.get?_push_size _ hf, hm⟩, ⟨I.noBase fr, beq_eq_false_iff_ne.mpr fun q => by
        have h1 := modules_low (c.g.T.nolimit)
        obtain ⟨mm, oo, _, _, eo, _⟩ := I.ns
        have h2 := Heap.lt_size eo
        have h3 := I.above
        have q : s.heap.objs.size = sysModules := q
        rw [← q] at h1
        exact absurd (Nat.lt_of_lt_of_le h1 h3) (Nat.not_lt.mpr (Nat.le_of_lt h2))⟩, I.frz.none fr⟩
      · exact J.mu.2 p hp
    · rcases List.mem_cons.mp hp with rfl | hp
      · intro q
        have q : s.heap.objs.size = c.env.locals := q
        obtain ⟨o', e'⟩ := I.ownAlive (.inl rfl)
        rw [← q, fr] at e'; cases e'
      · exact I.muOff p hp
end Mine
namespace Mine

inductive Post (c : Cx) (Φ : Frz) (μ : Mu) (s : Shared) (ρ : Rho) (P : Mu → AV → Prop) (v : Value) (s' : Shared) : Prop
  | mk (Ψ : Frz) (ν : Mu) (a : AV) (m : Mv c Φ μ s Ψ ν s') (I : Inv c Ψ ν ρ s') (r : RA Ψ a v) (p : P ν a)
theorem Post.up {c : Cx} {Φ Ψ : Frz} {μ ν : Mu} {s t : Shared} {ρ : Rho} {P : Mu → AV → Prop} {v : Value} {u : Shared} (h : Mv c Φ μ s Ψ ν t) (k : Post c Ψ ν t ρ P v u) : Post c Φ μ s ρ P v u :=
  by cases k with | mk X ξ a h1 J r p => exact ⟨X, ξ, a, h.trans h1, J, r, p⟩
theorem Post.here {c : Cx} {Φ : Frz} {μ : Mu} {ρ : Rho} {P : Mu → AV → Prop} {v : Value} {s : Shared} {a : AV} (I : Inv c Φ μ ρ s) (r : RA Φ a v) (p : P μ a) : Post c Φ μ s ρ P v s := ⟨Φ, μ, a, Mv.refl .., I, r, p⟩
theorem Post.then {c : Cx} {Φ : Frz} {μ : Mu} {ρ : Rho} {P : Mu → AV → Prop} {v : Value} {s t : Shared} {a : AV} (I : Mv c Φ μ s Φ μ t ∧ Inv c Φ μ ρ t) (r : RA Φ a v) (p : P μ a) : Post c Φ μ s ρ P v t := ⟨Φ, μ, a, I.1, I.2, r, p⟩
noncomputable abbrev W (c : Cx) {α : Type} (t : Sem α) (Q : α → Shared → Prop) (s : Shared) : Prop := wpAny (model c.g.prog c.g.w) c.A t Q c.E s
/-- an expression is evaluated -/
noncomputable def Ev (c : Cx) (μ : Mu) (ρ : Rho) (e : Expr) (P : Mu → AV → Prop) : Prop := ∀ Φ s, Inv c Φ μ ρ s → W c (eval e c.env) (Post c Φ μ s ρ P) s
/-- an operation on values -/
noncomputable def Op1 (c : Cx) (ρ : Rho) (f : Value → Sem Value) (μ : Mu) (a : AV) (P : Mu → AV → Prop) : Prop := ∀ Φ s v, Inv c Φ μ ρ s → RA Φ a v → W c (f v) (Post c Φ μ s ρ P) s
noncomputable def Op2 (c : Cx) (ρ : Rho) (f : Value → Value → Sem Value) (μ : Mu) (a b : AV) (P : Mu → AV → Prop) : Prop := ∀ Φ s v w, Inv c Φ μ ρ s → RA Φ a v → RA Φ b w → W c (f v w) (Post c Φ μ s ρ P) s
noncomputable def RAs (Φ : Frz) : List AV → List Value → Prop
  | [], vs => vs = []
  | a :: r, vs => ∃ v ws, vs = v :: ws ∧ RA Φ a v ∧ RAs Φ r ws
theorem RAs.mono {Φ Ψ : Frz} (h : Φ.le Ψ) : ∀ {as : List AV} {vs : List Value}, RAs Φ as vs → RAs Ψ as vs
  | [], _, e => e
  | a :: r, _, e => let ⟨v, ws, e1, e2, e3⟩ := e; ⟨v, ws, e1, e2.mono h, RAs.mono h e3⟩
inductive PostL (c : Cx) (Φ : Frz) (μ : Mu) (s : Shared) (ρ : Rho) (P : Mu → List AV → Prop) (v : List Value) (s' : Shared) : Prop
  | mk (Ψ : Frz) (ν : Mu) (a : List AV) (m : Mv c Φ μ s Ψ ν s') (I : Inv c Ψ ν ρ s') (r : RAs Ψ a v) (p : P ν a)
/-- arguments, one by one -/
noncomputable def Evs (c : Cx) (μ : Mu) (ρ : Rho) (es : List Expr) (P : Mu → List AV → Prop) : Prop := ∀ Φ s pos, Inv c Φ μ ρ s → W c (spliced (backTo pos (starEach es c.env))) (PostL c Φ μ s ρ P) s
inductive PostB (c : Cx) (Φ : Frz) (μ : Mu) (s : Shared) (ρ : Rho) (P : Mu → Bool → Prop) (b : Bool) (s' : Shared) : Prop
  | mk (Ψ : Frz) (ν : Mu) (m : Mv c Φ μ s Ψ ν s') (I : Inv c Ψ ν ρ s') (p : P ν b)
theorem PostB.up {c : Cx} {Φ Ψ : Frz} {μ ν : Mu} {s t : Shared} {ρ : Rho} {P : Mu → Bool → Prop} {v : Bool} {u : Shared} (h : Mv c Φ μ s Ψ ν t) (k : PostB c Ψ ν t ρ P v u) : PostB c Φ μ s ρ P v u :=
  by cases k with | mk X ξ h1 J p => exact ⟨X, ξ, h.trans h1, J, p⟩
/-- a test -/
noncomputable def Tr (c : Cx) (μ : Mu) (ρ : Rho) (e : Expr) (P : Mu → Bool → Prop) : Prop := ∀ Φ s, Inv c Φ μ ρ s → W c (isTrue e c.env (eval e c.env)) (PostB c Φ μ s ρ P) s
noncomputable def Truthy (c : Cx) (ρ : Rho) (μ : Mu) (a : AV) (P : Mu → Bool → Prop) : Prop := ∀ Φ s v, Inv c Φ μ ρ s → RA Φ a v → W c (truthy v) (PostB c Φ μ s ρ P) s

theorem W.mono {c : Cx} {α : Type} {t : Sem α} {Q Q' : α → Shared → Prop} {s : Shared} (h : W c t Q s) (k : ∀ a s, Q a s → Q' a s) : W c t Q' s := wpAny_mono h k fun _ _ e => e

/- what is asked behind a part, as a word of its own: it brings no binder of its own into a walk -/
section
variable (c : Cx) (ρ : Rho)
@[reducible] noncomputable def kOp2 (f : Value → Value → Sem Value) (P : Mu → AV → Prop) (a : AV) : Mu → AV → Prop := fun μ b => Op2 c ρ f μ a b P
@[reducible] noncomputable def kOp1 (r : Expr) (f : Value → Value → Sem Value) (P : Mu → AV → Prop) : Mu → AV → Prop := fun μ a => Ev c μ ρ r (kOp2 c ρ f P a)
@[reducible] noncomputable def kTru (P : Mu → Bool → Prop) : Mu → AV → Prop := fun μ a => Truthy c ρ μ a P
@[reducible] noncomputable def kNot (P : Mu → AV → Prop) : Mu → Bool → Prop := fun μ b => P μ (.d (.bool (!b)))
@[reducible] noncomputable def kInv (P : Mu → Bool → Prop) : Mu → Bool → Prop := fun μ b => P μ (!b)
@[reducible] noncomputable def kIteE (b o : Expr) (P : Mu → AV → Prop) : Mu → Bool → Prop := fun μ x => if x then Ev c μ ρ b P else Ev c μ ρ o P
@[reducible] noncomputable def kIteT (b o : Expr) (P : Mu → Bool → Prop) : Mu → Bool → Prop := fun μ x => if x then Tr c μ ρ b P else Tr c μ ρ o P
@[reducible] noncomputable def kAnd2 (e : Expr) (P : Mu → AV → Prop) (a : AV) : Mu → Bool → Prop := fun μ b => if b then Ev c μ ρ e P else P μ a
@[reducible] noncomputable def kAnd1 (e : Expr) (P : Mu → AV → Prop) : Mu → AV → Prop := fun μ a => Truthy c ρ μ a (kAnd2 c ρ e P a)
@[reducible] noncomputable def kOr2 (e : Expr) (P : Mu → AV → Prop) (a : AV) : Mu → Bool → Prop := fun μ b => if b then P μ a else Ev c μ ρ e P
@[reducible] noncomputable def kOr1 (e : Expr) (P : Mu → AV → Prop) : Mu → AV → Prop := fun μ a => Truthy c ρ μ a (kOr2 c ρ e P a)
@[reducible] noncomputable def kAndT (e : Expr) (P : Mu → Bool → Prop) : Mu → Bool → Prop := fun μ b => if b then Tr c μ ρ e P else P μ false
@[reducible] noncomputable def kOrT (e : Expr) (P : Mu → Bool → Prop) : Mu → Bool → Prop := fun μ b => if b then P μ true else Tr c μ ρ e P
@[reducible] noncomputable def kCons2 (P : Mu → List AV → Prop) (a : AV) : Mu → List AV → Prop := fun μ as => P μ (a :: as)
@[reducible] noncomputable def kCons1 (es : List Expr) (P : Mu → List AV → Prop) : Mu → AV → Prop := fun μ a => Evs c μ ρ es (kCons2 P a)
end

section
variable {c : Cx} {μ : Mu} {ρ : Rho} {P : Mu → AV → Prop}

theorem Ev.int {i : Int} {k pos} (h : P μ (.d (.int i))) : Ev c μ ρ (.Constant (.int i) k pos) P := fun Φ s I =>
  wpAny_Constant_int (Post.then (I.toks _) (ra_int _ _) h)
theorem Ev.str {x : Str} {k pos} (h : P μ (.d (.str x))) : Ev c μ ρ (.Constant (.str x) k pos) P := fun Φ s I =>
  wpAny_Constant_str (Post.then (I.toks _) (ra_str _ _) h)
theorem Ev.bool {b : Bool} {k pos} (h : P μ (.d (.bool b))) : Ev c μ ρ (.Constant (.bool b) k pos) P := fun Φ s I =>
  wpAny_Constant_bool (Post.here I (ra_bool _) h)
theorem Ev.none {k pos} (h : P μ (.d .none)) : Ev c μ ρ (.Constant .none k pos) P := fun Φ s I =>
  wpAny_Constant_none (Post.here I ra_none h)

theorem loadAt {x : Str} {v : Value} {Q : Value → Shared → Prop} {s : Shared} (hk : c.env.scope.kind = .function) (r : At c.env s.heap x v) (h : Q v s) : W c (loadName c.env x) Q s := by
  obtain ⟨d1, d2, r⟩ := r
  cases e : c.env.kindOf x with
  | none => rw [e] at r; exact r.elim
  | some kd =>
    rw [e] at r
    cases kd <;> first | exact r.elim | skip
    · obtain ⟨m, a, b⟩ := r; exact wpAny_loadName_local hk e a b h
    · obtain ⟨ca, a, b⟩ := r; exact wpAny_loadName_cell hk e a b h
    · obtain ⟨ca, a, b⟩ := r; exact wpAny_loadName_free hk e a b h d2
theorem Ev.name {x : Str} {pos} {a : AV} (e : look ρ x = some a) (h : P μ a) : Ev c μ ρ (.Name x pos) P := fun Φ s I => by
  obtain ⟨v, r, q⟩ := I.vars x a e
  exact wpAny_Name (loadAt I.ok.kind r (Post.here I q h)) r.1
theorem Ev.glob {x : Str} {pos} {v : Value} (hx : c.env.kindOf x = some .globalImplicit) (hd : (x == ("__debug__" : Str)) = false) (e : nsIn c.g.K mainGlobals x = some (some v)) (h : P μ (.v v)) : Ev c μ ρ (.Name x pos) P := fun Φ s I =>
  Name_function_global I.ok.kind hx (loadGlobal_global (by rw [I.ok.glob]; exact c.g.T.g.keeps I.old) (mg_of c.g.X c.g.T.g e) (Post.here I (ra_v _) h)) hd
theorem Ev.blt {x : Str} {pos} {v : Value} (hx : c.env.kindOf x = some .globalImplicit) (hd : (x == ("__debug__" : Str)) = false) (hn : x ≠ "__name__") (e : nsIn c.g.K mainGlobals x = some Option.none) (hv : bootBuiltins x = some v) (h : P μ (.v v)) : Ev c μ ρ (.Name x pos) P := fun Φ s I =>
  Name_function_global I.ok.kind hx (loadGlobal_builtin (by rw [I.ok.glob]; exact c.g.T.g.keeps I.old) (mg_none_of c.g.X c.g.T.g e) (by rw [I.ok.blt]; exact c.g.T.b.keeps I.old) ((c.g.T.builtins x hn).trans hv) (Post.here I (ra_v _) h)) hd

theorem Ev.cmp {l r : Expr} {op : CmpOp} {pos} (h : Ev c μ ρ l (kOp1 c ρ r (compareOp op) P)) (hm : behindInMarks op r = false) : Ev c μ ρ (.Compare l [op] [r] pos) P := fun Φ s I => by
  refine wpAny_Compare1 ?_ hm
  refine W.mono (h Φ s I) fun v s₁ h₁ => ?_
  obtain ⟨Φ₁, μ₁, a, l₁, I₁, r₁, h₁⟩ := h₁
  refine W.mono (h₁ Φ₁ s₁ I₁) fun w s₂ h₂ => ?_
  obtain ⟨Φ₂, μ₂, b, l₂, I₂, r₂, h₂⟩ := h₂
  exact W.mono (h₂ Φ₂ s₂ v w I₂ (r₁.mono l₂.le) r₂) fun u s₃ h₃ => h₃.up (l₁.trans l₂)
theorem Ev.bin {l r : Expr} {op : Operator} {pos} (h : Ev c μ ρ l (kOp1 c ρ r (binaryOp op) P)) : Ev c μ ρ (.BinOp l op r pos) P := fun Φ s I => by
  refine wpAny_BinOp ?_
  refine W.mono (h Φ s I) fun v s₁ h₁ => ?_
  obtain ⟨Φ₁, μ₁, a, l₁, I₁, r₁, h₁⟩ := h₁
  refine W.mono (h₁ Φ₁ s₁ I₁) fun w s₂ h₂ => ?_
  obtain ⟨Φ₂, μ₂, b, l₂, I₂, r₂, h₂⟩ := h₂
  exact W.mono (h₂ Φ₂ s₂ v w I₂ (r₁.mono l₂.le) r₂) fun u s₃ h₃ => h₃.up (l₁.trans l₂)
theorem Ev.sub {l r : Expr} {pos} (h : Ev c μ ρ l (kOp1 c ρ r (subscriptTail l r) P)) : Ev c μ ρ (.Subscript l r pos) P := fun Φ s I => by
  refine Subscript_ ?_
  refine W.mono (h Φ s I) fun v s₁ h₁ => ?_
  obtain ⟨Φ₁, μ₁, a, l₁, I₁, r₁, h₁⟩ := h₁
  refine W.mono (h₁ Φ₁ s₁ I₁) fun w s₂ h₂ => ?_
  obtain ⟨Φ₂, μ₂, b, l₂, I₂, r₂, h₂⟩ := h₂
  exact W.mono (h₂ Φ₂ s₂ v w I₂ (r₁.mono l₂.le) r₂) fun u s₃ h₃ => h₃.up (l₁.trans l₂)
theorem Truthy.bool {b : Bool} {P : Mu → Bool → Prop} (h : P μ b) : Truthy c ρ μ (.d (.bool b)) P := fun Φ s v I r => by
  obtain rfl := ra_bool' r
  exact wpAny_truthy_bool ⟨Φ, μ, Mv.refl .., I, h⟩
theorem Ev.not {x : Expr} {pos} (h : Ev c μ ρ x (kTru c ρ (kNot P))) : Ev c μ ρ (.UnaryOp .Not x pos) P := fun Φ s I => by
  refine UnaryOp_ (W.mono (h Φ s I) fun v s₁ h₁ => ?_)
  obtain ⟨Φ₁, μ₁, a, l₁, I₁, r₁, h₁⟩ := h₁
  refine not_of (W.mono (h₁ Φ₁ s₁ v I₁ r₁) fun b s₂ h₂ => ?_)
  obtain ⟨Φ₂, μ₂, l₂, I₂, h₂⟩ := h₂
  exact ⟨Φ₂, μ₂, _, l₁.trans l₂, I₂, ra_bool _, h₂⟩
theorem Ev.ite {t b o : Expr} {pos} (h : Tr c μ ρ t (kIteE c ρ b o P)) : Ev c μ ρ (.IfExp t b o pos) P := fun Φ s I => by
  refine IfExp_ (W.mono (h Φ s I) fun x s₁ h₁ => ?_)
  obtain ⟨Φ₁, μ₁, l₁, I₁, h₁⟩ := h₁
  cases x with
  | true => exact W.mono (h₁ Φ₁ s₁ I₁) fun u s₃ h₃ => h₃.up l₁
  | false => exact W.mono (h₁ Φ₁ s₁ I₁) fun u s₃ h₃ => h₃.up l₁
theorem Ev.one {e : Expr} {op} {pos} (h : Ev c μ ρ e P) : Ev c μ ρ (.BoolOp op [e] pos) P := fun Φ s I => BoolOp_one (h Φ s I)
theorem Ev.and {e₁ e₂ : Expr} {rest} {pos} (h : Ev c μ ρ e₁ (kAnd1 c ρ (.BoolOp .And (e₂ :: rest) pos) P)) : Ev c μ ρ (.BoolOp .And (e₁ :: e₂ :: rest) pos) P := fun Φ s I => by
  refine BoolOp_and (W.mono (h Φ s I) fun v s₁ h₁ => ?_)
  obtain ⟨Φ₁, μ₁, a, l₁, I₁, r₁, h₁⟩ := h₁
  refine W.mono (h₁ Φ₁ s₁ v I₁ r₁) fun b s₂ h₂ => ?_
  obtain ⟨Φ₂, μ₂, l₂, I₂, h₂⟩ := h₂
  cases b with
  | true => exact W.mono (h₂ Φ₂ s₂ I₂) fun u s₃ h₃ => h₃.up (l₁.trans l₂)
  | false => exact ⟨Φ₂, μ₂, a, l₁.trans l₂, I₂, r₁.mono l₂.le, h₂⟩
theorem Ev.or {e₁ e₂ : Expr} {rest} {pos} (h : Ev c μ ρ e₁ (kOr1 c ρ (.BoolOp .Or (e₂ :: rest) pos) P)) : Ev c μ ρ (.BoolOp .Or (e₁ :: e₂ :: rest) pos) P := fun Φ s I => by
  refine BoolOp_or (W.mono (h Φ s I) fun v s₁ h₁ => ?_)
  obtain ⟨Φ₁, μ₁, a, l₁, I₁, r₁, h₁⟩ := h₁
  refine W.mono (h₁ Φ₁ s₁ v I₁ r₁) fun b s₂ h₂ => ?_
  obtain ⟨Φ₂, μ₂, l₂, I₂, h₂⟩ := h₂
  cases b with
  | false => exact W.mono (h₂ Φ₂ s₂ I₂) fun u s₃ h₃ => h₃.up (l₁.trans l₂)
  | true => exact ⟨Φ₂, μ₂, a, l₁.trans l₂, I₂, r₁.mono l₂.le, h₂⟩

theorem Evs.nil {P : Mu → List AV → Prop} (h : P μ []) : Evs c μ ρ [] P := fun Φ s pos I => args_nil ⟨Φ, μ, [], Mv.refl .., I, rfl, h⟩
theorem Evs.cons {P : Mu → List AV → Prop} {e : Expr} {rest : List Expr} (h : Ev c μ ρ e (kCons1 c ρ rest P)) (he : starEach (e :: rest) c.env = (false, eval e c.env) :: starEach rest c.env) : Evs c μ ρ (e :: rest) P := fun Φ s pos I => by
  refine args_cons (W.mono (h Φ s I) fun v s₁ h₁ => ?_) he
  obtain ⟨Φ₁, μ₁, a, l₁, I₁, r₁, h₁⟩ := h₁
  refine W.mono (h₁ Φ₁ s₁ pos I₁) fun vs s₂ h₂ => ?_
  obtain ⟨Φ₂, μ₂, as, l₂, I₂, r₂, h₂⟩ := h₂
  exact ⟨Φ₂, μ₂, a :: as, l₁.trans l₂, I₂, ⟨v, vs, rfl, r₁.mono l₂.le, r₂⟩, h₂⟩

/-- a list of values that are all data -/
noncomputable def AllD : List AV → Option (List PyData)
  | [] => some []
  | .d x :: r => (AllD r).map (x :: ·)
  | .v _ :: _ => Option.none
theorem RAs.rs {Φ : Frz} : ∀ {as : List AV} {ds : List PyData} {vs : List Value}, AllD as = some ds → RAs Φ as vs → Rs Φ ds vs
  | [], _, _, e, r => by cases e; cases r; exact Rs.nil
  | .d x :: l, _, _, e, r => by
    obtain ⟨v, ws, rfl, r1, r2⟩ := r
    simp only [AllD, Option.map_eq_some_iff] at e
    obtain ⟨ds, e1, rfl⟩ := e
    exact Rs.cons r1 (RAs.rs e1 r2)
  | .v _ :: _, _, _, e, _ => by cases e
@[reducible] noncomputable def kTup (P : Mu → AV → Prop) : Mu → List AV → Prop := fun μ as => ∃ ds, AllD as = some ds ∧ ds.length ≤ 1000 ∧ P μ (.d (.tuple ds))
@[reducible] noncomputable def kLst (P : Mu → AV → Prop) : Mu → List AV → Prop := fun μ as => ∃ ds, AllD as = some ds ∧ ds.length ≤ 1000 ∧ P μ (.d (.list ds))
theorem kTup.mk {as : List AV} {ds : List PyData} (h1 : AllD as = some ds) (h2 : ds.length ≤ 1000) (k : P μ (.d (.tuple ds))) : kTup P μ as := ⟨ds, h1, h2, k⟩
theorem kLst.mk {as : List AV} {ds : List PyData} (h1 : AllD as = some ds) (h2 : ds.length ≤ 1000) (k : P μ (.d (.list ds))) : kLst P μ as := ⟨ds, h1, h2, k⟩
theorem Ev.tuple {es : List Expr} {k pos} (h : Evs c μ ρ es (kTup P)) : Ev c μ ρ (.Tuple es k pos) P := fun Φ s I => by
  refine Tuple_ (W.mono (h Φ s pos I) fun vs s₁ h₁ => ?_)
  obtain ⟨Φ₁, μ₁, as, l₁, I₁, r₁, ds, e₁, n₁, h₁⟩ := h₁
  have rs := r₁.rs e₁
  obtain ⟨le, I₂⟩ := I₁.newSeq true vs 0
  refine wpAny_newObj_type ⟨_, μ₁, _, l₁.trans le, I₂, ra_tup (Frz.put_self _ _ _) (rs.mono le.le), h₁⟩ (by show vs.toArray.size ≤ sizeLine; rw [List.size_toArray, rs.length, sizeLine_eq]; lia)
theorem Ev.list {es : List Expr} {pos} (h : Evs c μ ρ es (kLst P)) : Ev c μ ρ (.List es pos) P := fun Φ s I => by
  refine List_ (W.mono (h Φ s pos I) fun vs s₁ h₁ => ?_)
  obtain ⟨Φ₁, μ₁, as, l₁, I₁, r₁, ds, e₁, n₁, h₁⟩ := h₁
  have rs := r₁.rs e₁
  obtain ⟨le, I₂⟩ := I₁.newSeq false vs 0
  refine wpAny_newObj_type ⟨_, μ₁, _, l₁.trans le, I₂, ra_lst (Frz.put_self _ _ _) (rs.mono le.le), h₁⟩ (by show vs.toArray.size ≤ sizeLine; rw [List.size_toArray, rs.length, sizeLine_eq]; lia)
end

section
variable {c : Cx} {μ : Mu} {ρ : Rho} {P : Mu → Bool → Prop}
theorem Tr.plain {e : Expr} (h : Ev c μ ρ e (kTru c ρ P)) (he : ∀ whole, isTrue e c.env whole = (do let v ← whole; standAt e.pos; holding [v] (truthy v))) : Tr c μ ρ e P := fun Φ s I => by
  refine isTrue_plain (W.mono (h Φ s I) fun v s₁ h₁ => ?_) (he _)
  obtain ⟨Φ₁, μ₁, a, l₁, I₁, r₁, h₁⟩ := h₁
  exact W.mono (h₁ Φ₁ s₁ v I₁ r₁) fun b s₂ h₂ => h₂.up l₁
theorem Tr.not {x : Expr} {pos} (h : Tr c μ ρ x (kInv P)) : Tr c μ ρ (.UnaryOp .Not x pos) P := fun Φ s I => isTrue_not (W.mono (h Φ s I) fun _ _ h => by cases h with | mk X ξ h1 J p => exact ⟨X, ξ, h1, J, p⟩)
theorem Tr.andNil {pos} (h : P μ true) : Tr c μ ρ (.BoolOp .And [] pos) P := fun Φ s I => isTrue_and_nil ⟨Φ, μ, Mv.refl .., I, h⟩
theorem Tr.orNil {pos} (h : P μ false) : Tr c μ ρ (.BoolOp .Or [] pos) P := fun Φ s I => isTrue_or_nil ⟨Φ, μ, Mv.refl .., I, h⟩
theorem trBool {op : BoolOp} {rest : List Expr} {pos : Pos} (h : Tr c μ ρ (.BoolOp op rest pos) P) {Φ : Frz} {s : Shared} (I : Inv c Φ μ ρ s) (whole : Sem Value) : W c (isTrue (.BoolOp op rest pos) c.env whole) (PostB c Φ μ s ρ P) s := h Φ s I
theorem Tr.and {x : Expr} {rest} {pos} (h : Tr c μ ρ x (kAndT c ρ (.BoolOp .And rest pos) P)) : Tr c μ ρ (.BoolOp .And (x :: rest) pos) P := fun Φ s I => by
  refine isTrue_and (W.mono (h Φ s I) fun b s₁ h₁ => ?_)
  obtain ⟨Φ₁, μ₁, l₁, I₁, h₁⟩ := h₁
  cases b with
  | true => exact W.mono (trBool h₁ I₁ _) fun b s₂ h₂ => h₂.up l₁
  | false => exact ⟨Φ₁, μ₁, l₁, I₁, h₁⟩
theorem Tr.or {x : Expr} {rest} {pos} (h : Tr c μ ρ x (kOrT c ρ (.BoolOp .Or rest pos) P)) : Tr c μ ρ (.BoolOp .Or (x :: rest) pos) P := fun Φ s I => by
  refine isTrue_or (W.mono (h Φ s I) fun b s₁ h₁ => ?_)
  obtain ⟨Φ₁, μ₁, l₁, I₁, h₁⟩ := h₁
  cases b with
  | false => exact W.mono (trBool h₁ I₁ _) fun b s₂ h₂ => h₂.up l₁
  | true => exact ⟨Φ₁, μ₁, l₁, I₁, h₁⟩
theorem Tr.ite {t b o : Expr} {pos} (h : Tr c μ ρ t (kIteT c ρ b o P)) : Tr c μ ρ (.IfExp t b o pos) P := fun Φ s I => by
  refine isTrue_IfExp (W.mono (h Φ s I) fun x s₁ h₁ => ?_)
  obtain ⟨Φ₁, μ₁, l₁, I₁, h₁⟩ := h₁
  cases x with
  | true => exact W.mono (h₁ Φ₁ s₁ I₁) fun u s₃ h₃ => h₃.up l₁
  | false => exact W.mono (h₁ Φ₁ s₁ I₁) fun u s₃ h₃ => h₃.up l₁
theorem Tr.cmp {l r : Expr} {op : CmpOp} {pos} (h : Ev c μ ρ l (kOp1 c ρ r (compareOp op) (kTru c ρ P))) (hm : behindInMarks op r = false) : Tr c μ ρ (.Compare l [op] [r] pos) P := fun Φ s I => by
  refine wpAny_isTrue_Compare1 ?_ hm
  refine W.mono (h Φ s I) fun v s₁ h₁ => ?_
  obtain ⟨Φ₁, μ₁, a, l₁, I₁, r₁, h₁⟩ := h₁
  refine W.mono (h₁ Φ₁ s₁ I₁) fun w s₂ h₂ => ?_
  obtain ⟨Φ₂, μ₂, b, l₂, I₂, r₂, h₂⟩ := h₂
  refine W.mono (h₂ Φ₂ s₂ v w I₂ (r₁.mono l₂.le) r₂) fun u s₃ h₃ => ?_
  obtain ⟨Φ₃, μ₃, x, l₃, I₃, r₃, h₃⟩ := h₃
  exact W.mono (h₃ Φ₃ s₃ u I₃ r₃) fun b s₄ h₄ => h₄.up ((l₁.trans l₂).trans l₃)
end
end Mine
namespace Mine

theorem CxOk.u64 {c : Cx} (k : CxOk c) : c.A.units + 66 < cLine := by have := k.units; lia
open SeqAt in
theorem canLayAll_of {xs : List PyData} (h : shaped (.list xs) = true) : PyData.canLayAll0 xs = true := by
  have := canLay_of_shaped h
  simpa [PyData.canLay0] using this
section
variable {c : Cx} {μ : Mu} {ρ : Rho} {P : Mu → AV → Prop}
open SeqAt

theorem Op2.eq {a b : PyData} (ha : shaped a = true) (hb : shaped b = true) (h : P μ (.d (.bool (PyData.eqv a b)))) : Op2 c ρ (compareOp .Eq) μ (.d a) (.d b) P := fun Φ s v w I r q => by
  obtain ⟨as, ra⟩ := R.reads I.frz (d := a) r
  obtain ⟨bs, rb⟩ := R.reads I.frz (d := b) q
  exact eq_dataH ra rb ha hb (by have := I.ok.u64; lia) (Post.here I (ra_bool _) h)
theorem Op2.ne {a b : PyData} (ha : shaped a = true) (hb : shaped b = true) (h : P μ (.d (.bool (!PyData.eqv a b)))) : Op2 c ρ (compareOp .NotEq) μ (.d a) (.d b) P := fun Φ s v w I r q => by
  obtain ⟨as, ra⟩ := R.reads I.frz (d := a) r
  obtain ⟨bs, rb⟩ := R.reads I.frz (d := b) q
  exact ne_dataH ra rb ha hb (by have := I.ok.u64; lia) (Post.here I (ra_bool _) h)
theorem min_le64 {d : PyData} {n : Nat} (h : shaped d = true) : min n d.depth ≤ 64 := Nat.le_trans (Nat.min_le_right _ _) (depth_of_shaped h)
theorem Op2.inL {x : PyData} {xs : List PyData} (ha : shaped x = true) (hb : shaped (.list xs) = true) (h : P μ (.d (.bool (xs.any fun y => PyData.eqv y x)))) : Op2 c ρ (compareOp .In) μ (.d x) (.d (.list xs)) P := fun Φ s v w I r q => by
  obtain ⟨as, ra⟩ := R.reads I.frz (d := x) r
  obtain ⟨bs, rb⟩ := R.reads I.frz (d := .list xs) q
  exact in_list_reads rb ra (canLayAll_of hb) (canLay_of_shaped ha) (by have := I.ok.u64; have := min_le64 (n := PyData.depthAll xs) ha; lia) (Post.here I (ra_bool _) h)
theorem Op2.ninL {x : PyData} {xs : List PyData} (ha : shaped x = true) (hb : shaped (.list xs) = true) (h : P μ (.d (.bool (!xs.any fun y => PyData.eqv y x)))) : Op2 c ρ (compareOp .NotIn) μ (.d x) (.d (.list xs)) P := fun Φ s v w I r q => by
  obtain ⟨as, ra⟩ := R.reads I.frz (d := x) r
  obtain ⟨bs, rb⟩ := R.reads I.frz (d := .list xs) q
  exact notIn_list_reads rb ra (canLayAll_of hb) (canLay_of_shaped ha) (by have := I.ok.u64; have := min_le64 (n := PyData.depthAll xs) ha; lia) (Post.here I (ra_bool _) h)
theorem Op2.inT {x : PyData} {xs : List PyData} (ha : shaped x = true) (hb : shaped (.list xs) = true) (h : P μ (.d (.bool (xs.any fun y => PyData.eqv y x)))) : Op2 c ρ (compareOp .In) μ (.d x) (.d (.tuple xs)) P := fun Φ s v w I r q => by
  obtain ⟨as, ra⟩ := R.reads I.frz (d := x) r
  obtain ⟨bs, rb⟩ := R.reads I.frz (d := .tuple xs) q
  exact in_tuple_reads rb ra (canLayAll_of hb) (canLay_of_shaped ha) (by have := I.ok.u64; have := min_le64 (n := PyData.depthAll xs) ha; lia) (Post.here I (ra_bool _) h)
theorem Op2.ninT {x : PyData} {xs : List PyData} (ha : shaped x = true) (hb : shaped (.list xs) = true) (h : P μ (.d (.bool (!xs.any fun y => PyData.eqv y x)))) : Op2 c ρ (compareOp .NotIn) μ (.d x) (.d (.tuple xs)) P := fun Φ s v w I r q => by
  obtain ⟨as, ra⟩ := R.reads I.frz (d := x) r
  obtain ⟨bs, rb⟩ := R.reads I.frz (d := .tuple xs) q
  exact notIn_tuple_reads rb ra (canLayAll_of hb) (canLay_of_shaped ha) (by have := I.ok.u64; have := min_le64 (n := PyData.depthAll xs) ha; lia) (Post.here I (ra_bool _) h)
noncomputable def isNone : PyData → Bool
  | .none => true
  | _ => false
theorem ra_isNone {Φ : Frz} {a : PyData} {v : Value} (r : RA Φ (.d a) v) : (v == .none) = isNone a := by
  cases a with
  | none => rw [ra_none' r]; rfl
  | bool b => rw [ra_bool' r]; rfl
  | int i => obtain ⟨t, rfl⟩ := ra_int' r; rfl
  | str i => obtain ⟨t, rfl⟩ := ra_str' r; rfl
  | list l => obtain ⟨a, vs, rfl, _⟩ := ra_lst' r; rfl
  | tuple l => obtain ⟨a, vs, rfl, _⟩ := ra_tup' r; rfl
  | dict l => have r : R _ _ _ := r; simp only [R] at r
theorem Op2.isNone {a : PyData} (h : P μ (.d (.bool (isNone a)))) : Op2 c ρ (compareOp .Is) μ (.d a) (.d .none) P := fun Φ s v w I r q => by
  obtain rfl := ra_none' q
  exact is_none_gen (by rw [ra_isNone r]; exact Post.here I (ra_bool _) h)
theorem Op2.isNotNone {a : PyData} (h : P μ (.d (.bool (!Mine.isNone a)))) : Op2 c ρ (compareOp .IsNot) μ (.d a) (.d .none) P := fun Φ s v w I r q => by
  obtain rfl := ra_none' q
  exact isnot_none_gen (by rw [ra_isNone r]; exact Post.here I (ra_bool _) h)
theorem Op2.gt {a b : Int} (h : P μ (.d (.bool (decide (a > b))))) : Op2 c ρ (compareOp .Gt) μ (.d (.int a)) (.d (.int b)) P := fun Φ s v w I r q => by
  obtain ⟨t, rfl⟩ := ra_int' r
  obtain ⟨u, rfl⟩ := ra_int' q
  exact gt_int (Post.here I (ra_bool _) h)
theorem Op2.lt {a b : Int} (h : P μ (.d (.bool (decide (a < b))))) : Op2 c ρ (compareOp .Lt) μ (.d (.int a)) (.d (.int b)) P := fun Φ s v w I r q => by
  obtain ⟨t, rfl⟩ := ra_int' r
  obtain ⟨u, rfl⟩ := ra_int' q
  exact lt_int (Post.here I (ra_bool _) h)
theorem Op2.ge {a b : Int} (h : P μ (.d (.bool (decide (a ≥ b))))) : Op2 c ρ (compareOp .GtE) μ (.d (.int a)) (.d (.int b)) P := fun Φ s v w I r q => by
  obtain ⟨t, rfl⟩ := ra_int' r
  obtain ⟨u, rfl⟩ := ra_int' q
  exact ge_int (Post.here I (ra_bool _) h)
theorem Op2.add {a b : Int} (h : P μ (.d (.int (a + b)))) : Op2 c ρ (binaryOp .Add) μ (.d (.int a)) (.d (.int b)) P := fun Φ s v w I r q => by
  obtain ⟨t, rfl⟩ := ra_int' r
  obtain ⟨u, rfl⟩ := ra_int' q
  exact add_int (Post.then (I.toks _) (ra_int _ _) h)
theorem Op2.subI {a b : Int} (h : P μ (.d (.int (a - b)))) : Op2 c ρ (binaryOp .Sub) μ (.d (.int a)) (.d (.int b)) P := fun Φ s v w I r q => by
  obtain ⟨t, rfl⟩ := ra_int' r
  obtain ⟨u, rfl⟩ := ra_int' q
  exact sub_int (Post.then (I.toks _) (ra_int _ _) h)
theorem Op2.mulI {a b : Int} (hm : IntMulOk a b) (h : P μ (.d (.int (a * b)))) : Op2 c ρ (binaryOp .Mult) μ (.d (.int a)) (.d (.int b)) P := fun Φ s v w I r q => by
  obtain ⟨t, rfl⟩ := ra_int' r
  obtain ⟨u, rfl⟩ := ra_int' q
  exact mul_int (Post.then (I.toks _) (ra_int _ _) h) hm

noncomputable def itemAt (ds : List PyData) (k : Int) : Option PyData := (seqIndex? k ds.length).bind fun j => ds[j]?
theorem itemAt_some {ds : List PyData} {k : Int} {d : PyData} (h : itemAt ds k = some d) : ∃ j, seqIndex? k ds.length = some j ∧ ds[j]? = some d := by
  unfold itemAt at h
  obtain ⟨j, h1, h2⟩ := Option.bind_eq_some_iff.mp h
  exact ⟨j, h1, h2⟩
theorem Op2.itemT {l r : Expr} {ds : List PyData} {k : Int} {d : PyData} (hs : ∀ a k t, subscripted r false (.ref a) (.int k t) = operate [.ref a, .int k t] (getItem (.ref a) (.int k t))) (hlo : -(2 ^ 63) ≤ k) (hhi : k < 2 ^ 63)
    (e : itemAt ds k = some d) (h : P μ (.d d)) : Op2 c ρ (subscriptTail l r) μ (.d (.tuple ds)) (.d (.int k)) P := fun Φ s v w I ra rb => by
  obtain ⟨a, vs, rfl, h1, h2⟩ := ra_tup' ra
  obtain ⟨t, rfl⟩ := ra_int' rb
  obtain ⟨n, e1⟩ := I.frz _ _ _ h1
  obtain ⟨j, e4, e5⟩ := itemAt_some e
  obtain ⟨x, e6, e7⟩ := h2.get e5
  exact item_tupleT (l := vs) ⟨_, e1, rfl, n, rfl⟩ hlo hhi (by rw [h2.length]; exact e4) e6 (Post.here I (ra_d e7) h) (hs _ _ _)
theorem isList_of_frz {Φ : Frz} {h : Heap} (k : FrzOk Φ h) {a : Addr} {vs : List Value} (e : Φ a = some (false, vs)) : h.IsList a vs.toArray := by
  obtain ⟨n, e1⟩ := k _ _ _ e
  exact ⟨_, e1, rfl, n, rfl⟩
theorem isTup_of_frz {Φ : Frz} {h : Heap} (k : FrzOk Φ h) {a : Addr} {vs : List Value} (e : Φ a = some (true, vs)) : IsTup h a vs.toArray := by
  obtain ⟨n, e1⟩ := k _ _ _ e
  exact ⟨_, e1, rfl, n, rfl⟩
theorem Op2.itemL {l r : Expr} {ds : List PyData} {k : Int} {d : PyData} (hs : ∀ a k t, subscripted r false (.ref a) (.int k t) = operate [.ref a, .int k t] (getItem (.ref a) (.int k t))) (h0 : 0 ≤ k) (hhi : k < 2 ^ 63)
    (e : ds[k.toNat]? = some d) (h : P μ (.d d)) : Op2 c ρ (subscriptTail l r) μ (.d (.list ds)) (.d (.int k)) P := fun Φ s v w I ra rb => by
  obtain ⟨a, vs, rfl, h1, h2⟩ := ra_lst' ra
  obtain ⟨t, rfl⟩ := ra_int' rb
  obtain ⟨x, e6, e7⟩ := h2.get e
  have hl := isList_of_frz I.frz h1
  exact tail_any hl.typeIs slot_list_getitem.lookup (wpAny_getItem_list hl h0 hhi (by simpa using e6) (Post.here I (ra_d e7) h)) (hs _ _ _)

theorem Op2.addL {xs ys : List PyData} (hn : xs.length + ys.length ≤ 1000000) (h : P μ (.d (.list (xs ++ ys)))) : Op2 c ρ (binaryOp .Add) μ (.d (.list xs)) (.d (.list ys)) P := fun Φ s v w I ra rb => by
  obtain ⟨a, vs, rfl, h1, h2⟩ := ra_lst' ra
  obtain ⟨b, ws, rfl, h3, h4⟩ := ra_lst' rb
  obtain ⟨n, ho⟩ := I.frz _ _ _ h1
  obtain ⟨n2, ho2⟩ := I.frz _ _ _ h3
  obtain ⟨le, I'⟩ := I.newSeq false (vs ++ ws) 0
  show wpAny (model c.g.prog c.g.w) c.A (binaryOp .Add (.ref a) (.ref b)) _ _ s
  refine concat_meets ⟨_, ho, rfl⟩ ⟨_, ho2, rfl⟩ noFill_list_add seq_list_add PySem.F.slot_list_add PySem.F.entry_list_add (PySem.F.args_list_add_2 _ _) (list_addW a b vs.toArray ws.toArray n n2 none none #[] #[] ?_) ⟨ho, ho2, ?_⟩
  · rw [List.size_toArray, List.size_toArray, h2.length, h4.length, sizeLine_eq]; lia
  · rw [show vs.toArray ++ ws.toArray = (vs ++ ws).toArray by simp]
    exact ⟨_, μ, _, le, I', ra_lst (Frz.put_self _ _ _) ((h2.append h4).mono le.le), h⟩
theorem Op2.addT {xs ys : List PyData} (hn : xs.length + ys.length ≤ 1000000) (h : P μ (.d (.tuple (xs ++ ys)))) : Op2 c ρ (binaryOp .Add) μ (.d (.tuple xs)) (.d (.tuple ys)) P := fun Φ s v w I ra rb => by
  obtain ⟨a, vs, rfl, h1, h2⟩ := ra_tup' ra
  obtain ⟨b, ws, rfl, h3, h4⟩ := ra_tup' rb
  obtain ⟨n, ho⟩ := I.frz _ _ _ h1
  obtain ⟨n2, ho2⟩ := I.frz _ _ _ h3
  show wpAny (model c.g.prog c.g.w) c.A (binaryOp .Add (.ref a) (.ref b)) _ _ s
  by_cases hv : vs = []
  · subst hv
    have : xs = [] := by cases xs with | nil => rfl | cons x r => have := h2.length; simp at this
    subst this
    exact concat_meets ⟨_, ho, rfl⟩ ⟨_, ho2, rfl⟩ noFill_tuple_add seq_tuple_add PySem.F.slot_tuple_add PySem.F.entry_tuple_add (PySem.F.args_tuple_add_2 _ _)
      (tuple_addW0 a b [].toArray ws.toArray n n2 none none #[] #[] rfl) ⟨ho, ho2, Post.here I rb h⟩
  · by_cases hw : ws = []
    · subst hw
      have : ys = [] := by cases ys with | nil => rfl | cons x r => have := h4.length; simp at this
      subst this
      rw [List.append_nil] at h
      exact concat_meets ⟨_, ho, rfl⟩ ⟨_, ho2, rfl⟩ noFill_tuple_add seq_tuple_add PySem.F.slot_tuple_add PySem.F.entry_tuple_add (PySem.F.args_tuple_add_2 _ _)
        (tuple_addW1 a b vs.toArray [].toArray n n2 none none #[] #[] (by simpa using hv) rfl) ⟨ho, ho2, Post.here I ra h⟩
    · obtain ⟨le, I'⟩ := I.newSeq true (vs ++ ws) 0
      refine concat_meets ⟨_, ho, rfl⟩ ⟨_, ho2, rfl⟩ noFill_tuple_add seq_tuple_add PySem.F.slot_tuple_add PySem.F.entry_tuple_add (PySem.F.args_tuple_add_2 _ _) (tuple_addW2 a b vs.toArray ws.toArray n n2 none none #[] #[] (by simpa using hv) (by simpa using hw) ?_) ⟨ho, ho2, ?_⟩
      · rw [List.size_toArray, List.size_toArray, h2.length, h4.length, sizeLine_eq]; lia
      · rw [show vs.toArray ++ ws.toArray = (vs ++ ws).toArray by simp]
        exact ⟨_, μ, _, le, I', ra_tup (Frz.put_self _ _ _) ((h2.append h4).mono le.le), h⟩
end
end Mine
namespace Mine
open Builtin

theorem join01 (xs : List Value) (k : Nat) (h : k = 0 ∨ k = 1) : (List.foldl (fun x1 x2 => x1 ++ x2) #[] (List.replicate (if xs.toArray.isEmpty = true then 0 else k) xs.toArray)) = (if k = 1 then xs else []).toArray := by
  rcases h with rfl | rfl
  · simp
  · cases xs with
    | nil => simp
    | cons x r => simp
theorem noFill_tuple_mul : fillsNumberSlot (.type "tuple") "mul" = pure false :=
  PySem.fillsNumberSlot_seq (id := "tuple.__mul__") (r := some (.builtin "tuple.__rmul__")) F.slot_tuple_mul.lookup (by decide +kernel) F.slot_tuple_rmul.lookup (by decide +kernel)
theorem repeat_tuple : seqRepeat? (.type "tuple") = pure (some (.builtin "tuple.__mul__")) := by
  unfold seqRepeat?
  rw [PySem.seqSlot_of (T := "tuple") (name := "__mul__") (id := "tuple.__mul__") F.slot_tuple_mul.lookup (by decide +kernel), PySem.seqSlot_of (T := "tuple") (name := "__rmul__") (id := "tuple.__rmul__") F.slot_tuple_rmul.lookup (by decide +kernel)]
  rfl
theorem rmul_tuple (a : Int) (t : Tok) (l : Addr) (items : Array Value) (n : Nat) :
    Meets (Builtin.«int.__rmul__» ⟨[.int a t, .ref l], []⟩) (fun _ R s => s.heap.get? l = some { cls := .type "tuple", dict := none, data := .seq items n, slots := #[] } ∧ R (.ok (.ret Value.notImplemented)) s) :=
  .of_wp fun prog w A R s h => by obtain ⟨hp, g, d, tk, os⟩ := s; obtain ⟨hl, h⟩ := h; wp_walk; exact ⟨_, rfl, h⟩
theorem mul_tuple0 (l : Addr) (items : Array Value) (n : Nat) (u : Tok) (hne : items.isEmpty = false) :
    Meets (Builtin.«tuple.__mul__» ⟨[.ref l, .int 0 u], []⟩) (fun _ R s => s.heap.get? l = some { cls := .type "tuple", dict := none, data := .seq items n, slots := #[] } ∧ R (.ok (.ret (Value.ref s.heap.objs.size))) { s with heap := s.heap.push { cls := Value.type "tuple", data := Data.seq #[] }, toks := s.toks }) :=
  .of_wp fun prog w A R s h => by
    obtain ⟨hp, g, d, tk, os⟩ := s; obtain ⟨hl, h⟩ := h
    wp_walk
    exact ⟨_, rfl, h⟩
theorem mul_tuple1 (l : Addr) (items : Array Value) (n : Nat) (u : Tok) :
    Meets (Builtin.«tuple.__mul__» ⟨[.ref l, .int 1 u], []⟩) (fun _ R s => s.heap.get? l = some { cls := .type "tuple", dict := none, data := .seq items n, slots := #[] } ∧ R (.ok (.ret (Value.ref l))) s) :=
  .of_wp fun prog w A R s h => by
    obtain ⟨hp, g, d, tk, os⟩ := s; obtain ⟨hl, h⟩ := h
    have f1 := AutoSeq1.sub_tuple_tuple
    wp_walk
    exact ⟨_, rfl, h⟩
section
variable {c : Cx} {μ : Mu} {ρ : Rho} {P : Mu → AV → Prop}
theorem Op2.mulL {xs : List PyData} {k : Int} (hk : k = 0 ∨ k = 1) (hn : xs.length ≤ 1000000) (h : P μ (.d (.list (if k = 1 then xs else [])))) : Op2 c ρ (binaryOp .Mult) μ (.d (.list xs)) (.d (.int k)) P := fun Φ s v w I ra rb => by
  obtain ⟨a, vs, rfl, h1, h2⟩ := ra_lst' ra
  obtain ⟨u, rfl⟩ := ra_int' rb
  obtain ⟨n, hl⟩ := I.frz _ _ _ h1
  have hl : s.heap.get? a = some { cls := .type "list", dict := none, data := .seq vs.toArray n, slots := #[] } := hl
  have hz := h2.length
  have k01 : k.toNat = 0 ∨ k.toNat = 1 := by lia
  have q : vs.length * k.toNat ≤ 1000000 := by rcases k01 with e | e <;> rw [e] <;> lia
  obtain ⟨le, I'⟩ := I.newSeq false (if k.toNat = 1 then vs else []) 0
  show wpAny (model c.g.prog c.g.w) c.A (binaryOp .Mult (.ref a) (.int k u)) _ _ s
  refine wpAny_binaryOp_repeat_ref (T := "list") (U := "int") (by decide) ⟨_, hl, rfl⟩ (fun s' => typeIs_int s' k u) noFill_list_mul PySem.F.fills_int_mul PySem.F.slot_int_rmul repeat_list PySem.F.slot_int_index.lookup
    (call_meets PySem.F.slot_int_rmul (typeIs_int s k u) PySem.F.entry_int_rmul (PySem.F.args_int_rmul_2 _ _) (int___rmul___int_list k u a vs.toArray n)
      ⟨hl, rfl, ⟨_, hl, rfl⟩, call_meets PySem.F.slot_list_mul ⟨_, hl, rfl⟩ PySem.F.entry_list_mul (PySem.F.args_list_mul_2 _ _)
        (AutoListH.list___mul___list_int_3 a vs.toArray n k u (by simp [Builtin.List.listFitsIndex]; lia) (by rw [List.size_toArray]; lia) (by rw [List.size_toArray]; simp [Builtin.List.listTooLong, sizeLine]; lia)) ⟨hl, ?_⟩⟩)
  rw [join01 vs _ k01]
  refine ⟨_, μ, _, le, I', ra_lst (Frz.put_self _ _ _) ?_, h⟩
  by_cases e : k = 1
  · subst e; exact h2.mono le.le
  · rw [if_neg e, if_neg (by lia)]; exact Rs.nil
theorem Op2.mulT {xs : List PyData} {k : Int} (hk : k = 0 ∨ k = 1) (hne : xs ≠ []) (h : P μ (.d (.tuple (if k = 1 then xs else [])))) : Op2 c ρ (binaryOp .Mult) μ (.d (.tuple xs)) (.d (.int k)) P := fun Φ s v w I ra rb => by
  obtain ⟨a, vs, rfl, h1, h2⟩ := ra_tup' ra
  obtain ⟨u, rfl⟩ := ra_int' rb
  obtain ⟨n, hl⟩ := I.frz _ _ _ h1
  have hl : s.heap.get? a = some { cls := .type "tuple", dict := none, data := .seq vs.toArray n, slots := #[] } := hl
  have hv : vs ≠ [] := fun e => by subst e; have := h2.length; cases xs with | nil => exact hne rfl | cons _ _ => simp at this
  show wpAny (model c.g.prog c.g.w) c.A (binaryOp .Mult (.ref a) (.int k u)) _ _ s
  rcases hk with rfl | rfl
  · obtain ⟨le, I'⟩ := I.newSeq true [] 0
    exact wpAny_binaryOp_repeat_ref (T := "tuple") (U := "int") (by decide) ⟨_, hl, rfl⟩ (fun s' => typeIs_int s' 0 u) noFill_tuple_mul PySem.F.fills_int_mul PySem.F.slot_int_rmul repeat_tuple PySem.F.slot_int_index.lookup
      (call_meets PySem.F.slot_int_rmul (typeIs_int s 0 u) PySem.F.entry_int_rmul (PySem.F.args_int_rmul_2 _ _) (rmul_tuple 0 u a vs.toArray n)
        ⟨hl, rfl, ⟨_, hl, rfl⟩, call_meets PySem.F.slot_tuple_mul ⟨_, hl, rfl⟩ PySem.F.entry_tuple_mul (PySem.F.args_tuple_mul_2 _ _)
          (mul_tuple0 a vs.toArray n u (by simpa using hv)) ⟨hl, ⟨_, μ, _, le, I', ra_tup (Frz.put_self _ _ _) Rs.nil, h⟩⟩⟩)
  · exact wpAny_binaryOp_repeat_ref (T := "tuple") (U := "int") (by decide) ⟨_, hl, rfl⟩ (fun s' => typeIs_int s' 1 u) noFill_tuple_mul PySem.F.fills_int_mul PySem.F.slot_int_rmul repeat_tuple PySem.F.slot_int_index.lookup
      (call_meets PySem.F.slot_int_rmul (typeIs_int s 1 u) PySem.F.entry_int_rmul (PySem.F.args_int_rmul_2 _ _) (rmul_tuple 1 u a vs.toArray n)
        ⟨hl, rfl, ⟨_, hl, rfl⟩, call_meets PySem.F.slot_tuple_mul ⟨_, hl, rfl⟩ PySem.F.entry_tuple_mul (PySem.F.args_tuple_mul_2 _ _)
          (mul_tuple1 a vs.toArray n u) ⟨hl, Post.here I ra h⟩⟩)

/-- a value is called -/
noncomputable def CallV (c : Cx) (ρ : Rho) (μ : Mu) (f : Value) (as : List AV) (P : Mu → AV → Prop) : Prop := ∀ Φ s vs, Inv c Φ μ ρ s → RAs Φ as vs → W c (call f vs) (Post c Φ μ s ρ P) s
noncomputable def Callable (c : Cx) : Value → Prop
  | .builtin _ => True
  | .type _ => True
  | .ref a => keepIn c.g.K (.ref a) = true
  | _ => False
theorem backTo_plain {pos : Pos} {l : List (Bool × Sem Value)} (h : l.any (·.1) = false) : (backTo pos l).any (·.1) = false := by
  induction l with
  | nil => rfl
  | cons x r ih =>
    simp only [List.any_cons, Bool.or_eq_false_iff] at h
    show (x.1 || (backTo pos r).any (·.1)) = false
    rw [h.1, ih h.2]; rfl
theorem evalArgs_any {M : Model} {A : Around} {E : Value → Shared → Prop} {s : Shared} {f : Value} {l : List (Bool × Sem Value)} {Q : Args → Shared → Prop} (hp : l.any (·.1) = false) (h : wpAny M A (spliced l) (fun vs s' => Q ⟨vs, []⟩ s') E s) : wpAny M A (evalArgs f true l []) Q E s := by
  cases l with
  | nil =>
    unfold evalArgs
    show wpAny M A (spliced [] >>= _) Q E s
    refine wpAny_bind (wpAny_mono h (fun vs s' h' => ?_) fun _ _ x => x)
    refine wpAny_bind (wpAny_pure ?_)
    exact wpAny_holding (wpAny_bind (wpAny_pure (wpAny_bind (wpAny_pure (wpAny_pure h')))))
  | cons x r =>
    obtain ⟨b, t⟩ := x
    simp only [List.any_cons, Bool.or_eq_false_iff] at hp
    obtain ⟨rfl, _⟩ := hp
    exact evalArgs_plain h
@[reducible] noncomputable def kCal2 (c : Cx) (ρ : Rho) (f : Value) (P : Mu → AV → Prop) : Mu → List AV → Prop := fun μ as => CallV c ρ μ f as P
@[reducible] noncomputable def kCal (c : Cx) (ρ : Rho) (args : List Expr) (P : Mu → AV → Prop) : Mu → AV → Prop := fun μ a => ∃ f, a = .v f ∧ Callable c f ∧ Evs c μ ρ args (kCal2 c ρ f P)
theorem kCal.mk {args : List Expr} {f : Value} (h : Callable c f) (k : Evs c μ ρ args (kCal2 c ρ f P)) : kCal c ρ args P μ (.v f) := ⟨f, rfl, h, k⟩
theorem Ev.call {fe : Expr} {args : List Expr} {pos} (h : Ev c μ ρ fe (kCal c ρ args P))
    (he : eval (.Call fe args [] pos) c.env = (do callWith pos (← eval fe c.env) [] (backTo pos (starEach args c.env)) (backToKw pos (keywordEach [] c.env))))
    (hp : (starEach args c.env).any (·.1) = false) : Ev c μ ρ (.Call fe args [] pos) P := fun Φ s I => by
  refine Call_ (W.mono (h Φ s I) fun v s₁ h₁ => ?_) he
  obtain ⟨Φ₁, μ₁, a, l₁, I₁, r₁, f, rfl, hc, h₁⟩ := h₁
  obtain rfl := ra_v' r₁
  have hb := backTo_plain (pos := pos) hp
  have body : ∀ {Q : List Value → Shared → Prop}, (∀ Φ₂ μ₂ as vs s₂, Mv c Φ₁ μ₁ s₁ Φ₂ μ₂ s₂ → Inv c Φ₂ μ₂ ρ s₂ → RAs Φ₂ as vs → CallV c ρ μ₂ v as P → Q vs s₂) → W c (spliced (backTo pos (starEach args c.env))) Q s₁ := fun k =>
    W.mono (h₁ Φ₁ s₁ pos I₁) fun vs s₂ h₂ => by
      obtain ⟨Φ₂, μ₂, as, l₂, I₂, r₂, h₂⟩ := h₂
      exact k Φ₂ μ₂ as vs s₂ l₂ I₂ r₂ h₂
  cases v with
  | builtin id => exact callWith_builtin hb (evalArgs_any hb (body fun Φ₂ μ₂ as vs s₂ l₂ I₂ r₂ k => W.mono (k Φ₂ s₂ vs I₂ r₂) fun u s₃ h₃ => h₃.up (l₁.trans l₂)))
  | type T => exact PySem.callWith_type hb (evalArgs_any hb (body fun Φ₂ μ₂ as vs s₂ l₂ I₂ r₂ k => W.mono (k Φ₂ s₂ vs I₂ r₂) fun u s₃ h₃ => h₃.up (l₁.trans l₂)))
  | ref a => exact callWith_of (P := fun h => c.g.K.In h) (by simp only [hb, List.any_nil, Bool.or_false]) (keeps_K hc) (evalArgs_any hb (body fun Φ₂ μ₂ as vs s₂ l₂ I₂ r₂ k => ⟨c.g.X.keeps I₂.old, W.mono (k Φ₂ s₂ vs I₂ r₂) fun u s₃ h₃ => h₃.up (l₁.trans l₂)⟩))
  | _ => exact hc.elim

theorem CallV.len {ds : List PyData} {b : Bool} (hn : ds.length ≤ 1000000) (h : P μ (.d (.int ds.length))) : CallV c ρ μ (.builtin "len") [.d (if b then .tuple ds else .list ds)] P := fun Φ s vs I r => by
  obtain ⟨v, ws, rfl, r1, rfl⟩ := r
  cases b with
  | true =>
    obtain ⟨a, us, rfl, h1, h2⟩ := ra_tup' r1
    refine PyProof.Rows.len_tuple (isTup_of_frz I.frz h1) (by rw [List.size_toArray, h2.length]; lia) ?_
    rw [List.size_toArray, h2.length]
    exact Post.then (I.toks _) (ra_int _ _) h
  | false =>
    obtain ⟨a, us, rfl, h1, h2⟩ := ra_lst' r1
    refine PyProof.Rows.len_list (isList_of_frz I.frz h1) (by rw [List.size_toArray, h2.length]; lia) ?_
    rw [List.size_toArray, h2.length]
    exact Post.then (I.toks _) (ra_int _ _) h
theorem CallV.lenT {ds : List PyData} (hn : ds.length ≤ 1000000) (h : P μ (.d (.int ds.length))) : CallV c ρ μ (.builtin "len") [.d (.tuple ds)] P := CallV.len (b := true) hn h
theorem CallV.lenL {ds : List PyData} (hn : ds.length ≤ 1000000) (h : P μ (.d (.int ds.length))) : CallV c ρ μ (.builtin "len") [.d (.list ds)] P := CallV.len (b := false) hn h
theorem CallV.intB {b : Bool} (h : P μ (.d (.int (if b then 1 else 0)))) : CallV c ρ μ (.type "int") [.d (.bool b)] P := fun Φ s vs I r => by
  obtain ⟨v, ws, rfl, r1, rfl⟩ := r
  obtain rfl := ra_bool' r1
  exact call_int_bool (Post.then (I.toks _) (ra_int _ _) h)
theorem CallV.max {a b : Int} (h : P μ (.d (.int (if b > a then b else a)))) : CallV c ρ μ (.builtin "max") [.d (.int a), .d (.int b)] P := fun Φ s vs I r => by
  obtain ⟨v, ws, rfl, r1, w, us, rfl, r2, rfl⟩ := r
  obtain ⟨t, rfl⟩ := ra_int' r1
  obtain ⟨u, rfl⟩ := ra_int' r2
  refine max_two_ints I.ok.hh fun h' tk hk => ?_
  refine Post.then (I.keeps hk) (a := .d (.int (if b > a then b else a))) ?_ h
  split <;> exact ra_int _ _
theorem CallV.min {a b : Int} (h : P μ (.d (.int (if b < a then b else a)))) : CallV c ρ μ (.builtin "min") [.d (.int a), .d (.int b)] P := fun Φ s vs I r => by
  obtain ⟨v, ws, rfl, r1, w, us, rfl, r2, rfl⟩ := r
  obtain ⟨t, rfl⟩ := ra_int' r1
  obtain ⟨u, rfl⟩ := ra_int' r2
  refine min_two_ints I.ok.hh fun h' tk hk => ?_
  refine Post.then (I.keeps hk) (a := .d (.int (if b < a then b else a))) ?_ h
  split <;> exact ra_int _ _
theorem CallV.tupL {ds : List PyData} (hn : ds.length ≤ 1000000) (h : P μ (.d (.tuple ds))) : CallV c ρ μ (.type "tuple") [.d (.list ds)] P := fun Φ s vs I r => by
  obtain ⟨v, ws, rfl, r1, rfl⟩ := r
  obtain ⟨a, us, rfl, h1, h2⟩ := ra_lst' r1
  refine call_tuple_list (isList_of_frz I.frz h1) (fun h' hk => ?_) (by rw [List.size_toArray, h2.length, sizeLine_eq]; lia)
  obtain ⟨m', I'⟩ := I.keeps (tk := s.toks) hk
  obtain ⟨le, I''⟩ := I'.newSeq true us 0
  exact ⟨_, μ, _, m'.trans le, I'', ra_tup (Frz.put_self _ _ _) (h2.mono le.le), h⟩
end
end Mine
namespace Mine

theorem ns_uniq {h : Heap} {L : Addr} {m m' : Str → Option Value} (x : h.Ns L m) (y : h.Ns L m') : m = m' := by
  obtain ⟨o, es, ep, e, d, _, f⟩ := x
  obtain ⟨o', es', ep', e', d', _, f'⟩ := y
  rw [e] at e'; cases e'
  rw [d] at d'; cases d'
  funext n
  rw [← f n, ← f' n]

/-- a place of the body's own changes -/
theorem Inv.chg {c : Cx} {Φ : Frz} {μ : Mu} {ρ ρ' : Rho} {s : Shared} (I : Inv c Φ μ ρ s) {b : Addr} (hb : Sto c b) {h' : Heap} {tk : Nat} (sb : Heap.SameBut b s.heap h') (ns : ∃ m, h'.Ns c.env.locals m)
    (cells : ∀ x a, c.env.cells.lookup x = some a → ∃ v, h'.IsCell a v) (nf : ∃ o, h'.get? b = some o ∧ ∀ vs, o.data ≠ .fields vs) (was : ∃ o, s.heap.get? b = some o ∧ ∀ vs n, o.data ≠ .seq vs n) (hb₀ : c.g.h₀.get? b = none)
    (vars : ∀ x a, look ρ' x = some a → ∃ v, At c.env h' x v ∧ RA Φ a v) : Mv c Φ μ s Φ μ { s with heap := h', toks := tk } ∧ Inv c Φ μ ρ' { s with heap := h', toks := tk } := by
  have k : Keep (fun a => a = b) s.heap h' := Keep.of_keepsBut fun a o n e => (sb.2 a n).trans e
  refine ⟨⟨Frz.le.refl _, fun _ _ h => .inl h, k.mono fun a q => .inl (q ▸ hb), fun a q => .inl q, k.alive fun a q => ?_, rfl, rfl, rfl⟩, ⟨I.ok, fun a o e => ?_, ns, I.above, fun x a e => ⟨cells x a e, (I.cells x a e).2⟩, vars, ?_, ⟨I.mu.1, fun p hp => ?_⟩, I.muOff, fun l e => funFrames_keep k (fun a q => ?_) (I.ff l e), I.still⟩⟩
  · obtain ⟨o, e, _⟩ := nf; exact ⟨o, q ▸ e⟩
  · refine (sb.2 a fun q => ?_).trans (I.old a o e)
    rw [q, hb₀] at e; cases e
  · refine I.frz.keep k fun a q => ?_
    obtain ⟨o, e, n⟩ := was
    cases z : Φ a with
    | none => rfl
    | some x =>
      obtain ⟨m, e'⟩ := I.frz a x.1 x.2 z
      rw [q, e] at e'; cases e'
      exact absurd rfl (n _ _)
  · obtain ⟨⟨o, e, m⟩, r⟩ := I.mu.2 p hp
    refine ⟨⟨o, (sb.2 p.1 fun q => ?_).trans e, m⟩, r⟩
    exact I.keyOff (keysOf_iff.mpr ⟨p, hp, rfl⟩) (q ▸ hb.own)
  · obtain ⟨o, e, n⟩ := nf; exact ⟨o, q ▸ e, n⟩

/-- where a name may be stored -/
noncomputable def CanPut (c : Cx) (x : Str) : Prop := (x == ("__debug__" : Str)) = false ∧ (x == ("__classdict__" : Str)) = false ∧ (c.env.kindOf x = some .local ∨ (c.ro = false ∧ c.env.kindOf x = some .cell ∧ ∃ a, c.env.cells.lookup x = some a))
theorem storeAt {c : Cx} {Φ : Frz} {μ : Mu} {ρ : Rho} {s : Shared} {x : Str} {v : Value} {a : AV} {Q : Unit → Shared → Prop} (I : Inv c Φ μ ρ s) (hx : CanPut c x) (r : RA Φ a v)
    (h : ∀ s', Mv c Φ μ s Φ μ s' ∧ Inv c Φ μ ((x, a) :: ρ) s' → Q () s') : W c (storeName c.env x v) Q s := by
  obtain ⟨d1, d2, hx | ⟨hro, hx, ca, hl⟩⟩ := hx
  · obtain ⟨m, hn⟩ := I.ns
    refine wpAny_storeName_local hx hn (fun h' hn' sb => h _ ?_) (by show (c.env.scope.kind == .class || (c.env.scope.kind == .module && _)) = false; rw [I.ok.kind]; rfl)
    obtain ⟨o, es, ep, e, d, _⟩ := id hn
    obtain ⟨o', es', ep', e', d', _⟩ := id hn'
    refine I.chg (.inl rfl) sb ⟨_, hn'⟩ (fun y b z => ?_) ⟨o', e', fun vs q => by rw [d'] at q; cases q⟩ ⟨o, e, fun vs n q => by rw [d] at q; cases q⟩ (Heap.get?_none_of_le I.above) fun y b z => ?_
    · obtain ⟨⟨v, q⟩, _⟩ := I.cells y b z
      refine ⟨v, q.sameBut sb fun w => ?_⟩
      obtain ⟨o2, e2, d2⟩ := q
      rw [w, e] at e2; cases e2; rw [d] at d2; cases d2
    · unfold look at z
      split at z
      · rename_i w; subst w; cases z
        exact ⟨v, ⟨d1, d2, by rw [hx]; exact ⟨_, hn', by simp⟩⟩, r⟩
      · rename_i w
        obtain ⟨u, ⟨b1, b2, b3⟩, r'⟩ := I.vars y b z
        refine ⟨u, ⟨b1, b2, ?_⟩, r'⟩
        cases k : c.env.kindOf y with
        | none => rw [k] at b3; exact b3
        | some kd =>
          rw [k] at b3
          cases kd <;> first | exact b3 | skip
          · obtain ⟨m2, n2, e2⟩ := b3
            have := ns_uniq n2 hn; subst this
            exact ⟨_, hn', by have q : ¬ y = x := fun t => w t.symm
                              simp [q, e2]⟩
          all_goals
            obtain ⟨c2, n2, q2⟩ := b3
            refine ⟨c2, n2, q2.sameBut sb fun w => ?_⟩
            obtain ⟨o2, e2, d2⟩ := q2
            rw [w, e] at e2; cases e2; rw [d] at d2; cases d2
  · obtain ⟨⟨v₀, hc⟩, hb₀⟩ := I.cells x ca hl
    obtain ⟨m, hn⟩ := I.ns
    refine wpAny_storeName_cell I.ok.kind hx hl hc fun h' hc' sb => h _ ?_
    obtain ⟨o, e, d⟩ := id hc
    obtain ⟨o', e', d'⟩ := id hc'
    have ne : c.env.locals ≠ ca := fun w => by
      obtain ⟨o2, es, ep, e2, d2, _⟩ := hn
      rw [w, e] at e2; cases e2; rw [d] at d2; cases d2
    refine I.chg (.inr ⟨hro, x, hl⟩) sb ⟨m, hn.sameBut sb ne⟩ (fun y b z => ?_) ⟨o', e', fun vs q => by rw [d'] at q; cases q⟩ ⟨o, e, fun vs n q => by rw [d] at q; cases q⟩ hb₀ fun y b z => ?_
    · by_cases w : b = ca
      · subst w; exact ⟨_, hc'⟩
      · obtain ⟨⟨v, q⟩, _⟩ := I.cells y b z
        exact ⟨v, q.sameBut sb w⟩
    · unfold look at z
      split at z
      · rename_i w; subst w; cases z
        exact ⟨v, ⟨d1, d2, by rw [hx]; exact ⟨ca, hl, hc'⟩⟩, r⟩
      · rename_i w
        obtain ⟨u, ⟨b1, b2, b3⟩, r'⟩ := I.vars y b z
        refine ⟨u, ⟨b1, b2, ?_⟩, r'⟩
        cases k : c.env.kindOf y with
        | none => rw [k] at b3; exact b3
        | some kd =>
          rw [k] at b3
          cases kd <;> first | exact b3 | skip
          · obtain ⟨m2, n2, e2⟩ := b3
            exact ⟨_, n2.sameBut sb ne, e2⟩
          all_goals
            obtain ⟨c2, n2, q2⟩ := b3
            refine ⟨c2, n2, q2.sameBut sb fun w' => ?_⟩
            subst w'
            exact w (I.ok.apart _ _ _ hl n2)

inductive Fl where
  | next | brk | cont
  | ret (a : AV)
noncomputable def FlR (Φ : Frz) : Fl → Flow → Prop
  | .next, f => f = .next
  | .brk, f => f = .brk
  | .cont, f => f = .cont
  | .ret a, f => ∃ v, f = .ret v ∧ RA Φ a v
inductive PostF (c : Cx) (Φ : Frz) (μ : Mu) (s : Shared) (P : Fl → Mu → Rho → Prop) (f : Flow) (s' : Shared) : Prop
  | mk (Ψ : Frz) (ν : Mu) (ρ' : Rho) (fl : Fl) (m : Mv c Φ μ s Ψ ν s') (I : Inv c Ψ ν ρ' s') (r : FlR Ψ fl f) (p : P fl ν ρ')
theorem PostF.up {c : Cx} {Φ Ψ : Frz} {μ ν : Mu} {s t : Shared} {P : Fl → Mu → Rho → Prop} {v : Flow} {u : Shared} (h : Mv c Φ μ s Ψ ν t) (k : PostF c Ψ ν t P v u) : PostF c Φ μ s P v u :=
  by cases k with | mk X ξ ρ' a h1 J r p => exact ⟨X, ξ, ρ', a, h.trans h1, J, r, p⟩
noncomputable def Ex (c : Cx) (μ : Mu) (ρ : Rho) (ss : List Stmt) (P : Fl → Mu → Rho → Prop) : Prop := ∀ Φ s, Inv c Φ μ ρ s → W c (execs ss c.env) (PostF c Φ μ s P) s
noncomputable def X1 (c : Cx) (μ : Mu) (ρ : Rho) (st : Stmt) (P : Fl → Mu → Rho → Prop) : Prop := ∀ Φ s, Inv c Φ μ ρ s → W c (exec st c.env) (PostF c Φ μ s P) s
inductive PostA (c : Cx) (Φ : Frz) (μ : Mu) (s : Shared) (P : Mu → Rho → Prop) (u : Unit) (s' : Shared) : Prop
  | mk (Ψ : Frz) (ν : Mu) (ρ' : Rho) (m : Mv c Φ μ s Ψ ν s') (I : Inv c Ψ ν ρ' s') (p : P ν ρ')
theorem PostA.up {c : Cx} {Φ Ψ : Frz} {μ ν : Mu} {s t : Shared} {P : Mu → Rho → Prop} {v : Unit} {u : Shared} (h : Mv c Φ μ s Ψ ν t) (k : PostA c Ψ ν t P v u) : PostA c Φ μ s P v u :=
  by cases k with | mk X ξ ρ' h1 J p => exact ⟨X, ξ, ρ', h.trans h1, J, p⟩
/-- a target takes a value -/
noncomputable def As (c : Cx) (μ : Mu) (ρ : Rho) (t : Expr) (a : AV) (P : Mu → Rho → Prop) : Prop := ∀ Φ s v, Inv c Φ μ ρ s → RA Φ a v → W c (assign t c.env v) (PostA c Φ μ s P) s
noncomputable def AsEach (c : Cx) (μ : Mu) (ρ : Rho) (ts : List Expr) (as : List AV) (P : Mu → Rho → Prop) : Prop := ∀ Φ s vs, Inv c Φ μ ρ s → RAs Φ as vs → W c (assignInOrder (ts.map fun t => assign t c.env) vs) (PostA c Φ μ s P) s
section
variable (c : Cx) (ρ : Rho)
@[reducible] noncomputable def kAsE (ts : List Expr) (as : List AV) (P : Mu → Rho → Prop) : Mu → Rho → Prop := fun μ ρ => AsEach c μ ρ ts as P
@[reducible] noncomputable def kNx (rest : List Stmt) (P : Fl → Mu → Rho → Prop) : Fl → Mu → Rho → Prop := fun f μ ρ => match f with | .next => Ex c μ ρ rest P | f => P f μ ρ
@[reducible] noncomputable def kIf (b o : List Stmt) (P : Fl → Mu → Rho → Prop) : Mu → Bool → Prop := fun μ x => if x then Ex c μ ρ b P else Ex c μ ρ o P
@[reducible] noncomputable def kRet (P : Fl → Mu → Rho → Prop) : Mu → AV → Prop := fun μ a => P (.ret a) μ ρ
@[reducible] noncomputable def kPut (x : Str) (P : Fl → Mu → Rho → Prop) : Mu → AV → Prop := fun μ a => P .next μ ((x, a) :: ρ)
@[reducible] noncomputable def kDone (P : Fl → Mu → Rho → Prop) : Mu → Rho → Prop := fun μ ρ => P .next μ ρ
@[reducible] noncomputable def kPutT (t : Expr) (P : Fl → Mu → Rho → Prop) : Mu → AV → Prop := fun μ a => As c μ ρ t a (kDone P)
@[reducible] noncomputable def kSeq (I : Mu → Rho → Prop) (P : Fl → Mu → Rho → Prop) : Fl → Mu → Rho → Prop := fun f μ ρ => match f with | .next => I μ ρ | f => P f μ ρ
@[reducible] noncomputable def kTurn (I : Mu → Rho → Prop) (P : Fl → Mu → Rho → Prop) : Fl → Mu → Rho → Prop := fun f μ ρ => match f with | .next | .cont => I μ ρ | .brk => P .next μ ρ | .ret a => P (.ret a) μ ρ
@[reducible] noncomputable def kBody (body : List Stmt) (P : Fl → Mu → Rho → Prop) : Mu → Rho → Prop := fun μ ρ => Ex c μ ρ body P
@[reducible] noncomputable def kRt (P : Mu → AV → Prop) : Fl → Mu → Rho → Prop := fun f μ _ => match f with | .ret a => P μ a | .next => P μ (.d .none) | _ => False
end
section
variable {c : Cx} {μ : Mu} {ρ : Rho} {P : Mu → Rho → Prop}
theorem As.name {x : Str} {pos} {a : AV} (hx : CanPut c x) (h : P μ ((x, a) :: ρ)) : As c μ ρ (.Name x pos) a P := fun Φ s v I r =>
  wpAny_assign_Name (storeAt I hx r fun s' k => ⟨Φ, μ, _, k.1, k.2, h⟩)
theorem AsEach.nil (h : P μ ρ) : AsEach c μ ρ [] [] P := fun Φ s vs I r => assignInOrder_nil ⟨Φ, μ, ρ, Mv.refl .., I, h⟩
theorem AsEach.cons {t : Expr} {ts : List Expr} {a : AV} {as : List AV} (h : As c μ ρ t a (kAsE c ts as P)) : AsEach c μ ρ (t :: ts) (a :: as) P := fun Φ s vs I r => by
  obtain ⟨v, ws, rfl, r1, r2⟩ := r
  refine assignInOrder_cons (W.mono (h Φ s v I r1) fun _ s₁ h₁ => ?_)
  obtain ⟨Φ₁, μ₁, ρ₁, l₁, I₁, h₁⟩ := h₁
  exact W.mono (h₁ Φ₁ s₁ ws I₁ (r2.mono l₁.le)) fun _ s₂ h₂ => h₂.up l₁
theorem RAs.of_rs {Φ : Frz} : ∀ {ds : List PyData} {vs : List Value}, Rs Φ ds vs → RAs Φ (ds.map .d) vs
  | [], _, r => by simp only [Rs] at r; subst r; rfl
  | d :: l, _, r => by
    simp only [Rs] at r
    obtain ⟨v, ws, rfl, r1, r2⟩ := r
    exact ⟨v, ws, rfl, r1, RAs.of_rs r2⟩
theorem As.tuple {ts : List Expr} {k pos} {ds : List PyData} (he : assignEach ts c.env = ts.map fun t => (false, assign t c.env)) (hl : ts.length = ds.length) (h : AsEach c μ ρ ts (ds.map .d) P) : As c μ ρ (.Tuple ts k pos) (.d (.tuple ds)) P := fun Φ s v I r => by
  obtain ⟨a, vs, rfl, h1, h2⟩ := ra_tup' r
  refine assign_Tuple_tuple I.ok.hh (isTup_of_frz I.frz h1) (by rw [he, List.length_map, hl, List.size_toArray, h2.length]) ?_ fun h' hk => ?_
  · rw [he]
    clear he hl h
    induction ts with
    | nil => rfl
    | cons t r ih => rw [List.map_cons, List.findIdx?_cons]; simp [ih]
  · obtain ⟨m, J⟩ := I.keeps (tk := s.toks) (h' := h') fun b o e => hk b o (Nat.ne_of_lt (Heap.lt_size e)) e
    rw [he, List.map_map]
    exact W.mono (h Φ _ vs J (RAs.of_rs h2)) fun _ s₂ h₂ => h₂.up m
end

section
variable {c : Cx} {μ : Mu} {ρ : Rho} {P : Fl → Mu → Rho → Prop}
theorem Ex.nil (h : P .next μ ρ) : Ex c μ ρ [] P := fun Φ s I => wpAny_execs_nil ⟨Φ, μ, ρ, .next, Mv.refl .., I, rfl, h⟩
theorem Ex.cons {st : Stmt} {rest : List Stmt} (h : X1 c μ ρ st (kNx c rest P)) : Ex c μ ρ (st :: rest) P := fun Φ s I => by
  refine wpAny_execs_cons (W.mono (h Φ s I) fun f s₁ h₁ => ?_)
  obtain ⟨Φ₁, μ₁, ρ₁, fl, l₁, I₁, r₁, h₁⟩ := h₁
  cases fl with
  | next => obtain rfl : f = _ := r₁; exact W.mono (h₁ Φ₁ s₁ I₁) fun _ s₂ h₂ => h₂.up l₁
  | brk => obtain rfl : f = _ := r₁; exact ⟨Φ₁, μ₁, ρ₁, .brk, l₁, I₁, rfl, h₁⟩
  | cont => obtain rfl : f = _ := r₁; exact ⟨Φ₁, μ₁, ρ₁, .cont, l₁, I₁, rfl, h₁⟩
  | ret a => obtain ⟨v, rfl, q⟩ := r₁; exact ⟨Φ₁, μ₁, ρ₁, .ret a, l₁, I₁, ⟨v, rfl, q⟩, h₁⟩
theorem X1.ite {t : Expr} {b o : List Stmt} {pos} (h : Tr c μ ρ t (kIf c ρ b o P)) : X1 c μ ρ (.If t b o pos) P := fun Φ s I => by
  refine wpAny_If (W.mono (h Φ s I) fun x s₁ h₁ => ?_)
  obtain ⟨Φ₁, μ₁, l₁, I₁, h₁⟩ := h₁
  cases x with
  | true => exact W.mono (h₁ Φ₁ s₁ I₁) fun _ s₂ h₂ => h₂.up l₁
  | false => exact W.mono (h₁ Φ₁ s₁ I₁) fun _ s₂ h₂ => h₂.up l₁
theorem X1.ret {e : Expr} {pos} (h : Ev c μ ρ e (kRet ρ P)) : X1 c μ ρ (.Return (some e) pos) P := fun Φ s I =>
  wpAny_Return_some (W.mono (h Φ s I) fun v s₁ h₁ => by
    obtain ⟨Φ₁, μ₁, a, l₁, I₁, r₁, h₁⟩ := h₁
    exact ⟨Φ₁, μ₁, ρ, .ret a, l₁, I₁, ⟨v, rfl, r₁⟩, h₁⟩)
theorem X1.ret0 {pos} (h : P (.ret (.d .none)) μ ρ) : X1 c μ ρ (.Return none pos) P := fun Φ s I =>
  wpAny_Return_none ⟨Φ, μ, ρ, .ret (.d .none), Mv.refl .., I, ⟨_, rfl, ra_none⟩, h⟩
theorem X1.put {x : Str} {e : Expr} {p pos} (hx : CanPut c x) (hs : swapsWith e (some (.Name x p)) pos.line c.env = pure false) (h : Ev c μ ρ e (kPut ρ x P)) : X1 c μ ρ (.Assign [.Name x p] e pos) P := fun Φ s I => by
  refine wpAny_Assign_Name (W.mono (h Φ s I) fun v s₁ h₁ => ?_) hs
  obtain ⟨Φ₁, μ₁, a, l₁, I₁, r₁, h₁⟩ := h₁
  exact storeAt I₁ hx r₁ fun s' k => ⟨Φ₁, μ₁, _, .next, l₁.trans k.1, k.2, rfl, h₁⟩
theorem X1.putT {ts : List Expr} {k tp e pos} (hs : swapsWithSole [.Tuple ts k tp] e pos.line c.env = pure false) (hw : swappedStores [.Tuple ts k tp] e c.env = pure none)
    (h : Ev c μ ρ e (kPutT c ρ (.Tuple ts k tp) P)) : X1 c μ ρ (.Assign [.Tuple ts k tp] e pos) P := fun Φ s I => by
  refine Assign_Tuple (W.mono (h Φ s I) fun v s₁ h₁ => ?_) hs hw
  obtain ⟨Φ₁, μ₁, a, l₁, I₁, r₁, h₁⟩ := h₁
  refine W.mono (h₁ Φ₁ s₁ v I₁ r₁) fun _ s₂ h₂ => ?_
  obtain ⟨Φ₂, μ₂, ρ₂, l₂, I₂, h₂⟩ := h₂
  exact ⟨Φ₂, μ₂, ρ₂, .next, l₁.trans l₂, I₂, rfl, h₂⟩
end
end Mine
namespace Mine

theorem Inv.frzOff {c : Cx} {Φ : Frz} {μ : Mu} {ρ : Rho} {s : Shared} (I : Inv c Φ μ ρ s) {a : Addr} {x : Bool × List Value} (h : Φ a = some x) : ¬ Own c a := by
  obtain ⟨n, e⟩ := I.frz a x.1 x.2 h
  rintro (rfl | ⟨y, q⟩)
  · obtain ⟨m, o, es, ep, e', d, _⟩ := I.ns; rw [e] at e'; cases e'; cases d
  · obtain ⟨⟨v, o, e', d⟩, _⟩ := I.cells y a q; rw [e] at e'; cases e'; cases d
theorem Inv.frzKey {c : Cx} {Φ : Frz} {μ : Mu} {ρ : Rho} {s : Shared} (I : Inv c Φ μ ρ s) {a : Addr} {x : Bool × List Value} (h : Φ a = some x) : ¬ keysOf μ a := fun q => by
  obtain ⟨p, hp, rfl⟩ := keysOf_iff.mp q
  rw [(I.mu.2 p hp).2.2] at h; cases h
theorem Mv.exact {c : Cx} {Φ Ψ : Frz} {μ ν : Mu} {s s' : Shared} (m : Mv c Φ μ s Ψ ν s') {a : Addr} {o : Obj} (e : s.heap.get? a = some o) (h1 : ¬ Own c a) (h2 : ¬ keysOf μ a) (n : o.cls ≠ .type "frame") : s'.heap.get? a = some o :=
  m.keep.exact e (fun q => q.elim (fun q => h1 q.own) h2) n
theorem funFrames_rec {base h h' : Heap} {I : Addr} (k : ∀ b o, b ≠ I → h.get? b = some o → h'.get? b = some o) (hI : ∃ o vs, h.get? I = some o ∧ o.data = .fields vs) {l : List Env} (x : h.FunFrames base l) : h'.FunFrames base l :=
  x.of_keeps fun b o e d => ⟨o, k b o (fun q => by obtain ⟨o', vs, e', d'⟩ := hI; rw [q, e'] at e; cases e; exact d _ d') e, rfl⟩
/-- a record of no one's changes -/
theorem Inv.recMove {c : Cx} {Φ : Frz} {μ : Mu} {ρ : Rho} {s : Shared} (I : Inv c Φ μ ρ s) {a : Addr} {h' : Heap} {tk : Nat} (k : ∀ b o, b ≠ a → s.heap.get? b = some o → h'.get? b = some o)
    (hr : ∃ o vs, s.heap.get? a = some o ∧ o.data = .fields vs) (h0 : c.g.h₀.get? a = none) : Inv c Φ μ ρ { s with heap := h', toks := tk } := by
  obtain ⟨o, vs, e, d⟩ := id hr
  have hs : Keep (fun b => b = a) s.heap h' := Keep.of_keepsBut fun b o n e => k b o n e
  have hO : ¬ Own c a := by
    rintro (rfl | ⟨y, q⟩)
    · obtain ⟨m, o', es, ep, e', d', _⟩ := I.ns; rw [e] at e'; cases e'; rw [d] at d'; cases d'
    · obtain ⟨⟨v, o', e', d'⟩, _⟩ := I.cells y a q; rw [e] at e'; cases e'; rw [d] at d'; cases d'
  exact {
    ok := I.ok
    old := fun b o e => k b o (fun q => by rw [q, h0] at e; cases e) (I.old b o e)
    ns := let ⟨m, n⟩ := I.ns; ⟨m, ns_keep n hs fun t => hO (.inl t.symm)⟩
    above := I.above
    cells := fun x b z => let ⟨⟨v, q⟩, r⟩ := I.cells x b z; ⟨⟨v, cell_keep q hs fun t => hO (.inr ⟨x, t ▸ z⟩)⟩, r⟩
    vars := fun x b z => let ⟨v, p, q⟩ := I.vars x b z; ⟨v, p.keep hs (fun t => hO (.inl t.symm)) (fun y b z t => hO (.inr ⟨y, t ▸ z⟩)), q⟩
    frz := I.frz.keep hs fun b q => by
      cases z : Φ b with
      | none => rfl
      | some x => obtain ⟨n, e'⟩ := I.frz b x.1 x.2 z; rw [q, e] at e'; cases e'; cases d
    mu := ⟨I.mu.1, fun p hp => by
      obtain ⟨⟨o', e', m⟩, r⟩ := I.mu.2 p hp
      refine ⟨⟨o', k p.1 o' (fun q => ?_) e', m⟩, r⟩
      rw [q, e] at e'; cases e'; exact m.plain _ d⟩
    muOff := I.muOff
    ff := fun l z => funFrames_rec k hr (I.ff l z)
    still := I.still }
theorem Fw.recM {h₀ : Heap} {F : Addr → Prop} {Φ Ψ : Frz} {μ ν : Mu} {s s' : Shared} (m : Fw h₀ F Φ μ s Ψ ν s') {a : Addr} {h' : Heap} {tk : Nat} (k : ∀ b o, b ≠ a → s'.heap.get? b = some o → h'.get? b = some o) (f : s.heap.get? a = none) : Fw h₀ F Φ μ s Ψ ν { s' with heap := h', toks := tk } := m.touch (.inl f) k

set_option genInjectivity false in
set_option genSizeOf false in
/-- an iterator over what is frozen -/
structure Itr (c : Cx) (Φ : Frz) (κ : Mu) (I : Addr) (xs : List AV) (fp : List Addr) (Pt : Nat → Value → Prop) (St : Nat → Heap → Prop) : Prop where
  walk : Walks c.g.prog c.g.w c.A I fp [I] xs.length Pt St
  items : ∀ i v, Pt i v → i < xs.length → ∃ a, xs[i]? = some a ∧ RA Φ a v
  fpok : ∀ b ∈ fp, b = I ∨ (∃ x, Φ b = some x) ∨ (∃ o, c.g.h₀.get? b = some o) ∨ ∃ m o, (b, m) ∈ κ ∧ pinOf m = some o
  obj : ∀ i h, St i h → ∃ o vs, h.get? I = some o ∧ o.data = .fields vs ∧ ∀ n, o.cls = .type n → ["enumerate", "zip", "dict_itemiterator", "dict_reverseitemiterator", "odict_iterator", "itertools.zip_longest", "itertools.pairwise", "frame"].contains n = false
theorem ctn8 {n : String} (h : ["enumerate", "zip", "dict_itemiterator", "dict_reverseitemiterator", "odict_iterator", "itertools.zip_longest", "itertools.pairwise", "frame"].contains n = false) : ["enumerate", "zip", "dict_itemiterator", "dict_reverseitemiterator", "odict_iterator", "itertools.zip_longest", "itertools.pairwise"].contains n = false := by
  simp only [List.contains_cons, Bool.or_eq_false_iff] at h ⊢
  exact ⟨h.1, h.2.1, h.2.2.1, h.2.2.2.1, h.2.2.2.2.1, h.2.2.2.2.2.1, h.2.2.2.2.2.2.1, rfl⟩
theorem noFrame {o : Obj} (h : ∀ n, o.cls = .type n → ["enumerate", "zip", "dict_itemiterator", "dict_reverseitemiterator", "odict_iterator", "itertools.zip_longest", "itertools.pairwise", "frame"].contains n = false) : o.cls ≠ .type "frame" := fun q => by
  have := h _ q
  revert this; decide
theorem tyOf_noFrame (b : Bool) : tyOf b ≠ .type "frame" := by cases b <;> simp [tyOf]
theorem letGo_pass {prog : Program} {w : World} {A : Around} {E : Value → Shared → Prop} {s : Shared} {t : Expr} {I : Addr} {v : Value} {Q : Unit → Shared → Prop}
    (ho : ∃ o vs, s.heap.get? I = some o ∧ o.data = .fields vs ∧ ∀ n, o.cls = .type n → ["enumerate", "zip", "dict_itemiterator", "dict_reverseitemiterator", "odict_iterator", "itertools.zip_longest", "itertools.pairwise", "frame"].contains n = false) (h : Q () s) :
    wpAny (model prog w) A (letOwnedTupleGo t (.ref I) v) Q E s := by
  obtain ⟨o, vs, e, d, n⟩ := ho
  obtain ⟨cls, dt, dd, sl⟩ := o
  dsimp only at d n; subst d
  have key : ∀ a, wpAny (model prog w) A (do
      let o ← load I
      match o.cls, o.data with
      | .type n, .fields vs =>
        if ["enumerate", "zip", "dict_itemiterator", "dict_reverseitemiterator", "odict_iterator", "itertools.zip_longest", "itertools.pairwise"].contains n && vs[0]? == some (rawInt a) then
          rule "for.unpacks-the-owned-tuple"
          updateField I 0 .none
      | _, _ => pure ()) Q E s := fun a => by
    refine wpAny_bind (wpAny_load e ?_)
    cases cls with
    | type m =>
      dsimp only
      rw [if_neg (by rw [ctn8 (n m rfl), Bool.false_and]; exact Bool.false_ne_true)]
      exact wpAny_pure h
    | _ => exact wpAny_pure h
  cases t <;> first | exact wpAny_pure h | skip
  all_goals
    cases v <;> first | exact wpAny_pure h | exact key _
inductive PostI (κ : Mu) (c : Cx) (Φ : Frz) (μ : Mu) (s : Shared) (ρ : Rho) (P : Mu → List AV → Prop) (it : Value) (s' : Shared) : Prop
  | mk (Ψ : Frz) (ν : Mu) (I : Addr) (xs : List AV) (fp : List Addr) (Pt : Nat → Value → Prop) (St : Nat → Heap → Prop) (e : it = .ref I) (m : Mv c Φ μ s Ψ ν s') (J : Inv c Ψ ν ρ s') (T : Itr c Ψ κ I xs fp Pt St) (st : St 0 s'.heap) (f : s.heap.get? I = none) (p : P ν xs)
theorem PostI.up {κ : Mu} {c : Cx} {Φ Ψ : Frz} {μ ν : Mu} {s t : Shared} {ρ : Rho} {P : Mu → List AV → Prop} {v : Value} {u : Shared} (h : Mv c Φ μ s Ψ ν t) (k : PostI κ c Ψ ν t ρ P v u) : PostI κ c Φ μ s ρ P v u := by
  obtain ⟨X, ξ, I, xs, fp, Pt, St, e, m, J, it, st, f, p⟩ := k
  refine ⟨X, ξ, I, xs, fp, Pt, St, e, h.trans m, J, it, st, ?_, p⟩
  cases q : s.heap.get? I with
  | none => rfl
  | some o => obtain ⟨o', e'⟩ := h.alive I o q; rw [f] at e'; cases e'
noncomputable def ItP (κ : Mu) (c : Cx) (μ : Mu) (ρ : Rho) (e : Expr) (P : Mu → List AV → Prop) : Prop := ∀ Φ s, Inv c Φ μ ρ s → W c (eval e c.env) (fun xv s₁ => W c (pyIter xv) (PostI κ c Φ μ s ρ P) s₁) s
noncomputable abbrev It (c : Cx) (μ : Mu) (ρ : Rho) (e : Expr) (P : Mu → List AV → Prop) : Prop := ItP [] c μ ρ e P

section
variable {c : Cx} {μ : Mu} {ρ : Rho}
/-- where a loop stands ahead of a turn -/
inductive ForAt (c : Cx) (N : Nat) (J : Nat → Mu → Rho → Prop) (St : Nat → Heap → Prop) (Φ : Frz) (μ : Mu) (s : Shared) (Φ₁ : Frz) (k : Nat) (s' : Shared) : Prop
  | mk (Ψ : Frz) (ν : Mu) (ρ : Rho) (i : Nat) (m : Mv c Φ μ s Ψ ν s') (I : Inv c Ψ ν ρ s') (le : Φ₁.le Ψ) (st : St i s'.heap) (j : J i ν ρ) (hi : i ≤ N) (hk : k = N + 1 - i)
theorem X1.forInP (κ : Mu) {t iter : Expr} {body : List Stmt} {pos} {P : Fl → Mu → Rho → Prop} (J : Nat → Mu → Rho → Prop)
    (h : ItP κ c μ ρ iter fun ν xs => J 0 ν ρ ∧ (∀ i a μ₁ ρ₁, xs[i]? = some a → J i μ₁ ρ₁ → As c μ₁ ρ₁ t a (kBody c body (kTurn (J (i + 1)) P))) ∧
      ∀ μ₁ ρ₁, J xs.length μ₁ ρ₁ → P .next μ₁ ρ₁) (hκ : ∀ i μ₁ ρ₁, J i μ₁ ρ₁ → ∀ p ∈ κ, p ∈ μ₁)
    (hs : ∀ x, foldedSetIterable iter c.env x = pure x := by intro _; rfl) : X1 c μ ρ (.For t iter body [] pos) P := fun Φ s I₀ => by
  refine wpAny_For (wpAny_mono (h Φ s I₀) (fun xv s₁ h₁ => wpAny_mono h₁ (fun it s₂ h₂ => ?_) fun _ _ e => e) fun _ _ e => e) hs
  obtain ⟨Ψ, ν, I, xs, fp, Pt, St, rfl, m, Iν, T, st, fresh, j0, step, fin⟩ := h₂
  have hO : ¬ Own c I := fun q => by obtain ⟨o, e⟩ := I₀.ownAlive q; rw [fresh] at e; cases e
  have h0 : c.g.h₀.get? I = none := I₀.noBase fresh
  refine codeAny_forLoop_any (ForAt c xs.length J St Φ μ s Ψ) ?_ (xs.length + 1)
    ⟨Ψ, ν, ρ, 0, m, Iν, Frz.le.refl _, st, j0, Nat.zero_le _, rfl⟩
  rintro k s' ⟨Ψ', μ', ρ', i, m', I', le', st', j', hi, hk'⟩
  have rcm : ∀ {h'' : Heap} {tk : Nat}, (∀ b o, b ∉ [I] → s'.heap.get? b = some o → h''.get? b = some o) → Mv c Φ μ s Ψ' μ' { s' with heap := h'', toks := tk } ∧ Inv c Ψ' μ' ρ' { s' with heap := h'', toks := tk } := fun k => by
    have k' : ∀ b o, b ≠ I → s'.heap.get? b = some o → _ := fun b o n e => k b o (by simpa using n) e
    obtain ⟨o, vs, e, d, _⟩ := T.obj i _ st'
    exact ⟨m'.recM k' fresh, I'.recMove k' ⟨o, vs, e, d⟩ h0⟩
  by_cases hlt : i < xs.length
  · refine T.walk.item i _ _ _ hlt st' fun v h'' tk hP hst hk => ?_
    obtain ⟨m₁, I₁⟩ := rcm (tk := tk) hk
    refine letGo_pass (T.obj _ _ hst) ?_
    obtain ⟨a, ea, ra⟩ := T.items i v hP hlt
    refine wpAny_passesOwn I₀.ok.pass (W.mono (step i a μ' ρ' ea j' Ψ' _ v I₁ (ra.mono le')) fun _ s₂ h₂ => ?_)
    obtain ⟨Ψ₂, μ₂, ρ₂, l₂, I₂, h₂⟩ := h₂
    refine wpAny_passesOwn I₀.ok.pass (W.mono (h₂ Ψ₂ s₂ I₂) fun f s₃ h₃ => ?_)
    obtain ⟨Ψ₃, μ₃, ρ₃, fl, l₃, I₃, r₃, h₃⟩ := h₃
    have ll := l₂.trans l₃
    have mm := m₁.trans ll
    have st₃ : (∀ p ∈ κ, p ∈ μ₃) → St (i + 1) s₃.heap := fun hκ₃ => by
      refine T.walk.frame _ _ _ hst fun b hb o e => ?_
      rcases T.fpok b hb with rfl | ⟨x, hx⟩ | ⟨o₀, ho₀⟩ | ⟨m, o', hm, hp⟩
      · obtain ⟨o', vs, e', d, nf⟩ := T.obj _ _ hst
        rw [e'] at e; cases e
        refine Mv.exact ll e' hO (fun q => ?_) (noFrame nf)
        obtain ⟨p, hp, rfl⟩ := keysOf_iff.mp q
        obtain ⟨⟨o2, e2, mk⟩, _⟩ := I₁.mu.2 p hp
        rw [e'] at e2; cases e2; exact mk.plain _ d
      · have hx' := le' _ _ hx
        obtain ⟨n, e'⟩ := I₁.frz b x.1 x.2 hx'
        rw [e'] at e; cases e
        exact Mv.exact ll e' (I₁.frzOff hx') (I₁.frzKey hx') (tyOf_noFrame _)
      · have e' : _ = some o := e
        rw [I₁.old b o₀ ho₀] at e'; cases e'
        exact I₃.old b _ ho₀
      · obtain ⟨⟨o1, e1, k1⟩, _⟩ := I₁.mu.2 _ (hκ _ _ _ j' _ hm)
        obtain ⟨⟨o2, e2, k2⟩, _⟩ := I₃.mu.2 _ (hκ₃ _ hm)
        have e' : _ = some o := e
        have e1' : _ = some o1 := e1
        rw [e1'] at e'; cases e'
        rw [k1.pinned hp]
        rw [k2.pinned hp] at e2
        exact e2
    cases fl with
    | next => obtain rfl : f = _ := r₃; exact ⟨xs.length + 1 - (i + 1), by lia, Ψ₃, μ₃, ρ₃, i + 1, mm, I₃, le'.trans ll.le, st₃ (hκ _ _ _ h₃), h₃, hlt, rfl⟩
    | cont => obtain rfl : f = _ := r₃; exact ⟨xs.length + 1 - (i + 1), by lia, Ψ₃, μ₃, ρ₃, i + 1, mm, I₃, le'.trans ll.le, st₃ (hκ _ _ _ h₃), h₃, hlt, rfl⟩
    | brk => obtain rfl : f = _ := r₃; exact ⟨Ψ₃, μ₃, ρ₃, .next, mm, I₃, rfl, h₃⟩
    | ret a => obtain ⟨v, rfl, q⟩ := r₃; exact ⟨Ψ₃, μ₃, ρ₃, .ret a, mm, I₃, ⟨v, rfl, q⟩, h₃⟩
  · have hin : i = xs.length := by lia
    subst hin
    refine T.walk.done _ _ _ st' fun h'' tk hk => wpAny_execs_nil ?_
    obtain ⟨m₁, I₁⟩ := rcm (tk := tk) hk
    exact ⟨Ψ', μ', ρ', .next, m₁, I₁, rfl, fin _ _ j'⟩

theorem X1.forIn {t iter : Expr} {body : List Stmt} {pos} {P : Fl → Mu → Rho → Prop} (J : Nat → Mu → Rho → Prop)
    (h : It c μ ρ iter fun ν xs => J 0 ν ρ ∧ (∀ i a μ₁ ρ₁, xs[i]? = some a → J i μ₁ ρ₁ → As c μ₁ ρ₁ t a (kBody c body (kTurn (J (i + 1)) P))) ∧
      ∀ μ₁ ρ₁, J xs.length μ₁ ρ₁ → P .next μ₁ ρ₁)
    (hs : ∀ x, foldedSetIterable iter c.env x = pure x := by intro _; rfl) : X1 c μ ρ (.For t iter body [] pos) P := X1.forInP [] J h (fun _ _ _ _ _ hp => absurd hp List.not_mem_nil) hs
@[reducible] noncomputable def kItL (P : Mu → List AV → Prop) : Mu → AV → Prop := fun ν a => ∃ ds, a = .d (.list ds) ∧ P ν (ds.map .d)
@[reducible] noncomputable def kItT (P : Mu → List AV → Prop) : Mu → AV → Prop := fun ν a => ∃ ds, a = .d (.tuple ds) ∧ P ν (ds.map .d)
theorem kItL.mk {P : Mu → List AV → Prop} {ds : List PyData} (k : P μ (ds.map .d)) : kItL P μ (.d (.list ds)) := ⟨ds, rfl, k⟩
theorem kItT.mk {P : Mu → List AV → Prop} {ds : List PyData} (k : P μ (ds.map .d)) : kItT P μ (.d (.tuple ds)) := ⟨ds, rfl, k⟩
theorem It.lst {e : Expr} {P : Mu → List AV → Prop} (h : Ev c μ ρ e (kItL P)) : It c μ ρ e P := fun Φ s I₀ => by
  refine W.mono (h Φ s I₀) fun xv s₁ h₁ => ?_
  obtain ⟨Ψ, ν, a, m, I₁, r, ds, rfl, hp⟩ := h₁
  obtain ⟨ax, vs, rfl, e1, e2⟩ := ra_lst' r
  have hl := isList_of_frz I₁.frz e1
  refine wpAny_pyIter_list hl (PostI.up m ?_)
  obtain ⟨m₂, I₂⟩ := I₁.push { cls := .type "list_iterator", data := .fields #[.ref ax, .int 0 0] }
  have hlt : ax < s₁.heap.objs.size := by obtain ⟨_, e, _⟩ := hl; exact Heap.lt_size e
  refine ⟨Ψ, ν, s₁.heap.objs.size, ds.map .d, [s₁.heap.objs.size, ax], fun i v => vs.toArray[i]? = some v, fun i h => h.IsListIter s₁.heap.objs.size ax i ∧ h.IsList ax vs.toArray, rfl, m₂, I₂, ⟨?_, ?_, ?_, ?_⟩, ⟨⟨_, Heap.get?_push_size _ rfl, rfl, rfl⟩, hl.push _⟩, Heap.fresh _, hp⟩
  · rw [List.length_map, ← e2.length, ← List.size_toArray]
    exact Walks.list I₁.ok.hh _ _ (Nat.ne_of_lt hlt) _
  · intro i v hv _
    obtain ⟨d, ed, rd⟩ := e2.get' (by simpa using hv)
    exact ⟨.d d, by simp [ed], rd⟩
  · intro b hb
    rcases List.mem_cons.mp hb with rfl | hb
    · exact .inl rfl
    · rw [List.mem_singleton.mp hb]; exact .inr (.inl ⟨_, e1⟩)
  · rintro i h ⟨⟨o, e, hc, hd⟩, _⟩
    exact ⟨o, _, e, hd, fun n q => by rw [hc] at q; cases q; rfl⟩
theorem It.tup {e : Expr} {P : Mu → List AV → Prop} (h : Ev c μ ρ e (kItT P)) : It c μ ρ e P := fun Φ s I₀ => by
  refine W.mono (h Φ s I₀) fun xv s₁ h₁ => ?_
  obtain ⟨Ψ, ν, a, m, I₁, r, ds, rfl, hp⟩ := h₁
  obtain ⟨ax, vs, rfl, e1, e2⟩ := ra_tup' r
  have hl : s₁.heap.IsTuple ax vs.toArray := isTup_of_frz I₁.frz e1
  refine wpAny_pyIter_tuple hl (PostI.up m ?_)
  obtain ⟨m₂, I₂⟩ := I₁.push { cls := .type "tuple_iterator", data := .fields #[.ref ax, .int 0 0] }
  have hlt : ax < s₁.heap.objs.size := by obtain ⟨_, e, _⟩ := hl; exact Heap.lt_size e
  refine ⟨Ψ, ν, s₁.heap.objs.size, ds.map .d, [s₁.heap.objs.size, ax], fun i v => vs.toArray[i]? = some v, fun i h => h.IsTupleIter s₁.heap.objs.size ax i ∧ h.IsTuple ax vs.toArray, rfl, m₂, I₂, ⟨?_, ?_, ?_, ?_⟩, ⟨⟨_, Heap.get?_push_size _ rfl, rfl, rfl⟩, hl.push _⟩, Heap.fresh _, hp⟩
  · rw [List.length_map, ← e2.length, ← List.size_toArray]
    exact Walks.tuple I₁.ok.hh _ _ (Nat.ne_of_lt hlt) _
  · intro i v hv _
    obtain ⟨d, ed, rd⟩ := e2.get' (by simpa using hv)
    exact ⟨.d d, by simp [ed], rd⟩
  · intro b hb
    rcases List.mem_cons.mp hb with rfl | hb
    · exact .inl rfl
    · rw [List.mem_singleton.mp hb]; exact .inr (.inl ⟨_, e1⟩)
  · rintro i h ⟨⟨o, e, hc, hd⟩, _⟩
    exact ⟨o, _, e, hd, fun n q => by rw [hc] at q; cases q; rfl⟩
noncomputable def intsTo (n : Nat) : List AV := (List.range n).map fun (i : Nat) => .d (.int i)
theorem It.range {arg : Expr} {p pos} {P : Mu → List AV → Prop} (hx : c.env.kindOf "range" = some .globalImplicit) (e : nsIn c.g.K mainGlobals "range" = some Option.none)
    (he : eval (.Call (.Name "range" p) [arg] [] pos) c.env = (do callWith pos (← eval (.Name "range" p) c.env) [] (backTo pos (starEach [arg] c.env)) (backToKw pos (keywordEach [] c.env))))
    (hp : starEach [arg] c.env = (false, eval arg c.env) :: starEach [] c.env)
    (h : Ev c μ ρ arg fun ν a => ∃ k : Int, a = .d (.int k) ∧ 0 ≤ k ∧ k ≤ 1000000 ∧ P ν (intsTo k.toNat)) : It c μ ρ (.Call (.Name "range" p) [arg] [] pos) P := fun Φ s I₀ => by
  have hf : Ev c μ ρ (.Name "range" p) fun μ' a => μ' = μ ∧ a = .v (.type "range") := Ev.blt hx (by rfl) (by decide) e (by rfl) ⟨rfl, rfl⟩
  refine Call_ (W.mono (hf Φ s I₀) fun v s₁ h₁ => ?_) he
  obtain ⟨Φ₁, μ₁, a, m₁, I₁, r₁, rfl, rfl⟩ := h₁
  obtain rfl := ra_v' r₁
  refine PySem.callWith_type (by rw [hp]; rfl) (evalArgs_any (by rw [hp]; rfl) ?_)
  have hargs : Evs c μ₁ ρ [arg] fun ν as => ∃ k : Int, as = [.d (.int k)] ∧ 0 ≤ k ∧ k ≤ 1000000 ∧ P ν (intsTo k.toNat) := Evs.cons (fun Φ s I => W.mono (h Φ s I) fun v s' ⟨Ψ, ν, a, m, J, r, k, ea, hk⟩ => ⟨Ψ, ν, a, m, J, r, Evs.nil ⟨k, by rw [ea], hk⟩⟩) hp
  refine W.mono (hargs Φ₁ s₁ pos I₁) fun vs s₂ h₂ => ?_
  obtain ⟨Φ₂, μ₂, as, m₂, I₂, r₂, k, rfl, hk0, hk1, hP⟩ := h₂
  obtain ⟨v, ws, rfl, r3, rfl⟩ := r₂
  obtain ⟨t, rfl⟩ := ra_int' r3
  refine call_range_1 ?_
  obtain ⟨m₃, I₃⟩ := I₂.keeps (tk := s₂.toks + 1 + 1) (h' := s₂.heap.push { cls := .type "range", data := .fields #[.int 0 s₂.toks, .int k t, .int 1 (s₂.toks + 1)] }) fun _ _ e => Heap.get?_push_of_some _ e
  have hz : Builtin.Range.rangeSize 0 k 1 = ((k.toNat : Nat) : Int) := by rw [rangeSize_one]; split <;> lia
  refine wpAny_pyIter_range (IsRange.new _ _ _ _ _ _ _) (small_one (by decide) (by decide) (by lia) (by lia)) (PostI.up ((m₁.trans m₂).trans m₃) ?_)
  rw [hz]
  obtain ⟨m₄, I₄⟩ := I₃.push { cls := .type "range_iterator", data := .fields #[rawInt 0, rawInt (k.toNat : Nat), rawInt 1] }
  generalize hH : s₂.heap.push { cls := .type "range", data := .fields #[.int 0 s₂.toks, .int k t, .int 1 (s₂.toks + 1)] } = H at m₃ I₃ m₄ I₄ ⊢
  refine ⟨Φ₂, μ₂, H.objs.size, intsTo k.toNat, [H.objs.size], fun i v => ∃ t, v = .int (0 + (i : Int) * 1) t, fun i h => IsRangeIter h H.objs.size (0 + (i : Nat) * 1) ((k.toNat : Int) - (i : Nat)) 1, rfl, m₄, I₄, ⟨?_, ?_, ?_, ?_⟩, ?_, Heap.fresh _, hP⟩
  · rw [show (intsTo k.toNat).length = k.toNat by simp [intsTo]]
    exact Walks.range I₄.ok.hh _ 0 1 k.toNat
  · rintro i v ⟨t', rfl⟩ hi
    rw [show (intsTo k.toNat).length = k.toNat by simp [intsTo]] at hi
    refine ⟨.d (.int i), by simp [intsTo, hi], ?_⟩
    rw [show (0 : Int) + (i : Int) * 1 = i by lia]
    exact ra_int _ _
  · intro b hb; exact .inl (List.mem_singleton.mp hb)
  · intro i h st
    exact ⟨_, _, st, rfl, fun n q => by cases q; rfl⟩
  · show IsRangeIter _ _ _ _ _
    simpa using Heap.get?_push_size _ rfl
end
end Mine
namespace Mine
/-- a name of kind cell has a cell -/
theorem cell_of {x : Str} (names : List (Str × NameKind)) : ∀ (n : Nat) (acc : List (Str × Addr)), (names.lookup x = some .cell ∨ ∃ a, acc.lookup x = some a) → ∃ a, (cellsFrom n names acc).lookup x = some a := by
  induction names with
  | nil =>
    intro n acc h
    rcases h with h | h
    · exact absurd h (by simp)
    · exact h
  | cons p r ih =>
    obtain ⟨y, k⟩ := p
    intro n acc h
    rw [cellsFrom]
    rw [List.lookup_cons] at h
    cases hxy : (x == y) with
    | true =>
      rw [hxy] at h
      split
      · exact ih _ _ (.inr ⟨n, by rw [List.lookup_cons, hxy]⟩)
      · rename_i hk
        rcases h with h | h
        · cases Option.some.inj h; exact absurd rfl hk
        · exact ih _ _ (.inr h)
    | false =>
      rw [hxy] at h
      split
      · exact ih _ _ (h.imp id fun ⟨a, e⟩ => ⟨a, by rw [List.lookup_cons, hxy]; exact e⟩)
      · exact ih _ _ h
theorem kinds_of {scope : Scope} {binds : List (Str × Value)} (e : (binds.all fun y => scope.names.lookup y.1 == some .local || scope.names.lookup y.1 == some .cell) = true) (n : Nat) (x : Str × Value) (hx : x ∈ binds) :
    scope.names.lookup x.1 = some .local ∨ (scope.names.lookup x.1 = some .cell ∧ ((cellsFrom n scope.names []).lookup x.1).isSome = true) := by
  have h := List.all_eq_true.mp e x hx
  simp only [Bool.or_eq_true, beq_iff_eq] at h
  refine h.imp id fun q => ⟨q, ?_⟩
  obtain ⟨a, ha⟩ := cell_of scope.names n [] (.inl q)
  rw [ha]; rfl
end Mine
namespace Mine

theorem Inv.sizes {c : Cx} {Φ : Frz} {μ : Mu} {ρ : Rho} {s : Shared} (I : Inv c Φ μ ρ s) : c.g.h₀.objs.size ≤ s.heap.objs.size := by
  obtain ⟨m, o, es, ep, e, _⟩ := I.ns
  exact Nat.le_trans I.above (Nat.le_of_lt (Heap.lt_size e))
theorem Inv.kin {c : Cx} {Φ : Frz} {μ : Mu} {ρ : Rho} {s : Shared} (I : Inv c Φ μ ρ s) : c.g.K.In s.heap := Frag.In.keeps c.g.X I.old
/-- back from what only places of others and the mutable ones were written in -/
theorem Inv.back' {c : Cx} {Φ Ψ : Frz} {μ ν : Mu} {ρ : Rho} {s t : Shared} (I : Inv c Φ μ ρ s) {F : Addr → Prop} (hF : ∀ a, F a → ¬ Own c a) (m : Fw c.g.h₀ F Φ μ s Ψ ν t)
    (old : ∀ b o, c.g.h₀.get? b = some o → t.heap.get? b = some o) (frz : FrzOk Ψ t.heap) (mu : MuOk c.g.pw c.g.h₀ Ψ ν t.heap) (ff : ∀ l, c.A.frames = some l → t.heap.FunFrames c.g.bs l) : Inv c Ψ ν ρ t := by
  have k := m.keep
  have off : ∀ a, Own c a → ¬ (F a ∨ keysOf μ a) := fun a h => by
    rintro (q | q)
    · exact hF a q h
    · exact I.keyOff q h
  refine ⟨I.ok, old, ?_, I.above, ?_, ?_, frz, mu, ?_, ff, m.gens.trans I.still.1, m.drawn.trans I.still.2.1, m.os.trans I.still.2.2⟩
  · obtain ⟨m, n⟩ := I.ns; exact ⟨m, ns_keep n k (off _ (.inl rfl))⟩
  · intro x a e
    obtain ⟨⟨v, q⟩, r⟩ := I.cells x a e
    exact ⟨⟨v, cell_keep q k (off _ (.inr ⟨x, e⟩))⟩, r⟩
  · intro x a e
    obtain ⟨v, p, q⟩ := I.vars x a e
    exact ⟨v, p.keep k (off _ (.inl rfl)) (fun y b z => off _ (.inr ⟨y, z⟩)), q.mono m.le⟩
  · intro p hp q
    rcases m.keys p.1 (keysOf_iff.mpr ⟨p, hp, rfl⟩) with h | h
    · exact I.keyOff h (.inl q)
    · obtain ⟨o, e⟩ := I.ownAlive (a := p.1) (.inl q); rw [h] at e; cases e
theorem Inv.back {c : Cx} {Φ Ψ : Frz} {μ ν : Mu} {ρ : Rho} {s t : Shared} (I : Inv c Φ μ ρ s) {F : Addr → Prop} (hF : ∀ a, F a → s.heap.get? a = none) (m : Fw c.g.h₀ F Φ μ s Ψ ν t)
    (old : ∀ b o, c.g.h₀.get? b = some o → t.heap.get? b = some o) (frz : FrzOk Ψ t.heap) (mu : MuOk c.g.pw c.g.h₀ Ψ ν t.heap) (ff : ∀ l, c.A.frames = some l → t.heap.FunFrames c.g.bs l) :
    Mv c Φ μ s Ψ ν t ∧ Inv c Ψ ν ρ t :=
  ⟨m.mono (fun a o e q => by rw [hF a q] at e; cases e), I.back' (fun a q h => by obtain ⟨o, e⟩ := I.ownAlive h; rw [hF a q] at e; cases e) m old frz mu ff⟩

theorem bindL_other {k : Str → Option NameKind} {x : Str} : ∀ {l : List (Str × Value)} {m : Str → Option Value}, x ∉ l.map (·.1) → bindL k l m x = m x
  | [], _, _ => rfl
  | (n, v) :: r, m, h => by
    simp only [List.map_cons, List.mem_cons, not_or] at h
    unfold bindL
    rw [bindL_other h.2]
    split
    · exact if_neg h.1
    · rfl
theorem bindC_other {k : Str → Option NameKind} {x : Str} : ∀ {l : List (Str × Value)} {m : Str → Option Value}, x ∉ l.map (·.1) → bindC k l m x = m x
  | [], _, _ => rfl
  | (n, v) :: r, m, h => by
    simp only [List.map_cons, List.mem_cons, not_or] at h
    unfold bindC
    rw [bindC_other h.2]
    split
    · rfl
    · exact if_neg h.1
theorem bindL_mem {k : Str → Option NameKind} {x : Str} {v : Value} (hk : k x = some .local) : ∀ {l : List (Str × Value)} {m : Str → Option Value}, (l.map (·.1)).Nodup → (x, v) ∈ l → bindL k l m x = some v
  | (n, w) :: r, m, hn, h => by
    rw [List.map_cons, List.nodup_cons] at hn
    unfold bindL
    rcases List.mem_cons.mp h with e | h
    · cases e
      rw [bindL_other hn.1, if_pos hk, if_pos rfl]
    · exact bindL_mem hk hn.2 h
theorem bindC_mem {k : Str → Option NameKind} {x : Str} {v : Value} (hk : k x ≠ some .local) : ∀ {l : List (Str × Value)} {m : Str → Option Value}, (l.map (·.1)).Nodup → (x, v) ∈ l → bindC k l m x = some v
  | (n, w) :: r, m, hn, h => by
    rw [List.map_cons, List.nodup_cons] at hn
    unfold bindC
    rcases List.mem_cons.mp h with e | h
    · cases e
      rw [bindC_other hn.1, if_neg hk]; exact if_pos rfl
    · exact bindC_mem hk hn.2 h
theorem RAs.length {Φ : Frz} : ∀ {as : List AV} {vs : List Value}, RAs Φ as vs → vs.length = as.length
  | [], _, h => by cases h; rfl
  | a :: r, _, ⟨v, ws, e, _, h⟩ => by subst e; simp [RAs.length h]
theorem RAs.append {Φ : Frz} : ∀ {as bs : List AV} {vs ws : List Value}, RAs Φ as vs → RAs Φ bs ws → RAs Φ (as ++ bs) (vs ++ ws)
  | [], _, _, _, h, k => by cases h; exact k
  | a :: r, _, _, _, ⟨v, us, e, h1, h⟩, k => by subst e; exact ⟨v, _, rfl, h1, RAs.append h k⟩
theorem look_zip {Φ : Frz} {x : Str} {a : AV} : ∀ {names : List Str} {as : List AV} {vs : List Value}, RAs Φ as vs → look (names.zip as) x = some a → ∃ v, (x, v) ∈ names.zip vs ∧ RA Φ a v
  | [], _, _, _, h => by simp [look] at h
  | _ :: _, [], _, _, h => by simp [look] at h
  | n :: ns, b :: bs, _, ⟨v, ws, e, h1, h2⟩, h => by
    subst e
    rw [List.zip_cons_cons] at h ⊢
    unfold look at h
    split at h
    · rename_i q; subst q; cases h; exact ⟨v, .head _, h1⟩
    · obtain ⟨u, p, q⟩ := look_zip h2 h; exact ⟨u, .tail _ p, q⟩

/-- the context of a called function -/
noncomputable def callee (c : Cx) (env : Env) (E' : Value → Shared → Prop) (r : Nat) : Cx := { g := c.g, A := c.A.deeper env, env := env, room := r, ro := false, E := E' }
section
variable {c : Cx} {μ : Mu} {ρ : Rho} {P : Mu → AV → Prop}
theorem CallV.code {f : Addr} {as : List AV} (h : ∀ Φ s vs, Inv c Φ μ ρ s → RAs Φ as vs → codeAny (model c.g.prog c.g.w) c.A (.call (.ref f) ⟨vs, []⟩) (fun r s' => match r with | .ok (.ret v) => Post c Φ μ s ρ P v s' | .ok _ => False | .error e => c.E e s') s) : CallV c ρ μ (.ref f) as P :=
  fun Φ s vs I r => wpAny_call (h Φ s vs I r)
theorem fnCode {oc : Value} {od : Option Addr} {osl : Array (Option Value)} {f : Addr} {name qual : Str} {params : Arguments} {body : List Stmt} {scope : Scope} {dV kV doc pm cdv ct : Value} {an : Option Addr} {as : List AV}
    (E' : Env → Value → Shared → Prop) (names : List Str) (dv : List Value) (da : List AV) {r : Nat}
    (ho : List.lookup f c.g.K = some ⟨oc, od, .func (fnOf name qual params body scope dV kV doc pm an cdv ct), osl⟩) (hcd : codeIn c.g.K cdv qual = true) (hr : r + 1 ≤ c.room)
    (hbind : ∀ vs s, c.g.K.In s.heap → vs.length = as.length → BindsTo s (fnOf name qual params body scope dV kV doc pm an cdv ct) ⟨vs, []⟩ (names.zip (vs ++ dv)))
    (hda : ∀ Φ, RAs Φ da dv) (hlen : names.length = as.length + da.length)
    (hnames : (names.all fun y => (scope.names.lookup y == some .local || scope.names.lookup y == some .cell) && !(y == ("__debug__" : Str)) && !(y == ("__classdict__" : Str))) = true) (hnd : names.Nodup) (hcn : ((cellsFrom 0 scope.names []).map (·.1)).Nodup)
    (hpass : ∀ env, PassesOwn (model c.g.prog c.g.w) (c.A.deeper env) env (E' env)) (hE : ∀ env e s', E' env e s' → wpAny (model c.g.prog c.g.w) (c.A.deeper env) (leaving env e) (fun _ s'' => c.E e s'') (fun e' s'' => c.E e' s'') s')
    (hb : ∀ L, Ex (callee c (envOfC qual scope L f cdv) (E' (envOfC qual scope L f cdv)) r) μ (names.zip (as ++ da)) body (kRt P))
    (hco : scope.isCoroutine = false := by rfl) (hgen : scope.isGenerator = false := by rfl) (hk : scope.kind = .function := by rfl) :
    ∀ Φ s vs, Inv c Φ μ ρ s → RAs Φ as vs → codeAny (model c.g.prog c.g.w) c.A (.call (.ref f) ⟨vs, []⟩) (fun r s' => match r with | .ok (.ret v) => Post c Φ μ s ρ P v s' | .ok _ => False | .error e => c.E e s') s := fun Φ s vs I ra => by
  have X := I.kin
  have hroom : c.A.depth < recursionLimit := by have := I.ok.depth; omega
  have ra' : RAs Φ (as ++ da) (vs ++ dv) := ra.append (hda Φ)
  have hzn : ((names.zip (vs ++ dv)).map (·.1)) = names := by
    rw [List.map_fst_zip]; rw [List.length_append, ra.length, (hda Φ).length]; omega
  have hkd : ((names.zip (vs ++ dv)).all fun y => scope.names.lookup y.1 == some .local || scope.names.lookup y.1 == some .cell) = true := by
    refine List.all_eq_true.mpr fun y hy => ?_
    have := List.all_eq_true.mp hnames y.1 (hzn ▸ List.mem_map_of_mem hy)
    simp only [Bool.and_eq_true] at this
    exact this.1.1
  refine codeAny_call_function hroom (X _ _ ho) rfl hco hgen rfl (codeRec_of X hcd) (hbind vs s X ra.length _ _ _ _ ?_)
  refine wpAny_newFunctionEnv_cells hk (kinds_of hkd _) fun env' he s' x => ?_
  subst he
  refine ⟨(c.g.T.nolimit.keeps I.old).keeps x.toInCall.keep, codeAny_func ?_⟩
  obtain ⟨h₁, tk, rfl, _⟩ := x.done
  have hk₁ := x.toInCall.keep
  have hcells : ∀ {y a}, (cellsFrom (s.heap.objs.size + 1) scope.names []).lookup y = some a → s.heap.get? a = none ∧ s.heap.objs.size < a := fun {y a} e => by
    have := x.above y a (mem_of_lookup e)
    exact ⟨Heap.get?_none_of_le (Nat.le_of_lt this), this⟩
  have I' : Inv (callee c (envOfC qual scope s.heap.objs.size f cdv) (E' (envOfC qual scope s.heap.objs.size f cdv)) r) Φ μ (names.zip (as ++ da)) { s with heap := h₁, toks := tk } := by
    refine ⟨⟨I.ok.hh, hk, rfl, rfl, ?_, ?_, ?_, hpass _, ?_⟩, fun b o e => hk₁ b o (I.old b o e), ⟨_, x.toInCall.ns⟩, I.sizes, ?_, ?_, I.frz.keep (S := fun _ => False) (Keep.of_keeps hk₁) (fun _ q => q.elim), ⟨I.mu.1, fun p hp => ?_⟩, fun p hp q => ?_, ?_, I.still⟩
    · have := I.ok.depth; show c.A.depth + 1 + r < _; omega
    · have := I.ok.units; show c.A.units + 3 + 8 * r + 200 < _; omega
    · intro y z a e1 e2; exact name_of_addr x.apart (mem_of_lookup e1) (mem_of_lookup e2)
    · obtain ⟨l, e⟩ := I.ok.frames; exact ⟨_, Around.frames_deeper e⟩
    · intro y a e
      refine ⟨⟨_, x.cell y a e⟩, Heap.get?_none_of_le (Nat.le_trans I.sizes (Nat.le_of_lt (hcells e).2))⟩
    · intro y a e
      obtain ⟨v, hm, rv⟩ := look_zip ra' e
      have hy : y ∈ names := hzn ▸ List.mem_map_of_mem (f := (·.1)) hm
      have hy2 := List.all_eq_true.mp hnames y hy
      simp only [Bool.and_eq_true, Bool.not_eq_true', Bool.or_eq_true] at hy2
      refine ⟨v, ⟨hy2.1.2, hy2.2, ?_⟩, rv⟩
      show match scope.names.lookup y with | some .local => _ | some .cell => _ | some .free => _ | _ => _
      rcases hy2.1.1 with q | q
      · have q : scope.names.lookup y = some .local := by simpa using q
        rw [q]
        exact ⟨_, x.toInCall.ns, bindL_mem q (hzn.symm ▸ hnd) hm⟩
      · have q : scope.names.lookup y = some .cell := by simpa using q
        rw [q]
        obtain ⟨ca, hca⟩ := cell_of scope.names (s.heap.objs.size + 1) [] (.inl q)
        refine ⟨ca, hca, ?_⟩
        have := x.cell y ca hca
        rw [bindC_mem (x := y) (v := v) (by show scope.names.lookup y ≠ _; rw [q]; simp) (hzn.symm ▸ hnd) hm] at this
        exact this
    · obtain ⟨⟨o, e, m⟩, r⟩ := I.mu.2 p hp; exact ⟨⟨o, hk₁ _ _ e, m⟩, r⟩
    · obtain ⟨⟨o, e, m⟩, r⟩ := I.mu.2 p hp
      have := Heap.lt_size e
      have q : p.1 = s.heap.objs.size := q
      rw [q] at this; exact Nat.lt_irrefl _ this
    · intro l e
      obtain ⟨l₀, e₀⟩ := I.ok.frames
      have : (c.A.deeper (envOfC qual scope s.heap.objs.size f cdv)).frames = some l := e
      rw [Around.frames_deeper e₀] at this; cases this
      obtain ⟨o, es, ep, eo, ed, _⟩ := x.toInCall.ns
      exact ⟨by show scope.kind ≠ _; rw [hk]; decide, ⟨s.heap.objs.size, o, rfl, c.g.bsNone (Heap.get?_none_of_le I.sizes), eo, fun vs q => by rw [ed] at q; cases q⟩, funFrames_keep (S := fun _ => False) (Keep.of_keeps hk₁) (fun _ q => q.elim) (I.ff _ e₀)⟩
  refine wpAny_mono (hb _ Φ _ I') (fun fl s₂ h₂ => ?_) fun e s' h' => hE _ e s' h'
  obtain ⟨Ψ, ν, ρ', fl', m, I₂, rf, h₂⟩ := h₂
  have M : Fw c.g.h₀ (fun a => Sto (callee c (envOfC qual scope s.heap.objs.size f cdv) (E' (envOfC qual scope s.heap.objs.size f cdv)) r) a) Φ μ s Ψ ν s₂ := by
    have dn : ∀ {a}, h₁.get? a = none → s.heap.get? a = none := fun {a} q => by
      cases z : s.heap.get? a with
      | none => rfl
      | some o => rw [hk₁ a o z] at q; cases q
    exact ⟨m.le, fun a x e => (m.fz a x e).imp id fun q => q.imp dn id, fun a o e n => m.keep a o (hk₁ a o e) n, fun a q => (m.keys a q).imp id dn, fun a o e => m.alive a o (hk₁ a o e), m.gens, m.drawn, m.os⟩
  have back := I.back (t := s₂) (fun a q => ?_) M I₂.old I₂.frz I₂.mu (fun l e => ?_)
  · cases fl' with
    | next => obtain rfl : fl = _ := rf; exact ⟨Ψ, ν, _, back.1, back.2, ra_none, h₂⟩
    | brk => exact h₂.elim
    | cont => exact h₂.elim
    | ret a => obtain ⟨v, rfl, q⟩ := rf; exact ⟨Ψ, ν, a, back.1, back.2, q, h₂⟩
  · rcases q with rfl | ⟨_, y, q⟩
    · exact Heap.fresh _
    · exact (hcells q).1
  · have := I₂.ff _ (Around.frames_deeper e)
    exact this.2.2
end

/-- for all lists of a length -/
noncomputable def ForN : Nat → (List Value → Prop) → Prop
  | 0, p => p []
  | n + 1, p => ∀ a, ForN n fun vs => p (a :: vs)
theorem ForN.all : ∀ {n : Nat} {p : List Value → Prop}, ForN n p → ∀ vs, vs.length = n → p vs
  | 0, p, h, vs, e => by rw [List.length_eq_zero_iff.mp e]; exact h
  | n + 1, p, h, vs, e => by
    cases vs with
    | nil => cases e
    | cons a r => exact ForN.all (h a) r (Nat.succ.inj e)
/-- what a function's names must be -/
noncomputable def fnChk (scope : Scope) (names : List Str) (n : Nat) : Bool :=
  (names.all fun y => (scope.names.lookup y == some .local || scope.names.lookup y == some .cell) && !(y == ("__debug__" : Str)) && !(y == ("__classdict__" : Str)))
  && (decide names.Nodup && (decide ((cellsFrom 0 scope.names []).map (·.1)).Nodup && (decide (scope.isCoroutine = false) && (decide (scope.isGenerator = false) && (decide (scope.kind = .function) && decide (names.length = n))))))
set_option genInjectivity false in
set_option genSizeOf false in
structure FnOk (scope : Scope) (names : List Str) (n : Nat) : Prop where
  all : (names.all fun y => (scope.names.lookup y == some .local || scope.names.lookup y == some .cell) && !(y == ("__debug__" : Str)) && !(y == ("__classdict__" : Str))) = true
  nd : names.Nodup
  cn : ((cellsFrom 0 scope.names []).map (·.1)).Nodup
  co : scope.isCoroutine = false
  gen : scope.isGenerator = false
  kind : scope.kind = .function
  len : names.length = n
theorem fnOk {scope : Scope} {names : List Str} {n : Nat} (h : fnChk scope names n = true) : FnOk scope names n := by
  have a1 := (Bool.and_eq_true_iff.mp h).1
  have h := (Bool.and_eq_true_iff.mp h).2
  have a2 := of_decide_eq_true (Bool.and_eq_true_iff.mp h).1
  have h := (Bool.and_eq_true_iff.mp h).2
  have a3 := of_decide_eq_true (Bool.and_eq_true_iff.mp h).1
  have h := (Bool.and_eq_true_iff.mp h).2
  have a4 := of_decide_eq_true (Bool.and_eq_true_iff.mp h).1
  have h := (Bool.and_eq_true_iff.mp h).2
  have a5 := of_decide_eq_true (Bool.and_eq_true_iff.mp h).1
  have h := (Bool.and_eq_true_iff.mp h).2
  exact ⟨a1, a2, a3, a4, a5, of_decide_eq_true (Bool.and_eq_true_iff.mp h).1, of_decide_eq_true (Bool.and_eq_true_iff.mp h).2⟩
/-- what a call does, wherever it is made -/
noncomputable def Sat (g : Gd) (r : Nat) (f : Value) (as : List AV) (μ : Mu) (P : Mu → AV → Prop) : Prop := ∀ c ρ, c.g = g → r ≤ c.room → CallV c ρ μ f as P
section
variable {g : Gd} {oc : Value} {od : Option Addr} {osl : Array (Option Value)} {f : Addr} {name qual : Str} {params : Arguments} {body ss : List Stmt} {scope : Scope} {dV kV doc pm cdv ct : Value} {an : Option Addr} {as : List AV} {r : Nat} {μ : Mu} {P : Mu → AV → Prop}
theorem Sat.fnD (names : List Str) (dv : List Value) (da : List AV)
    (ho : List.lookup f g.K = some ⟨oc, od, .func (fnOf name qual params body scope dV kV doc pm an cdv ct), osl⟩) (hcd : codeIn g.K cdv qual = true)
    (hbind : ∀ vs s, g.K.In s.heap → vs.length = as.length → BindsTo s (fnOf name qual params body scope dV kV doc pm an cdv ct) ⟨vs, []⟩ (names.zip (vs ++ dv)))
    (hda : ∀ Φ, RAs Φ da dv) (hc : fnChk scope names (as.length + da.length) = true) (hs : body = ss)
    (hb : ∀ A E L, Ex ⟨g, A, envOfC qual scope L f cdv, r, false, E⟩ μ (names.zip (as ++ da)) ss (kRt P)) : Sat g (r + 1) (.ref f) as μ P := fun c ρ hg hr => by
  subst hg hs
  have k := fnOk hc
  exact CallV.code (fnCode (fun _ _ _ => False) names dv da ho hcd (r := r) hr hbind hda k.len k.all k.nd k.cn (fun _ => PassesOwn.never) (fun _ _ _ q => q.elim) (fun L => hb _ _ L) k.co k.gen k.kind)
theorem fnCode1 {c : Cx} {ρ : Rho} (E' : Env → Value → Shared → Prop) {names : List Str}
    (ho : List.lookup f c.g.K = some ⟨oc, od, .func (fnOf name qual params body scope dV kV doc pm an cdv ct), osl⟩) (hcd : codeIn c.g.K cdv qual = true) (hr : r + 1 ≤ c.room)
    (hbind : ForN as.length fun vs => bindArgs (fnOf name qual params body scope dV kV doc pm an cdv ct) ⟨vs, []⟩ = pure (names.zip vs)) (hc : fnChk scope names as.length = true) (hs : body = ss)
    (hpass : ∀ env, PassesOwn (model c.g.prog c.g.w) (c.A.deeper env) env (E' env)) (hE : ∀ env e s', E' env e s' → wpAny (model c.g.prog c.g.w) (c.A.deeper env) (leaving env e) (fun _ s'' => c.E e s'') (fun e' s'' => c.E e' s'') s')
    (hb : ∀ L, Ex (callee c (envOfC qual scope L f cdv) (E' (envOfC qual scope L f cdv)) r) μ (names.zip as) ss (kRt P)) :
    ∀ Φ s vs, Inv c Φ μ ρ s → RAs Φ as vs → codeAny (model c.g.prog c.g.w) c.A (.call (.ref f) ⟨vs, []⟩) (fun r s' => match r with | .ok (.ret v) => Post c Φ μ s ρ P v s' | .ok _ => False | .error e => c.E e s') s := by
  subst hs
  have k := fnOk hc
  exact fnCode E' names [] [] ho hcd hr (fun vs s _ h => by rw [List.append_nil]; exact BindsTo.of_eq (hbind.all vs h)) (fun _ => rfl) k.len k.all k.nd k.cn hpass hE (fun L => by rw [List.append_nil]; exact hb L) k.co k.gen k.kind
theorem Sat.fn (names : List Str)
    (ho : List.lookup f g.K = some ⟨oc, od, .func (fnOf name qual params body scope dV kV doc pm an cdv ct), osl⟩) (hcd : codeIn g.K cdv qual = true)
    (hbind : ForN as.length fun vs => bindArgs (fnOf name qual params body scope dV kV doc pm an cdv ct) ⟨vs, []⟩ = pure (names.zip vs)) (hc : fnChk scope names as.length = true) (hs : body = ss)
    (hb : ∀ A E L, Ex ⟨g, A, envOfC qual scope L f cdv, r, false, E⟩ μ (names.zip as) ss (kRt P)) : Sat g (r + 1) (.ref f) as μ P := fun c ρ hg hr => by
  subst hg
  exact CallV.code (fnCode1 (fun _ _ _ => False) ho hcd hr hbind hc hs (fun _ => PassesOwn.never) (fun _ _ _ q => q.elim) (fun L => hb _ _ L))
end
/-- a function that gives one thing back, and leaves all as it was -/
noncomputable def Pure (g : Gd) (r : Nat) (f : Addr) (as : List PyData) (x : PyData) : Prop := ∀ μ, Sat g r (.ref f) (as.map .d) μ fun ν a => ν = μ ∧ a = .d x
theorem Pure.use {g : Gd} {r : Nat} {f : Addr} {as : List PyData} {x : PyData} (h : Pure g r f as x) {c : Cx} {ρ : Rho} {μ : Mu} {P : Mu → AV → Prop} (hg : c.g = g) (hr : r ≤ c.room) (k : P μ (.d x)) : CallV c ρ μ (.ref f) (as.map .d) P :=
  fun Φ s vs I ra => W.mono (h μ c ρ hg hr Φ s vs I ra) fun v s' ⟨Ψ, ν, a, m, J, rv, e1, e2⟩ => ⟨Ψ, ν, a, m, J, rv, by rw [e1, e2]; exact k⟩
theorem iteT {b : Bool} {A B : Prop} (e : b = true) (h : A) : if b then A else B := by rw [if_pos e]; exact h
theorem iteF {b : Bool} {A B : Prop} (e : b = false) (h : B) : if b then A else B := by rw [if_neg (by rw [e]; exact Bool.false_ne_true)]; exact h
theorem iteB {b : Bool} {A B : Prop} (h1 : b = true → A) (h2 : b = false → B) : if b then A else B := by cases b with | true => exact h1 rfl | false => exact h2 rfl
end Mine
namespace Mine
noncomputable def flatOf : List Value → Option (List PyData)
  | [] => some []
  | .str x _ :: r => (flatOf r).map (.str x :: ·)
  | .int x _ :: r => (flatOf r).map (.int x :: ·)
  | _ => none
theorem ra_d' {Φ : Frz} {x : PyData} {v : Value} (h : RA Φ (.d x) v) : R Φ x v := h
theorem flatOf_rs {Φ : Frz} : ∀ {vs : List Value} {ds : List PyData}, flatOf vs = some ds → Rs Φ ds vs
  | [], _, e => by cases e; exact Rs.nil
  | .str x t :: r, _, e => by
    simp only [flatOf, Option.map_eq_some_iff] at e
    obtain ⟨ds, e, rfl⟩ := e
    exact Rs.cons (ra_d' (ra_str _ _)) (flatOf_rs e)
  | .int x t :: r, _, e => by
    simp only [flatOf, Option.map_eq_some_iff] at e
    obtain ⟨ds, e, rfl⟩ := e
    exact Rs.cons (ra_d' (ra_int _ _)) (flatOf_rs e)
  | .none :: _, _, e | .ellipsis :: _, _, e | .notImplemented :: _, _, e | .bool _ :: _, _, e | .float _ _ :: _, _, e | .bytes _ _ :: _, _, e | .type _ :: _, _, e | .builtin _ :: _, _, e | .ref _ :: _, _, e => by simp [flatOf] at e
section
variable {c : Cx} {μ : Mu} {ρ : Rho} {P : Mu → AV → Prop}
theorem Ev.bltF {x : Str} {pos} {id : String} (hx : c.env.kindOf x = some .globalImplicit) (hd : (x == ("__debug__" : Str)) = false) (hn : x ≠ "__name__") (e : nsIn c.g.K mainGlobals x = some Option.none) (hv : bootBuiltins x = some (.builtin id)) (h : P μ (.v (.builtin id))) : Ev c μ ρ (.Name x pos) P := Ev.blt hx hd hn e hv h
theorem Ev.bltT {x : Str} {pos} {id : String} (hx : c.env.kindOf x = some .globalImplicit) (hd : (x == ("__debug__" : Str)) = false) (hn : x ≠ "__name__") (e : nsIn c.g.K mainGlobals x = some Option.none) (hv : bootBuiltins x = some (.type id)) (h : P μ (.v (.type id))) : Ev c μ ρ (.Name x pos) P := Ev.blt hx hd hn e hv h
theorem Ev.globT {x : Str} {pos} {a : Addr} {vs : List Value} {n : Nat} {ds : List PyData} (hx : c.env.kindOf x = some .globalImplicit) (hd : (x == ("__debug__" : Str)) = false) (e : nsIn c.g.K mainGlobals x = some (some (.ref a)))
    (hl : List.lookup a c.g.K = some { cls := .type "tuple", data := .seq vs.toArray n }) (hv : flatOf vs = some ds) (h : P μ (.d (.tuple ds))) : Ev c μ ρ (.Name x pos) P := fun Φ s I => by
  have hh : s.heap.get? a = some { cls := tyOf true, data := .seq vs.toArray n } := I.kin _ _ hl
  have hμ : ¬ keysOf μ a := fun q => by
    obtain ⟨p, hp, rfl⟩ := keysOf_iff.mp q
    have := (I.mu.2 p hp).2.1.1
    rw [c.g.X _ _ hl] at this; cases this
  refine W.mono (Ev.glob (P := fun ν b => ν = μ ∧ b = .v (.ref a)) hx hd e ⟨rfl, rfl⟩ Φ s I) fun v s' ⟨Ψ, ν, b, m, J, r, e1, e2⟩ => ?_
  subst e1; subst e2
  obtain rfl := ra_v' r
  have hh' : s'.heap.get? a = some { cls := tyOf true, data := .seq vs.toArray n } := J.kin _ _ hl
  cases hΦ : Ψ a with
  | none =>
    exact ⟨_, ν, _, m.note hΦ (.inr (.inr ⟨_, c.g.X _ _ hl⟩)), J.note hh' hΦ hμ, ra_tup (Frz.put_self _ _ _) (flatOf_rs hv), h⟩
  | some x =>
    obtain ⟨b, ws⟩ := x
    obtain ⟨k, e'⟩ := J.frz a b ws hΦ
    rw [hh'] at e'
    have h1 := congrArg Obj.cls (Option.some.inj e')
    have h2 := congrArg Obj.data (Option.some.inj e')
    have : b = true := by
      cases b with
      | true => rfl
      | false => exact absurd h1 (by simp [tyOf])
    subst this
    have : ws = vs := by
      have h2 : Data.seq vs.toArray n = .seq ws.toArray k := h2
      injection h2 with h3 _
      have := congrArg Array.toList h3
      simpa using this.symm
    subst this
    exact ⟨Ψ, ν, _, m, J, ra_tup hΦ (flatOf_rs hv), h⟩
end
theorem shaped_lab : ∀ l : Lab, SeqAt.shaped (encL l) = true := by intro l; cases l with | none => rfl | some i => revert i; decide +kernel
theorem eqv_lab : ∀ l l' : Lab, PyData.eqv (encL l) (encL l') = (l == l') := by intro l l'; cases l <;> cases l' <;> (try rfl); rename_i i j; revert i j; decide +kernel
/- what the names of the program stand for -/
section
variable {g : Gd}
theorem glCaseRows : nsIn g.K mainGlobals "case_rows" = some (some (.ref 56)) := by kernel_rfl!
theorem glInnerLists : nsIn g.K mainGlobals "inner_lists" = some (some (.ref 61)) := by kernel_rfl!
theorem glHasBreak : nsIn g.K mainGlobals "has_break" = some (some (.ref 69)) := by kernel_rfl!
theorem glIsPanic : nsIn g.K mainGlobals "is_panic" = some (some (.ref 76)) := by kernel_rfl!
theorem glIsCaseEnded : nsIn g.K mainGlobals "is_case_ended" = some (some (.ref 83)) := by kernel_rfl!
theorem glEndsByCases : nsIn g.K mainGlobals "ends_by_cases" = some (some (.ref 88)) := by kernel_rfl!
theorem glIsTerminating : nsIn g.K mainGlobals "is_terminating" = some (some (.ref 95)) := by kernel_rfl!
theorem glLabelchecker : nsIn g.K mainGlobals "LabelChecker" = some (some (.ref 138)) := by kernel_rfl!
theorem glCheckLabels : nsIn g.K mainGlobals "check_labels" = some (some (.ref 149)) := by kernel_rfl!
theorem glLawPool : nsIn g.K mainGlobals "_law_pool" = some (some (.ref 156)) := by kernel_rfl!
theorem glLawTake : nsIn g.K mainGlobals "_law_take" = some (some (.ref 163)) := by kernel_rfl!
theorem glLawOne : nsIn g.K mainGlobals "_law_one" = some (some (.ref 170)) := by kernel_rfl!
theorem glLawCall : nsIn g.K mainGlobals "_law_call" = some (some (.ref 177)) := by kernel_rfl!
theorem glLawBody : nsIn g.K mainGlobals "_law_body" = some (some (.ref 182)) := by kernel_rfl!
theorem glLawBlock : nsIn g.K mainGlobals "_law_block" = some (some (.ref 189)) := by kernel_rfl!
theorem glLawCases : nsIn g.K mainGlobals "_law_cases" = some (some (.ref 196)) := by kernel_rfl!
theorem glLawLabelled : nsIn g.K mainGlobals "_law_labelled" = some (some (.ref 203)) := by kernel_rfl!
theorem glLawStatement : nsIn g.K mainGlobals "_law_statement" = some (some (.ref 210)) := by kernel_rfl!
theorem glLawParts : nsIn g.K mainGlobals "_law_parts" = some (some (.ref 215)) := by kernel_rfl!
theorem glLawWays : nsIn g.K mainGlobals "_law_ways" = some (some (.ref 222)) := by kernel_rfl!
theorem glLawIsLeft : nsIn g.K mainGlobals "_law_is_left" = some (some (.ref 229)) := by kernel_rfl!
theorem glLawEnds : nsIn g.K mainGlobals "_law_ends" = some (some (.ref 234)) := by kernel_rfl!
theorem glLawLabels : nsIn g.K mainGlobals "_law_labels" = some (some (.ref 241)) := by kernel_rfl!
theorem glLawLabelsRight : nsIn g.K mainGlobals "_law_labels_right" = some (some (.ref 246)) := by kernel_rfl!
theorem glLawIsLet : nsIn g.K mainGlobals "_law_is_let" = some (some (.ref 253)) := by kernel_rfl!
theorem glFlowfault : nsIn g.K mainGlobals "FlowFault" = some (some (.ref 45)) := by kernel_rfl!
theorem glChanerror : nsIn g.K mainGlobals "ChanError" = some (some (.ref 32)) := by kernel_rfl!
theorem glLoops : nsIn g.K mainGlobals "LOOPS" = some (some (.ref 48)) := by kernel_rfl!
theorem glLeftByBreak : nsIn g.K mainGlobals "LEFT_BY_BREAK" = some (some (.ref 49)) := by kernel_rfl!
theorem blLen : nsIn g.K mainGlobals "len" = some none := by kernel_rfl!
theorem bvLen : bootBuiltins "len" = some (.builtin "len") := by kernel_rfl!
theorem blMax : nsIn g.K mainGlobals "max" = some none := by kernel_rfl!
theorem bvMax : bootBuiltins "max" = some (.builtin "max") := by kernel_rfl!
theorem blMin : nsIn g.K mainGlobals "min" = some none := by kernel_rfl!
theorem bvMin : bootBuiltins "min" = some (.builtin "min") := by kernel_rfl!
theorem blInt : nsIn g.K mainGlobals "int" = some none := by kernel_rfl!
theorem bvInt : bootBuiltins "int" = some (.type "int") := by kernel_rfl!
theorem blTuple : nsIn g.K mainGlobals "tuple" = some none := by kernel_rfl!
theorem bvTuple : bootBuiltins "tuple" = some (.type "tuple") := by kernel_rfl!
theorem blSet : nsIn g.K mainGlobals "set" = some none := by kernel_rfl!
theorem bvSet : bootBuiltins "set" = some (.type "set") := by kernel_rfl!
theorem blStr : nsIn g.K mainGlobals "str" = some none := by kernel_rfl!
theorem bvStr : bootBuiltins "str" = some (.type "str") := by kernel_rfl!
theorem blRange : nsIn g.K mainGlobals "range" = some none := by kernel_rfl!
theorem bvRange : bootBuiltins "range" = some (.type "range") := by kernel_rfl!
end
end Mine
namespace Mine

theorem funFrames_touch {base h₁ h h' : Heap} {a : Addr} (f : h₁.get? a = none) (k : ∀ b o, b ≠ a → h.get? b = some o → h'.get? b = some o) {l : List Env} (y : h₁.FunFrames base l) (x : h.FunFrames base l) : h'.FunFrames base l :=
  funFrames_gen (fun b m n o e d => ⟨n, o, k b o (fun q => by obtain ⟨_, _, e', _⟩ := y.mem m; rw [q, f] at e'; cases e') e, d⟩) x
/-- a place of no one's changes -/
theorem Inv.off {c : Cx} {Φ : Frz} {μ : Mu} {ρ : Rho} {s : Shared} (I : Inv c Φ μ ρ s) {a : Addr} {h' : Heap} {tk : Nat} (k : ∀ b o, b ≠ a → s.heap.get? b = some o → h'.get? b = some o) (h1 : ¬ Own c a) (h2 : ¬ keysOf μ a) (h3 : Φ a = none) (h4 : c.g.h₀.get? a = none)
    (ff : ∀ l, c.A.frames = some l → h'.FunFrames c.g.bs l) : Inv c Φ μ ρ { s with heap := h', toks := tk } := by
  have hs : Keep (fun b => b = a) s.heap h' := Keep.of_keepsBut fun b o n e => k b o n e
  exact {
    ok := I.ok
    old := fun b o e => k b o (fun q => by rw [q, h4] at e; cases e) (I.old b o e)
    ns := let ⟨m, n⟩ := I.ns; ⟨m, ns_keep n hs fun t => h1 (.inl t.symm)⟩
    above := I.above
    cells := fun x b z => let ⟨⟨v, q⟩, r⟩ := I.cells x b z; ⟨⟨v, cell_keep q hs fun t => h1 (.inr ⟨x, t ▸ z⟩)⟩, r⟩
    vars := fun x b z => let ⟨v, p, q⟩ := I.vars x b z; ⟨v, p.keep hs (fun t => h1 (.inl t.symm)) (fun y b z t => h1 (.inr ⟨y, t ▸ z⟩)), q⟩
    frz := I.frz.keep hs fun b q => q ▸ h3
    mu := ⟨I.mu.1, fun p hp => by
      obtain ⟨⟨o', e', m⟩, r⟩ := I.mu.2 p hp
      exact ⟨⟨o', k p.1 o' (fun q => h2 (keysOf_iff.mpr ⟨p, hp, q⟩)) e', m⟩, r⟩⟩
    muOff := I.muOff
    ff := ff
    still := I.still }

/-- the context of a comprehension -/
noncomputable def cmpCx (c : Cx) (scope : Scope) (cl : List (Str × Addr)) (C : Addr) : Cx := ⟨c.g, c.A, compEnvC scope cl C c.env, c.room, true, fun _ _ => False⟩
noncomputable def Ts (c : Cx) (μ : Mu) (ρ : Rho) (ts : List Expr) (P : Mu → Bool → Prop) : Prop := ∀ Φ s, Inv c Φ μ ρ s →
  W c (forIn ts true fun t r => if r = true then do let ok ← isTrue t c.env (eval t c.env); pure (ForInStep.yield ok) else pure (ForInStep.yield r)) (PostB c Φ μ s ρ P) s
theorem Ts.nil {c : Cx} {μ : Mu} {ρ : Rho} {P : Mu → Bool → Prop} (h : P μ true) : Ts c μ ρ [] P := fun Φ s I => wpAny_tests_nil ⟨Φ, μ, Mv.refl .., I, h⟩
theorem Ts.one {c : Cx} {μ : Mu} {ρ : Rho} {P : Mu → Bool → Prop} {t : Expr} (h : Tr c μ ρ t P) : Ts c μ ρ [t] P := fun Φ s I => wpAny_tests_one (h Φ s I)
noncomputable def freeRho (ρ : Rho) : List (Str × Addr) → Rho
  | [] => []
  | (x, _) :: r => match look ρ x with
    | some a => (x, a) :: freeRho ρ r
    | none => freeRho ρ r
theorem freeRho_look {ρ : Rho} {x : Str} {a : AV} : ∀ {cl : List (Str × Addr)}, look (freeRho ρ cl) x = some a → look ρ x = some a ∧ ∃ p ∈ cl, p.1 = x
  | [], h => by simp [freeRho, look] at h
  | (y, b) :: r, h => by
    unfold freeRho at h
    split at h
    · rename_i z e
      unfold look at h
      split at h
      · rename_i q; subst q; cases h; exact ⟨e, _, .head _, rfl⟩
      · obtain ⟨h1, p, hp, h2⟩ := freeRho_look h; exact ⟨h1, p, .tail _ hp, h2⟩
    · obtain ⟨h1, p, hp, h2⟩ := freeRho_look h; exact ⟨h1, p, .tail _ hp, h2⟩

section
variable {prog : Program} {w : World} {A : Around} {R : Result → Shared → Prop} {s : Shared}
section
variable (M : Model) (A : Around) (R : Result → Shared → Prop) (target elt : Expr) (ifs : List Expr) (it acc : Value) (env : Env) (I : Nat → Shared → Prop) (n : Nat)
@[reducible] noncomputable def qApp : Bool → Shared → Prop := fun ok s₃ => if ok = true then wpAny M A (eval elt env) (fun x s₄ => wpAny M A (call (.builtin "list.append") [acc, x]) (fun _ s₅ => ∃ m, m < n ∧ I m s₅) (fun _ _ => False) s₄) (fun _ _ => False) s₃ else ∃ m, m < n ∧ I m s₃
@[reducible] noncomputable def qTest : Unit → Shared → Prop := fun _ s₂ => wpAny M A (forIn ifs true fun c r => if r = true then do let ok ← isTrue c env (eval c env); pure (ForInStep.yield ok) else pure (ForInStep.yield r)) (qApp M A elt acc env I n) (fun _ _ => False) s₂
@[reducible] noncomputable def qAsg (v : Value) : Unit → Shared → Prop := fun _ s₁ => wpAny M A (assign target env v) (qTest M A elt ifs acc env I n) (fun _ _ => False) s₁
@[reducible] noncomputable def qTurn : Option Value → Shared → Prop := fun r s₁ => match r with
  | none => R (.ok .next) s₁
  | some v => wpAny M A (letOwnedTupleGo target it v) (qAsg M A target elt ifs acc env I n v) (fun _ _ => False) s₁
end
theorem codeAny_compLoop_go {elt target iter : Expr} {ifs : List Expr} {scope : Scope} {pos : Pos} {it acc : Value} {env : Env} (I : Nat → Shared → Prop)
    (turn : ∀ n s, I n s → wpAny (model prog w) A (pyNext it) (qTurn (model prog w) A R target elt ifs it acc env I n) (fun _ _ => False) s)
    (n : Nat) (h : I n s) :
    codeAny (model prog w) A (.compLoop (.ListComp elt [⟨target, iter, ifs, 0⟩] scope pos) 0 it acc env) R s := by
  refine codeAny_loop rfl I (fun n s hI => ?_) n h
  show wpAny _ A ((compTurn (.ListComp elt [⟨target, iter, ifs, 0⟩] scope pos) 0 it acc env).onRaise (fun x => do noteFrame x env; theTreesLotGoes x)) _ _ s
  refine wpAny_noted ?_
  rw [compTurn_list]
  refine wpAny_bind (wpAny_standAt (wpAny_bind (wpAny_mono (turn n s hI) (fun r s₁ h₁ => ?_) fun _ _ h' => h'.elim)))
  cases r with
  | none => exact wpAny_pure h₁
  | some v =>
    refine wpAny_bind (wpAny_mono h₁ (fun _ s₁' h₁' => ?_) fun _ _ h' => h'.elim)
    refine wpAny_bind (wpAny_mono h₁' (fun _ s₂ h₂ => wpAny_bind (wpAny_mono h₂ (fun ok s₃ h₃ => ?_) fun _ _ h' => h'.elim)) fun _ _ h' => h'.elim)
    cases ok with
    | false => exact wpAny_pure ⟨rfl, h₃⟩
    | true =>
      exact wpAny_bind (wpAny_bind (wpAny_mono h₃ (fun x s₄ h₄ => wpAny_bind (wpAny_mono h₄ (fun _ s₅ h₅ => wpAny_pure (wpAny_pure ⟨rfl, h₅⟩)) fun _ _ h' => h'.elim)) fun _ _ h' => h'.elim))
end

set_option genInjectivity false in
set_option genSizeOf false in
/-- what a comprehension asks of its parts -/
structure CompOk (c : Cx) (scope : Scope) (cl : List (Str × Addr)) : Prop where
  clos : closureFor scope c.env = pure cl
  kind : scope.kind = .function
  names : ∀ x ∈ scope.names, x.2 = .local → scope.names.lookup x.1 = some .local
  cell : ∀ y ∈ scope.names, y.2 ≠ .cell
  sub : ∀ p ∈ cl, c.env.cells.lookup p.1 = some p.2 ∧ cl.lookup p.1 = some p.2 ∧ (c.env.kindOf p.1 = some .cell ∨ c.env.kindOf p.1 = some .free) ∧ ((compEnvC scope cl 0 c.env).kindOf p.1 = some .cell ∨ (compEnvC scope cl 0 c.env).kindOf p.1 = some .free)

@[reducible] noncomputable def kL3 (J : Mu → List PyData → Prop) (acc : List PyData) : Mu → AV → Prop := fun μ b => ∃ d, b = .d d ∧ J μ (acc ++ [d])
@[reducible] noncomputable def kL2 (c : Cx) (elt : Expr) (J : Mu → List PyData → Prop) (acc : List PyData) (ρ : Rho) : Mu → Bool → Prop := fun μ ok => if ok then Ev c μ ρ elt (kL3 J acc) else J μ acc
@[reducible] noncomputable def kL1 (c : Cx) (ifs : List Expr) (elt : Expr) (J : Mu → List PyData → Prop) (acc : List PyData) : Mu → Rho → Prop := fun μ ρ => Ts c μ ρ ifs (kL2 c elt J acc ρ)
/-- where a comprehension stands ahead of a turn -/
inductive CompAt (c cx : Cx) (ρc : Rho) (C D I : Addr) (N : Nat) (J : Nat → Mu → List PyData → Prop) (St : Nat → Heap → Prop) (Φ : Frz) (μ : Mu) (s : Shared) (k : Nat) (s' : Shared) : Prop
  | mk (Ψ : Frz) (ν : Mu) (acc : List PyData) (i : Nat) (vs : List Value) (n : Nat) (M : Fw c.g.h₀ (fun a => a = C ∨ a = D ∨ a = I) Φ μ s Ψ ν s') (I' : Inv cx Ψ ν ρc s') (st : St i s'.heap) (j : J i ν acc) (hi : i ≤ N) (hk : k = N + 1 - i)
    (hD : s'.heap.get? D = some { cls := .type "list", data := .seq vs.toArray n }) (rs : Rs Ψ acc vs) (hl : acc.length ≤ i) (ΨD : Ψ D = none) (μD : ¬ keysOf ν D)
/-- what stands after a turn -/
inductive CompTo (c cx : Cx) (ρc : Rho) (C D I : Addr) (St : Heap → Prop) (Φ : Frz) (μ : Mu) (s : Shared) (Ψ : Frz) (ν : Mu) (s' : Shared) (acc : List PyData) (vs : List Value) (n : Nat) : Prop
  | mk (M : Fw c.g.h₀ (fun a => a = C ∨ a = D ∨ a = I) Φ μ s Ψ ν s') (I' : Inv cx Ψ ν ρc s') (st : St s'.heap) (hD : s'.heap.get? D = some { cls := .type "list", data := .seq vs.toArray n }) (rs : Rs Ψ acc vs) (ΨD : Ψ D = none) (μD : ¬ keysOf ν D)
theorem compLoop {c : Cx} {μ₀ : Mu} {ρ : Rho} {Φ₀ : Frz} {s₀ : Shared} (I₀ : Inv c Φ₀ μ₀ ρ s₀) {scope : Scope} {cl : List (Str × Addr)} (ok' : CompOk c scope cl) {elt t iter : Expr} {ifs : List Expr} {pos : Pos}
    {Φ : Frz} {μ : Mu} {s : Shared} {I : Addr} {xs : List AV} {fp : List Addr} {Pt : Nat → Value → Prop} {St : Nat → Heap → Prop} (m : Mv c Φ₀ μ₀ s₀ Φ μ s) (Is : Inv c Φ μ ρ s) {κ : Mu} (T : Itr c Φ κ I xs fp Pt St) (st : St 0 s.heap) (fresh : s₀.heap.get? I = none)
    (hsz : xs.length ≤ 1000000) (J : Nat → Mu → List PyData → Prop) (hκ : ∀ i μ₁ acc, J i μ₁ acc → ∀ p ∈ κ, p ∈ μ₁) (j0 : J 0 μ [])
    (step : ∀ C i a μ₁ acc, xs[i]? = some a → J i μ₁ acc → As (cmpCx c scope cl C) μ₁ (freeRho ρ cl) t a (kL1 (cmpCx c scope cl C) ifs elt (J (i + 1)) acc))
    {R : Value → Addr → Result → Shared → Prop}
    (fin : ∀ D C t Ψ ν ds, Mv c Φ₀ μ₀ s₀ Ψ ν t → Inv c Ψ ν ρ t → RA Ψ (.d (.list ds)) (.ref D) → J xs.length ν ds → s₀.heap.get? C = none → (∃ m, t.heap.Ns C m) → (¬ keysOf ν C) → Ψ C = none → R (.ref D) C (.ok .next) t) :
    wpAny (model c.g.prog c.g.w) c.A (newList []) (fun acc s₃ => wpAny (model c.g.prog c.g.w) c.A (newFunctionEnv scope c.env.globals cl [] c.env.qual none .none (some c.env)) (fun cenv s₄ =>
      codeAny (model c.g.prog c.g.w) c.A (.compStart (.ListComp elt [⟨t, iter, ifs, 0⟩] scope pos) 0 (.ref I) acc { cenv with scope := relabel scope c.env }) (R acc cenv.locals) s₄) c.E s₃) c.E s := by
  refine wpAny_newObj_type (wpAny_newFunctionEnv ok'.cell (by intro y hy; simp at hy) (fun h₁ hns₁ hsb₁ => ?_) ok'.kind)
  dsimp only at hns₁ hsb₁ ⊢
  generalize hD : s.heap.objs.size = D at hns₁ hsb₁ ⊢
  generalize hH2 : s.heap.push { cls := .type "list", dict := none, data := .seq ([] : List Value).toArray } = H2 at hns₁ hsb₁ ⊢
  have hC : H2.objs.size = D + 1 := by rw [← hH2, Heap.size_push, hD]
  generalize hCe : H2.objs.size = C at hns₁ hsb₁ hC ⊢
  have fD : s.heap.get? D = none := hD ▸ Heap.fresh _
  have fC : s.heap.get? C = none := Heap.get?_none_of_le (by rw [hC, hD]; exact Nat.le_succ _)
  have lower : ∀ {a}, s.heap.get? a = none → s₀.heap.get? a = none := fun {a} e => by
    cases q : s₀.heap.get? a with
    | none => rfl
    | some o => obtain ⟨o', e'⟩ := m.alive a o q; rw [e] at e'; cases e'
  have old : ∀ b o, s.heap.get? b = some o → h₁.get? b = some o := fun b o e => by
    have hb := Heap.lt_size e
    exact hsb₁.extBut b o (by intro q; rw [q, fC] at e; cases e) (Heap.get?_push_of_some _ (hH2 ▸ Heap.get?_push_of_some _ e))
  have hDC : D ≠ C := by rw [hC]; exact Nat.ne_of_lt (Nat.lt_succ_self _)
  have hacc : h₁.get? D = some { cls := .type "list", data := .seq ([] : List Value).toArray 0 } := hsb₁.extBut _ _ hDC (Heap.get?_push_of_some _ (by rw [← hH2, ← hD]; exact Heap.get?_push_size _ rfl))
  have cells' : ∀ {x a}, cl.lookup x = some a → c.env.cells.lookup x = some a := fun {x a} e => by
    have := (ok'.sub _ (mem_of_lookup e)).1
    exact this
  -- the state in the comprehension
  obtain ⟨m₁, I₁⟩ := Is.keeps (tk := s.toks + ([] : List (Str × Value)).length) (h' := h₁) old
  have kk : ∀ x, (compEnvC scope cl C c.env).kindOf x = (compEnvC scope cl 0 c.env).kindOf x := fun _ => rfl
  have vars₁ : ∀ {Ψ : Frz} {h : Heap}, (∀ x a, look ρ x = some a → ∃ v, At c.env h x v ∧ RA Ψ a v) → ∀ x a, look (freeRho ρ cl) x = some a → ∃ v, At (compEnvC scope cl C c.env) h x v ∧ RA Ψ a v := fun {Ψ h} hv x a e => by
    obtain ⟨e1, p, hp, rfl⟩ := freeRho_look e
    obtain ⟨v, ⟨d1, d2, q⟩, r⟩ := hv _ _ e1
    obtain ⟨k1, k2, k3, k4⟩ := ok'.sub p hp
    refine ⟨v, ⟨d1, d2, ?_⟩, r⟩
    have q' : ∃ ca, c.env.cells.lookup p.1 = some ca ∧ h.IsCell ca (some v) := by
      rcases k3 with k3 | k3 <;> · rw [k3] at q; exact q
    obtain ⟨ca, q1, q2⟩ := q'
    rw [k1] at q1; cases q1
    rw [kk]
    rcases k4 with k4 | k4 <;> · rw [k4]; exact ⟨_, k2, q2⟩
  have okc : CxOk (cmpCx c scope cl C) := ⟨Is.ok.hh, ok'.kind, Is.ok.glob, Is.ok.blt, Is.ok.depth, Is.ok.units, fun x y a e1 e2 => Is.ok.apart x y a (cells' e1) (cells' e2), PassesOwn.never, Is.ok.frames⟩
  have Ic : Inv (cmpCx c scope cl C) Φ μ (freeRho ρ cl) { s with heap := h₁, toks := s.toks + ([] : List (Str × Value)).length } := by
    refine ⟨okc, I₁.old, ⟨_, hns₁⟩, ?_, fun x a e => I₁.cells x a (cells' e), vars₁ I₁.vars, I₁.frz, I₁.mu, fun p hp q => ?_, I₁.ff, I₁.still⟩
    · show c.g.h₀.objs.size ≤ C
      rw [hC, ← hD]; exact Nat.le_succ_of_le Is.sizes
    · obtain ⟨⟨o, e, _⟩, _⟩ := Is.mu.2 p hp
      have q : p.1 = C := q
      rw [q, fC] at e; cases e
  have loop : ∀ s₄ : Shared, s₄ = { s with heap := h₁, toks := s.toks + ([] : List (Str × Value)).length } →
      codeAny (model c.g.prog c.g.w) c.A (.compLoop (.ListComp elt [⟨t, iter, ifs, 0⟩] scope pos) 0 (.ref I) (.ref D) (compEnvC scope cl C c.env)) (R (.ref D) C) s₄ := by
    rintro s₄ rfl
    have FwC : ∀ {Ψ Ψ' : Frz} {ν ν' : Mu} {t t' : Shared}, Mv (cmpCx c scope cl C) Ψ ν t Ψ' ν' t' → Fw c.g.h₀ (fun a => a = C ∨ a = D ∨ a = I) Ψ ν t Ψ' ν' t' := fun m => m.mono fun a o e q => by
      rcases q with q | ⟨q, _⟩
      · exact .inl q
      · cases q
    have hOI : ∀ {a}, s₀.heap.get? a = none → ¬ Own c a := fun {a} f q => by obtain ⟨o, e⟩ := I₀.ownAlive q; rw [f] at e; cases e
    have hF0 : ∀ a, (a = C ∨ a = D ∨ a = I) → s₀.heap.get? a = none := fun a q => by
      rcases q with rfl | rfl | rfl
      · exact lower fC
      · exact lower fD
      · exact fresh
    have hF : ∀ a, (a = C ∨ a = D ∨ a = I) → ¬ Own c a := fun a q => hOI (hF0 a q)
    obtain ⟨oI, vI, eI, dI, _⟩ := T.obj _ _ st
    have hIC : I ≠ C := fun q => by rw [q, fC] at eI; cases eI
    have hID : I ≠ D := fun q => by rw [q, fD] at eI; cases eI
    have ownC : ∀ {a}, Own (cmpCx c scope cl C) a → a = C ∨ Own c a := fun {a} q => by
      rcases q with q | ⟨x, q⟩
      · exact .inl q
      · exact .inr (.inr ⟨x, cells' q⟩)
    have hI0 : c.g.h₀.get? I = none := I₀.noBase fresh
    have hD0 : c.g.h₀.get? D = none := I₀.noBase (lower fD)
    have offI : ¬ Own (cmpCx c scope cl C) I := fun q => (ownC q).elim hIC (hOI fresh)
    have offD : ¬ Own (cmpCx c scope cl C) D := fun q => (ownC q).elim hDC (hOI (lower fD))
    have ffD : ∀ {h h' : Heap}, (∀ b o, b ≠ D → h.get? b = some o → h'.get? b = some o) → (∀ l, c.A.frames = some l → h.FunFrames c.g.bs l) → ∀ l, c.A.frames = some l → h'.FunFrames c.g.bs l := fun k f l e => funFrames_touch fD k (Is.ff l e) (f l e)
    have M₁ : Fw c.g.h₀ (fun a => a = C ∨ a = D ∨ a = I) Φ μ s Φ μ { s with heap := h₁, toks := s.toks + ([] : List (Str × Value)).length } := ⟨Frz.le.refl _, fun _ _ h => .inl h, Keep.of_keeps old, fun _ h => .inl h, fun a o e => ⟨o, old a o e⟩, rfl, rfl, rfl⟩
    refine codeAny_compLoop_go (CompAt c (cmpCx c scope cl C) (freeRho ρ cl) C D I xs.length J St Φ μ s) ?_ (xs.length + 1)
      ⟨Φ, μ, [], 0, [], 0, M₁, Ic, T.walk.frame _ _ _ st fun b _ o e => old b o e, j0, Nat.zero_le _, rfl, hacc, Rs.nil, Nat.zero_le _, Is.frz.none fD, Is.noKey fD⟩
    rintro k s' ⟨Ψ', μ', acc, i, vs, n, M, I', st', j', hi, hk', hD', rs, hlen, ΨD, μD⟩
    have rcm : ∀ {h'' : Heap} {tk : Nat}, (∀ b o, b ∉ [I] → s'.heap.get? b = some o → h''.get? b = some o) → (∃ o', h''.get? I = some o') → Fw c.g.h₀ (fun a => a = C ∨ a = D ∨ a = I) Φ μ s Ψ' μ' { s' with heap := h'', toks := tk } ∧ Inv (cmpCx c scope cl C) Ψ' μ' (freeRho ρ cl) { s' with heap := h'', toks := tk } := fun k al => by
      have k' : ∀ b o, b ≠ I → s'.heap.get? b = some o → _ := fun b o n e => k b o (by simpa using n) e
      obtain ⟨o, vs, e, d, _⟩ := T.obj i _ st'
      exact ⟨M.touch (.inr ⟨.inr (.inr rfl), al⟩) k', I'.recMove k' ⟨o, vs, e, d⟩ hI0⟩
    by_cases hlt : i < xs.length
    · refine T.walk.item i _ _ _ hlt st' fun v h'' tk hP hst hk => ?_
      obtain ⟨oi, vi, ei, di, nfi⟩ := T.obj _ _ hst
      obtain ⟨Ma, Ia⟩ := rcm (tk := tk) hk ⟨_, ei⟩
      refine letGo_pass (T.obj _ _ hst) ?_
      obtain ⟨a, ea, ra⟩ := T.items i v hP hlt
      refine W.mono (c := cmpCx c scope cl C) (step C i a μ' acc ea j' Ψ' _ v Ia (ra.mono M.le)) fun _ s₂ h₂ => ?_
      obtain ⟨Ψ₂, μ₂, ρ₂, l₂, I₂, h₂⟩ := h₂
      refine W.mono (c := cmpCx c scope cl C) (h₂ Ψ₂ s₂ I₂) fun ok s₃ h₃ => ?_
      obtain ⟨Ψ₃, μ₃, l₃, I₃, h₃⟩ := h₃
      have aD : h''.get? D = some { cls := .type "list", data := .seq vs.toArray n } := hk D _ (by simpa using Ne.symm hID) hD'
      -- what stands after a turn
      have after : ∀ {Ψ₄ μ₄ ρ₄ s₄}, Mv (cmpCx c scope cl C) Ψ' μ' { s' with heap := h'', toks := tk } Ψ₄ μ₄ s₄ → Inv (cmpCx c scope cl C) Ψ₄ μ₄ ρ₄ s₄ → (∀ p ∈ κ, p ∈ μ₄) → CompTo c (cmpCx c scope cl C) (freeRho ρ cl) C D I (St (i + 1)) Φ μ s Ψ₄ μ₄ s₄ acc vs n := fun {Ψ₄ μ₄ ρ₄ s₄} ll I₄ hκ₄ => by
        refine ⟨Ma.trans (FwC ll), { I₄ with vars := fun x a e => ?_ }, ?_, Mv.exact ll aD offD μD (by simp), rs.mono ll.le, ?_, fun q => ?_⟩
        · obtain ⟨e1, p, hp, rfl⟩ := freeRho_look e
          obtain ⟨v, ⟨d1, d2, q⟩, r⟩ := Ia.vars _ _ e
          refine ⟨v, ⟨d1, d2, ?_⟩, r.mono ll.le⟩
          have k4 := (ok'.sub p hp).2.2.2
          have kp : ∀ {ca}, (cmpCx c scope cl C).env.cells.lookup p.1 = some ca → Heap.IsCell h'' ca (some v) → s₄.heap.IsCell ca (some v) := fun {ca} e1 e2 => by
            refine cell_keep e2 ll.keep fun q => ?_
            rcases q with (q | ⟨q, _⟩) | q
            · have e1 : c.env.cells.lookup p.1 = some ca := cells' e1
              exact hF ca (.inl q) (.inr ⟨_, e1⟩)
            · cases q
            · exact Ia.keyOff q (.inr ⟨_, e1⟩)
          have q0 := q
          rcases k4 with k4 | k4
          · have k5 : (cmpCx c scope cl C).env.kindOf p.1 = some .cell := k4
            rw [k5] at q0 ⊢
            obtain ⟨ca, e1, e2⟩ := q0
            exact ⟨ca, e1, kp e1 e2⟩
          · have k5 : (cmpCx c scope cl C).env.kindOf p.1 = some .free := k4
            rw [k5] at q0 ⊢
            obtain ⟨ca, e1, e2⟩ := q0
            exact ⟨ca, e1, kp e1 e2⟩
        · refine T.walk.frame _ _ _ hst fun b hb o e => ?_
          rcases T.fpok b hb with rfl | ⟨x, hx⟩ | ⟨o₀, ho₀⟩ | ⟨m, o', hm, hp⟩
          · rw [ei] at e; cases e
            refine Mv.exact ll ei offI (fun q => ?_) (noFrame nfi)
            obtain ⟨p, hp, rfl⟩ := keysOf_iff.mp q
            obtain ⟨⟨o2, e2, mk⟩, _⟩ := Ia.mu.2 p hp
            rw [ei] at e2; cases e2; exact mk.plain _ di
          · have hx' := M.le _ _ hx
            obtain ⟨n, e'⟩ := Ia.frz b x.1 x.2 hx'
            rw [e'] at e; cases e
            exact Mv.exact ll e' (Ia.frzOff hx') (Ia.frzKey hx') (tyOf_noFrame _)
          · rw [Ia.old b o₀ ho₀] at e; cases e
            exact I₄.old b _ ho₀
          · obtain ⟨⟨o1, e1, k1⟩, _⟩ := Ia.mu.2 _ (hκ _ _ _ j' _ hm)
            obtain ⟨⟨o2, e2, k2⟩, _⟩ := I₄.mu.2 _ (hκ₄ _ hm)
            have e1' : _ = some o1 := e1
            rw [e1'] at e; cases e
            rw [k1.pinned hp]
            rw [k2.pinned hp] at e2
            exact e2
        · cases z : Ψ₄ D with
          | none => rfl
          | some x =>
            rcases ll.fz D x z with q | q | q | ⟨o, q⟩
            · rw [ΨD] at q; cases q
            · rw [aD] at q; cases q
            · exact absurd q μD
            · have q : c.g.h₀.get? D = some o := q
              rw [hD0] at q; cases q
        · rcases ll.keys D q with q | q
          · exact μD q
          · rw [aD] at q; cases q
      cases ok with
      | false =>
        obtain ⟨a1, a2, a3, a4, a5, a6, a7⟩ := after (l₂.trans l₃) I₃ (hκ _ _ _ h₃)
        exact ⟨xs.length + 1 - (i + 1), by lia, Ψ₃, μ₃, acc, i + 1, vs, n, a1, a2, a3, h₃, hlt, rfl, a4, a5, Nat.le_succ_of_le hlen, a6, a7⟩
      | true =>
        refine W.mono (c := cmpCx c scope cl C) (h₃ Ψ₃ s₃ I₃) fun x s₄ h₄ => ?_
        obtain ⟨Ψ₄, μ₄, b, l₄, I₄, r₄, d, rfl, j₄⟩ := h₄
        obtain ⟨a1, a2, a3, a4, a5, a6, a7⟩ := after ((l₂.trans l₃).trans l₄) I₄ (hκ _ _ _ j₄)
        refine append_at a4 (fun h₅ sb₅ hD₅ => ?_) (by rw [List.size_toArray, a5.length, sizeLine_eq]; lia)
        have k₅ : ∀ b o, b ≠ D → s₄.heap.get? b = some o → h₅.get? b = some o := fun b o n e => (sb₅.2 b n).trans e
        refine ⟨xs.length + 1 - (i + 1), by lia, Ψ₄, μ₄, acc ++ [d], i + 1, vs ++ [x], n + 1, a1.touch (.inr ⟨.inr (.inl rfl), ⟨_, hD₅⟩⟩) k₅, a2.off k₅ offD a7 a6 hD0 (ffD k₅ a2.ff), ?_, j₄, hlt, rfl, ?_, a5.append (Rs.one r₄), by simp; lia, a6, a7⟩
        · exact T.walk.frame _ _ _ a3 fun b hb o e => k₅ b o (fun q => by
            subst q
            rcases T.fpok b hb with q | ⟨x, hx⟩ | ⟨o₀, ho₀⟩ | ⟨m, o', hm, hp⟩
            · exact hID q.symm
            · have := a1.le _ _ hx; rw [a6] at this; cases this
            · rw [hD0] at ho₀; cases ho₀
            · exact a7 (keysOf_iff.mpr ⟨_, hκ _ _ _ j₄ _ hm, rfl⟩)) e
        · simpa using hD₅
    · have hin : i = xs.length := by lia
      subst hin
      refine T.walk.done _ _ _ st' fun h'' tk hk => ?_
      obtain ⟨oi, vi, ei, di, _⟩ := T.obj _ _ st'
      have aD : h''.get? D = some { cls := .type "list", data := .seq vs.toArray n } := hk D _ (by simpa using Ne.symm hID) hD'
      have kI : ∀ b o, b ≠ I → s'.heap.get? b = some o → h''.get? b = some o := fun b o n e => hk b o (by simpa using n) e
      have Ia : Inv (cmpCx c scope cl C) Ψ' μ' (freeRho ρ cl) { s' with heap := h'', toks := tk } := I'.recMove kI ⟨_, _, ei, di⟩ hI0
      have Ib : Inv c Ψ' μ' ρ { s' with heap := h'', toks := tk } := (Is.back' hF M I'.old I'.frz I'.mu I'.ff).recMove kI ⟨_, _, ei, di⟩ hI0
      have Mt' : Mv c Φ₀ μ₀ s₀ Ψ' μ' s' :=
        ((m.mono (G := fun a => Sto c a ∨ a = C ∨ a = D ∨ a = I) fun a o e q => .inl q).trans (M.mono fun a o e q => .inr q)).mono fun a o e q => q.elim id fun q => by rw [hF0 a q] at e; cases e
      have Mt : Mv c Φ₀ μ₀ s₀ Ψ' μ' { s' with heap := h'', toks := tk } := Mt'.touch (.inl fresh) kI
      refine fin D C _ _ _ acc (Mt.note ΨD (.inl (lower fD))) (Ib.note (b := false) (vs := vs) (n := n) aD ΨD μD) (ra_lst (Frz.put_self _ _ _) (rs.mono (Frz.le_put ΨD))) j' (lower fC) Ia.ns (fun q => Ia.keyOff q (.inl rfl)) ?_
      unfold Frz.put
      rw [if_neg (Ne.symm hDC)]
      cases z : Ψ' C with
      | none => rfl
      | some x => exact absurd (.inl rfl) (Ia.frzOff z)
  exact codeAny_compStart_list (loop _ rfl) (T.walk.self 0 _ _ _ (T.walk.frame _ _ _ st fun b _ o e => old b o e) (loop _ rfl))

section
variable {c : Cx} {μ : Mu} {ρ : Rho}
/-- the parts of a comprehension -/
noncomputable def CompBody (c : Cx) (ρ : Rho) (scope : Scope) (cl : List (Str × Addr)) (t elt : Expr) (ifs : List Expr) (J : Nat → Mu → List PyData → Prop) (P : Mu → AV → Prop) (ν : Mu) (xs : List AV) : Prop :=
  xs.length ≤ 1000000 ∧ J 0 ν [] ∧ (∀ C i a μ₁ acc, xs[i]? = some a → J i μ₁ acc → As (cmpCx c scope cl C) μ₁ (freeRho ρ cl) t a (kL1 (cmpCx c scope cl C) ifs elt (J (i + 1)) acc)) ∧
    ∀ μ₁ acc, J xs.length μ₁ acc → P μ₁ (.d (.list acc))
theorem Ev.compK (κ : Mu) {t elt iter : Expr} {ifs : List Expr} {scope : Scope} {pos : Pos} {cl : List (Str × Addr)} {P : Mu → AV → Prop} (ok : CompOk c scope cl) (J : Nat → Mu → List PyData → Prop) (hκ : ∀ i μ₁ acc, J i μ₁ acc → ∀ p ∈ κ, p ∈ μ₁) (h : ItP κ c μ ρ iter (CompBody c ρ scope cl t elt ifs J P))
    (hs : ∀ x, foldedSetIterable iter c.env x = pure x := by intro _; rfl) : Ev c μ ρ (.ListComp elt [⟨t, iter, ifs, 0⟩] scope pos) P := fun Φ s I₀ => by
  rw [show eval (.ListComp elt [⟨t, iter, ifs, 0⟩] scope pos) c.env = _ from eval_ListComp ..]
  refine wpAny_comprehension_free (e := .ListComp elt [⟨t, iter, ifs, 0⟩] scope pos) (g := ⟨t, iter, ifs, 0⟩) (gs := []) (use := Option.none) rfl hs ok.clos ok.kind ok.names (W.mono (h Φ s I₀) fun xv s₁ h₁ => W.mono h₁ fun it s₂ h₂ => ?_)
  obtain ⟨Ψ, ν, I, xs, fp, Pt, St, rfl, m, Iν, T, st, fresh, hsz, j0, step, fin⟩ := h₂
  refine compLoop (R := fun acc C r s' => compPost _ _ _ Option.none (Post c Φ μ s ρ P) acc C r s') I₀ ok m Iν T st fresh hsz J hκ j0 step fun D C t Ψ' ν' ds m' I' r' j' fC nC kC ΨC => ?_
  obtain ⟨mC, hC⟩ := nC
  refine ⟨mC, hC, fun h' sb => ?_⟩
  have k : ∀ b o, b ≠ C → t.heap.get? b = some o → h'.get? b = some o := fun b o n e => (sb.2 b n).trans e
  refine ⟨Ψ', ν', .d (.list ds), m'.touch (.inl fC) k, I'.off k (fun q => ?_) kC ΨC (I₀.noBase fC) fun l e => funFrames_touch fC k (I₀.ff l e) (I'.ff l e), r', fin _ _ j'⟩
  obtain ⟨o, e⟩ := I₀.ownAlive q
  rw [fC] at e; cases e
theorem Ev.comp {t elt iter : Expr} {ifs : List Expr} {scope : Scope} {pos : Pos} {cl : List (Str × Addr)} {P : Mu → AV → Prop} (ok : CompOk c scope cl) (J : Nat → Mu → List PyData → Prop) (h : It c μ ρ iter (CompBody c ρ scope cl t elt ifs J P))
    (hs : ∀ x, foldedSetIterable iter c.env x = pure x := by intro _; rfl) : Ev c μ ρ (.ListComp elt [⟨t, iter, ifs, 0⟩] scope pos) P := Ev.compK [] ok J (fun _ _ _ _ _ hp => absurd hp List.not_mem_nil) h hs
theorem X1.putCompK (κ : Mu) {x : Str} {px : Pos} {t elt iter : Expr} {ifs : List Expr} {scope : Scope} {pos spos : Pos} {cl : List (Str × Addr)} {P : Fl → Mu → Rho → Prop} (ok : CompOk c scope cl) (hx : CanPut c x)
    (hsw : swapsWith (.ListComp elt [⟨t, iter, ifs, 0⟩] scope pos) (some (.Name x px)) spos.line c.env = pure true) (J : Nat → Mu → List PyData → Prop) (hκ : ∀ i μ₁ acc, J i μ₁ acc → ∀ p ∈ κ, p ∈ μ₁) (h : ItP κ c μ ρ iter (CompBody c ρ scope cl t elt ifs J fun ν a => P .next ν ((x, a) :: ρ)))
    (hs : ∀ x, foldedSetIterable iter c.env x = pure x := by intro _; rfl) : X1 c μ ρ (.Assign [.Name x px] (.ListComp elt [⟨t, iter, ifs, 0⟩] scope pos) spos) P := fun Φ s I₀ => by
  show W c (exec (.Assign [.Name x px] (.ListComp elt [⟨t, iter, ifs, 0⟩] scope pos) spos) c.env) _ s
  rw [exec_Assign_Name_used _ _ _ _ hsw]
  refine wpAny_bind (wpAny_standAt (wpAny_bind ?_))
  show wpAny _ _ (do let _ ← comprehension (.ListComp elt [⟨t, iter, ifs, 0⟩] scope pos) scope c.env _ (newList []) false (eval iter c.env) (some (assign (.Name x px) c.env))) _ _ s
  refine wpAny_bind (wpAny_mono (wpAny_comprehension_free (e := .ListComp elt [⟨t, iter, ifs, 0⟩] scope pos) (g := ⟨t, iter, ifs, 0⟩) (gs := []) (use := some (assign (.Name x px) c.env)) (Q := fun _ s' => PostF c Φ μ s P .next s') rfl hs ok.clos ok.kind ok.names (W.mono (h Φ s I₀) fun xv s₁ h₁ => W.mono h₁ fun it s₂ h₂ => ?_)) (fun _ s' hq => wpAny_pure (wpAny_pure hq)) fun _ _ e => e)
  obtain ⟨Ψ, ν, I, xs, fp, Pt, St, rfl, m, Iν, T, st, fresh, hsz, j0, step, fin⟩ := h₂
  refine compLoop (R := fun acc C r s' => compPost _ _ _ (some (assign (.Name x px) c.env)) (fun _ s' => PostF c Φ μ s P .next s') acc C r s') I₀ ok m Iν T st fresh hsz J hκ j0 step fun D C t Ψ' ν' ds m' I' r' j' fC nC kC ΨC => ?_
  obtain ⟨mC, hC⟩ := nC
  have oC : ¬ Own c C := fun q => by obtain ⟨o, e⟩ := I₀.ownAlive q; rw [fC] at e; cases e
  refine wpAny_assign_Name (storeAt I' hx r' fun s' k => ?_)
  refine ⟨mC, ns_keep hC k.1.keep (fun q => q.elim (fun q => oC q.own) kC), fun h' sb => ?_⟩
  have kk : ∀ b o, b ≠ C → s'.heap.get? b = some o → h'.get? b = some o := fun b o n e => (sb.2 b n).trans e
  exact ⟨Ψ', ν', _, .next, (m'.trans k.1).touch (.inl fC) kk, k.2.off kk oC kC ΨC (I₀.noBase fC) (fun l e => funFrames_touch fC kk (I₀.ff l e) (k.2.ff l e)), rfl, fin _ _ j'⟩
theorem X1.putComp {x : Str} {px : Pos} {t elt iter : Expr} {ifs : List Expr} {scope : Scope} {pos spos : Pos} {cl : List (Str × Addr)} {P : Fl → Mu → Rho → Prop} (ok : CompOk c scope cl) (hx : CanPut c x)
    (hsw : swapsWith (.ListComp elt [⟨t, iter, ifs, 0⟩] scope pos) (some (.Name x px)) spos.line c.env = pure true) (J : Nat → Mu → List PyData → Prop) (h : It c μ ρ iter (CompBody c ρ scope cl t elt ifs J fun ν a => P .next ν ((x, a) :: ρ)))
    (hs : ∀ x, foldedSetIterable iter c.env x = pure x := by intro _; rfl) : X1 c μ ρ (.Assign [.Name x px] (.ListComp elt [⟨t, iter, ifs, 0⟩] scope pos) spos) P := X1.putCompK [] ok hx hsw J (fun _ _ _ _ _ hp => absurd hp List.not_mem_nil) h hs
end
end Mine
namespace Mine

/-- an entry is set anew -/
noncomputable def muSet (μ : Mu) (a : Addr) (m : MO) : Mu := μ.map fun p => if p.1 = a then (a, m) else p
theorem muSet_keys (μ : Mu) (a : Addr) (m : MO) : (muSet μ a m).map (·.1) = μ.map (·.1) := by
  unfold muSet
  rw [List.map_map]
  refine List.map_congr_left fun p _ => ?_
  show (if p.1 = a then (a, m) else p).1 = p.1
  split
  · rename_i q; exact q.symm
  · rfl
theorem muSet_cons_ne {μ : Mu} {a b : Addr} {m n : MO} (h : b ≠ a) : muSet ((b, n) :: μ) a m = (b, n) :: muSet μ a m := by simp [muSet, h]
theorem muSet_head {μ : Mu} {a : Addr} {m n : MO} (h : a ∉ μ.map (·.1)) : muSet ((a, n) :: μ) a m = (a, m) :: μ := by
  unfold muSet
  rw [List.map_cons, if_pos rfl]
  congr 1
  refine (List.map_congr_left fun p hp => ?_).trans (List.map_id _)
  exact if_neg fun q : p.1 = a => h (by rw [← q]; exact List.mem_map_of_mem (f := (·.1)) hp)
theorem muSet_mem {μ : Mu} {a : Addr} {m n : MO} (h : (a, n) ∈ μ) : (a, m) ∈ muSet μ a m := by
  unfold muSet
  exact List.mem_map.mpr ⟨_, h, by simp⟩
theorem muSet_set (μ : Mu) (a : Addr) (m n : MO) : muSet (muSet μ a m) a n = muSet μ a n := by
  unfold muSet
  rw [List.map_map]
  refine List.map_congr_left fun p _ => ?_
  show (if (if p.1 = a then (a, m) else p).1 = a then (a, n) else (if p.1 = a then (a, m) else p)) = _
  by_cases q : p.1 = a
  · simp [q]
  · simp [q]
noncomputable def muDel (μ : Mu) (a : Addr) : Mu := μ.filter fun p => p.1 != a
theorem muDel_head {μ : Mu} {a : Addr} {n : MO} (h : a ∉ μ.map (·.1)) : muDel ((a, n) :: μ) a = μ := by
  unfold muDel
  rw [List.filter_cons]
  simp only [bne_self_eq_false, Bool.false_eq_true, if_false]
  refine List.filter_eq_self.mpr fun p hp => ?_
  simp only [bne_iff_ne, ne_eq]
  exact fun q : p.1 = a => h (by rw [← q]; exact List.mem_map_of_mem (f := (·.1)) hp)

section
variable {c : Cx} {Φ : Frz} {μ : Mu} {ρ : Rho} {s : Shared}
theorem Inv.drop (I : Inv c Φ μ ρ s) {ν : Mu} (h : ν.Sublist μ) : Inv c Φ ν ρ s :=
  { I with mu := ⟨(I.mu.1).sublist (h.map _), fun p hp => I.mu.2 p (h.subset hp)⟩, muOff := fun p hp => I.muOff p (h.subset hp) }
theorem keys_sub {ν : Mu} (h : ν.Sublist μ) : ∀ a, keysOf ν a → keysOf μ a := fun a q => (h.map _).subset q
/-- a mutable object changes -/
theorem Inv.put (I : Inv c Φ μ ρ s) {a : Addr} {m m' : MO} (h : (a, m) ∈ μ) {h' : Heap} {tk : Nat} {o' : Obj} (k : ∀ b o, b ≠ a → s.heap.get? b = some o → h'.get? b = some o) (e : h'.get? a = some o') (hm : MOk c.g.pw Φ m' o') :
    Mv c Φ μ s Φ (muSet μ a m') { s with heap := h', toks := tk } ∧ Inv c Φ (muSet μ a m') ρ { s with heap := h', toks := tk } := by
  have hk : keysOf μ a := keysOf_iff.mpr ⟨_, h, rfl⟩
  have hO := I.keyOff hk
  obtain ⟨⟨o, eo, mo⟩, h0, hΦ⟩ := I.mu.2 _ h
  have hs : Keep (fun b => b = a) s.heap h' := Keep.of_keepsBut fun b o n e => k b o n e
  refine ⟨⟨Frz.le.refl _, fun _ _ h => .inl h, hs.mono fun b q => .inr (q ▸ hk), fun b q => .inl ?_, hs.alive fun b q => ⟨o', q ▸ e⟩, rfl, rfl, rfl⟩, ?_⟩
  · unfold keysOf at q ⊢; rwa [muSet_keys] at q
  · refine I.move (fun b => b = a) (fun b o e => k b o (fun q => by rw [q, h0.1] at e; cases e) (I.old b o e)) (Frz.le.refl _) (I.frz.keep hs fun b q => q ▸ hΦ) ⟨by rw [muSet_keys]; exact I.mu.1, fun p hp => ?_⟩ hs (fun b q => q ▸ hO) (fun b q => ⟨o', q ▸ e, hm.plain⟩) fun p hp => ?_
    · obtain ⟨p', hp', rfl⟩ := List.mem_map.mp hp
      split
      · exact ⟨⟨o', e, hm⟩, h0, hΦ⟩
      · rename_i q
        obtain ⟨⟨o2, e2, m2⟩, r⟩ := I.mu.2 _ hp'
        exact ⟨⟨o2, k _ _ q e2, m2⟩, r⟩
    · obtain ⟨p', hp', rfl⟩ := List.mem_map.mp hp
      split
      · exact (I.muOff _ h : a ≠ _)
      · exact I.muOff _ hp'
/-- a mutable list is frozen -/
theorem Inv.freeze (I : Inv c Φ μ ρ s) {a : Addr} {ds : List PyData} (h : (a, .list ds) ∈ μ) :
    ∃ Ψ, Mv c Φ μ s Ψ (muDel μ a) s ∧ Inv c Ψ (muDel μ a) ρ s ∧ RA Ψ (.d (.list ds)) (.ref a) := by
  obtain ⟨⟨o, eo, vs, n, rfl, rs⟩, h0, hΦ⟩ := I.mu.2 _ h
  have hk : keysOf μ a := keysOf_iff.mpr ⟨_, h, rfl⟩
  have sub : (muDel μ a).Sublist μ := List.filter_sublist
  have J := (I.drop sub).note (a := a) (b := false) (vs := vs) (n := n) eo hΦ fun q => by
    obtain ⟨p, hp, e⟩ := keysOf_iff.mp q
    have := (List.mem_filter.mp hp).2
    simp [e] at this
  refine ⟨_, ?_, J, ra_lst (Frz.put_self _ _ _) (rs.mono (Frz.le_put hΦ))⟩
  exact ((Mv.refl c Φ μ s).forgetKeys (keys_sub sub)).note hΦ (.inr (.inl hk))
end

section
variable {c : Cx} {μ : Mu} {ρ : Rho} {P : Mu → AV → Prop}
theorem Ex.nodup {ss : List Stmt} {P : Fl → Mu → Rho → Prop} (h : (μ.map (·.1)).Nodup → Ex c μ ρ ss P) : Ex c μ ρ ss P := fun Φ s I => h I.mu.1 Φ s I
/-- mutable objects are forgotten -/
theorem Ex.drop {ss : List Stmt} {P : Fl → Mu → Rho → Prop} (h : Ex c μ ρ ss fun f ν ρ' => ∃ ν', ν'.Sublist ν ∧ P f ν' ρ') : Ex c μ ρ ss P := fun Φ s I =>
  W.mono (h Φ s I) fun f s' ⟨Ψ, ν, ρ', fl, m, J, r, ν', sub, p⟩ => ⟨Ψ, ν', ρ', fl, m.forgetKeys (keys_sub sub), J.drop sub, r, p⟩
@[reducible] noncomputable def kLstM (P : Mu → AV → Prop) : Mu → List AV → Prop := fun μ as => ∃ ds, AllD as = some ds ∧ ds.length ≤ 1000 ∧ ∀ a, a ∉ μ.map (·.1) → P ((a, .list ds) :: μ) (.v (.ref a))
@[reducible] noncomputable def kFrz (P : Mu → AV → Prop) : Mu → AV → Prop := fun μ a => ∃ A ds, a = .v (.ref A) ∧ (A, .list ds) ∈ μ ∧ P (muDel μ A) (.d (.list ds))
theorem kLstM.mk {as : List AV} {ds : List PyData} (h1 : AllD as = some ds) (h2 : ds.length ≤ 1000) (k : ∀ a, a ∉ μ.map (·.1) → P ((a, .list ds) :: μ) (.v (.ref a))) : kLstM P μ as := ⟨ds, h1, h2, k⟩
theorem kFrz.mk {A : Addr} {ds : List PyData} (h : (A, .list ds) ∈ μ) (k : P (muDel μ A) (.d (.list ds))) : kFrz P μ (.v (.ref A)) := ⟨A, ds, rfl, h, k⟩
theorem Ev.listM {es : List Expr} {pos} (h : Evs c μ ρ es (kLstM P)) : Ev c μ ρ (.List es pos) P := fun Φ s I => by
  refine List_ (W.mono (h Φ s pos I) fun vs s₁ h₁ => ?_)
  obtain ⟨Φ₁, μ₁, as, l₁, I₁, r₁, ds, e₁, n₁, h₁⟩ := h₁
  have rs := r₁.rs e₁
  obtain ⟨le, I₂⟩ := I₁.newMut { cls := .type "list", data := .seq vs.toArray 0 } (.list ds) ⟨vs, 0, rfl, rs⟩ rfl
  refine wpAny_newObj_type ⟨_, _, .v (.ref s₁.heap.objs.size), l₁.trans le, I₂, rfl, h₁ _ fun q => I₁.noKey (Heap.fresh _) q⟩ (by show vs.toArray.size ≤ sizeLine; rw [List.size_toArray, rs.length, sizeLine_eq]; lia)
theorem Ev.freeze {e : Expr} (h : Ev c μ ρ e (kFrz P)) : Ev c μ ρ e P := fun Φ s I =>
  W.mono (h Φ s I) fun v s' ⟨Ψ, ν, a, m, J, r, A, ds, ea, hm, p⟩ => by
    subst ea
    obtain rfl := ra_v' r
    obtain ⟨Ψ', m', J', r'⟩ := J.freeze hm
    exact ⟨Ψ', _, _, m.trans m', J', r', p⟩
theorem CallV.lenM {A : Addr} {ds : List PyData} (hm : (A, .list ds) ∈ μ) (hn : ds.length ≤ 1000000) (h : P μ (.d (.int ds.length))) : CallV c ρ μ (.builtin "len") [.v (.ref A)] P := fun Φ s vs I r => by
  obtain ⟨v, ws, rfl, r1, rfl⟩ := r
  obtain rfl := ra_v' r1
  obtain ⟨⟨o, eo, vs, n, rfl, rs⟩, h0, hΦ⟩ := I.mu.2 _ hm
  refine PyProof.Rows.len_list (items := vs.toArray) ⟨_, eo, rfl, n, rfl⟩ (by rw [List.size_toArray, rs.length]; lia) ?_
  rw [List.size_toArray, rs.length]
  exact Post.then (I.toks _) (ra_int _ _) h
theorem Op2.addM {A : Addr} {xs ys : List PyData} (hm : (A, .list xs) ∈ μ) (hn : xs.length + ys.length ≤ 1000000) (h : ∀ B, B ∉ μ.map (·.1) → P ((B, .list (xs ++ ys)) :: μ) (.v (.ref B))) : Op2 c ρ (binaryOp .Add) μ (.v (.ref A)) (.d (.list ys)) P := fun Φ s v w I ra rb => by
  obtain rfl := ra_v' ra
  obtain ⟨b, ws, rfl, h3, h4⟩ := ra_lst' rb
  obtain ⟨⟨o, ho, vs, n, rfl, h2⟩, h0, hΦ⟩ := I.mu.2 _ hm
  obtain ⟨n2, ho2⟩ := I.frz _ _ _ h3
  obtain ⟨le, I'⟩ := I.newMut { cls := .type "list", data := .seq (vs ++ ws).toArray 0 } (.list (xs ++ ys)) ⟨_, 0, rfl, h2.append h4⟩ rfl
  show wpAny (model c.g.prog c.g.w) c.A (binaryOp .Add (.ref A) (.ref b)) _ _ s
  refine concat_meets ⟨_, ho, rfl⟩ ⟨_, ho2, rfl⟩ noFill_list_add seq_list_add PySem.F.slot_list_add PySem.F.entry_list_add (PySem.F.args_list_add_2 _ _) (list_addW A b vs.toArray ws.toArray n n2 none none #[] #[] ?_) ⟨ho, ho2, ?_⟩
  · rw [List.size_toArray, List.size_toArray, h2.length, h4.length, sizeLine_eq]; lia
  · rw [show vs.toArray ++ ws.toArray = (vs ++ ws).toArray by simp]
    exact ⟨_, _, .v (.ref s.heap.objs.size), le, I', rfl, h _ fun q => I.noKey (Heap.fresh _) q⟩
theorem CallV.append {A : Addr} {ds : List PyData} {x : PyData} (hm : (A, .list ds) ∈ μ) (hn : ds.length ≤ 1000000) (h : P (muSet μ A (.list (ds ++ [x]))) (.d .none)) : CallV c ρ μ (.builtin "list.append") [.v (.ref A), .d x] P := fun Φ s vs I r => by
  obtain ⟨v, ws, rfl, r1, w, us, rfl, r2, rfl⟩ := r
  obtain rfl := ra_v' r1
  obtain ⟨⟨o, eo, vs, n, rfl, rs⟩, h0, hΦ⟩ := I.mu.2 _ hm
  refine append_at eo (fun h' sb e => ?_) (by rw [List.size_toArray, rs.length, sizeLine_eq]; lia)
  obtain ⟨m, J⟩ := I.put (tk := s.toks) (m' := .list (ds ++ [x])) hm (fun b o n e => (sb.2 b n).trans e) e ⟨vs ++ [w], n + 1, by simp, rs.append (Rs.one r2)⟩
  exact ⟨Φ, _, .d .none, m, J, ra_none, h⟩
end
end Mine
namespace Mine
noncomputable def insertAt (k : Int) (y : Value) (xs : Array Value) : Array Value := have j := if k < 0 then (k + ((xs.size : Nat) : Int)).toNat else min k.toNat xs.size; (xs.extract 0 j).push y ++ xs.extract j
theorem insert_obj (vs : List Value) (n : Nat) (k : Int) (y : Value) (h0 : 0 ≤ k) (hk : k ≤ vs.length) : ∃ m, Obj.mapSeq (insertAt k y) { cls := .type "list", data := .seq vs.toArray n } = { cls := .type "list", data := .seq (vs.take k.toNat ++ [y] ++ vs.drop k.toNat).toArray m } := by
  have e : insertAt k y vs.toArray = (vs.take k.toNat ++ [y] ++ vs.drop k.toNat).toArray := by
    unfold insertAt
    rw [if_neg (by lia)]
    have : min k.toNat vs.toArray.size = k.toNat := by rw [List.size_toArray]; lia
    have e2 : min k.toNat vs.length = k.toNat := by lia
    simp [e2, List.take_of_length_le]
  exact ⟨_, by show ({ cls := _, data := Data.seq (insertAt k y vs.toArray) _ } : Obj) = _; rw [e]⟩
theorem Rs.take {Φ : Frz} : ∀ {ds : List PyData} {vs : List Value} (n : Nat), Rs Φ ds vs → Rs Φ (ds.take n) (vs.take n)
  | _, _, 0, _ => Rs.nil
  | [], _, n + 1, r => by simp only [Rs] at r; subst r; exact Rs.nil
  | d :: l, _, n + 1, r => by
    simp only [Rs] at r
    obtain ⟨v, us, rfl, r2, r3⟩ := r
    exact Rs.cons r2 (Rs.take n r3)
theorem Rs.drop {Φ : Frz} : ∀ {ds : List PyData} {vs : List Value} (n : Nat), Rs Φ ds vs → Rs Φ (ds.drop n) (vs.drop n)
  | _, _, 0, r => by simpa using r
  | [], _, n + 1, r => by simp only [Rs] at r; subst r; exact Rs.nil
  | d :: l, _, n + 1, r => by
    simp only [Rs] at r
    obtain ⟨v, us, rfl, r2, r3⟩ := r
    exact Rs.drop n r3
section
variable {prog : Program} {w : World} {A : Around} {E : Value → Shared → Prop} {s : Shared}
theorem setItem_exact {l : Addr} {items : Array Value} {k : Int} {t : Tok} {v : Value} {Q : Unit → Shared → Prop} (hl : s.heap.IsList l items)
    (h0 : 0 ≤ k) (hfit : k < 2 ^ 63) (hn : k < items.size)
    (hQ : Q () { s with heap := s.heap.update l (Obj.mapSeq (·.setIfInBounds k.toNat v)) }) :
    wpAny (model prog w) A (setItem (.ref l) (.int k t) v) Q E s := by
  obtain ⟨o, ho, hc, ne, hd⟩ := id hl
  unfold setItem
  try with_reducible refine wpAny_holding ?_
  first | refine wpAny_bind (wpAny_pure ?_) | skip
  refine wpAny_bind (wpAny_sequenceKey hl.typeIs (by decide) ?_)
  refine wpAny_bind (wpAny_callSpecial?_slot (name := Str.ofString "__setitem__") hl.typeIs PySem.F.slot_list_setitem
    (wpAny_call_entry PySem.F.slot_list_setitem hl.typeIs PySem.F.entry_list_setitem ?_ (PySem.F.args_list_setitem_3 _ _ _)))
  show wpAny _ _ (Builtin.List.listSubscript? (.int k t) >>= _) _ _ s
  refine wpAny_bind (wpAny_listSubscript_int (fitsIndex_of h0 hfit) ?_)
  clear hfit
  obtain ⟨j, rfl⟩ := Int.eq_ofNat_of_zero_le h0
  have hj : j < items.size := by lia
  have hx' : items[j]? = some items[j] := Array.getElem?_eq_getElem hj
  show wpAny _ _ ((seqItemAt l j >>= fun r => pure (r.map (j, ·))) >>= _) _ _ s
  refine wpAny_bind (wpAny_bind (wpAny_seqItemAt ho hd (wpAny_pure ?_)))
  rw [hx']
  show wpAny _ _ (setSeqItemAt l j v >>= _) _ _ s
  refine wpAny_bind (wpAny_setSeqItemAt ho hd ?_)
  first
    | exact wpAny_bind (wpAny_pure (wpAny_pure ⟨.none, rfl, wpAny_pure hQ⟩))
    | exact wpAny_pure ⟨.none, rfl, wpAny_pure hQ⟩
end
section
variable {c : Cx} {μ : Mu} {ρ : Rho} {P : Mu → AV → Prop}
theorem CallV.mono {f : Value} {as : List AV} {P' : Mu → AV → Prop} (h : CallV c ρ μ f as P') (k : ∀ ν a, P' ν a → P ν a) : CallV c ρ μ f as P := fun Φ s vs I r => W.mono (h Φ s vs I r) fun v s' ⟨Ψ, ν, a, m, J, r, p⟩ => ⟨Ψ, ν, a, m, J, r, k _ _ p⟩
/-- the methods of a list -/
inductive LMeth : Str → String → Prop
  | append : LMeth "append" "list.append"
  | insert : LMeth "insert" "list.insert"
  | pop : LMeth "pop" "list.pop"
theorem LMeth.slot {n : Str} {i : String} (h : LMeth n i) : Slot "list" n i := by
  cases h
  · exact PySem.F.slot_list_append
  · exact PySem.F.slot_list_insert
  · exact PySem.F.slot_list_pop
theorem LMeth.type {n : Str} {i : String} (h : LMeth n i) : typeOf (.builtin i) = pure (.type "method_descriptor") := by
  cases h
  · exact PySem.F.type_list_append
  · exact PySem.F.type_list_insert
  · exact PySem.F.type_list_pop
@[reducible] noncomputable def kMet2 (c : Cx) (ρ : Rho) (f : Value) (D : Addr) (P : Mu → AV → Prop) : Mu → List AV → Prop := fun μ as => CallV c ρ μ f (.v (.ref D) :: as) P
@[reducible] noncomputable def kMet (c : Cx) (ρ : Rho) (args : List Expr) (id : String) (P : Mu → AV → Prop) : Mu → AV → Prop := fun μ a => ∃ D ds, a = .v (.ref D) ∧ (D, .list ds) ∈ μ ∧ Evs c μ ρ args (kMet2 c ρ (.builtin id) D P)
theorem kMet.mk {args : List Expr} {id : String} {D : Addr} {ds : List PyData} (h : (D, .list ds) ∈ μ) (k : Evs c μ ρ args (kMet2 c ρ (.builtin id) D P)) : kMet c ρ args id P μ (.v (.ref D)) := ⟨D, ds, rfl, h, k⟩
@[reducible] noncomputable def kExp (ρ : Rho) (P : Fl → Mu → Rho → Prop) : Mu → AV → Prop := fun μ _ => P .next μ ρ
@[reducible] noncomputable def kNxR (ρ : Rho) (P : Fl → Mu → Rho → Prop) : Mu → Prop := fun μ => P .next μ ρ
theorem Ev.meth {o : Expr} {name : Str} {id : String} {apos pos : Pos} {args : List Expr} (hm : LMeth name id) (h : Ev c μ ρ o (kMet c ρ args id P))
    (hbase : attributeBase o name c.env (eval o c.env) = eval o c.env)
    (hfew : ((backTo pos (starEach args c.env)).all (fun x => !x.1) && (backToKw pos (keywordEach [] c.env)).all (fun x => x.1.isSome)
      && decide (args.length + ([] : List Keyword).length + (if ([] : List Keyword).isEmpty then 0 else 1) < 30)) = true)
    (hline : (apos.endLine == pos.line) = true) (hp : (starEach args c.env).any (·.1) = false) :
    Ev c μ ρ (.Call (.Attribute o name apos) args [] pos) P := fun Φ s I => by
  refine wpAny_Call_method_lateS hbase hfew hline (W.mono (h Φ s I) fun v s₁ h₁ => ?_)
  obtain ⟨Φ₁, μ₁, a, l₁, I₁, r₁, D, ds, rfl, hD, h₁⟩ := h₁
  obtain rfl := ra_v' r₁
  obtain ⟨⟨o, eo, vs, n, rfl, rs⟩, h0, hΦ⟩ := I₁.mu.2 _ hD
  refine ⟨"list", id, PySem.F.plainAttrs_list, hm.slot, hm.type, ⟨_, eo, rfl⟩, fun a e => by cases e; exact ⟨_, eo, rfl⟩, ?_⟩
  refine callWith_builtin (backTo_plain hp) (evalArgs_any (backTo_plain hp) (W.mono (h₁ Φ₁ s₁ pos I₁) fun vs s₂ h₂ => ?_))
  obtain ⟨Φ₂, μ₂, as, l₂, I₂, r₂, h₂⟩ := h₂
  exact W.mono (h₂ Φ₂ s₂ _ I₂ ⟨_, _, rfl, rfl, r₂⟩) fun u s₃ h₃ => h₃.up (l₁.trans l₂)
theorem Ev.append {o : Expr} {apos pos : Pos} {args : List Expr} (h : Ev c μ ρ o (kMet c ρ args "list.append" P))
    (hbase : attributeBase o "append" c.env (eval o c.env) = eval o c.env)
    (hfew : ((backTo pos (starEach args c.env)).all (fun x => !x.1) && (backToKw pos (keywordEach [] c.env)).all (fun x => x.1.isSome)
      && decide (args.length + ([] : List Keyword).length + (if ([] : List Keyword).isEmpty then 0 else 1) < 30)) = true)
    (hline : (apos.endLine == pos.line) = true) (hp : (starEach args c.env).any (·.1) = false) :
    Ev c μ ρ (.Call (.Attribute o "append" apos) args [] pos) P := Ev.meth .append h hbase hfew hline hp
theorem Ev.insert {o : Expr} {apos pos : Pos} {args : List Expr} (h : Ev c μ ρ o (kMet c ρ args "list.insert" P))
    (hbase : attributeBase o "insert" c.env (eval o c.env) = eval o c.env)
    (hfew : ((backTo pos (starEach args c.env)).all (fun x => !x.1) && (backToKw pos (keywordEach [] c.env)).all (fun x => x.1.isSome)
      && decide (args.length + ([] : List Keyword).length + (if ([] : List Keyword).isEmpty then 0 else 1) < 30)) = true)
    (hline : (apos.endLine == pos.line) = true) (hp : (starEach args c.env).any (·.1) = false) :
    Ev c μ ρ (.Call (.Attribute o "insert" apos) args [] pos) P := Ev.meth .insert h hbase hfew hline hp
theorem Ev.pop {o : Expr} {apos pos : Pos} {args : List Expr} (h : Ev c μ ρ o (kMet c ρ args "list.pop" P))
    (hbase : attributeBase o "pop" c.env (eval o c.env) = eval o c.env)
    (hfew : ((backTo pos (starEach args c.env)).all (fun x => !x.1) && (backToKw pos (keywordEach [] c.env)).all (fun x => x.1.isSome)
      && decide (args.length + ([] : List Keyword).length + (if ([] : List Keyword).isEmpty then 0 else 1) < 30)) = true)
    (hline : (apos.endLine == pos.line) = true) (hp : (starEach args c.env).any (·.1) = false) :
    Ev c μ ρ (.Call (.Attribute o "pop" apos) args [] pos) P := Ev.meth .pop h hbase hfew hline hp
theorem X1.expr {e : Expr} {pos} {P : Fl → Mu → Rho → Prop} (h : Ev c μ ρ e (kExp ρ P)) (hi : interactive c.env = false) (hs : swapsWith e Option.none pos.line c.env = pure false) : X1 c μ ρ (.Expr e pos) P := fun Φ s I => by
  show W c (exec (.Expr e pos) c.env) _ s
  rw [exec_Expr c.env e pos hi hs]
  refine wpAny_bind (wpAny_standAt (wpAny_bind (W.mono (h Φ s I) fun v s' h' => ?_)))
  obtain ⟨Ψ, ν, a, m, J, r, p⟩ := h'
  exact wpAny_dropValue ⟨Ψ, ν, ρ, .next, m, J, rfl, p⟩
theorem CallV.insert {A : Addr} {ds : List PyData} {x : PyData} {k : Int} (hm : (A, .list ds) ∈ μ) (hn : ds.length ≤ 1000000) (h0 : 0 ≤ k) (hk : k ≤ ds.length) (h : P (muSet μ A (.list (ds.take k.toNat ++ [x] ++ ds.drop k.toNat))) (.d .none)) :
    CallV c ρ μ (.builtin "list.insert") [.v (.ref A), .d (.int k), .d x] P := fun Φ s vs I r => by
  obtain ⟨v, ws, rfl, r1, w, us, rfl, r2, y, ts, rfl, r3, rfl⟩ := r
  obtain rfl := ra_v' r1
  obtain ⟨t, rfl⟩ := ra_int' r2
  obtain ⟨⟨o, eo, vs, n, rfl, rs⟩, _, hΦ⟩ := I.mu.2 _ hm
  have hl : vs.length = ds.length := rs.length
  refine call_meets PySem.F.slot_list_insert ⟨_, eo, rfl⟩ PySem.F.entry_list_insert (PySem.F.args_list_insert_3 _ _ _)
    (AutoListH.list_insert_list_int_val_1 A vs.toArray n k t y (by simp [Builtin.List.listFitsIndex]; lia) (by rw [List.size_toArray, hl, sizeLine_eq]; lia)) ⟨eo, ?_⟩
  obtain ⟨cap, hc⟩ := insert_obj vs n k y h0 (by lia)
  have e' := Heap.get?_update_self (Obj.mapSeq (insertAt k y)) eo (by rw [hc]; rfl)
  rw [hc] at e'
  obtain ⟨m, J⟩ := I.put (tk := s.toks) (h' := s.heap.update A (Obj.mapSeq (insertAt k y))) (m' := .list (ds.take k.toNat ++ [x] ++ ds.drop k.toNat)) hm (fun b o n e => (Heap.get?_update_ne _ _ _ _ n).trans e) e'
    ⟨_, cap, rfl, ((rs.take k.toNat).append (Rs.one r3)).append (rs.drop k.toNat)⟩
  exact ⟨Φ, _, .d .none, m, J, ra_none, h⟩
theorem pop_obj (vs : List Value) (y : Value) (n : Nat) : ∃ m, Obj.mapSeq (fun xs => xs.eraseIdxIfInBounds ((vs ++ [y]).toArray.size - 1)) { cls := .type "list", data := .seq (vs ++ [y]).toArray n } = { cls := .type "list", data := .seq vs.toArray m } := by
  have e : (vs ++ [y]).toArray.eraseIdxIfInBounds ((vs ++ [y]).toArray.size - 1) = vs.toArray := by
    simp [List.eraseIdx_append_of_length_le]
  exact ⟨_, by show ({ cls := _, data := Data.seq ((vs ++ [y]).toArray.eraseIdxIfInBounds ((vs ++ [y]).toArray.size - 1)) _ } : Obj) = _; rw [e]⟩
theorem Rs.snoc' {Φ : Frz} : ∀ {ds : List PyData} {d : PyData} {vs : List Value}, Rs Φ (ds ++ [d]) vs → ∃ us v, vs = us ++ [v] ∧ Rs Φ ds us ∧ R Φ d v
  | [], d, vs, r => by
    simp only [List.nil_append, Rs] at r
    obtain ⟨v, us, rfl, r2, rfl⟩ := r
    exact ⟨[], v, rfl, Rs.nil, r2⟩
  | e :: l, d, vs, r => by
    simp only [List.cons_append, Rs] at r
    obtain ⟨v, us, rfl, r2, r3⟩ := r
    obtain ⟨ws, u, rfl, r4, r5⟩ := Rs.snoc' r3
    exact ⟨v :: ws, u, rfl, Rs.cons r2 r4, r5⟩
theorem CallV.pop {A : Addr} {ds : List PyData} {d : PyData} (hm : (A, .list (ds ++ [d])) ∈ μ) (hn : ds.length ≤ 1000000) (h : P (muSet μ A (.list ds)) (.d d)) : CallV c ρ μ (.builtin "list.pop") [.v (.ref A)] P := fun Φ s vs I r => by
  obtain ⟨v, ws, rfl, r1, rfl⟩ := r
  obtain rfl := ra_v' r1
  obtain ⟨⟨o, eo, vs, n, rfl, rs⟩, _, hΦ⟩ := I.mu.2 _ hm
  obtain ⟨us, y, rfl, rs1, ry⟩ := Rs.snoc' rs
  refine call_meets PySem.F.slot_list_pop ⟨_, eo, rfl⟩ PySem.F.entry_list_pop (PySem.F.args_list_pop_1 _)
    (PySem.MeetsSeq.list_pop_last A (us ++ [y]).toArray n y (by simp) (by rw [List.size_toArray, List.length_append, rs1.length, sizeLine_eq]; simp; lia)) ⟨eo, ?_⟩
  obtain ⟨cap, hc⟩ := pop_obj us y n
  have e' := Heap.get?_update_self (Obj.mapSeq (fun xs => xs.eraseIdxIfInBounds ((us ++ [y]).toArray.size - 1))) eo (by rw [hc]; rfl)
  rw [hc] at e'
  obtain ⟨m, J⟩ := I.put (tk := s.toks) (h' := s.heap.update A (Obj.mapSeq (fun xs => xs.eraseIdxIfInBounds ((us ++ [y]).toArray.size - 1)))) (m' := .list ds) hm (fun b o n e => (Heap.get?_update_ne _ _ _ _ n).trans e) e' ⟨us, cap, rfl, rs1⟩
  exact ⟨Φ, _, .d d, m, J, ry, h⟩
theorem Op2.itemM {l r : Expr} {A : Addr} {ds : List PyData} {k : Int} {d : PyData} (hm : (A, .list ds) ∈ μ) (hs : ∀ a k t, subscripted r false (.ref a) (.int k t) = operate [.ref a, .int k t] (getItem (.ref a) (.int k t))) (h0 : 0 ≤ k) (hhi : k < 2 ^ 63)
    (e : ds[k.toNat]? = some d) (h : P μ (.d d)) : Op2 c ρ (subscriptTail l r) μ (.v (.ref A)) (.d (.int k)) P := fun Φ s v w I ra rb => by
  obtain rfl := ra_v' ra
  obtain ⟨t, rfl⟩ := ra_int' rb
  obtain ⟨⟨o, eo, vs, n, rfl, rs⟩, _, hΦ⟩ := I.mu.2 _ hm
  obtain ⟨x, e6, e7⟩ := rs.get e
  have hl : s.heap.IsList A vs.toArray := ⟨_, eo, rfl, n, rfl⟩
  exact tail_any hl.typeIs slot_list_getitem.lookup (wpAny_getItem_list hl h0 hhi (by simpa using e6) (Post.here I (ra_d e7) h)) (hs _ _ _)

/-- an item is stored -/
noncomputable def SetI (c : Cx) (ρ : Rho) (μ : Mu) (b k a : AV) (P : Mu → Prop) : Prop := ∀ Φ s o i v, Inv c Φ μ ρ s → RA Φ b o → RA Φ k i → RA Φ a v → W c (setItem o i v) (PostA c Φ μ s fun ν ρ' => ρ' = ρ ∧ P ν) s
@[reducible] noncomputable def kSub3 (c : Cx) (ρ : Rho) (P : Fl → Mu → Rho → Prop) (a b : AV) : Mu → AV → Prop := fun μ k => SetI c ρ μ b k a (kNxR ρ P)
@[reducible] noncomputable def kSub2 (c : Cx) (ρ : Rho) (i : Expr) (P : Fl → Mu → Rho → Prop) (a : AV) : Mu → AV → Prop := fun μ b => Ev c μ ρ i (kSub3 c ρ P a b)
@[reducible] noncomputable def kSub1 (c : Cx) (ρ : Rho) (o i : Expr) (P : Fl → Mu → Rho → Prop) : Mu → AV → Prop := fun μ a => Ev c μ ρ o (kSub2 c ρ i P a)
theorem X1.putSub {o i value : Expr} {pos' pos} {P : Fl → Mu → Rho → Prop} (hs : swapsWith value (some (.Subscript o i pos')) pos.line c.env = pure false)
    (h : Ev c μ ρ value (kSub1 c ρ o i P)) : X1 c μ ρ (.Assign [.Subscript o i pos'] value pos) P := fun Φ s I => by
  refine wpAny_Assign_Subscript (W.mono (h Φ s I) fun v s₁ h₁ => ?_) hs
  obtain ⟨Φ₁, μ₁, a, l₁, I₁, r₁, h₁⟩ := h₁
  refine W.mono (h₁ Φ₁ s₁ I₁) fun o s₂ h₂ => ?_
  obtain ⟨Φ₂, μ₂, b, l₂, I₂, r₂, h₂⟩ := h₂
  refine W.mono (h₂ Φ₂ s₂ I₂) fun i s₃ h₃ => ?_
  obtain ⟨Φ₃, μ₃, k, l₃, I₃, r₃, h₃⟩ := h₃
  refine W.mono (h₃ Φ₃ s₃ o i v I₃ (r₂.mono l₃.le) r₃ (r₁.mono (l₂.le.trans l₃.le))) fun _ s₄ h₄ => ?_
  obtain ⟨Φ₄, μ₄, ρ', l₄, I₄, rfl, p⟩ := h₄
  exact ⟨Φ₄, μ₄, _, .next, ((l₁.trans l₂).trans l₃).trans l₄, I₄, rfl, p⟩
theorem Rs.set {Φ : Frz} {x : PyData} {v : Value} (h : R Φ x v) : ∀ {ds : List PyData} {vs : List Value} (n : Nat), Rs Φ ds vs → Rs Φ (ds.set n x) (vs.set n v)
  | [], _, n, r => by simp only [Rs] at r; subst r; exact Rs.nil
  | d :: l, _, 0, r => by
    simp only [Rs] at r
    obtain ⟨w, us, rfl, r2, r3⟩ := r
    exact Rs.cons h r3
  | d :: l, _, n + 1, r => by
    simp only [Rs] at r
    obtain ⟨w, us, rfl, r2, r3⟩ := r
    exact Rs.cons r2 (Rs.set h n r3)
theorem SetI.list {A : Addr} {ds : List PyData} {k : Int} {x : PyData} {P : Mu → Prop} (hm : (A, .list ds) ∈ μ) (h0 : 0 ≤ k) (hhi : k < 2 ^ 63) (hk : k < ds.length) (h : P (muSet μ A (.list (ds.set k.toNat x)))) :
    SetI c ρ μ (.v (.ref A)) (.d (.int k)) (.d x) P := fun Φ s o i v I rb rk ra => by
  obtain rfl := ra_v' rb
  obtain ⟨t, rfl⟩ := ra_int' rk
  obtain ⟨⟨ob, eo, vs, n, rfl, rs⟩, _, hΦ⟩ := I.mu.2 _ hm
  have eo : s.heap.get? A = some { cls := .type "list", data := .seq vs.toArray n } := eo
  have hl : s.heap.IsList A vs.toArray := ⟨_, eo, rfl, n, rfl⟩
  -- the exact object is asked for
  obtain ⟨cap, hc⟩ : ∃ cap, Obj.mapSeq (·.setIfInBounds k.toNat v) { cls := .type "list", data := .seq vs.toArray n } = { cls := .type "list", data := .seq (vs.set k.toNat v).toArray cap } := ⟨_, by
    show ({ cls := _, data := Data.seq (vs.toArray.setIfInBounds k.toNat v) _ } : Obj) = _
    rw [show vs.toArray.setIfInBounds k.toNat v = (vs.set k.toNat v).toArray by simp]⟩
  have e' := Heap.get?_update_self (Obj.mapSeq (·.setIfInBounds k.toNat v)) eo (by rw [hc]; rfl)
  rw [hc] at e'
  obtain ⟨m, J⟩ := I.put (tk := s.toks) (h' := s.heap.update A (Obj.mapSeq (·.setIfInBounds k.toNat v))) (m' := .list (ds.set k.toNat x)) hm (fun b o n e => (Heap.get?_update_ne _ _ _ _ n).trans e) e' ⟨_, cap, rfl, rs.set ra k.toNat⟩
  refine setItem_exact hl h0 hhi (by rw [List.size_toArray, rs.length]; exact hk) ⟨Φ, _, ρ, m, J, rfl, h⟩
end
end Mine
namespace Mine
/-- dicts as lists of pairs -/
noncomputable def getE (es : List (Str × PyData)) (x : Str) : Option PyData := (es.find? fun p => p.1 = x).map (·.2)
noncomputable def putE (es : List (Str × PyData)) (x : Str) (d : PyData) : List (Str × PyData) :=
  if es.any (fun p => p.1 = x) then es.map (fun p => if p.1 = x then (p.1, d) else p) else es ++ [(x, d)]
theorem KvR.length {Φ : Frz} : ∀ {es : List (Str × PyData)} {kvs : List (Str × Value)}, KvR Φ es kvs → kvs.length = es.length
  | [], _, h => by cases h; rfl
  | (x, d) :: r, _, ⟨v, rest, e, _, h⟩ => by subst e; simp [KvR.length h]
theorem KvR.get {Φ : Frz} {x : Str} {d : PyData} : ∀ {es : List (Str × PyData)} {kvs : List (Str × Value)}, KvR Φ es kvs → getE es x = some d → ∃ v, valueAt kvs x = some v ∧ R Φ d v
  | [], _, h, e => by simp [getE] at e
  | (y, d') :: r, _, ⟨v, rest, e1, h1, h2⟩, e => by
    subst e1
    unfold getE at e
    unfold valueAt
    rw [List.find?_cons] at e ⊢
    by_cases q : y = x
    · simp only [q, decide_true, Option.map_some, Option.some.injEq] at e ⊢
      subst e; exact ⟨v, rfl, h1⟩
    · simp only [q, decide_false] at e ⊢
      exact KvR.get h2 e
theorem KvR.has {Φ : Frz} {x : Str} : ∀ {es : List (Str × PyData)} {kvs : List (Str × Value)}, KvR Φ es kvs → (valueAt kvs x).isSome = (getE es x).isSome
  | [], _, h => by cases h; rfl
  | (y, d') :: r, _, ⟨v, rest, e1, h1, h2⟩ => by
    subst e1
    unfold getE valueAt
    rw [List.find?_cons, List.find?_cons]
    by_cases q : y = x
    · simp [q]
    · simp only [q, decide_false]
      exact KvR.has h2
theorem KvR.any {Φ : Frz} {x : Str} : ∀ {es : List (Str × PyData)} {kvs : List (Str × Value)}, KvR Φ es kvs → (kvs.any fun kv => kv.1 = x) = (es.any fun p => p.1 = x)
  | [], _, h => by cases h; rfl
  | (y, d') :: r, _, ⟨v, rest, e1, h1, h2⟩ => by subst e1; simp [KvR.any h2]
theorem KvR.map {Φ : Frz} {x : Str} {d : PyData} {v : Value} (hv : R Φ d v) : ∀ {es : List (Str × PyData)} {kvs : List (Str × Value)}, KvR Φ es kvs → KvR Φ (es.map (fun p => if p.1 = x then (p.1, d) else p)) (kvs.map (fun kv => if kv.1 = x then (kv.1, v) else kv))
  | [], _, h => by cases h; exact rfl
  | (y, d') :: r, _, ⟨w, rest, e, h1, h2⟩ => by
    subst e
    rw [List.map_cons, List.map_cons]
    by_cases q : y = x
    · subst q
      simp only [if_true]
      exact ⟨v, _, rfl, hv, KvR.map hv h2⟩
    · simp only [q, if_false]
      exact ⟨w, _, rfl, h1, KvR.map hv h2⟩
theorem KvR.snoc {Φ : Frz} {x : Str} {d : PyData} {v : Value} (hv : R Φ d v) : ∀ {es : List (Str × PyData)} {kvs : List (Str × Value)}, KvR Φ es kvs → KvR Φ (es ++ [(x, d)]) (kvs ++ [(x, v)])
  | [], _, h => by cases h; exact ⟨v, [], rfl, hv, rfl⟩
  | (y, d') :: r, _, ⟨w, rest, e, h1, h2⟩ => by subst e; exact ⟨w, _, rfl, h1, KvR.snoc hv h2⟩
theorem KvR.put {Φ : Frz} {x : Str} {d : PyData} {v : Value} (hv : R Φ d v) {es : List (Str × PyData)} {kvs : List (Str × Value)} (h : KvR Φ es kvs) : KvR Φ (putE es x d) (stored kvs x v) := by
  unfold putE stored
  rw [KvR.any h]
  split
  · exact h.map hv
  · exact h.snoc hv
section
variable {c : Cx} {μ : Mu} {ρ : Rho} {P : Mu → AV → Prop}
theorem dictAt {Φ : Frz} {s : Shared} (I : Inv c Φ μ ρ s) {A : Addr} {es : List (Str × PyData)} (hm : (A, .dict es) ∈ μ) : ∃ kvs, s.heap.DictOf (PySem.strKind c.g.prog c.g.w) A kvs ∧ KvR Φ es kvs ∧ (A == sysModules) = false := by
  obtain ⟨⟨o, eo, kvs, hd, hk⟩, h0, hΦ⟩ := I.mu.2 _ hm
  exact ⟨kvs, Heap.dictOf_iff.mpr ⟨o, eo, hd⟩, hk, h0.2⟩
theorem Op2.itemD {l r : Expr} {A : Addr} {es : List (Str × PyData)} {x : Str} {d : PyData} (hm : (A, .dict es) ∈ μ) (hs : ∀ a k t, subscripted r false (.ref a) (.str k t) = operate [.ref a, .str k t] (getItem (.ref a) (.str k t)))
    (e : getE es x = some d) (h : P μ (.d d)) : Op2 c ρ (subscriptTail l r) μ (.v (.ref A)) (.d (.str x)) P := fun Φ s v w I ra rb => by
  obtain rfl := ra_v' ra
  obtain ⟨t, rfl⟩ := ra_str' rb
  obtain ⟨kvs, hd, hk, hA⟩ := dictAt I hm
  obtain ⟨u, e1, e2⟩ := hk.get e
  exact tail_any hd.typeIs slot_dict_getitem.lookup (wpAny_getItem_of (strKind_is _ _ _ _) hd.mapOf e1 (Post.then (I.toks _) (ra_d e2) h)) (hs _ _ _)
theorem Op2.inD {A : Addr} {es : List (Str × PyData)} {x : Str} (hm : (A, .dict es) ∈ μ) (h : P μ (.d (.bool (getE es x).isSome))) : Op2 c ρ (compareOp .In) μ (.d (.str x)) (.v (.ref A)) P := fun Φ s v w I ra rb => by
  obtain rfl := ra_v' rb
  obtain ⟨t, rfl⟩ := ra_str' ra
  obtain ⟨kvs, hd, hk, hA⟩ := dictAt I hm
  refine wpAny_in_of (strKind_is _ _ _ _) hA hd.mapOf ?_
  rw [hk.has]
  exact Post.then (I.toks _) (ra_bool _) h
theorem Op2.ninD {A : Addr} {es : List (Str × PyData)} {x : Str} (hm : (A, .dict es) ∈ μ) (h : P μ (.d (.bool (!(getE es x).isSome)))) : Op2 c ρ (compareOp .NotIn) μ (.d (.str x)) (.v (.ref A)) P := fun Φ s v w I ra rb => by
  obtain rfl := ra_v' rb
  obtain ⟨t, rfl⟩ := ra_str' ra
  obtain ⟨kvs, hd, hk, hA⟩ := dictAt I hm
  refine wpAny_notIn_of (strKind_is _ _ _ _) hA hd.mapOf ?_
  rw [hk.has]
  exact Post.then (I.toks _) (ra_bool _) h
theorem SetI.dict {A : Addr} {es : List (Str × PyData)} {x : Str} {d : PyData} {P : Mu → Prop} (hm : (A, .dict es) ∈ μ) (hn : es.length ≤ 1000000) (h : P (muSet μ A (.dict (putE es x d)))) :
    SetI c ρ μ (.v (.ref A)) (.d (.str x)) (.d d) P := fun Φ s o i v I rb rk ra => by
  obtain rfl := ra_v' rb
  obtain ⟨t, rfl⟩ := ra_str' rk
  obtain ⟨kvs, hd, hk, hA⟩ := dictAt I hm
  refine wpAny_setItem_pairs (strKind_is _ _ _ _) hd (fun h' hd' sb => ?_) (by rw [hk.length, sizeLine_eq]; lia)
  obtain ⟨o', eo', hd''⟩ := Heap.dictOf_iff.mp hd'
  obtain ⟨m, J⟩ := I.put (tk := s.toks + 1) (m' := .dict (putE es x d)) hm (fun b o n e => (sb.2 b n).trans e) eo' ⟨_, hd'', hk.put ra⟩
  exact ⟨Φ, _, ρ, m, J, rfl, h⟩
/-- a display of words and numbers -/
inductive LitPs : List (Option Expr) → List Expr → List (Str × PyData) → Prop
  | nil : LitPs [] [] []
  | cons {x : Str} {i : Int} {a b p q} {ks : List (Option Expr)} {vs : List Expr} {es : List (Str × PyData)} : LitPs ks vs es → LitPs (some (.Constant (.str x) a p) :: ks) (.Constant (.int i) b q :: vs) ((x, .int i) :: es)
theorem LitPs.go {env : Env} {pos : Pos} {A : Around} {E : Value → Shared → Prop} {ks : List (Option Expr)} {vs : List Expr} {es : List (Str × PyData)} (e : LitPs ks vs es) : ∀ {s : Shared} {Q : List (Value × Value) → Shared → Prop},
    (∀ kvs ps tk, KvR (fun _ => Option.none) es kvs → Carries (PySem.strKind c.g.prog c.g.w) ps kvs → Q ps { s with toks := tk }) → wpAny (model c.g.prog c.g.w) A (evalPairs (pairTrees ks vs env pos)) Q E s := by
  induction e with
  | nil => intro s Q h; exact evalPairs_nil (h [] [] s.toks rfl trivial)
  | cons e ih =>
    intro s Q h
    refine pairTrees_cons_walk (wpAny_Constant_str (wpAny_Constant_int (ih fun kvs ps tk h1 h2 => ?_)))
    exact h ((_, _) :: kvs) ((_, _) :: ps) tk ⟨_, _, rfl, ra_int (Φ := fun _ => Option.none) _ _, h1⟩ ⟨strKind_is _ _ _ _, rfl, h2⟩
theorem merged_kv {Φ : Frz} : ∀ {es : List (Str × PyData)} {kvs : List (Str × Value)} {es₀ : List (Str × PyData)} {kvs₀ : List (Str × Value)}, KvR Φ es kvs → KvR Φ es₀ kvs₀ → KvR Φ (es.foldl (fun acc p => putE acc p.1 p.2) es₀) (merged kvs₀ kvs)
  | [], _, _, _, h, k => by cases h; exact k
  | (x, d) :: r, _, _, _, ⟨v, rest, e, h1, h2⟩, k => by
    subst e
    show KvR Φ (r.foldl _ (putE _ x d)) (merged (stored _ x v) rest)
    exact merged_kv (es := r) h2 (k.put h1)
theorem Ev.dict {ks : List (Option Expr)} {vs : List Expr} {pos : Pos} {es : List (Str × PyData)} (e : LitPs ks vs es) (h0 : ks ≠ []) (hlen : ks.length ≤ 15) (hall : ks.all (·.isSome) = true) (hl : ks.length = vs.length)
    (h : ∀ a, a ∉ μ.map (·.1) → P ((a, .dict (es.foldl (fun acc p => putE acc p.1 p.2) [])) :: μ) (.v (.ref a))) : Ev c μ ρ (.Dict ks vs pos) P := fun Φ s I => by
  refine wpAny_Dict_walk (knd := PySem.strKind c.g.prog c.g.w) hall hl h0 hlen (e.go fun kvs ps tk h1 h2 => ⟨kvs, h2, Heap.DictOf.new _, fun h' hd' sb => ?_⟩)
  obtain ⟨m, J⟩ := I.newMut (ρ := ρ) { cls := .type "dict", data := .dict #[] } (.dict []) ⟨[], ⟨#[], 0, ⟨rfl, rfl, rfl⟩, rfl, fun _ he => by simp at he, Pairs.nil, List.nodup_nil⟩, rfl⟩ rfl
  obtain ⟨o', eo', hd''⟩ := Heap.dictOf_iff.mp hd'
  obtain ⟨m2, J2⟩ := J.put (tk := tk + ps.length) (h' := h') (m' := .dict (es.foldl (fun acc p => putE acc p.1 p.2) [])) (.head _) (fun b o n e => (sb.2 b n).trans e) eo' ⟨_, hd'', merged_kv (h1.mono fun _ _ e => by cases e) rfl⟩
  rw [muSet_head fun q => I.noKey (Heap.fresh _) q] at m2 J2
  exact ⟨Φ, _, .v (.ref s.heap.objs.size), m.trans m2, J2, rfl, h _ fun q => I.noKey (Heap.fresh _) q⟩
theorem Ev.dict0 {pos : Pos} (h : ∀ a, a ∉ μ.map (·.1) → P ((a, .dict []) :: μ) (.v (.ref a))) : Ev c μ ρ (.Dict [] [] pos) P := fun Φ s I => by
  obtain ⟨m, J⟩ := I.newMut (ρ := ρ) { cls := .type "dict", data := .dict #[] } (.dict []) ⟨[], ⟨#[], 0, ⟨rfl, rfl, rfl⟩, rfl, fun _ he => by simp at he, Pairs.nil, List.nodup_nil⟩, rfl⟩ rfl
  exact wpAny_Dict_empty ⟨Φ, _, .v (.ref s.heap.objs.size), m, J, rfl, h _ fun q => I.noKey (Heap.fresh _) q⟩
-- numbers and words
theorem Op2.mod {a b : Int} (hb : b ≠ 0) (h : P μ (.d (.int (a.fmod b)))) : Op2 c ρ (binaryOp .Mod) μ (.d (.int a)) (.d (.int b)) P := fun Φ s v w I r q => by
  obtain ⟨t, rfl⟩ := ra_int' r
  obtain ⟨u, rfl⟩ := ra_int' q
  exact mod_int hb (Post.then (I.toks _) (ra_int _ _) h)
theorem Op2.fdiv {a b : Int} (hb : b ≠ 0) (hp : Builtin.divisionGoesByPylong a b = false) (h : P μ (.d (.int (a.fdiv b)))) : Op2 c ρ (binaryOp .FloorDiv) μ (.d (.int a)) (.d (.int b)) P := fun Φ s v w I r q => by
  obtain ⟨t, rfl⟩ := ra_int' r
  obtain ⟨u, rfl⟩ := ra_int' q
  exact floordiv_int hb (Post.then (I.toks _) (ra_int _ _) h) (.inl hp)
theorem Op2.pow {a b : Int} (h1 : 0 ≤ b) (h2 : b ≤ 1000000) (h3 : a.natAbs < 2 ^ 64) (h : P μ (.d (.int (a ^ b.toNat)))) : Op2 c ρ (binaryOp .Pow) μ (.d (.int a)) (.d (.int b)) P := fun Φ s v w I r q => by
  obtain ⟨t, rfl⟩ := ra_int' r
  obtain ⟨u, rfl⟩ := ra_int' q
  exact pow_int_small h1 h2 h3 (Post.then (I.toks _) (ra_int _ _) h)
theorem CallV.intI {a : Int} (h : P μ (.d (.int a))) : CallV c ρ μ (.type "int") [.d (.int a)] P := fun Φ s vs I r => by
  obtain ⟨v, ws, rfl, r1, rfl⟩ := r
  obtain ⟨t, rfl⟩ := ra_int' r1
  exact call_int_int (Post.here I (ra_int _ _) h)
theorem CallV.strI {a : Int} (ha : a.natAbs.log2 < 1920) (h : P μ (.d (.str (toString a)))) : CallV c ρ μ (.type "str") [.d (.int a)] P := fun Φ s vs I r => by
  obtain ⟨v, ws, rfl, r1, rfl⟩ := r
  obtain ⟨t, rfl⟩ := ra_int' r1
  exact PySem.P.str_of_int ha (Post.then (I.toks _) (ra_str _ _) h)
theorem Op2.addS {x y : Str} (hn : x.length + y.length ≤ 1000000) (h : P μ (.d (.str (x ++ y)))) : Op2 c ρ (binaryOp .Add) μ (.d (.str x)) (.d (.str y)) P := fun Φ s v w I r q => by
  obtain ⟨t, rfl⟩ := ra_str' r
  obtain ⟨u, rfl⟩ := ra_str' q
  exact PyProof.Rows.add_str (fun t' tk => Post.then (I.toks _) (ra_str _ _) h) (by rw [sizeLine_eq]; lia)
theorem Ev.neg {i : Int} {k p pos} (h : P μ (.d (.int (-i)))) : Ev c μ ρ (.UnaryOp .USub (.Constant (.int i) k p) pos) P := fun Φ s I =>
  UnaryOp_ (wpAny_Constant_int (PyProof.Rows.neg_int (Post.then (I.toks _) (ra_int _ _) h)))
end
end Mine
namespace Mine
noncomputable def LookAll : Rho → Rho → Prop
  | [], _ => True
  | (x, a) :: r, ρ => look ρ x = some a ∧ LookAll r ρ
theorem LookAll.at {ρ : Rho} {x : Str} {a : AV} : ∀ {ρ₀ : Rho}, LookAll ρ₀ ρ → look ρ₀ x = some a → look ρ x = some a
  | [], _, h => by simp [look] at h
  | (y, b) :: r, ⟨h1, h2⟩, h => by
    unfold look at h
    split at h
    · rename_i q; subst q; cases h; exact h1
    · exact LookAll.at h2 h
theorem Inv.weak {c : Cx} {Φ : Frz} {μ : Mu} {ρ ρ₀ : Rho} {s : Shared} (I : Inv c Φ μ ρ s) (h : LookAll ρ₀ ρ) : Inv c Φ μ ρ₀ s := { I with vars := fun x a e => I.vars x a (h.at e) }
theorem As.weak {c : Cx} {μ : Mu} {ρ ρ₀ : Rho} {t : Expr} {a : AV} {P : Mu → Rho → Prop} (h : LookAll ρ₀ ρ) (k : As c μ ρ₀ t a P) : As c μ ρ t a P := fun Φ s v I r => k Φ s v (I.weak h) r
theorem Ex.weak {c : Cx} {μ : Mu} {ρ ρ₀ : Rho} {ss : List Stmt} {P : Fl → Mu → Rho → Prop} (h : LookAll ρ₀ ρ) (k : Ex c μ ρ₀ ss P) : Ex c μ ρ ss P := fun Φ s I => k Φ s (I.weak h)
theorem Ex.seq {c : Cx} {μ : Mu} {ρ : Rho} {st : Stmt} {rest : List Stmt} {P : Fl → Mu → Rho → Prop} (I : Mu → Rho → Prop) (h : X1 c μ ρ st (kSeq I P)) (k : ∀ ν ρ', I ν ρ' → Ex c ν ρ' rest P) : Ex c μ ρ (st :: rest) P :=
  Ex.cons fun Φ s I₀ => W.mono (h Φ s I₀) fun f s' ⟨Ψ, ν, ρ', fl, m, J, r, p⟩ => ⟨Ψ, ν, ρ', fl, m, J, r, by cases fl with | next => exact k _ _ p | _ => exact p⟩
/-- a statement, then the rest with less known: no name for what stood between -/
@[reducible] noncomputable def kIs (M : Mu) (R : Rho) : Mu → Rho → Prop := fun ν ρ => ν = M ∧ LookAll R ρ
@[reducible] noncomputable def kIsH (M : Mu) (R : Rho) (H : Prop) : Mu → Rho → Prop := fun ν ρ => ν = M ∧ H ∧ LookAll R ρ
@[reducible] noncomputable def kIsE {α : Type} (M : Mu) (R : α → Rho) (H : α → Prop) : Mu → Rho → Prop := fun ν ρ => ν = M ∧ ∃ x, H x ∧ LookAll (R x) ρ
theorem Ex.seqL {c : Cx} {μ : Mu} {ρ : Rho} {st : Stmt} {rest : List Stmt} {P : Fl → Mu → Rho → Prop} (M : Mu) (R : Rho) (h : X1 c μ ρ st (kSeq (kIs M R) P)) (k : Ex c M R rest P) : Ex c μ ρ (st :: rest) P :=
  Ex.seq _ h fun ν ρ' q => by obtain ⟨rfl, hl⟩ := q; exact Ex.weak hl k
theorem Ex.seqH {c : Cx} {μ : Mu} {ρ : Rho} {st : Stmt} {rest : List Stmt} {P : Fl → Mu → Rho → Prop} (M : Mu) (R : Rho) (H : Prop) (h : X1 c μ ρ st (kSeq (kIsH M R H) P)) (k : H → Ex c M R rest P) : Ex c μ ρ (st :: rest) P :=
  Ex.seq _ h fun ν ρ' q => by obtain ⟨rfl, z, hl⟩ := q; exact Ex.weak hl (k z)
theorem Ex.seqE {α : Type} {c : Cx} {μ : Mu} {ρ : Rho} {st : Stmt} {rest : List Stmt} {P : Fl → Mu → Rho → Prop} (M : Mu) (R : α → Rho) (H : α → Prop) (h : X1 c μ ρ st (kSeq (kIsE M R H) P)) (k : ∀ x, H x → Ex c M (R x) rest P) : Ex c μ ρ (st :: rest) P :=
  Ex.seq _ h fun ν ρ' q => by obtain ⟨rfl, x, z, hl⟩ := q; exact Ex.weak hl (k x z)
section
variable {c : Cx} {μ : Mu} {ρ : Rho}
theorem ItP.mono {κ : Mu} {e : Expr} {P P' : Mu → List AV → Prop} (h : ItP κ c μ ρ e P') (k : ∀ ν xs, P' ν xs → P ν xs) : ItP κ c μ ρ e P := fun Φ s I => W.mono (h Φ s I) fun xv s₁ h₁ => W.mono h₁ fun it s₂ q => by
  cases q with | mk Ψ ν I xs fp Pt St e m J T st f p => exact ⟨Ψ, ν, I, xs, fp, Pt, St, e, m, J, T, st, f, k _ _ p⟩
theorem split_at {α : Type} : ∀ {l : List α} {i : Nat} {y : α}, l[i]? = some y → l = l.take i ++ y :: l.drop (i + 1)
  | [], _, _, h => by simp at h
  | x :: r, 0, y, h => by simp at h; subst h; rfl
  | x :: r, i + 1, y, h => by
    have := split_at (l := r) (i := i) (y := y) (by simpa using h)
    rw [List.take_succ_cons, List.drop_succ_cons, List.cons_append, ← this]
theorem take_snoc {α : Type} {l : List α} {i : Nat} {y : α} (h : l[i]? = some y) : l.take (i + 1) = l.take i ++ [y] := by rw [List.take_add_one, h]; rfl
theorem X1.forLP (κ : Mu) {α : Type} (f : α → PyData) (l : List α) {t iter : Expr} {body : List Stmt} {pos} {P : Fl → Mu → Rho → Prop} (J : List α → Mu → Rho → Prop)
    (h : ItP κ c μ ρ iter fun ν xs => xs = l.map (fun y => .d (f y)) ∧ J [] ν ρ) (hκ : ∀ pre μ₁ ρ₁, J pre μ₁ ρ₁ → ∀ p ∈ κ, p ∈ μ₁)
    (step : ∀ pre y post μ₁ ρ₁, l = pre ++ y :: post → J pre μ₁ ρ₁ → As c μ₁ ρ₁ t (.d (f y)) (kBody c body (kTurn (J (pre ++ [y])) P)))
    (fin : ∀ μ₁ ρ₁, J l μ₁ ρ₁ → P .next μ₁ ρ₁) (hs : ∀ x, foldedSetIterable iter c.env x = pure x := by intro _; rfl) : X1 c μ ρ (.For t iter body [] pos) P := by
  refine X1.forInP κ (fun i μ₁ ρ₁ => J (l.take i) μ₁ ρ₁) (ItP.mono h fun ν xs hx => ?_) (fun i μ₁ ρ₁ hj => hκ _ _ _ hj) hs
  obtain ⟨rfl, j⟩ := hx
  refine ⟨by simpa using j, fun i a μ₁ ρ₁ hi hj => ?_, fun μ₁ ρ₁ hj => fin _ _ (by simpa using hj)⟩
  rw [List.getElem?_map] at hi
  obtain ⟨y, hy, rfl⟩ := Option.map_eq_some_iff.mp hi
  have := step _ y _ μ₁ ρ₁ (split_at hy) hj
  rw [← take_snoc hy] at this
  exact this
theorem X1.forL {α : Type} (f : α → PyData) (l : List α) {t iter : Expr} {body : List Stmt} {pos} {P : Fl → Mu → Rho → Prop} (J : List α → Mu → Rho → Prop)
    (h : It c μ ρ iter fun ν xs => xs = l.map (fun y => .d (f y)) ∧ J [] ν ρ)
    (step : ∀ pre y post μ₁ ρ₁, l = pre ++ y :: post → J pre μ₁ ρ₁ → As c μ₁ ρ₁ t (.d (f y)) (kBody c body (kTurn (J (pre ++ [y])) P)))
    (fin : ∀ μ₁ ρ₁, J l μ₁ ρ₁ → P .next μ₁ ρ₁) (hs : ∀ x, foldedSetIterable iter c.env x = pure x := by intro _; rfl) : X1 c μ ρ (.For t iter body [] pos) P :=
  X1.forLP [] f l J h (fun _ _ _ _ _ hp => absurd hp List.not_mem_nil) step fin hs
theorem CompBody.L {α : Type} (f : α → PyData) (l : List α) {scope : Scope} {cl : List (Str × Addr)} {t elt : Expr} {ifs : List Expr} {P : Mu → AV → Prop} {ν : Mu} {xs : List AV} (J : List α → Mu → List PyData → Prop) (hn : l.length ≤ 1000000) (hx : xs = l.map (fun y => .d (f y))) (j0 : J [] ν [])
    (step : ∀ C pre y post μ₁ acc, l = pre ++ y :: post → J pre μ₁ acc → As (cmpCx c scope cl C) μ₁ (freeRho ρ cl) t (.d (f y)) (kL1 (cmpCx c scope cl C) ifs elt (J (pre ++ [y])) acc))
    (fin : ∀ μ₁ acc, J l μ₁ acc → P μ₁ (.d (.list acc))) : CompBody c ρ scope cl t elt ifs (fun i μ₁ acc => J (l.take i) μ₁ acc) P ν xs := by
  subst hx
  refine ⟨by simpa using hn, by simpa using j0, fun C i a μ₁ acc hi hj => ?_, fun μ₁ acc hj => fin _ _ (by simpa using hj)⟩
  rw [List.getElem?_map] at hi
  obtain ⟨y, hy, rfl⟩ := Option.map_eq_some_iff.mp hi
  have := step C _ y _ μ₁ acc (split_at hy) hj
  rw [← take_snoc hy] at this
  exact this
@[reducible] noncomputable def kC3 (μ : Mu) (F : List PyData) : Mu → AV → Prop := fun ν b => ∃ d, b = .d d ∧ ν = μ ∧ F = [d]
@[reducible] noncomputable def kC2 (c : Cx) (elt : Expr) (μ : Mu) (F : List PyData) (ρ : Rho) : Mu → Bool → Prop := fun ν ok => if ok then Ev c ν ρ elt (kC3 μ F) else ν = μ ∧ F = []
@[reducible] noncomputable def kC1 (c : Cx) (ifs : List Expr) (elt : Expr) (μ : Mu) (F : List PyData) : Mu → Rho → Prop := fun ν ρ => Ts c ν ρ ifs (kC2 c elt μ F ρ)
/-- a comprehension that changes nothing -/
theorem CompBody.P {α : Type} (f : α → PyData) (l : List α) (F : α → List PyData) {t elt : Expr} {ifs : List Expr} {scope : Scope} {cl : List (Str × Addr)} {P : Mu → AV → Prop} {ν : Mu} {xs : List AV} (hn : l.length ≤ 1000000) (hx : ν = μ ∧ xs = l.map (fun y => .d (f y)))
    (step : ∀ C y, y ∈ l → As (cmpCx c scope cl C) μ (freeRho ρ cl) t (.d (f y)) (kC1 (cmpCx c scope cl C) ifs elt μ (F y))) (p : P μ (.d (.list (l.flatMap F)))) :
    CompBody c ρ scope cl t elt ifs (fun i μ₁ acc => μ₁ = μ ∧ acc = (l.take i).flatMap F) P ν xs := by
  refine CompBody.L f l (fun pre μ₁ acc => μ₁ = μ ∧ acc = pre.flatMap F) hn hx.2 ⟨hx.1, rfl⟩ (fun C pre y post μ₁ acc e q => ?_) fun μ₁ acc q => ?_
  · obtain ⟨rfl, rfl⟩ := q
    refine fun Φ s v I r => W.mono (step C y (by rw [e]; exact List.mem_append_right _ (.head _)) Φ s v I r) fun _ s' h => ?_
    obtain ⟨Ψ, ν, ρ', m, J, h⟩ := h
    refine ⟨Ψ, ν, ρ', m, J, fun Φ s I => W.mono (h Φ s I) fun b s' h => ?_⟩
    obtain ⟨Ψ, ν, m, J, h⟩ := h
    refine ⟨Ψ, ν, m, J, ?_⟩
    have e1 : (pre ++ [y]).flatMap F = pre.flatMap F ++ F y := by rw [List.flatMap_append, List.flatMap_cons, List.flatMap_nil, List.append_nil]
    cases b with
    | true =>
      refine fun Φ s I => W.mono (h Φ s I) fun b s' h => ?_
      obtain ⟨Ψ, ν, a, m, J, r, d, h1, h2, h3⟩ := h
      exact ⟨Ψ, ν, a, m, J, r, d, h1, h2, by rw [e1, h3]⟩
    | false => exact ⟨h.1, by rw [e1, h.2, List.append_nil]⟩
  · obtain ⟨rfl, rfl⟩ := q; exact p
theorem Ev.compP {α : Type} (f : α → PyData) (l : List α) (F : α → List PyData) {t elt iter : Expr} {ifs : List Expr} {scope : Scope} {pos : Pos} {cl : List (Str × Addr)} {P : Mu → AV → Prop} (ok : CompOk c scope cl) (hn : l.length ≤ 1000000)
    (h : It c μ ρ iter fun ν xs => ν = μ ∧ xs = l.map (fun y => .d (f y)))
    (step : ∀ C y, y ∈ l → As (cmpCx c scope cl C) μ (freeRho ρ cl) t (.d (f y)) (kC1 (cmpCx c scope cl C) ifs elt μ (F y)))
    (p : P μ (.d (.list (l.flatMap F)))) (hs : ∀ x, foldedSetIterable iter c.env x = pure x := by intro _; rfl) : Ev c μ ρ (.ListComp elt [⟨t, iter, ifs, 0⟩] scope pos) P :=
  Ev.comp ok _ (ItP.mono h fun ν xs hx => CompBody.P f l F hn hx step p) hs
theorem X1.putCompPK (κ : Mu) (hκ : ∀ p ∈ κ, p ∈ μ) {α : Type} (f : α → PyData) (l : List α) (F : α → List PyData) {x : Str} {px : Pos} {t elt iter : Expr} {ifs : List Expr} {scope : Scope} {pos spos : Pos} {cl : List (Str × Addr)} {P : Fl → Mu → Rho → Prop} (ok : CompOk c scope cl) (hx : CanPut c x)
    (hsw : swapsWith (.ListComp elt [⟨t, iter, ifs, 0⟩] scope pos) (some (.Name x px)) spos.line c.env = pure true) (hn : l.length ≤ 1000000)
    (h : ItP κ c μ ρ iter fun ν xs => ν = μ ∧ xs = l.map (fun y => .d (f y)))
    (step : ∀ C y, y ∈ l → As (cmpCx c scope cl C) μ (freeRho ρ cl) t (.d (f y)) (kC1 (cmpCx c scope cl C) ifs elt μ (F y)))
    (p : P .next μ ((x, .d (.list (l.flatMap F))) :: ρ)) (hs : ∀ x, foldedSetIterable iter c.env x = pure x := by intro _; rfl) : X1 c μ ρ (.Assign [.Name x px] (.ListComp elt [⟨t, iter, ifs, 0⟩] scope pos) spos) P :=
  X1.putCompK κ ok hx hsw _ (fun i μ₁ acc hj => by rw [hj.1]; exact hκ) (ItP.mono h fun ν xs hx => CompBody.P f l F hn hx step p) hs
theorem X1.putCompP {α : Type} (f : α → PyData) (l : List α) (F : α → List PyData) {x : Str} {px : Pos} {t elt iter : Expr} {ifs : List Expr} {scope : Scope} {pos spos : Pos} {cl : List (Str × Addr)} {P : Fl → Mu → Rho → Prop} (ok : CompOk c scope cl) (hx : CanPut c x)
    (hsw : swapsWith (.ListComp elt [⟨t, iter, ifs, 0⟩] scope pos) (some (.Name x px)) spos.line c.env = pure true) (hn : l.length ≤ 1000000)
    (h : It c μ ρ iter fun ν xs => ν = μ ∧ xs = l.map (fun y => .d (f y)))
    (step : ∀ C y, y ∈ l → As (cmpCx c scope cl C) μ (freeRho ρ cl) t (.d (f y)) (kC1 (cmpCx c scope cl C) ifs elt μ (F y)))
    (p : P .next μ ((x, .d (.list (l.flatMap F))) :: ρ)) (hs : ∀ x, foldedSetIterable iter c.env x = pure x := by intro _; rfl) : X1 c μ ρ (.Assign [.Name x px] (.ListComp elt [⟨t, iter, ifs, 0⟩] scope pos) spos) P :=
  X1.putCompPK [] (fun _ hp => absurd hp List.not_mem_nil) f l F ok hx hsw hn h step p hs
end
section
variable {c : Cx} {μ : Mu} {ρ : Rho}
@[reducible] noncomputable def kPutS (ρ : Rho) (x y : Str) (P : Fl → Mu → Rho → Prop) : Mu → AV → Prop := fun μ a => ∃ d1 d2, a = .d (.tuple [d1, d2]) ∧ P .next μ ((x, .d d1) :: (y, .d d2) :: ρ)
theorem X1.putS {x y : Str} {px py : Pos} {k tp e pos} {P : Fl → Mu → Rho → Prop} (hx : CanPut c x) (hy : CanPut c y) (hs : swapsWithSole [.Tuple [.Name x px, .Name y py] k tp] e pos.line c.env = pure false) (hw : swappedStores [.Tuple [.Name x px, .Name y py] k tp] e c.env = pure (some [x, y]))
    (h : Ev c μ ρ e (kPutS ρ x y P)) : X1 c μ ρ (.Assign [.Tuple [.Name x px, .Name y py] k tp] e pos) P := fun Φ s I => by
  refine Assign_Tuple_swapped (W.mono (h Φ s I) fun v s₁ h₁ => ?_) hs hw
  obtain ⟨Φ₁, μ₁, a, l₁, I₁, r₁, d1, d2, rfl, p⟩ := h₁
  obtain ⟨A, vs, rfl, h1, h2⟩ := ra_tup' r₁
  simp only [Rs] at h2
  obtain ⟨v1, us, rfl, r1, v2, ws, rfl, r2, rfl⟩ := h2
  show W c (unpackItems (.ref A) [v1, v2].toArray.size Option.none) _ s₁
  refine unpackItems_tuple I₁.ok.hh (isTup_of_frz I₁.frz h1) fun h' hk => ?_
  show W c (assignInOrder [bindName c.env y, bindName c.env x] [v2, v1]) _ _
  obtain ⟨m, J⟩ := I₁.keeps (tk := s₁.toks) (h' := h') fun b o e => hk b o (Nat.ne_of_lt (Heap.lt_size e)) e
  refine assignInOrder_cons (bindName_ (storeAt J hy (a := .d d2) r2 fun s₂ k₂ => ?_))
  refine assignInOrder_cons (bindName_ (storeAt k₂.2 hx (a := .d d1) r1 fun s₃ k₃ => ?_))
  exact assignInOrder_nil ⟨Φ₁, μ₁, _, .next, ((l₁.trans m).trans k₂.1).trans k₃.1, k₃.2, rfl, p⟩
end
/-- a function with one default: both ways of calling it -/
theorem Sat.both {g : Gd} {oc : Value} {od : Option Addr} {osl : Array (Option Value)} {f : Addr} {name qual : Str} {params : Arguments} {body ss : List Stmt} {scope : Scope} {dV kV doc pm cdv ct : Value} {an : Option Addr} {as0 : List AV} {a a0 : AV} {v0 : Value} {r : Nat} {μ : Mu} {P : Mu → AV → Prop}
    (names : List Str)
    (ho : List.lookup f g.K = some ⟨oc, od, .func (fnOf name qual params body scope dV kV doc pm an cdv ct), osl⟩) (hcd : codeIn g.K cdv qual = true)
    (hbind : ∀ vs s, g.K.In s.heap → vs.length = (as0 ++ [a]).length → BindsTo s (fnOf name qual params body scope dV kV doc pm an cdv ct) ⟨vs, []⟩ (names.zip (vs ++ [])))
    (hbind0 : ∀ vs s, g.K.In s.heap → vs.length = as0.length → BindsTo s (fnOf name qual params body scope dV kV doc pm an cdv ct) ⟨vs, []⟩ (names.zip (vs ++ [v0])))
    (hda : ∀ Φ, RA Φ a0 v0) (hc : fnChk scope names (as0.length + 1) = true) (hs : body = ss)
    (hb : ∀ A E L, Ex ⟨g, A, envOfC qual scope L f cdv, r, false, E⟩ μ (names.zip (as0 ++ [a])) ss (kRt P)) :
    Sat g (r + 1) (.ref f) (as0 ++ [a]) μ P ∧ (a = a0 → Sat g (r + 1) (.ref f) as0 μ P) :=
  ⟨Sat.fnD names [] [] ho hcd hbind (fun _ => rfl) (by rw [List.length_append]; exact hc) hs (fun A E L => by rw [List.append_nil]; exact hb A E L),
   fun e => Sat.fnD names [v0] [a0] ho hcd hbind0 (fun Φ => ⟨v0, [], rfl, hda Φ, rfl⟩) hc hs (e ▸ hb)⟩
/-- mutable objects are forgotten here -/
theorem Ex.sub {c : Cx} {μ ν : Mu} {ρ : Rho} {ss : List Stmt} {P : Fl → Mu → Rho → Prop} (h : ν.Sublist μ) (k : Ex c ν ρ ss P) : Ex c μ ρ ss P := fun Φ s I => W.mono (k Φ s (I.drop h)) fun f s' ⟨Ψ, ξ, ρ', fl, m, J, r, p⟩ =>
  ⟨Ψ, ξ, ρ', fl, ⟨m.le, fun a x e => (m.fz a x e).imp id fun q => q.imp id fun q => q.imp (keys_sub h a) id, m.keep.mono fun a q => q.imp id (keys_sub h a), fun a q => (m.keys a q).imp (keys_sub h a) id, m.alive, m.gens, m.drawn, m.os⟩, J, r, p⟩
end Mine
namespace Mine
theorem shaped_int (i : Int) : SeqAt.shaped (.int i) = true := rfl
theorem Op2.eqLab {c : Cx} {μ : Mu} {ρ : Rho} {P : Mu → AV → Prop} {l l' : Lab} (h : P μ (.d (.bool (l == l')))) : Op2 c ρ (compareOp .Eq) μ (.d (encL l)) (.d (encL l')) P := Op2.eq (shaped_lab l) (shaped_lab l') (by rw [eqv_lab]; exact h)
/-- lists of statements, as lists -/
noncomputable def Sts.toList : Sts → List St
  | .nil => []
  | .cons s r => s :: r.toList
theorem encs_toList : ∀ ss : Sts, encs ss = ss.toList.map enc
  | .nil => by simp only [encs, Sts.toList, List.map_nil]
  | .cons s r => by simp only [encs, Sts.toList, List.map_cons, encs_toList r]
set_option genInjectivity false in
set_option genSizeOf false in
/-- a case, as rows keep it -/
structure Row where
  dflt : Bool
  body : Sts
noncomputable def Cs.rows : Cs → List Row
  | .nil => []
  | .cons d b r => ⟨d, b⟩ :: r.rows
noncomputable def encRow (k : Sw) (r : Row) : PyData := .tuple [(if r.dflt then .none else swHead k), .tuple (encs r.body)]
theorem encCs_rows (k : Sw) : ∀ cs : Cs, encCs k cs = cs.rows.map (encRow k)
  | .nil => by simp only [encCs, Cs.rows, List.map_nil]
  | .cons d b r => by simp only [encCs, Cs.rows, List.map_cons, encRow, encCs_rows k r]
noncomputable def Sts.one (s : St) : Sts := .cons s .nil
/-- the lists right within a statement -/
noncomputable def inners : St → List Sts
  | .block b => [b]
  | .if1 b => [b]
  | .if2 b o => [b, .one (.block o)]
  | .forr _ _ b => [b]
  | .range _ b => [b]
  | .sw _ _ cs => cs.rows.map Row.body
  | .ret => []
  | .fall => []
  | .call _ => []
  | .brk _ => []
  | .cont _ => []
noncomputable def encB (b : Sts) : PyData := .tuple (encs b)
/-- loops and switches: what a break leaves -/
noncomputable def isLeft : St → Bool
  | .forr .. => true
  | .range .. => true
  | .sw .. => true
  | .ret => false
  | .fall => false
  | .call _ => false
  | .brk _ => false
  | .cont _ => false
  | .block _ => false
  | .if1 _ => false
  | .if2 _ _ => false
mutual
noncomputable def hgt : Sts → Nat
  | .nil => 0
  | .cons s r => max (hgtS s) (hgt r)
noncomputable def hgtS : St → Nat
  | .block b => hgt b + 1
  | .if1 b => hgt b + 1
  | .if2 b o => max (hgt b + 1) (hgt o + 2)
  | .forr _ _ b => hgt b + 1
  | .range _ b => hgt b + 1
  | .sw _ _ cs => hgtC cs + 1
  | .ret => 0
  | .fall => 0
  | .call _ => 0
  | .brk _ => 0
  | .cont _ => 0
noncomputable def hgtC : Cs → Nat
  | .nil => 0
  | .cons _ b r => max (hgt b) (hgtC r)
end
theorem hgt_mem : ∀ {ss : Sts} {s : St}, s ∈ ss.toList → hgtS s ≤ hgt ss
  | .cons t r, s, h => by
    simp only [hgt]
    rcases List.mem_cons.mp h with rfl | h
    · lia
    · have := hgt_mem h; lia
theorem hgt_row : ∀ {cs : Cs} {r : Row}, r ∈ cs.rows → hgt r.body ≤ hgtC cs
  | .cons d b r, x, h => by
    simp only [hgtC]
    rcases List.mem_cons.mp h with rfl | h
    · show hgt b ≤ _; lia
    · have := hgt_row h; lia
theorem hgt_inner {s : St} {b : Sts} (h : b ∈ inners s) : hgt b + 1 ≤ hgtS s := by
  cases s <;> simp only [inners, List.mem_cons, List.not_mem_nil, or_false] at h
  case block => subst h; simp only [hgtS]; lia
  case if1 => subst h; simp only [hgtS]; lia
  case if2 =>
    rcases h with rfl | rfl
    · simp only [hgtS]; lia
    · simp only [hgtS, hgt, Sts.one]; lia
  case forr => subst h; simp only [hgtS]; lia
  case range => subst h; simp only [hgtS]; lia
  case sw =>
    obtain ⟨r, hr, rfl⟩ := List.mem_map.mp h
    have := hgt_row hr
    simp only [hgtS]; lia
-- sizes
mutual
noncomputable def size : Sts → Nat
  | .nil => 1
  | .cons s r => sizeS s + size r
noncomputable def sizeS : St → Nat
  | .block b => size b + 1
  | .if1 b => size b + 1
  | .if2 b o => size b + size o + 3
  | .forr _ _ b => size b + 1
  | .range _ b => size b + 1
  | .sw _ _ cs => sizeC cs + 1
  | .ret => 1
  | .fall => 1
  | .call _ => 1
  | .brk _ => 1
  | .cont _ => 1
noncomputable def sizeC : Cs → Nat
  | .nil => 1
  | .cons _ b r => size b + sizeC r
end
theorem size_pos : ∀ ss : Sts, 1 ≤ size ss
  | .nil => by simp only [size]; lia
  | .cons s r => by have := size_pos r; simp only [size]; lia
theorem sizeC_pos : ∀ cs : Cs, 1 ≤ sizeC cs
  | .nil => by simp only [sizeC]; lia
  | .cons d b r => by have := sizeC_pos r; simp only [sizeC]; lia
theorem sizeS_pos (s : St) : 1 ≤ sizeS s := by cases s <;> simp only [sizeS] <;> lia
theorem size_len : ∀ ss : Sts, ss.toList.length + 1 ≤ size ss
  | .nil => by simp only [size, Sts.toList, List.length_nil]; lia
  | .cons s r => by have := size_len r; have := sizeS_pos s; simp only [size, Sts.toList, List.length_cons]; lia
theorem size_mem : ∀ {ss : Sts} {s : St}, s ∈ ss.toList → sizeS s + 1 ≤ size ss
  | .cons t r, s, h => by
    simp only [size]
    rcases List.mem_cons.mp h with rfl | h
    · have := size_pos r; lia
    · have := size_mem h; have := sizeS_pos t; lia
theorem size_rows : ∀ cs : Cs, cs.rows.length + 1 ≤ sizeC cs
  | .nil => by simp only [sizeC, Cs.rows, List.length_nil]; lia
  | .cons d b r => by have := size_rows r; have := size_pos b; simp only [sizeC, Cs.rows, List.length_cons]; lia
theorem size_row : ∀ {cs : Cs} {r : Row}, r ∈ cs.rows → size r.body + 1 ≤ sizeC cs
  | .cons d b r, x, h => by
    simp only [sizeC]
    rcases List.mem_cons.mp h with rfl | h
    · show size b + 1 ≤ _; have := sizeC_pos r; lia
    · have := size_row h; have := size_pos b; lia
theorem size_inner {s : St} {b : Sts} (h : b ∈ inners s) : size b + 1 ≤ sizeS s := by
  cases s <;> simp only [inners, List.mem_cons, List.not_mem_nil, or_false] at h
  case block => subst h; simp only [sizeS]; lia
  case if1 => subst h; simp only [sizeS]; lia
  case if2 =>
    rcases h with rfl | rfl
    · simp only [sizeS]; lia
    · rename_i b o; have := size_pos b; simp only [sizeS, size, Sts.one]; lia
  case forr => subst h; simp only [sizeS]; lia
  case range => subst h; simp only [sizeS]; lia
  case sw =>
    obtain ⟨r, hr, rfl⟩ := List.mem_map.mp h
    have := size_row hr
    simp only [sizeS]; lia
theorem inners_len (s : St) : (inners s).length ≤ sizeS s := by
  cases s <;> simp only [inners, List.length_cons, List.length_nil, List.length_map, sizeS] <;> (try lia)
  rename_i cs; have := size_rows cs; lia
end Mine
namespace Mine
theorem lay_lab (l : Lab) : (encL l).canLay0 = true := SeqAt.canLay_of_shaped (shaped_lab l)
theorem dep_lab (l : Lab) : (encL l).depth = 0 := by cases l with | none => rfl | some i => rfl
mutual
theorem lay_enc : ∀ s : St, (enc s).canLay0 = true
  | .ret | .fall => by simp only [enc]; decide +kernel
  | .call p => by cases p <;> simp only [enc, encCall] <;> decide +kernel
  | .brk l | .cont l => by
    simp only [enc, PyData.canLay0, PyData.canLayAll0, lay_lab]; decide +kernel
  | .block b => by
    have := lay_encs b
    simp only [enc, PyData.canLay0, PyData.canLayAll0, this]; decide +kernel
  | .if1 b => by
    have := lay_encs b
    simp only [enc, yes, PyData.canLay0, PyData.canLayAll0, this]; decide +kernel
  | .if2 b o => by
    have h1 := lay_encs b
    have h2 := lay_encs o
    simp only [enc, yes, PyData.canLay0, PyData.canLayAll0, h1, h2]; decide +kernel
  | .forr l c b => by
    have h1 := lay_encs b
    cases c <;> simp only [enc, yes, PyData.canLay0, PyData.canLayAll0, h1, lay_lab] <;> decide +kernel
  | .range l b => by
    have h1 := lay_encs b
    simp only [enc, yes, PyData.canLay0, PyData.canLayAll0, h1, lay_lab]; decide +kernel
  | .sw k l cs => by
    have h1 := lay_encC k cs
    cases k <;> simp only [enc, yes, PyData.canLay0, PyData.canLayAll0, h1, lay_lab] <;> decide +kernel
theorem lay_encs : ∀ ss : Sts, PyData.canLayAll0 (encs ss) = true
  | .nil => by simp only [encs]; rfl
  | .cons s r => by simp only [encs, PyData.canLayAll0, lay_enc s, lay_encs r]; rfl
theorem lay_encC (k : Sw) : ∀ cs : Cs, PyData.canLayAll0 (encCs k cs) = true
  | .nil => by simp only [encCs]; rfl
  | .cons d b r => by
    have h1 := lay_encs b
    have h2 := lay_encC k r
    cases d <;> cases k <;> simp only [encCs, swHead, yes, PyData.canLay0, PyData.canLayAll0, h1, h2] <;> decide +kernel
end
theorem dT {n : Nat} {l : List PyData} (h : PyData.depthAll l ≤ n) : (PyData.tuple l).depth ≤ n + 1 := by
  simp only [PyData.depth]; lia
theorem dA0 {n : Nat} : PyData.depthAll [] ≤ n := Nat.zero_le _
theorem dA1 {n : Nat} {d : PyData} {l : List PyData} (h : d.depth ≤ n) (k : PyData.depthAll l ≤ n) : PyData.depthAll (d :: l) ≤ n := by
  simp only [PyData.depthAll]; exact Nat.max_le.mpr ⟨h, k⟩
theorem dS {n : Nat} {x : Str} : (PyData.str x).depth ≤ n := Nat.zero_le _
theorem dI {n : Nat} {x : Int} : (PyData.int x).depth ≤ n := Nat.zero_le _
theorem dB {n : Nat} {x : Bool} : (PyData.bool x).depth ≤ n := Nat.zero_le _
theorem dN {n : Nat} : PyData.none.depth ≤ n := Nat.zero_le _
theorem dL {n : Nat} {l : Lab} : (encL l).depth ≤ n := by rw [dep_lab]; exact Nat.zero_le _
theorem dY {n : Nat} : yes.depth ≤ n + 1 := dT (dA1 dS (dA1 dI (dA1 dS dA0)))
theorem dC {n : Nat} (c : Bool) : (if c then yes else PyData.none).depth ≤ n + 1 := by
  cases c
  · exact dN
  · exact dY
theorem dK {n : Nat} {l : List PyData} (h : PyData.depthAll l ≤ n) : (PyData.tuple [.str "block", .int 0, .tuple l]).depth ≤ n + 2 := dT (dA1 dS (dA1 dI (dA1 (dT h) dA0)))
theorem dH (k : Sw) (d : Bool) {n : Nat} : (if d then PyData.none else swHead k).depth ≤ n + 2 := by
  cases d
  · cases k
    · exact dT (dA1 dY dA0)
    · exact dT (dA1 dN dA0)
    · exact dT (dA1 dS (dA1 dI (dA1 dY (dA1 dY dA0))))
  · exact dN
mutual
theorem dep_enc : ∀ s : St, (enc s).depth ≤ 4 * hgtS s + 5
  | .ret => by simp only [enc, hgtS]; exact dT (dA1 dS (dA1 dI (dA1 (dT dA0) dA0)))
  | .fall => by simp only [enc, hgtS]; exact dT (dA1 dS (dA1 dI dA0))
  | .call p => by simp only [enc, encCall, hgtS]; exact dT (dA1 dS (dA1 dI (dA1 (dT (dA1 dS (dA1 dI (dA1 (dT (dA1 dS (dA1 dI (dA1 dS dA0)))) (dA1 (dT dA0) (dA1 dB dA0)))))) dA0)))
  | .brk l => by simp only [enc, hgtS]; exact dT (dA1 dS (dA1 dI (dA1 dL dA0)))
  | .cont l => by simp only [enc, hgtS]; exact dT (dA1 dS (dA1 dI (dA1 dL dA0)))
  | .block b => by
    simp only [enc, hgtS]
    exact Nat.le_trans (dK (dep_encs b)) (by lia)
  | .if1 b => by
    simp only [enc, hgtS]
    exact Nat.le_trans (dT (dA1 dS (dA1 dI (dA1 dN (dA1 dY (dA1 (dK (dep_encs b)) (dA1 dN dA0))))))) (by lia)
  | .if2 b o => by
    simp only [enc, hgtS]
    have h1 : 4 * hgt b + 5 ≤ 4 * max (hgt b + 1) (hgt o + 2) + 1 := by have := Nat.le_max_left (hgt b + 1) (hgt o + 2); lia
    have h2 : 4 * hgt o + 5 ≤ 4 * max (hgt b + 1) (hgt o + 2) + 1 := by have := Nat.le_max_right (hgt b + 1) (hgt o + 2); lia
    exact Nat.le_trans (dT (dA1 dS (dA1 dI (dA1 dN (dA1 dY (dA1 (dK (Nat.le_trans (dep_encs b) h1)) (dA1 (dK (Nat.le_trans (dep_encs o) h2)) dA0))))))) (by lia)
  | .forr l c b => by
    simp only [enc, hgtS]
    exact Nat.le_trans (dT (dA1 dS (dA1 dI (dA1 dL (dA1 dN (dA1 (dC c) (dA1 dN (dA1 (dK (dep_encs b)) dA0)))))))) (by lia)
  | .range l b => by
    simp only [enc, hgtS]
    exact Nat.le_trans (dT (dA1 dS (dA1 dI (dA1 dL (dA1 (dT dA0) (dA1 dB (dA1 dY (dA1 (dK (dep_encs b)) dA0)))))))) (by lia)
  | .sw k l cs => by
    have h1 := dep_encC k cs
    cases k <;> simp only [enc, hgtS]
    · exact Nat.le_trans (dT (dA1 dS (dA1 dI (dA1 dL (dA1 dN (dA1 dY (dA1 (dT h1) dA0))))))) (by lia)
    · exact Nat.le_trans (dT (dA1 dS (dA1 dI (dA1 dL (dA1 dN (dA1 dN (dA1 dY (dA1 (dT h1) dA0)))))))) (by lia)
    · exact Nat.le_trans (dT (dA1 dS (dA1 dI (dA1 dL (dA1 (dT h1) dA0))))) (by lia)
theorem dep_encs : ∀ ss : Sts, PyData.depthAll (encs ss) ≤ 4 * hgt ss + 5
  | .nil => by simp only [encs]; exact dA0
  | .cons s r => by
    simp only [encs, hgt]
    exact dA1 (Nat.le_trans (dep_enc s) (by have := Nat.le_max_left (hgtS s) (hgt r); lia)) (Nat.le_trans (dep_encs r) (by have := Nat.le_max_right (hgtS s) (hgt r); lia))
theorem dep_encC (k : Sw) : ∀ cs : Cs, PyData.depthAll (encCs k cs) ≤ 4 * hgtC cs + 7
  | .nil => by simp only [encCs]; exact dA0
  | .cons d b r => by
    simp only [encCs, hgtC]
    exact dA1 (dT (dA1 (dH k d) (dA1 (dT (Nat.le_trans (dep_encs b) (by have := Nat.le_max_left (hgt b) (hgtC r); lia : 4 * hgt b + 5 ≤ 4 * max (hgt b) (hgtC r) + 5))) dA0))) (Nat.le_trans (dep_encC k r) (by have := Nat.le_max_right (hgt b) (hgtC r); lia))
end
theorem shaped_of {d : PyData} (h1 : d.canLay0 = true) (h2 : d.depth ≤ 64) : SeqAt.shaped d = true := by unfold SeqAt.shaped; rw [h1, decide_eq_true h2]; rfl
theorem shaped_enc {s : St} (h : hgtS s ≤ 14) : SeqAt.shaped (enc s) = true := shaped_of (lay_enc s) (by have := dep_enc s; lia)
theorem shaped_encs {ss : Sts} (h : hgt ss ≤ 12) : SeqAt.shaped (.tuple (encs ss)) = true := shaped_of (by simp only [PyData.canLay0]; exact lay_encs ss) (by have := dep_encs ss; simp only [PyData.depth]; lia)
theorem canLayAll_of_mem : ∀ {xs : List PyData}, (∀ x ∈ xs, x.canLay0 = true) → PyData.canLayAll0 xs = true
  | [], _ => rfl
  | x :: r, h => by simp only [PyData.canLayAll0, h x (.head _), canLayAll_of_mem fun y hy => h y (.tail _ hy)]; rfl
theorem depthAll_of_mem {n : Nat} : ∀ {xs : List PyData}, (∀ x ∈ xs, x.depth ≤ n) → PyData.depthAll xs ≤ n
  | [], _ => by simp only [PyData.depthAll]; lia
  | x :: r, h => by have h1 := h x (.head _); have h2 := depthAll_of_mem fun y hy => h y (.tail _ hy); simp only [PyData.depthAll]; lia
theorem shaped_list {xs : List PyData} (h : ∀ x ∈ xs, x.canLay0 = true ∧ x.depth ≤ 63) : SeqAt.shaped (.list xs) = true :=
  shaped_of (by simp only [PyData.canLay0]; exact canLayAll_of_mem fun x hx => (h x hx).1) (by have := depthAll_of_mem fun x hx => (h x hx).2; simp only [PyData.depth]; lia)
theorem shaped_tuple {xs : List PyData} (h : ∀ x ∈ xs, x.canLay0 = true ∧ x.depth ≤ 63) : SeqAt.shaped (.tuple xs) = true :=
  shaped_of (by simp only [PyData.canLay0]; exact canLayAll_of_mem fun x hx => (h x hx).1) (by have := depthAll_of_mem fun x hx => (h x hx).2; simp only [PyData.depth]; lia)
theorem lay_row (k : Sw) (r : Row) : (encRow k r).canLay0 = true := by
  have := lay_encs r.body
  unfold encRow
  cases r.dflt <;> cases k <;> simp only [swHead, yes, PyData.canLay0, PyData.canLayAll0, this] <;> decide +kernel
theorem dep_row (k : Sw) (r : Row) : (encRow k r).depth ≤ 4 * hgt r.body + 7 := dT (dA1 (dH k r.dflt) (dA1 (dT (dep_encs r.body)) dA0))
theorem eqv_nil (xs : List PyData) : PyData.eqv (.list xs) (.list []) = xs.isEmpty := by cases xs <;> rfl
theorem eqvT_nil (xs : List PyData) : PyData.eqv (.tuple xs) (.tuple []) = xs.isEmpty := by cases xs <;> rfl
theorem canLay_sh {d : PyData} (h : SeqAt.shaped d = true) : d.canLay0 = true := SeqAt.canLay_of_shaped h
end Mine
namespace Mine
theorem flatMap_one {α β : Type} (f : α → β) (l : List α) : (l.flatMap fun x => [f x]) = l.map f := by induction l <;> simp_all
/-- the lists within a statement, as the law takes them -/
noncomputable def parts : St → List Sts
  | .block b => [b]
  | .if1 b => [b]
  | .if2 b o => [b, o]
  | .forr _ _ b => [b]
  | .range _ b => [b]
  | .sw _ _ cs => cs.rows.map Row.body
  | .ret => []
  | .fall => []
  | .call _ => []
  | .brk _ => []
  | .cont _ => []
inductive Kd where
  | for_ | range | sw (k : Sw)
noncomputable def Kd.str : Kd → Str
  | .for_ => "for"
  | .range => "range"
  | .sw .switch => "switch"
  | .sw .typeswitch => "typeswitch"
  | .sw .choose => "choose"
noncomputable def Kd.isLoop : Kd → Bool
  | .for_ => true
  | .range => true
  | .sw _ => false
noncomputable def encA (p : Lab × Kd) : PyData := .tuple [encL p.1, .str p.2.str]
set_option genInjectivity false in
set_option genSizeOf false in
structure Way where
  brk : Bool
  lab : Lab
  around : List (Lab × Kd)
noncomputable def encW (w : Way) : PyData := .tuple [.str (if w.brk then "break" else "continue"), encL w.lab, .list (w.around.map encA)]
/-- what a loop or a switch puts around -/
noncomputable def ring : St → List (Lab × Kd)
  | .forr l _ _ => [(l, .for_)]
  | .range l _ => [(l, .range)]
  | .sw k l _ => [(l, .sw k)]
  | .ret => []
  | .fall => []
  | .call _ => []
  | .brk _ => []
  | .cont _ => []
  | .block _ => []
  | .if1 _ => []
  | .if2 _ _ => []
noncomputable def here (ar : List (Lab × Kd)) : St → List Way
  | .brk l => [⟨true, l, ar⟩]
  | .cont l => [⟨false, l, ar⟩]
  | .ret => []
  | .fall => []
  | .call _ => []
  | .block _ => []
  | .if1 _ => []
  | .if2 _ _ => []
  | .forr _ _ _ => []
  | .range _ _ => []
  | .sw _ _ _ => []
mutual
noncomputable def ways (ar : List (Lab × Kd)) : Sts → List Way
  | .nil => []
  | .cons s r => waysS ar s ++ ways ar r
noncomputable def waysS (ar : List (Lab × Kd)) : St → List Way
  | .brk l => [⟨true, l, ar⟩]
  | .cont l => [⟨false, l, ar⟩]
  | .block b => ways ar b
  | .if1 b => ways ar b
  | .if2 b o => ways ar b ++ ways ar o
  | .forr l _ b => ways (ar ++ [(l, .for_)]) b
  | .range l b => ways (ar ++ [(l, .range)]) b
  | .sw k l cs => waysC (ar ++ [(l, .sw k)]) cs
  | .ret => []
  | .fall => []
  | .call _ => []
noncomputable def waysC (ar : List (Lab × Kd)) : Cs → List Way
  | .nil => []
  | .cons _ b r => ways ar b ++ waysC ar r
end
theorem ways_flat (ar : List (Lab × Kd)) : ∀ ss : Sts, ways ar ss = ss.toList.flatMap (waysS ar)
  | .nil => by simp only [ways, Sts.toList, List.flatMap_nil]
  | .cons s r => by simp only [ways, Sts.toList, List.flatMap_cons, ways_flat ar r]
theorem waysC_flat (ar : List (Lab × Kd)) : ∀ cs : Cs, waysC ar cs = (cs.rows.map Row.body).flatMap (ways ar)
  | .nil => by simp only [waysC, Cs.rows, List.map_nil, List.flatMap_nil]
  | .cons d b r => by simp only [waysC, Cs.rows, List.map_cons, List.flatMap_cons, waysC_flat ar r]
theorem waysS_eq (ar : List (Lab × Kd)) (s : St) : waysS ar s = here ar s ++ (parts s).flatMap (ways (ar ++ ring s)) := by
  cases s <;> simp [waysS, here, parts, ring, waysC_flat]
noncomputable def toldL : St → List (Fin 4)
  | .forr l _ _ => l.toList
  | .range l _ => l.toList
  | .sw _ l _ => l.toList
  | .ret => []
  | .fall => []
  | .call _ => []
  | .brk _ => []
  | .cont _ => []
  | .block _ => []
  | .if1 _ => []
  | .if2 _ _ => []
mutual
noncomputable def labels : Sts → List (Fin 4)
  | .nil => []
  | .cons s r => labelsS s ++ labels r
noncomputable def labelsS : St → List (Fin 4)
  | .block b => labels b
  | .if1 b => labels b
  | .if2 b o => labels b ++ labels o
  | .forr l c b => toldL (.forr l c b) ++ labels b
  | .range l b => toldL (.range l b) ++ labels b
  | .sw k l cs => toldL (.sw k l cs) ++ labelsC cs
  | .ret => []
  | .fall => []
  | .call _ => []
  | .brk _ => []
  | .cont _ => []
noncomputable def labelsC : Cs → List (Fin 4)
  | .nil => []
  | .cons _ b r => labels b ++ labelsC r
end
theorem labels_flat : ∀ ss : Sts, labels ss = ss.toList.flatMap labelsS
  | .nil => by simp only [labels, Sts.toList, List.flatMap_nil]
  | .cons s r => by simp only [labels, Sts.toList, List.flatMap_cons, labels_flat r]
theorem labelsC_flat : ∀ cs : Cs, labelsC cs = (cs.rows.map Row.body).flatMap labels
  | .nil => by simp only [labelsC, Cs.rows, List.map_nil, List.flatMap_nil]
  | .cons d b r => by simp only [labelsC, Cs.rows, List.map_cons, List.flatMap_cons, labelsC_flat r]
theorem labelsS_eq (s : St) : labelsS s = toldL s ++ (parts s).flatMap labels := by
  cases s <;> simp [labelsS, toldL, parts, labelsC_flat]
theorem hgt_part {s : St} {b : Sts} (h : b ∈ parts s) : hgt b + 1 ≤ hgtS s := by
  cases s <;> simp only [parts, List.mem_cons, List.not_mem_nil, or_false] at h
  case block => subst h; simp only [hgtS]; lia
  case if1 => subst h; simp only [hgtS]; lia
  case if2 => rcases h with rfl | rfl <;> simp only [hgtS] <;> lia
  case forr => subst h; simp only [hgtS]; lia
  case range => subst h; simp only [hgtS]; lia
  case sw =>
    obtain ⟨r, hr, rfl⟩ := List.mem_map.mp h
    have := hgt_row hr
    simp only [hgtS]; lia
theorem size_part {s : St} {b : Sts} (h : b ∈ parts s) : size b + 1 ≤ sizeS s := by
  cases s <;> simp only [parts, List.mem_cons, List.not_mem_nil, or_false] at h
  case block => subst h; simp only [sizeS]; lia
  case if1 => subst h; simp only [sizeS]; lia
  case if2 b o => have h1 := size_pos b; have h2 := size_pos o; rcases h with rfl | rfl <;> simp only [sizeS] <;> lia
  case forr => subst h; simp only [sizeS]; lia
  case range => subst h; simp only [sizeS]; lia
  case sw =>
    obtain ⟨r, hr, rfl⟩ := List.mem_map.mp h
    have := size_row hr
    simp only [sizeS]; lia
theorem parts_len (s : St) : (parts s).length ≤ sizeS s := by
  cases s <;> simp only [parts, List.length_cons, List.length_nil, List.length_map, sizeS] <;> (try lia)
  rename_i cs; have := size_rows cs; lia
mutual
theorem ways_len : ∀ (ss : Sts) (ar : List (Lab × Kd)), (ways ar ss).length + 1 ≤ size ss
  | .nil, ar => by simp only [ways, size, List.length_nil]; lia
  | .cons s r, ar => by have h1 := waysS_len s ar; have h2 := ways_len r ar; simp only [ways, size, List.length_append]; lia
theorem waysS_len : ∀ (s : St) (ar : List (Lab × Kd)), (waysS ar s).length ≤ sizeS s
  | .ret, _ | .fall, _ | .call _, _ => by simp only [waysS, sizeS, List.length_nil]; lia
  | .brk _, _ | .cont _, _ => by simp only [waysS, sizeS, List.length_cons, List.length_nil]; lia
  | .block b, ar => by have h1 := ways_len b ar; simp only [waysS, sizeS]; lia
  | .if1 b, ar => by have h1 := ways_len b ar; simp only [waysS, sizeS]; lia
  | .if2 b o, ar => by have h1 := ways_len b ar; have h2 := ways_len o ar; simp only [waysS, sizeS, List.length_append]; lia
  | .forr l _ b, ar => by have h1 := ways_len b (ar ++ [(l, .for_)]); simp only [waysS, sizeS]; lia
  | .range l b, ar => by have h1 := ways_len b (ar ++ [(l, .range)]); simp only [waysS, sizeS]; lia
  | .sw k l cs, ar => by have h1 := waysC_len cs (ar ++ [(l, .sw k)]); simp only [waysS, sizeS]; lia
theorem waysC_len : ∀ (cs : Cs) (ar : List (Lab × Kd)), (waysC ar cs).length + 1 ≤ sizeC cs
  | .nil, ar => by simp only [waysC, sizeC, List.length_nil]; lia
  | .cons _ b r, ar => by have h1 := ways_len b ar; have h2 := waysC_len r ar; simp only [waysC, sizeC, List.length_append]; lia
end
mutual
theorem labels_len : ∀ ss : Sts, (labels ss).length + 1 ≤ size ss
  | .nil => by simp only [labels, size, List.length_nil]; lia
  | .cons s r => by have h1 := labelsS_len s; have h2 := labels_len r; simp only [labels, size, List.length_append]; lia
theorem labelsS_len : ∀ s : St, (labelsS s).length ≤ sizeS s
  | .ret | .fall | .call _ | .brk _ | .cont _ => by simp only [labelsS, sizeS, List.length_nil]; lia
  | .block b => by have h1 := labels_len b; simp only [labelsS, sizeS]; lia
  | .if1 b => by have h1 := labels_len b; simp only [labelsS, sizeS]; lia
  | .if2 b o => by have h1 := labels_len b; have h2 := labels_len o; simp only [labelsS, sizeS, List.length_append]; lia
  | .forr l _ b => by have h1 := labels_len b; cases l <;> simp only [labelsS, toldL, Option.toList, sizeS, List.length_append, List.length_cons, List.length_nil] <;> lia
  | .range l b => by have h1 := labels_len b; cases l <;> simp only [labelsS, toldL, Option.toList, sizeS, List.length_append, List.length_cons, List.length_nil] <;> lia
  | .sw k l cs => by have h1 := labelsC_len cs; cases l <;> simp only [labelsS, toldL, Option.toList, sizeS, List.length_append, List.length_cons, List.length_nil] <;> lia
theorem labelsC_len : ∀ cs : Cs, (labelsC cs).length + 1 ≤ sizeC cs
  | .nil => by simp only [labelsC, sizeC, List.length_nil]; lia
  | .cons _ b r => by have h1 := labels_len b; have h2 := labelsC_len r; simp only [labelsC, sizeC, List.length_append]; lia
end
end Mine
namespace Mine
section
variable {prog : Program} {w : World} {A : Around} {E : Value → Shared → Prop} {s : Shared}
theorem adjust_last (n : Nat) : Builtin.Slice.sliceAdjust (some (-1 : Int)) none 1 (n : Int) = (((n - 1 : Nat) : Int), (n : Int)) := by
  unfold Builtin.Slice.sliceAdjust
  have h1 : ¬ ((1 : Int) < 0) := by lia
  have h2 : ((-1 : Int) < 0) := by lia
  simp only [h1, h2, if_false, if_true]
  congr 1
  lia
theorem sliceApplied_last {sl : Addr} {n : Nat} {u : Tok} {Q : Int × Int × Nat → Shared → Prop} (hs : s.heap.IsSliceOf sl (.int (-1) u) .none .none) (h : Q (((n - 1 : Nat) : Int), 1, n - (n - 1)) s) :
    wpAny (model prog w) A (Builtin.Slice.sliceApplied (.ref sl) (pure (n : Int))) Q E s := by
  obtain ⟨os, hos, hcs, hds⟩ := id hs
  unfold Builtin.Slice.sliceApplied Builtin.Slice.sliceFields
  refine wpAny_bind (wpAny_bind (wpAny_field hos hds (x := .int (-1) u) rfl (wpAny_bind (wpAny_field hos hds (x := .none) rfl (wpAny_bind (wpAny_field hos hds (x := .none) rfl (wpAny_pure ?_)))))))
  refine wpAny_bind (slicePart_none ?_)
  show wpAny _ _ (if ((1 : Int) == 0) = true then _ else _) _ _ s
  rw [if_neg (by decide)]
  refine wpAny_bind (slicePart_int (wpAny_bind (slicePart_none (wpAny_bind (wpAny_pure ?_)))))
  show wpAny _ _ (match Builtin.Slice.sliceAdjust (some (-1 : Int)) none 1 (n : Int) with | (lo, hi) => pure (lo, (1 : Int), Builtin.Slice.slicePlaces lo hi 1)) _ _ s
  rw [adjust_last n]
  show wpAny _ _ (pure (((n - 1 : Nat) : Int), (1 : Int), Builtin.Slice.slicePlaces ((n - 1 : Nat) : Int) (n : Int) 1)) _ _ s
  rw [places_from (n - 1) n (by lia)]
  exact wpAny_pure h
theorem getItem_tuple_last {t sl : Addr} {items : Array Value} {u : Tok} {Q : Value → Shared → Prop} (ht : IsTup s.heap t items) (hs : s.heap.IsSliceOf sl (.int (-1) u) .none .none)
    (h1 : items.size ≤ 1 → Q (.ref t) s)
    (h2 : 2 ≤ items.size → Q (.ref s.heap.objs.size) { s with heap := s.heap.push { cls := .type "tuple", data := .seq (items.toList.drop (items.size - 1)).toArray } })
    (hsz : items.size ≤ sizeLine) : wpAny (model prog w) A (getItem (.ref t) (.ref sl)) Q E s := by
  have hdrop : sizeOk (.seq (items.toList.drop (items.size - 1)).toArray) := by
    show (items.toList.drop (items.size - 1)).toArray.size ≤ sizeLine
    rw [List.size_toArray, List.length_drop, Array.length_toList]
    lia
  obtain ⟨os, hos, hcs, hds⟩ := id hs
  have hTs : s.TypeIs (.ref sl) "slice" := ⟨os, hos, hcs⟩
  unfold getItem
  try with_reducible refine wpAny_holding ?_
  first | refine wpAny_bind (wpAny_pure ?_) | skip
  refine wpAny_bind (wpAny_sequenceKey ht.typeIs (by decide) ?_)
  refine wpAny_bind (wpAny_callSpecial?_slot (name := Str.ofString "__getitem__") ht.typeIs PySem.F.slot_tuple_getitem
    (wpAny_call_entry PySem.F.slot_tuple_getitem ht.typeIs PySem.F.entry_tuple_getitem ?_ (PySem.F.args_tuple_getitem_2 _ _)))
  show wpAny _ _ (Builtin.Tuple.tupleItemsOf (.ref t) >>= _) _ _ s
  refine wpAny_bind (tupleItemsOf_ ht ?_)
  refine wpAny_bind (wpAny_typeOf hTs ?_)
  rw [if_pos (by decide)]
  refine wpAny_bind (sliceApplied_last hs ?_)
  show wpAny _ _ (if ((((items.size - 1 : Nat) : Int)) == 0 && (1 : Int) == 1 && (items.size - (items.size - 1)) == items.size) = true then _ else _) _ _ s
  by_cases hc : items.size ≤ 1
  · rw [if_pos (by
      have e1 : (((items.size - 1 : Nat) : Int) == 0) = true := by rw [beq_iff_eq]; lia
      have e2 : ((items.size - (items.size - 1)) == items.size) = true := by rw [beq_iff_eq]; lia
      rw [e1, e2]; rfl)]
    refine wpAny_bind (m := Builtin.Tuple.tupleIsExact _) ?_
    unfold Builtin.Tuple.tupleIsExact
    refine wpAny_bind (wpAny_typeOf ht.typeIs ?_)
    refine wpAny_pure ?_
    rw [if_pos (by decide)]
    exact wpAny_bind (wpAny_rule (wpAny_pure ⟨_, rfl, wpAny_pure (h1 hc)⟩))
  · rw [if_neg (by
      have e1 : (((items.size - 1 : Nat) : Int) == 0) = false := by rw [beq_eq_false_iff_ne]; lia
      rw [e1]; simp)]
    rw [pick_from items (items.size - 1) (by lia)]
    have h := h2 (by lia)
    first
      | exact wpAny_bind (m := Builtin.Tuple.tupleExact _) (wpAny_newObj_type (wpAny_pure ⟨_, rfl, wpAny_pure h⟩) hdrop)
      | exact wpAny_bind (m := Builtin.Tuple.tupleExact _) (wpAny_newObj_type (wpAny_bind (wpAny_pure (wpAny_pure ⟨_, rfl, wpAny_pure h⟩))) hdrop)
      | exact wpAny_bind (wpAny_bind (m := Builtin.Tuple.tupleExact _) (wpAny_newObj_type (wpAny_pure (wpAny_pure ⟨_, rfl, wpAny_pure h⟩)) hdrop))
      | exact wpAny_bind (wpAny_bind (m := Builtin.Tuple.tupleExact _) (wpAny_newObj_type (wpAny_pure ⟨_, rfl, wpAny_pure h⟩) hdrop))
end
section
variable {c : Cx} {μ : Mu} {ρ : Rho} {P : Mu → AV → Prop}
@[reducible] noncomputable def kTail (P : Mu → AV → Prop) : Mu → AV → Prop := fun μ a => ∃ ds, a = .d (.tuple ds) ∧ ds.length ≤ 1000000 ∧ P μ (.d (.tuple (ds.drop (ds.length - 1))))
theorem kTail.mk {ds : List PyData} (h : ds.length ≤ 1000000) (k : P μ (.d (.tuple (ds.drop (ds.length - 1))))) : kTail P μ (.d (.tuple ds)) := ⟨ds, rfl, h, k⟩
theorem Ev.tail1 {v : Expr} {k p q p2 pos} (h : Ev c μ ρ v (kTail P)) : Ev c μ ρ (.Subscript v (.Slice (some (.UnaryOp .USub (.Constant (.int 1) k p) q)) Option.none Option.none p2) pos) P := fun Φ s I => by
  refine Subscript_ (W.mono (h Φ s I) fun v s₁ h₁ => ?_)
  obtain ⟨Φ₁, μ₁, a, l₁, I₁, r₁, ds, rfl, hn, hp⟩ := h₁
  obtain ⟨A, vs, rfl, h1, h2⟩ := ra_tup' r₁
  refine wpAny_Slice ?_
  rw [evalPart_some]
  refine UnaryOp_ (wpAny_Constant_int (PyProof.Rows.neg_int ?_))
  rw [evalPart_none]
  refine wpAny_pure (wpAny_pure ?_)
  obtain ⟨m, J⟩ := I₁.keeps (tk := s₁.toks + 1 + 1) (h' := s₁.heap.push { cls := .type "slice", data := .fields #[.int (-1) (s₁.toks + 1), .none, .none] }) fun _ _ e => Heap.get?_push_of_some _ e
  have ht2 : IsTup (s₁.heap.push { cls := .type "slice", data := .fields #[.int (-1) (s₁.toks + 1), .none, .none] }) A vs.toArray := isTup_of_frz J.frz h1
  have hl : vs.length = ds.length := h2.length
  refine tail_any ht2.typeIs PySem.F.slot_tuple_getitem.lookup (getItem_tuple_last ht2 (Heap.IsSliceOf.new ..) (fun hc => ?_) (fun hc => ?_) (by rw [List.size_toArray, hl, sizeLine_eq]; lia)) (ops := [.ref s₁.heap.objs.size, .ref A]) rfl
  · have : ds.drop (ds.length - 1) = ds := by
      have : ds.length - 1 = 0 := by rw [List.size_toArray, hl] at hc; lia
      rw [this]; rfl
    rw [this] at hp
    exact ⟨Φ₁, μ₁, _, l₁.trans m, J, r₁, hp⟩
  · obtain ⟨le, J2⟩ := J.newSeq true (vs.drop (ds.length - 1)) 0
    have e : vs.toArray.toList.drop (vs.toArray.size - 1) = vs.drop (ds.length - 1) := by rw [List.size_toArray, hl]
    rw [e]
    exact ⟨_, μ₁, _, (l₁.trans m).trans le, J2, ra_tup (Frz.put_self _ _ _) ((h2.drop (ds.length - 1)).mono le.le), hp⟩
end
end Mine
namespace Mine
noncomputable def encLs (l : List (Fin 4)) : List PyData := l.map fun i => .str (labStr i)
noncomputable def SrcOk (μ : Mu) (S : Addr) : Prop := ∃ a b, (S, MO.list [.int a, .int b]) ∈ μ ∧ 0 ≤ b ∧ b < 2147483647
noncomputable def Moved (μ : Mu) (S : Addr) (ν : Mu) : Prop := ∃ a b, ν = muSet μ S (.list [.int a, .int b]) ∧ 0 ≤ b ∧ b < 2147483647
theorem Moved.ok {μ ν : Mu} {S : Addr} (h : Moved μ S ν) (k : SrcOk μ S) : SrcOk ν S := by
  obtain ⟨a, b, rfl, h1, h2⟩ := h
  obtain ⟨a', b', hm, _⟩ := k
  exact ⟨a, b, muSet_mem hm, h1, h2⟩
theorem Moved.trans {μ ν ξ : Mu} {S : Addr} (h : Moved μ S ν) (k : Moved ν S ξ) : Moved μ S ξ := by
  obtain ⟨a, b, rfl, h1, h2⟩ := h
  obtain ⟨a', b', rfl, h3, h4⟩ := k
  exact ⟨a', b', muSet_set .., h3, h4⟩
theorem Moved.keys {μ ν : Mu} {S : Addr} (h : Moved μ S ν) : ν.map (·.1) = μ.map (·.1) := by
  obtain ⟨a, b, rfl, _⟩ := h
  exact muSet_keys ..
/-- under a list of the body's own -/
theorem Moved.cons {μ ν : Mu} {S F : Addr} {m : MO} (hF : F ∉ μ.map (·.1)) (k : SrcOk μ S) (h : Moved ((F, m) :: μ) S ν) : ∃ ν', ν = (F, m) :: ν' ∧ Moved μ S ν' := by
  obtain ⟨a, b, rfl, h1, h2⟩ := h
  obtain ⟨a', b', hm, _⟩ := k
  have hne : F ≠ S := fun q => hF (q ▸ List.mem_map_of_mem (f := (·.1)) hm)
  exact ⟨_, muSet_cons_ne hne, a, b, rfl, h1, h2⟩
theorem SrcOk.cons {μ : Mu} {S F : Addr} {m : MO} (k : SrcOk μ S) : SrcOk ((F, m) :: μ) S := by
  obtain ⟨a', b', hm, h⟩ := k
  exact ⟨a', b', .tail _ hm, h⟩
/-- a function that draws from the source -/
noncomputable def Gen (g : Gd) (r : Nat) (f : Addr) (as : List AV) (Q : AV → Prop) : Prop := ∀ S μ, SrcOk μ S → Sat g r (.ref f) (.v (.ref S) :: as) μ fun ν a => Moved μ S ν ∧ Q a
theorem Gen.use {g : Gd} {r : Nat} {f : Addr} {as : List AV} {Q : AV → Prop} (h : Gen g r f as Q) {c : Cx} {ρ : Rho} {μ : Mu} {S : Addr} {P : Mu → AV → Prop} (hs : SrcOk μ S) (hg : c.g = g) (hr : r ≤ c.room) (k : ∀ ν a, Moved μ S ν → Q a → P ν a) : CallV c ρ μ (.ref f) (.v (.ref S) :: as) P :=
  (h S μ hs c ρ hg hr).mono fun ν a ⟨h1, h2⟩ => k ν a h1 h2
noncomputable def ofList : List St → Sts
  | [] => .nil
  | s :: r => .cons s (ofList r)
theorem encs_ofList : ∀ l : List St, encs (ofList l) = l.map enc
  | [] => by simp only [ofList, encs, List.map_nil]
  | s :: r => by simp only [ofList, encs, List.map_cons, encs_ofList r]
theorem hgt_ofList {n : Nat} : ∀ {l : List St}, (∀ s ∈ l, hgtS s ≤ n) → hgt (ofList l) ≤ n
  | [], _ => by simp only [ofList, hgt]; lia
  | s :: r, h => by
    have h1 := h s (.head _)
    have h2 := hgt_ofList (l := r) fun x hx => h x (.tail _ hx)
    simp only [ofList, hgt]; lia
theorem size_ofList {n : Nat} : ∀ {l : List St}, (∀ s ∈ l, sizeS s ≤ n) → size (ofList l) ≤ l.length * n + 1
  | [], _ => by simp only [ofList, size, List.length_nil]; lia
  | s :: r, h => by
    have h1 := h s (.head _)
    have h2 := size_ofList (l := r) fun x hx => h x (.tail _ hx)
    simp only [ofList, size, List.length_cons, Nat.add_mul]; lia
noncomputable def cofList : List Row → Cs
  | [] => .nil
  | r :: l => .cons r.dflt r.body (cofList l)
theorem rows_cofList : ∀ l : List Row, (cofList l).rows = l
  | [] => rfl
  | r :: l => by simp only [cofList, Cs.rows, rows_cofList l]
end Mine
namespace Mine
/-- comparisons of data -/
noncomputable def seqD : PyData → Option (List PyData)
  | .tuple xs => some xs
  | .list xs => some xs
  | _ => none
noncomputable def tupD : PyData → Option (List PyData)
  | .tuple xs => some xs
  | _ => none
noncomputable def boolD : PyData → Option Bool
  | .bool b => some b
  | _ => none
noncomputable def avD : AV → Option PyData
  | .d x => some x
  | _ => none
noncomputable def cmpP (op : CmpOp) (a b : PyData) : Option Bool := match op with
  | .Eq => if SeqAt.shaped a && SeqAt.shaped b then some (PyData.eqv a b) else none
  | .NotEq => if SeqAt.shaped a && SeqAt.shaped b then some (!PyData.eqv a b) else none
  | .In => (seqD b).bind fun xs => if SeqAt.shaped a && SeqAt.shaped (.list xs) then some (xs.any fun y => PyData.eqv y a) else none
  | .Is => if isNone b then some (isNone a) else none
  | .IsNot => if isNone b then some (!isNone a) else none
  | _ => none
noncomputable def constD : Const → Option PyData
  | .str x => some (.str x)
  | .int x => some (.int x)
  | .bool x => some (.bool x)
  | .none => some .none
  | _ => none
noncomputable def intOf : Const → Option Int
  | .int k => some k
  | _ => none
noncomputable def mapO {α β : Type} (f : α → Option β) : List α → Option (List β)
  | [] => some []
  | x :: r => (f x).bind fun y => (mapO f r).bind fun ys => some (y :: ys)
/-- what of an expression is looked at -/
inductive EV where
  | other | name (x : Str) | const (k : Const) | sub (v i : Expr) | cmp (l : Expr) (op : CmpOp) (r : Expr) | tup (es : List Expr) | not (x : Expr) | bool (op : BoolOp) (es : List Expr)
noncomputable def cmpV (l : Expr) : List CmpOp → List Expr → EV
  | [op], [r] => if behindInMarks op r then .other else .cmp l op r
  | _, _ => .other
noncomputable def notV (x : Expr) : UnaryOp → EV
  | .Not => .not x
  | _ => .other
noncomputable def eView : Expr → EV
  | .Name x _ => .name x
  | .Constant k _ _ => .const k
  | .Subscript v i _ => .sub v i
  | .Compare l ops rs _ => cmpV l ops rs
  | .Tuple es _ _ => .tup es
  | .UnaryOp o x _ => notV x o
  | .BoolOp op es _ => .bool op es
  | _ => .other
/-- the expression behind it -/
inductive Seen : Expr → EV → Prop
  | other (e : Expr) : Seen e .other
  | name (x : Str) (p : Pos) : Seen (.Name x p) (.name x)
  | const (k : Const) (y) (p : Pos) : Seen (.Constant k y p) (.const k)
  | sub (v i : Expr) (p : Pos) : Seen (.Subscript v i p) (.sub v i)
  | cmp (l : Expr) (op : CmpOp) (r : Expr) (p : Pos) (h : behindInMarks op r = false) : Seen (.Compare l [op] [r] p) (.cmp l op r)
  | tup (es : List Expr) (y) (p : Pos) : Seen (.Tuple es y p) (.tup es)
  | not (x : Expr) (p : Pos) : Seen (.UnaryOp .Not x p) (.not x)
  | bool (op : BoolOp) (es : List Expr) (p : Pos) : Seen (.BoolOp op es p) (.bool op es)
theorem seen (e : Expr) : Seen e (eView e) := by
  cases e
  case Name => exact .name _ _
  case Constant => exact .const _ _ _
  case Subscript => exact .sub _ _ _
  case Tuple => exact .tup _ _ _
  case BoolOp => exact .bool _ _ _
  case UnaryOp o x p => cases o <;> first | exact .not _ _ | exact .other _
  case Compare l ops rs p =>
    show Seen _ (cmpV l ops rs)
    unfold cmpV
    split
    · split
      · exact .other _
      · rename_i h; exact .cmp _ _ _ _ (Bool.eq_false_iff.mpr h)
    · exact .other _
  all_goals exact .other _
noncomputable def idxD (e : Expr) : Option Int := match eView e with
  | .const k => intOf k
  | _ => none
noncomputable def pevV (ρ : Rho) (f : Expr → Option PyData) : EV → Option PyData
  | .name x => (look ρ x).bind avD
  | .const k => constD k
  | .sub v i => (idxD i).bind fun k => if -(2 ^ 63) ≤ k ∧ k < 2 ^ 63 then (f v).bind fun d => (tupD d).bind fun ds => itemAt ds k else none
  | .cmp l op r => (f l).bind fun a => (f r).bind fun b => (cmpP op a b).map .bool
  | .tup es => if es.length ≤ 1000 then (mapO f es).bind fun ds => some (.tuple ds) else none
  | _ => none
/-- an expression of names, constants, items, comparisons -/
noncomputable def pev (ρ : Rho) : Nat → Expr → Option PyData
  | 0, _ => none
  | n + 1, e => pevV ρ (pev ρ n) (eView e)
/-- a chain of tests -/
noncomputable def chain (f : Expr → Option Bool) (op : BoolOp) : List Expr → Option Bool
  | [] => some (match op with | .And => true | .Or => false)
  | x :: r => (f x).bind fun b => match op with
    | .And => if b then chain f op r else some false
    | .Or => if b then some true else chain f op r
noncomputable def tevV (ρ : Rho) (p : Expr → Option PyData) (f : Expr → Option Bool) : EV → Option Bool
  | .cmp l op r => (p l).bind fun a => (p r).bind fun b => cmpP op a b
  | .not x => (f x).map (!·)
  | .bool op es => chain f op es
  | .name x => (look ρ x).bind fun a => (avD a).bind boolD
  | _ => none
/-- a test -/
noncomputable def tev (ρ : Rho) : Nat → Expr → Option Bool
  | 0, _ => none
  | n + 1, e => tevV ρ (pev ρ n) (tev ρ n) (eView e)
section
variable {c : Cx} {μ : Mu} {ρ : Rho}
theorem cmpP_ok {op : CmpOp} {a b : PyData} {x : Bool} (h : cmpP op a b = some x) {P : Mu → AV → Prop} (k : P μ (.d (.bool x))) : Op2 c ρ (compareOp op) μ (.d a) (.d b) P := by
  have sh : ∀ {p q : Bool} {y : Bool}, (if p && q then some y else none) = some x → p = true ∧ q = true ∧ y = x := fun {p q y} h => by cases p <;> cases q <;> cases h; exact ⟨rfl, rfl, rfl⟩
  have nn : ∀ {d : PyData}, isNone d = true → d = .none := fun {d} h => by cases d <;> first | rfl | cases h
  cases op <;> simp only [cmpP] at h <;> (try cases h)
  · obtain ⟨h1, h2, rfl⟩ := sh h; exact Op2.eq h1 h2 k
  · obtain ⟨h1, h2, rfl⟩ := sh h; exact Op2.ne h1 h2 k
  · cases q : isNone b with
    | true => rw [q] at h; cases h; rw [nn q]; exact Op2.isNone k
    | false => rw [q] at h; cases h
  · cases q : isNone b with
    | true => rw [q] at h; cases h; rw [nn q]; exact Op2.isNotNone k
    | false => rw [q] at h; cases h
  · obtain ⟨xs, h1, h2⟩ := Option.bind_eq_some_iff.mp h
    obtain ⟨h3, h4, rfl⟩ := sh h2
    cases b <;> cases h1
    · exact Op2.inL h3 h4 k
    · exact Op2.inT h3 h4 k
theorem starEach_of {n : Nat} {e : Expr} {d : PyData} (h : pev ρ n e = some d) (rest : List Expr) (env : Env) : starEach (e :: rest) env = (false, eval e env) :: starEach rest env := by
  cases n with
  | zero => cases h
  | succ n =>
    change pevV ρ (pev ρ n) (eView e) = some d at h
    have s := seen e
    generalize eView e = w at h s
    cases s <;> first | rfl | cases h
theorem mapM_len {f : Expr → Option PyData} {es : List Expr} : ∀ {ds : List PyData}, mapO f es = some ds → ds.length = es.length := by
  induction es with
  | nil => intro ds h; cases h; rfl
  | cons e r ih =>
    intro ds h
    obtain ⟨d, h1, h⟩ := Option.bind_eq_some_iff.mp h
    obtain ⟨ds', h2, h3⟩ := Option.bind_eq_some_iff.mp h
    cases h3
    rw [List.length_cons, List.length_cons, ih h2]
theorem allD_map (ds : List PyData) : AllD (ds.map .d) = some ds := by
  induction ds with
  | nil => rfl
  | cons d r ih => simp only [List.map_cons, AllD, ih, Option.map_some]
theorem avD_eq {a : AV} {d : PyData} (h : avD a = some d) : a = .d d := by cases a <;> cases h; rfl
theorem pevs_of {n : Nat} (ih : ∀ (e : Expr) (d : PyData), pev ρ n e = some d → ∀ {μ : Mu} {P : Mu → AV → Prop}, P μ (.d d) → Ev c μ ρ e P) (es : List Expr) : ∀ (ds : List PyData), mapO (pev ρ n) es = some ds → ∀ {μ : Mu} {P : Mu → List AV → Prop}, P μ (ds.map .d) → Evs c μ ρ es P := by
  induction es with
  | nil => intro ds h μ P k; cases h; exact Evs.nil k
  | cons e r ih' =>
    intro ds h μ P k
    obtain ⟨d, h1, h⟩ := Option.bind_eq_some_iff.mp h
    obtain ⟨ds', h2, h3⟩ := Option.bind_eq_some_iff.mp h
    cases h3
    exact Evs.cons (ih e d h1 (ih' ds' h2 k)) (starEach_of h1 r c.env)
theorem tupD_eq {x : PyData} {ds : List PyData} (h : tupD x = some ds) : x = .tuple ds := by cases x <;> cases h; rfl
theorem boolD_eq {x : PyData} {b : Bool} (h : boolD x = some b) : x = .bool b := by cases x <;> cases h; rfl
theorem intOf_eq {x : Const} {j : Int} (h : intOf x = some j) : x = .int j := by cases x <;> cases h; rfl
theorem idxD_eq {i : Expr} {j : Int} (h1 : idxD i = some j) : ∃ a b, i = .Constant (.int j) a b := by
  unfold idxD at h1
  have s := seen i
  generalize eView i = w at h1 s
  cases s with
  | const x a b => exact ⟨a, b, by rw [intOf_eq h1]⟩
  | _ => cases h1
theorem constD_ok {x : Const} {y} {p : Pos} {d : PyData} {P : Mu → AV → Prop} (h : constD x = some d) (k : P μ (.d d)) : Ev c μ ρ (.Constant x y p) P := by
  cases x <;> cases h
  · exact Ev.none k
  · exact Ev.bool k
  · exact Ev.int k
  · exact Ev.str k
theorem sub_ok {v i : Expr} {p : Pos} {ds : List PyData} {j : Int} {d : PyData} {P : Mu → AV → Prop} (h : ∀ {P : Mu → AV → Prop}, P μ (.d (.tuple ds)) → Ev c μ ρ v P) (hi : idxD i = some j) (q : -(2 ^ 63) ≤ j ∧ j < 2 ^ 63) (e : itemAt ds j = some d) (k : P μ (.d d)) : Ev c μ ρ (.Subscript v i p) P := by
  obtain ⟨a, b, rfl⟩ := idxD_eq hi
  exact Ev.sub (h (Ev.int (Op2.itemT (fun _ _ _ => rfl) q.1 q.2 e k)))
theorem ifSome {α : Type} {p : Prop} [Decidable p] {x : Option α} {a : α} (h : (if p then x else none) = some a) : p ∧ x = some a := by
  by_cases q : p
  · rw [if_pos q] at h; exact ⟨q, h⟩
  · rw [if_neg q] at h; cases h
theorem pev_ok (n : Nat) : ∀ (e : Expr) (d : PyData), pev ρ n e = some d → ∀ {μ : Mu} {P : Mu → AV → Prop}, P μ (.d d) → Ev c μ ρ e P := by
  induction n with
  | zero => intro e d h; cases h
  | succ n ih =>
    intro e d h μ P k
    change pevV ρ (pev ρ n) (eView e) = some d at h
    have s := seen e
    generalize eView e = w at h s
    cases s with
    | name x p =>
      obtain ⟨a, h1, h2⟩ := Option.bind_eq_some_iff.mp h
      exact Ev.name h1 (by rw [avD_eq h2]; exact k)
    | const x y p => exact constD_ok h k
    | sub v i p =>
      obtain ⟨j, h1, h2⟩ := Option.bind_eq_some_iff.mp h
      obtain ⟨q, h2⟩ := ifSome h2
      obtain ⟨x, h3, h4⟩ := Option.bind_eq_some_iff.mp h2
      obtain ⟨ds, h5, h6⟩ := Option.bind_eq_some_iff.mp h4
      exact sub_ok (fun k => ih _ _ h3 (by rw [tupD_eq h5]; exact k)) h1 q h6 k
    | cmp l op r p q =>
      obtain ⟨a, h5, h6⟩ := Option.bind_eq_some_iff.mp h
      obtain ⟨b, h7, h8⟩ := Option.bind_eq_some_iff.mp h6
      obtain ⟨x, h9, rfl⟩ := Option.map_eq_some_iff.mp h8
      exact Ev.cmp (ih _ a h5 (ih _ b h7 (cmpP_ok h9 k))) q
    | tup es y p =>
      obtain ⟨q, h⟩ := ifSome h
      obtain ⟨ds, h1, h2⟩ := Option.bind_eq_some_iff.mp h
      exact Ev.tuple (pevs_of ih _ ds h1 ⟨ds, allD_map ds, by rw [mapM_len h1]; exact q, by rw [Option.some.inj h2]; exact k⟩)
    | _ => cases h
theorem tev_ok (n : Nat) : ∀ (e : Expr) (b : Bool), tev ρ n e = some b → ∀ {μ : Mu} {P : Mu → Bool → Prop}, P μ b → Tr c μ ρ e P := by
  induction n with
  | zero => intro e d h; cases h
  | succ n ih =>
    intro e b h μ P k
    change tevV ρ (pev ρ n) (tev ρ n) (eView e) = some b at h
    have s := seen e
    generalize eView e = w at h s
    cases s with
    | cmp l op r p q =>
      obtain ⟨a, h5, h6⟩ := Option.bind_eq_some_iff.mp h
      obtain ⟨b, h7, h8⟩ := Option.bind_eq_some_iff.mp h6
      exact Tr.cmp (pev_ok n _ a h5 (pev_ok n _ b h7 (cmpP_ok h8 (Truthy.bool k)))) q
    | not x p =>
      obtain ⟨y, h1, rfl⟩ := Option.map_eq_some_iff.mp h
      exact Tr.not (ih _ y h1 k)
    | bool op es p =>
      have hc : chain (tev ρ n) op es = some b := h
      clear h
      induction es generalizing b with
      | nil =>
        cases op <;> cases hc
        · exact Tr.andNil k
        · exact Tr.orNil k
      | cons x r ih' =>
        obtain ⟨y, h1, h2⟩ := Option.bind_eq_some_iff.mp hc
        cases op
        · cases y
          · cases h2; exact Tr.and (ih _ false h1 (iteF rfl k))
          · exact Tr.and (ih _ true h1 (iteT rfl (ih' b k h2)))
        · cases y
          · exact Tr.or (ih _ false h1 (iteF rfl (ih' b k h2)))
          · cases h2; exact Tr.or (ih _ true h1 (iteT rfl k))
    | name x p =>
      obtain ⟨a, h1, h2⟩ := Option.bind_eq_some_iff.mp h
      obtain ⟨d, h3, h4⟩ := Option.bind_eq_some_iff.mp h2
      exact Tr.plain (Ev.name h1 (by rw [avD_eq h3, boolD_eq h4]; exact Truthy.bool k)) (fun _ => rfl)
    | _ => cases h
theorem Ev.pev {e : Expr} {d : PyData} {P : Mu → AV → Prop} (h : Mine.pev ρ 12 e = some d) (k : P μ (.d d)) : Ev c μ ρ e P := pev_ok 12 e d h k
theorem Tr.tevT {e : Expr} {P : Mu → Bool → Prop} (h : tev ρ 12 e = some true) (k : P μ true) : Tr c μ ρ e P := tev_ok 12 e true h k
theorem Tr.tevF {e : Expr} {P : Mu → Bool → Prop} (h : tev ρ 12 e = some false) (k : P μ false) : Tr c μ ρ e P := tev_ok 12 e false h k
end
/-- pure statements in one step -/
theorem Ex.ifF {c : Cx} {μ : Mu} {ρ : Rho} {P : Fl → Mu → Rho → Prop} {e : Expr} {b rest : List Stmt} {pos} (h : tev ρ 12 e = some false) (k : Ex c μ ρ rest P) : Ex c μ ρ (.If e b [] pos :: rest) P :=
  Ex.cons (X1.ite (Tr.tevF h (iteF rfl (Ex.nil k))))
theorem Ex.ifT {c : Cx} {μ : Mu} {ρ : Rho} {P : Fl → Mu → Rho → Prop} {e : Expr} {b o rest : List Stmt} {pos} (h : tev ρ 12 e = some true) (k : Ex c μ ρ b (kNx c rest P)) : Ex c μ ρ (.If e b o pos :: rest) P :=
  Ex.cons (X1.ite (Tr.tevT h (iteT rfl k)))
theorem Ex.putP {c : Cx} {μ : Mu} {ρ : Rho} {P : Fl → Mu → Rho → Prop} {x : Str} {e : Expr} {d : PyData} {rest : List Stmt} {p pos} (hx : CanPut c x) (hs : swapsWith e (some (.Name x p)) pos.line c.env = pure false) (h : pev ρ 12 e = some d) (k : Ex c μ ((x, .d d) :: ρ) rest P) : Ex c μ ρ (.Assign [.Name x p] e pos :: rest) P :=
  Ex.cons (X1.put hx hs (Ev.pev h k))
theorem Ex.retP {c : Cx} {μ : Mu} {ρ : Rho} {P : Fl → Mu → Rho → Prop} {e : Expr} {d : PyData} {rest : List Stmt} {pos} (h : pev ρ 12 e = some d) (k : P (.ret (.d d)) μ ρ) : Ex c μ ρ (.Return (some e) pos :: rest) P :=
  Ex.cons (X1.ret (Ev.pev h k))
end Mine
namespace Mine
noncomputable def kindStr : St → Str
  | .ret => "return"
  | .fall => "fallthrough"
  | .call _ => "expr"
  | .brk _ => "break"
  | .cont _ => "continue"
  | .block _ => "block"
  | .if1 _ => "if"
  | .if2 _ _ => "if"
  | .forr _ _ _ => "for"
  | .range _ _ => "range"
  | .sw k _ _ => (Kd.sw k).str
noncomputable def isJump : St → Bool
  | .brk _ => true
  | .cont _ => true
  | .ret => false
  | .fall => false
  | .call _ => false
  | .block _ => false
  | .if1 _ => false
  | .if2 _ _ => false
  | .forr _ _ _ => false
  | .range _ _ => false
  | .sw _ _ _ => false
theorem enc_kind (s : St) : ∃ ds, enc s = .tuple (.str (kindStr s) :: .int 0 :: ds) := by
  cases s with
  | sw k l cs => cases k <;> exact ⟨_, rfl⟩
  | _ => exact ⟨_, rfl⟩
theorem kind_jump (s : St) : (([.str "break", .str "continue"] : List PyData).any fun y => PyData.eqv y (.str (kindStr s))) = isJump s := by
  cases s with
  | sw k l cs => cases k <;> simp only [kindStr, isJump, Kd.str] <;> decide +kernel
  | _ => simp only [kindStr, isJump] <;> decide +kernel
theorem kind_loop (s : St) : (([.str "for", .str "range", .str "switch", .str "typeswitch", .str "choose"] : List PyData).any fun y => PyData.eqv y (.str (kindStr s))) = isLeft s := by
  cases s with
  | sw k l cs => cases k <;> simp only [kindStr, isLeft, Kd.str] <;> decide +kernel
  | _ => simp only [kindStr, isLeft] <;> decide +kernel
theorem item0 {d : PyData} {r : List PyData} : itemAt (d :: r) 0 = some d := by
  unfold itemAt seqIndex?
  simp
theorem item1 {a d : PyData} {r : List PyData} : itemAt (a :: d :: r) 1 = some d := by
  unfold itemAt seqIndex?
  simp
  rw [if_pos (by lia)]
  rfl
theorem kind_sh (s : St) : SeqAt.shaped (.str (kindStr s)) = true := by
  cases s with
  | sw k l cs => cases k <;> simp only [kindStr, Kd.str] <;> decide +kernel
  | _ => simp only [kindStr] <;> decide +kernel
theorem item2 {a b d : PyData} {r : List PyData} : itemAt (a :: b :: d :: r) 2 = some d := by
  unfold itemAt seqIndex?
  simp
  rw [if_pos (by lia)]
  rfl
theorem part_item {s : St} {b : Sts} (hb : b ∈ parts s) : ∃ ds x, enc s = .tuple (.str (kindStr s) :: .int 0 :: x :: ds) ∧ (isLeft s = true → (ring s).map encA = [.tuple [x, .str (kindStr s)]]) ∧ (isLeft s = false → ring s = []) := by
  cases s with
  | ret => cases hb
  | fall => cases hb
  | call p => cases hb
  | brk l => cases hb
  | cont l => cases hb
  | sw k l cs => cases k <;> exact ⟨_, _, rfl, fun _ => rfl, fun h => by cases h⟩
  | block b => exact ⟨_, _, rfl, (fun h => by cases h), fun _ => rfl⟩
  | if1 b => exact ⟨_, _, rfl, (fun h => by cases h), fun _ => rfl⟩
  | if2 b e => exact ⟨_, _, rfl, (fun h => by cases h), fun _ => rfl⟩
  | forr l c b => exact ⟨_, _, rfl, fun _ => rfl, fun h => by cases h⟩
  | range l b => exact ⟨_, _, rfl, fun _ => rfl, fun h => by cases h⟩
noncomputable def isBrk : St → Bool
  | .brk _ => true
  | .ret => false
  | .fall => false
  | .call _ => false
  | .cont _ => false
  | .block _ => false
  | .if1 _ => false
  | .if2 _ _ => false
  | .forr _ _ _ => false
  | .range _ _ => false
  | .sw _ _ _ => false
theorem kind_brk (s : St) : PyData.eqv (.str (kindStr s)) (.str "break") = isBrk s := by
  cases s with
  | sw k l cs => cases k <;> simp only [kindStr, isBrk, Kd.str] <;> decide +kernel
  | _ => simp only [kindStr, isBrk] <;> decide +kernel
theorem left_item {s : St} (h : isLeft s = true) : ∃ ds l, enc s = .tuple (.str (kindStr s) :: .int 0 :: encL l :: ds) ∧ toldL s = l.toList := by
  cases s <;> simp only [isLeft] at h <;> (try cases h)
  case forr l c b => exact ⟨_, l, rfl, by cases l <;> rfl⟩
  case range l b => exact ⟨_, l, rfl, by cases l <;> rfl⟩
  case sw k l cs => cases k <;> exact ⟨_, l, rfl, by cases l <;> rfl⟩
end Mine
namespace Mine
/-- the words met, each once, in their order -/
noncomputable def stepS (σ : List Str) (v : Str) : List Str := if σ.any (· == v) then σ else σ ++ [v]
noncomputable def met (val : Nat → Str) (i : Nat) : List Str := ((List.range i).map val).foldl stepS []
theorem met_succ (val : Nat → Str) (i : Nat) : met val (i + 1) = stepS (met val i) (val i) := by
  unfold met; rw [List.range_succ, List.map_append, List.foldl_append]; rfl
theorem met_le (val : Nat → Str) : ∀ i, (met val i).length ≤ i
  | 0 => Nat.le_refl _
  | i + 1 => by
    rw [met_succ]; unfold stepS
    have ih := met_le val i
    split
    · lia
    · rw [List.length_append, List.length_singleton]; lia
theorem stepS_any (σ : List Str) (v k : Str) : (stepS σ v).any (· == k) = (σ.any (· == k) || decide (k = v)) := by
  unfold stepS
  by_cases h : σ.any (· == v) = true
  · rw [if_pos h]
    by_cases e : k = v
    · subst e; rw [h]; simp
    · simp [e]
  · rw [if_neg h, List.any_append]
    by_cases e : k = v
    · subst e; simp
    · have hb : (v == k) = false := by simpa [beq_iff_eq] using (fun h' : v = k => e h'.symm)
      simp [hb, e]
theorem stepS_len (σ : List Str) (v : Str) : (stepS σ v).length = if σ.any (· == v) then σ.length else σ.length + 1 := by
  unfold stepS; split <;> simp
section
variable {prog : Program} {w : World} {A : Around} {R : Result → Shared → Prop} {I : Addr} {fp wr : List Addr} {G : Array GenState → Array GenState → Prop} {n : Nat} {P : Nat → Value → Prop} {St : Nat → Shared → Prop}
theorem setLoop (W : WalksS prog w A.in1 I fp wr G n P St) (S : Addr) (hSf : S ∉ fp) (val : Nat → Str) (hval : ∀ i v, P i v → ∃ t, v = .str (val i) t) (hb : n + 1 < scanBound) :
    ∀ (k i : Nat) (s : Shared), n - i = k → i ≤ n → St i s →
      s.heap.SetOf (PySem.strKind prog w) S (fun k' => (met val i).any (· == k')) (met val i).length →
      (∀ s', PySem.Moved (S :: wr) G s s' → s'.heap.SetOf (PySem.strKind prog w) S (fun k' => (met val n).any (· == k')) (met val n).length → R (.ok (.ret .none)) s') →
      codeAny (model prog w) A (.builtin "set.update.loop" ⟨[.ref S, .ref I], []⟩) R s := by
  have hSw : S ∉ wr := fun h => hSf (W.sub _ h)
  have hsub : ∀ b ∈ wr, b ∈ S :: wr := fun b hb => List.mem_cons_of_mem _ hb
  intro k
  induction k with
  | zero =>
    intro i s hk hi hst hS hR
    have hin : i = n := by lia
    subst hin
    refine codeAny_builtin PyProof.Rows.F.entry_set_update_loop ?_
    rw [Around.under_plainId PyProof.Rows.F.plain_set_update_loop _]
    show wpAny _ A.in1 (pyNext (.ref I) >>= _) _ _ s
    refine wpAny_bind (W.done s _ _ hst fun s' hm => ?_)
    show wpAny _ A.in1 (ret Value.none) _ _ s'
    exact wpAny_pure (hR s' (hm.mono hsub) (by
      obtain ⟨o, es, ep, t, ho, rest⟩ := hS
      exact ⟨o, es, ep, t, hm.heap S _ hSw ho, rest⟩))
  | succ k ih =>
    intro i s hk hi hst hS hR
    have hlt : i < n := by lia
    refine codeAny_builtin PyProof.Rows.F.entry_set_update_loop ?_
    rw [Around.under_plainId PyProof.Rows.F.plain_set_update_loop _]
    show wpAny _ A.in1 (pyNext (.ref I) >>= _) _ _ s
    refine wpAny_bind (W.item i s _ _ hlt hst fun v s' hP hst' hm => ?_)
    obtain ⟨t, rfl⟩ := hval i v hP
    have hS' : s'.heap.SetOf (PySem.strKind prog w) S (fun k' => (met val i).any (· == k')) (met val i).length := by
      obtain ⟨o, es, ep, tb, ho, rest⟩ := hS
      exact ⟨o, es, ep, tb, hm.heap S _ hSw ho, rest⟩
    show wpAny _ A.in1 (holding [Value.str (val i) t] (setAdd S (.str (val i) t)) >>= _) _ _ s'
    refine wpAny_bind (wpAny_holding ?_)
    unfold setAdd
    refine wpAny_holding ?_
    refine wpAny_bind ((PySem.strKind prog w).pyHash (k := val i) (strKind_is _ _ _ _) ?_)
    have hroom : (met val i).length + 1 < scanBound := by have := met_le val i; lia
    refine wpAny_setAddHashed_of (knd := PySem.strKind prog w) (s := { s' with toks := s'.toks + 1 }) (strKind_is _ _ _ _) rfl hS' hroom fun h' hsb hS2 => ?_
    have hSi : h'.SetOf (PySem.strKind prog w) S (fun k' => (met val (i + 1)).any (· == k')) (met val (i + 1)).length :=
      SetOf_congr hS2 (fun k' => by rw [met_succ, stepS_any]) (by rw [met_succ, stepS_len])
    refine wpAny_pure ⟨plainId_quiet PyProof.Rows.F.plain_set_update_loop _, ih (i + 1) _ (by lia) hlt (W.frame _ s' _ _ hst' (Nat.le_succ _) fun b hb o e => ?_) hSi fun s'' hm'' hS'' => ?_⟩
    · rw [hsb.2 b (fun h : b = S => hSf (by rw [← h]; exact hb))]; exact e
    · refine hR s'' (PySem.Moved.trans W.gtrans ((hm.mono hsub).then_heap (Nat.le_succ _) fun b o hb e => ?_) hm'') hS''
      rw [hsb.2 b (fun h : b = S => hb (by rw [h]; exact List.mem_cons_self))]; exact e
end
section
variable {prog : Program} {w : World} {A : Around} {E : Value → Shared → Prop} {s : Shared}
set_option maxHeartbeats 3200000 in
theorem call_setS {l : Addr} {items : Array Value} {val : Nat → Str} {Q : Value → Shared → Prop}
    (hh : A.handled = none) (hl : s.heap.IsList l items) (hval : ∀ (i : Nat) (v : Value), items[i]? = some v → ∃ t, v = .str (val i) t) (hb : items.size + 1 < scanBound)
    (h : ∀ (h' : Heap) (tk : Nat), h'.SetOf (PySem.strKind prog w) s.heap.objs.size (fun k' => (met val items.size).any (· == k')) (met val items.size).length →
      (∀ b o, b < s.heap.objs.size → s.heap.get? b = some o → h'.get? b = some o) → Q (.ref s.heap.objs.size) { s with heap := h', toks := tk }) :
    wpAny (model prog w) A (call (.type "set") [.ref l]) Q E s := by
  obtain ⟨c, tl, hmro⟩ := PySem.F.called_set.mro
  have hmade := PySem.F.called_set.made
  have hsub := PySem.F.called_set.sub
  refine wpAny_call (codeAny_of_tree ?_)
  show wpAny _ _ (callAny (.type "set") _) _ _ _
  refine wpAny_pure ⟨Code.quiet_builtin _ (by decide +kernel), codeAny_builtin PySem.F.entry_type_call ?_⟩
  rw [Around.under_plain (weight_type_call_type "set" [.ref l] []) rfl]
  have h1 := PySem.F.called_set.notType
  have h2 := PySem.F.called_set.canCreate
  have hct := PySem.F.typeCall_set_1 (.ref l)
  repeat (any_goals (first | assumption | wp_step))
  refine codeAny_mono (code_set_new_1 (.ref l) (E := E) (Q₁ := fun obj s₁ => ∃ led : Bool, obj = .ref s.heap.objs.size ∧ s₁ = { s with heap := s.heap.push { cls := .type "set", dict := none, data := .set #[] 0 (.fresh 0 0 led) } }) fun led => ⟨led, rfl, rfl⟩) fun r s₁ hr => ?_
  cases r with
  | error e => exact hr
  | ok fl =>
    cases fl with
    | ret obj =>
      obtain ⟨led, rfl, rfl⟩ := hr
      have hS : (s.heap.push { cls := .type "set", dict := none, data := .set #[] 0 (.fresh 0 0 led) }).get? s.heap.objs.size = some { cls := .type "set", dict := none, data := .set #[] 0 (.fresh 0 0 led) } := Heap.get?_push_size _ rfl
      have hT : Shared.TypeIs { s with heap := s.heap.push { cls := .type "set", dict := none, data := .set #[] 0 (.fresh 0 0 led) } } (.ref s.heap.objs.size) "set" := ⟨_, hS, rfl⟩
      have hli := PySem.F.called_set.init.lookup
      have hbi := PySem.F.called_set.init.bind (.ref s.heap.objs.size)
      repeat (any_goals (first | assumption | wp_step))
      refine codeAny_mono (codeAny_call_builtin (R := wants (fun r s₂ => r = .none ∧ ∃ h' tk, s₂ = { s with heap := h', toks := tk } ∧
          h'.SetOf (PySem.strKind prog w) s.heap.objs.size (fun k' => (met val items.size).any (· == k')) (met val items.size).length ∧
          (∀ b o, b < s.heap.objs.size → s.heap.get? b = some o → h'.get? b = some o)) E) PySem.F.called_set.init.plain PySem.F.entry_set_init (check_set_init_1 hT ?_)) fun r₂ s₂ hr₂ => ?_
      · obtain ⟨ol, hol, hcl, nl, hdl⟩ := hl
        obtain ⟨ocls, odict, odata, oslots⟩ := ol
        simp only at hcl hdl
        subst hcl; subst hdl
        have hol' : (s.heap.push { cls := .type "set", dict := none, data := .set #[] 0 (.fresh 0 0 led) }).get? l = some { cls := .type "list", dict := odict, data := .seq items nl, slots := oslots } := Heap.get?_push_of_some _ hol
        have hsls := PySem.F.sub_list_set
        have hslf := PySem.F.sub_list_frozenset
        have hne : (Value.type "list" == Value.type "dict") = false := by decide
        have hl1 : (s.heap.push { cls := .type "set", dict := none, data := .set #[] 0 (.fresh 0 0 led) }).IsList l items := ⟨_, hol', rfl, nl, rfl⟩
        unfold Builtin.«set.__init__» noKeywords Builtin.Frozenset.updateFrom
        generalize hPI : pyIter = PI
        wp_walk
        subst hPI
        refine wpAny_pyIter_list hl1 ?_
        refine wpAny_bind (wpAny_runValue ?_)
        have hlS : l < s.heap.objs.size := Heap.lt_size hol
        have hh3 : A.in1.in1.in1.handled = none := by simp [hh]
        have hneI : l ≠ (s.heap.push { cls := .type "set", dict := none, data := .set #[] 0 (.fresh 0 0 led) }).objs.size := by
          rw [Heap.size_push]; exact Nat.ne_of_lt (Nat.lt_succ_of_lt hlS)
        have hSf : s.heap.objs.size ∉ [(s.heap.push { cls := .type "set", dict := none, data := .set #[] 0 (.fresh 0 0 led) }).objs.size, l] := by
          rw [Heap.size_push]; simp only [List.mem_cons, List.mem_singleton, List.not_mem_nil, or_false, not_or]
          exact ⟨Nat.ne_of_lt (Nat.lt_succ_self _), Nat.ne_of_gt hlS⟩
        refine setLoop ((Walks.list hh3 _ l hneI items).toS) s.heap.objs.size
          hSf val hval hb (items.size - 0) 0 _ (by lia) (Nat.zero_le _)
          ⟨⟨_, Heap.get?_push_size _ rfl, rfl, rfl⟩, (hl1.push _)⟩ ?hS0 ?hR
        case hS0 =>
          have hget : ((s.heap.push { cls := .type "set", dict := none, data := .set #[] 0 (.fresh 0 0 led) }).push { cls := .type "list_iterator", data := .fields #[.ref l, .int 0 0] }).get? s.heap.objs.size
              = some { cls := .type "set", dict := none, data := .set #[] 0 (.fresh 0 0 led) } := Heap.get?_push_of_some _ hS
          exact SetOf_congr ((setObjOf_fresh (knd := PySem.strKind prog w) led).setOf hget (by unfold scanBound; lia)) (fun _ => rfl) rfl
        case hR =>
          intro s' hm hS'
          obtain ⟨h', g', d', tk', os'⟩ := s'
          have eg : g' = s.gens := hm.gens
          have ed : d' = s.drawn := hm.drawn
          have eo : os' = s.os := hm.os
          subst eg; subst ed; subst eo
          show wpAny _ _ _ _ _ _
          refine wpAny_pure ?_
          show wpAny _ _ (ret Value.none) _ _ _
          refine wpAny_pure ⟨rfl, h', tk', rfl, hS', fun b o hb e => ?_⟩
          have hb1 : b ≠ s.heap.objs.size := Nat.ne_of_lt hb
          have hb2 : b ≠ (s.heap.push { cls := .type "set", dict := none, data := .set #[] 0 (.fresh 0 0 led) }).objs.size := by
            rw [Heap.size_push]; exact Nat.ne_of_lt (Nat.lt_succ_of_lt hb)
          exact hm.heap b o (by simp only [List.mem_cons, List.mem_singleton, List.not_mem_nil, or_false, not_or]; exact ⟨hb1, hb2⟩) (Heap.get?_push_of_some _ (Heap.get?_push_of_some _ e))
      · cases r₂ with
        | error e => exact hr₂
        | ok fl₂ =>
          cases fl₂ with
          | ret r =>
            obtain ⟨rfl, h', tk, rfl, hS', hk'⟩ := hr₂
            repeat (any_goals (first | assumption | wp_step))
            exact h _ _ hS' hk'
          | _ => exact hr₂.elim
    | _ => exact hr.elim
end
section
variable {c : Cx} {Φ : Frz} {μ : Mu} {ρ : Rho} {s : Shared} {P : Mu → AV → Prop}
/-- a new object, with what was made beside it -/
theorem Inv.newAt (I : Inv c Φ μ ρ s) {h' : Heap} {tk : Nat} (k : ∀ b o, s.heap.get? b = some o → h'.get? b = some o) {o : Obj} (e : h'.get? s.heap.objs.size = some o) {mo : MO} (hm : MOk c.g.pw Φ mo o) :
    Mv c Φ μ s Φ ((s.heap.objs.size, mo) :: μ) { s with heap := h', toks := tk } ∧ Inv c Φ ((s.heap.objs.size, mo) :: μ) ρ { s with heap := h', toks := tk } := by
  have fr := Heap.fresh s.heap
  obtain ⟨m, J⟩ := I.keeps (tk := tk) (h' := h') k
  refine ⟨{ m with keys := fun a h => ?_ }, { J with mu := ⟨?_, fun p hp => ?_⟩, muOff := fun p hp => ?_ }⟩
  · obtain ⟨p, hp, rfl⟩ := keysOf_iff.mp h
    rcases List.mem_cons.mp hp with rfl | hp
    · exact .inr fr
    · exact .inl (keysOf_iff.mpr ⟨p, hp, rfl⟩)
  · exact List.nodup_cons.mpr ⟨I.noKey fr, I.mu.1⟩
  · rcases List.mem_cons.mp hp with rfl | hp
    · refine ⟨⟨o, e, hm⟩, ⟨I.noBase fr, beq_eq_false_iff_ne.mpr fun q => ?_⟩, I.frz.none fr⟩
      have h1 := modules_low (c.g.T.nolimit)
      have h2 := I.sizes
      have q : s.heap.objs.size = sysModules := q
      rw [← q] at h1
      exact absurd h1 (Nat.not_lt.mpr h2)
    · exact J.mu.2 p hp
  · rcases List.mem_cons.mp hp with rfl | hp
    · intro q
      have q : s.heap.objs.size = c.env.locals := q
      obtain ⟨o', e'⟩ := I.ownAlive (.inl rfl)
      rw [← q, fr] at e'; cases e'
    · exact I.muOff p hp
noncomputable def SetN (o : Obj) (n : Nat) : Prop := o.ExactSet ∧ ∃ es ep t, o.data = .set es ep t ∧ es.size = n ∧ t.fits es.size = true
theorem Rs.strs : ∀ {xs : List Str} {vs : List Value}, Rs Φ (xs.map .str) vs → ∀ (i : Nat) (v : Value), vs[i]? = some v → ∃ t, v = .str (xs.getD i "") t
  | [], vs, r, i, v, h => by simp only [List.map_nil, Rs] at r; subst r; simp at h
  | x :: xs, vs, r, i, v, h => by
    simp only [List.map_cons, Rs] at r
    obtain ⟨w, ws, rfl, r1, r2⟩ := r
    cases i with
    | zero =>
      simp at h; subst h
      obtain ⟨t, rfl⟩ := ra_str' (Φ := Φ) r1
      exact ⟨t, rfl⟩
    | succ i =>
      obtain ⟨t, e⟩ := Rs.strs r2 i v (by simpa using h)
      exact ⟨t, by rw [e]; rfl⟩
theorem CallV.setL {xs : List Str} (hn : xs.length ≤ 4000) (h : ∀ S o, S ∉ μ.map (·.1) → SetN o (met (fun i => xs.getD i "") xs.length).length → P ((S, .raw o) :: μ) (.v (.ref S))) : CallV c ρ μ (.type "set") [.d (.list (xs.map .str))] P := fun Φ s vs I r => by
  obtain ⟨v, ws, rfl, r1, rfl⟩ := r
  obtain ⟨a, us, rfl, h1, h2⟩ := ra_lst' r1
  have hl : us.length = xs.length := by rw [h2.length, List.length_map]
  refine call_setS (val := fun i => xs.getD i "") I.ok.hh (isList_of_frz I.frz h1) (fun i v hv => Rs.strs h2 i v (by simpa using hv)) (by rw [List.size_toArray, hl]; unfold scanBound; lia) fun h' tk hS hk => ?_
  obtain ⟨o, ho, hex, es, ep, t, hd, hel, hmem, hsz, hf⟩ := hS.objOf
  have hu : us.toArray.size = xs.length := by rw [List.size_toArray, hl]
  rw [hu] at hsz
  have hsz : es.size = (met (fun i => xs.getD i "") xs.length).length := by simpa using hsz
  obtain ⟨m, J⟩ := I.newAt (tk := tk) (h' := h') (fun b o e => hk b o (Heap.lt_size e) e) ho (mo := .raw o) ⟨rfl, (fun vs q => by rw [hd] at q; cases q), (fun v q => by rw [hd] at q; cases q), by rw [hex.1]; simp⟩
  exact ⟨Φ, _, .v (.ref s.heap.objs.size), m, J, rfl, h _ o (fun q => I.noKey (Heap.fresh _) q) ⟨hex, es, ep, t, hd, hsz, hf⟩⟩
theorem CallV.lenS {S : Addr} {o : Obj} {n : Nat} (hm : (S, .raw o) ∈ μ) (ho : SetN o n) (hn : n ≤ 1000000) (h : P μ (.d (.int n))) : CallV c ρ μ (.builtin "len") [.v (.ref S)] P := fun Φ s vs I r => by
  obtain ⟨v, ws, rfl, r1, rfl⟩ := r
  obtain rfl := ra_v' r1
  obtain ⟨⟨o', eo, rfl, _⟩, _⟩ := I.mu.2 _ hm
  obtain ⟨hex, es, ep, t, hd, hsz, hf⟩ := ho
  refine call_len_set eo hex hd hf (by lia) ?_
  rw [hsz]
  exact Post.then (I.toks _) (ra_int _ _) h
end
theorem met_nodup (val : Nat → Str) : ∀ i, (met val i).length = i ↔ ((List.range i).map val).Nodup := by
  have key : ∀ i, (∀ k, k ∈ met val i ↔ k ∈ (List.range i).map val) := by
    intro i
    induction i with
    | zero => intro k; exact Iff.rfl
    | succ i ih =>
      intro k
      rw [met_succ, List.range_succ, List.map_append, List.mem_append, ← ih k]
      unfold stepS
      split
      · rename_i hc
        obtain ⟨y, hy, hyv⟩ := List.any_eq_true.mp hc
        have hyv := beq_iff_eq.mp hyv
        subst hyv
        constructor
        · exact .inl
        · rintro (h | h)
          · exact h
          · rw [List.mem_singleton.mp h]; exact hy
      · rw [List.mem_append]; exact Iff.rfl
  intro i
  induction i with
  | zero => exact ⟨fun _ => List.nodup_nil, fun _ => rfl⟩
  | succ i ih =>
    have hle := met_le val i
    rw [met_succ, stepS_len, List.range_succ, List.map_append]
    have hm : (met val i).any (· == val i) = true ↔ val i ∈ (List.range i).map val := by
      rw [← key i, List.any_eq_true]
      exact ⟨fun ⟨y, hy, e⟩ => beq_iff_eq.mp e ▸ hy, fun h => ⟨_, h, beq_self_eq_true _⟩⟩
    by_cases hc : (met val i).any (· == val i) = true
    · rw [if_pos hc]
      constructor
      · intro h; lia
      · intro h
        exfalso
        rw [List.nodup_append] at h
        exact h.2.2 _ (hm.mp hc) (val i) (by simp) rfl
    · rw [if_neg hc]
      have hc' := fun h => hc (hm.mpr h)
      constructor
      · intro h
        rw [List.nodup_append]
        refine ⟨ih.mp (by lia), by simp, fun a ha b hb q => ?_⟩
        simp only [List.map_cons, List.map_nil, List.mem_singleton] at hb
        subst hb; subst q; exact hc' ha
      · intro h
        rw [List.nodup_append] at h
        have := ih.mpr h.1
        lia
theorem met_list (xs : List Str) : (met (fun i => xs.getD i "") xs.length).length = xs.length ↔ xs.Nodup := by
  rw [met_nodup]
  have : (List.range xs.length).map (fun i => xs.getD i "") = xs := by
    apply List.ext_getElem
    · simp
    · intro i h1 h2
      simp only [List.getElem_map, List.getElem_range]
      simp [List.getD_eq_getElem?_getD, h2]
  rw [this]
end Mine
namespace Mine
noncomputable def getA (es : List (Str × AV)) (x : Str) : Option AV := match es with
  | [] => none
  | (y, a) :: r => if y = x then some a else getA r x
theorem KvA.get {Φ : Frz} {x : Str} : ∀ {es : List (Str × AV)} {kvs : List (Str × Value)}, KvA Φ es kvs → (match getA es x with | some a => ∃ v, valueAt kvs x = some v ∧ RA Φ a v | none => valueAt kvs x = none)
  | [], _, e => by cases e; rfl
  | (y, a) :: r, _, e => by
    obtain ⟨v, rest, rfl, e2, e3⟩ := e
    have ih := KvA.get (x := x) e3
    unfold getA
    by_cases q : y = x
    · rw [if_pos q]
      exact ⟨v, by simp [valueAt, q], e2⟩
    · rw [if_neg q]
      have : valueAt ((y, v) :: rest) x = valueAt rest x := by simp [valueAt, q]
      rw [this]; exact ih
theorem KvA.keys {Φ : Frz} : ∀ {es : List (Str × AV)} {kvs : List (Str × Value)}, KvA Φ es kvs → kvs.map (·.1) = es.map (·.1)
  | [], _, e => by cases e; rfl
  | (y, a) :: r, _, e => by
    obtain ⟨v, rest, rfl, e2, e3⟩ := e
    rw [List.map_cons, List.map_cons, KvA.keys e3]
theorem KvA.snoc {Φ : Frz} {x : Str} {a : AV} {v : Value} (hv : RA Φ a v) : ∀ {es : List (Str × AV)} {kvs : List (Str × Value)}, KvA Φ es kvs → KvA Φ (es ++ [(x, a)]) (kvs ++ [(x, v)])
  | [], _, e => by cases e; exact ⟨v, [], rfl, hv, rfl⟩
  | (y, b) :: r, _, e => by
    obtain ⟨w, rest, rfl, e2, e3⟩ := e
    exact ⟨w, _, rfl, e2, KvA.snoc hv e3⟩
section
variable {prog : Program} {w : World}
theorem pairs_find {x : Str} : ∀ {es : List DictEntry} {kvs : List (Str × Value)}, Pairs (PySem.strKind prog w) es kvs → (es.find? (·.key.isStr x)).map (·.val) = valueAt kvs x ∧ es.any (·.refKey) = false
  | _, _, .nil => ⟨rfl, rfl⟩
  | _, _, .cons (e := e) (kv := kv) h1 h2 h3 => by
    obtain ⟨ih1, ih2⟩ := pairs_find (x := x) h3
    obtain ⟨t, hk⟩ := Value.isStrOf_shape h1
    have hr : e.refKey = false := by unfold DictEntry.refKey; rw [hk]
    refine ⟨?_, by rw [List.any_cons, hr, ih2]; rfl⟩
    rw [List.find?_cons, hk]
    show ((match (kv.1 == x) with | true => some e | false => _).map _) = _
    unfold valueAt at ih1 ⊢
    rw [List.find?_cons]
    by_cases q : kv.1 = x
    · simp [q, h2]
    · have q1 : (kv.1 == x) = false := beq_eq_false_iff_ne.mpr q
      have q2 : decide (kv.1 = x) = false := decide_eq_false q
      rw [q1, q2]; exact ih1
theorem lookIn_of {o : Obj} {kvs : List (Str × Value)} (x : Str) (h : o.IsDictOf (PySem.strKind prog w) kvs) : lookIn x o = some (valueAt kvs x) := by
  obtain ⟨es, ep, _, hd, _, hp, _⟩ := h
  obtain ⟨h1, h2⟩ := pairs_find (x := x) hp
  unfold lookIn
  rw [hd]
  dsimp only
  cases hf : es.toList.find? (·.key.isStr x) with
  | some e => rw [hf] at h1; dsimp only at h1 ⊢; rw [← h1]; rfl
  | none => rw [hf] at h1; dsimp only; rw [h2, ← h1]; rfl
theorem exact_dict {o : Obj} {es : Array DictEntry} {ep : Nat} (h : o.ExactDict) (hd : o.data = .dict es ep) : o = dictOf es.toList ep := by
  obtain ⟨a, b, c, d⟩ := o
  obtain ⟨h1, h2, h3⟩ := h
  dsimp only at *
  subst h1 h2 h3 hd
  rfl
theorem putL_new {x : Str} {hs : Int} {k v : Value} : ∀ {es : List DictEntry}, (∀ e ∈ es, e.key.isStr x = false) → putL x hs k v es = es ++ [⟨hs, k, v⟩]
  | [], _ => rfl
  | e :: r, h => by
    unfold putL
    rw [if_neg (by rw [h e (.head _)]; exact Bool.false_ne_true), putL_new fun e he => h e (.tail _ he)]
    rfl
theorem pairs_no {x : Str} : ∀ {es : List DictEntry} {kvs : List (Str × Value)}, Pairs (PySem.strKind prog w) es kvs → x ∉ kvs.map (·.1) → ∀ e ∈ es, e.key.isStr x = false
  | _, _, .nil, _, _, h => by cases h
  | _, _, .cons (kv := kv) h1 h2 h3, hn, e, he => by
    rw [List.map_cons, List.mem_cons, not_or] at hn
    rcases List.mem_cons.mp he with rfl | he
    · obtain ⟨t, hk⟩ := Value.isStrOf_shape h1
      rw [hk]
      exact beq_eq_false_iff_ne.mpr fun q => hn.1 q.symm
    · exact pairs_no h3 hn.2 e he
theorem pairs_snoc {e : DictEntry} {kv : Str × Value} (h1 : (PySem.strKind prog w).is kv.1 e.key = true) (h2 : e.val = kv.2) : ∀ {es : List DictEntry} {kvs : List (Str × Value)}, Pairs (PySem.strKind prog w) es kvs → Pairs (PySem.strKind prog w) (es ++ [e]) (kvs ++ [kv])
  | _, _, .nil => .cons h1 h2 .nil
  | _, _, .cons a b c => .cons a b (pairs_snoc h1 h2 c)
theorem putName_new {o : Obj} {kvs : List (Str × Value)} {x : Str} {t : Tok} {v : Value} (h : o.IsDictOf (PySem.strKind prog w) kvs) (hn : x ∉ kvs.map (·.1)) :
    (Obj.putName x (PyData.keyHash w.params x) (.str x t) v o).IsDictOf (PySem.strKind prog w) (kvs ++ [(x, v)]) := by
  obtain ⟨es, ep, hx, hd, hk, hp, nd⟩ := h
  rw [exact_dict hx hd, putName_dict, putL_new (pairs_no hp hn)]
  refine ⟨_, _, ⟨rfl, rfl, rfl⟩, rfl, fun e he => ?_, ?_, ?_⟩
  · rcases List.mem_append.mp (List.mem_toArray.mp he) with he | he
    · exact hk e (by simpa using he)
    · obtain rfl := List.mem_singleton.mp he
      exact ⟨x, PySem.strKind_is prog w x t, rfl⟩
  · exact pairs_snoc (kv := (x, v)) (PySem.strKind_is prog w x t) rfl hp
  · rw [List.map_append, List.nodup_append]
    exact ⟨nd, by simp, fun a ha b hb => by rw [List.map_cons, List.map_nil, List.mem_singleton] at hb; subst hb; exact fun q => hn (q ▸ ha)⟩
end
/-- an object of an own class, with its names -/
noncomputable def Inst (μ : Mu) (x C dx : Addr) (es : List (Str × AV)) : Prop := (x, MO.raw (instObj C dx)) ∈ μ ∧ (dx, MO.attrs es) ∈ μ
section
variable {c : Cx} {μ : Mu} {ρ : Rho}
theorem Inv.inst {Φ : Frz} {s : Shared} {x C dx : Addr} {es : List (Str × AV)} (I : Inv c Φ μ ρ s) (h : Inst μ x C dx es) :
    ∃ o kvs, InstAt s.heap x (instObj C dx) C (some o) ∧ s.heap.get? dx = some o ∧ o.IsDictOf (PySem.strKind c.g.prog c.g.w) kvs ∧ KvA Φ es kvs := by
  obtain ⟨⟨o1, e1, rfl, _⟩, _⟩ := I.mu.2 _ h.1
  obtain ⟨⟨o2, e2, kvs, hd, hk⟩, _⟩ := I.mu.2 _ h.2
  exact ⟨o2, kvs, ⟨e1, rfl, rfl, e2⟩, e2, hd, hk⟩
noncomputable def noBlt : AV → Bool
  | .d _ => true
  | .v (.builtin _) => false
  | .v _ => true
theorem noBlt_handed {Φ : Frz} {a : AV} {v : Value} (h : noBlt a = true) (r : RA Φ a v) : handedIn v = true := by
  cases a with
  | v x => obtain rfl := ra_v' r; cases v <;> first | rfl | cases h
  | d x =>
    have r : R Φ x v := r
    cases x <;> simp only [R] at r
    · subst r; rfl
    · subst r; rfl
    · obtain ⟨t, rfl⟩ := r; rfl
    · obtain ⟨t, rfl⟩ := r; rfl
    · obtain ⟨a, vs, rfl, _⟩ := r; rfl
    · obtain ⟨a, vs, rfl, _⟩ := r; rfl
@[reducible] noncomputable def kAt (c : Cx) (name : Str) (P : Mu → AV → Prop) : Mu → AV → Prop := fun μ a => ∃ x C dx es av, a = .v (.ref x) ∧ Inst μ x C dx es ∧ getA es name = some av ∧ (plainGet c.g.K C name = true ∧ hasDictIn c.g.K C = true ∧ findIn c.g.K (.ref C) name = some Option.none) ∧ noBlt av = true ∧ P μ av
theorem Ev.attr {n : Str} {np : Pos} {name : Str} {pos : Pos} {P : Mu → AV → Prop} (h : Ev c μ ρ (.Name n np) (kAt c name P)) :
    Ev c μ ρ (.Attribute (.Name n np) name pos) P := fun Φ s I => by
  refine Attribute_name (W.mono (h Φ s I) fun v s₁ h₁ => ?_)
  obtain ⟨Φ₁, μ₁, a, l₁, I₁, r₁, x, C, dx, es, av, rfl, hi, hg, ⟨k1, k2, k3⟩, hb, p⟩ := h₁
  obtain rfl := ra_v' r₁
  obtain ⟨o, kvs, it, ho, hd, hk⟩ := I₁.inst hi
  have := hk.get (x := name)
  rw [hg] at this
  obtain ⟨v, hv, rv⟩ := this
  refine get_value I₁.kin it (plainGet_of k1).1 (findObj_own k2 k3 rfl ((lookIn_of name hd).trans (by rw [hv]))) (noBlt_handed hb rv) ?_
  exact (Post.then (I₁.toks _) rv p).up l₁

/-- a name of such an object is set for the first time -/
theorem set_attr_new {prog : Program} {w : World} {A : Around} {E : Value → Shared → Prop} {s : Shared} {K : Frag} {x C dx : Addr} {o : Obj} {kvs : List (Str × Value)} {name : Str} {v : Value} {Q : Unit → Shared → Prop}
    (X : K.In s.heap) (I : InstAt s.heap x (instObj C dx) C (some o)) (ho : s.heap.get? dx = some o) (hd : o.IsDictOf (PySem.strKind prog w) kvs) (hn : name ∉ kvs.map (·.1)) (hl : kvs.length ≤ 1000)
    (hs : findIn K (.ref C) "__setattr__" = some (some (.builtin "object.__setattr__"))) (hp : plainOver K C = true) (ht : takerIn K C name = some none) (hh : hasDictIn K C = true)
    (h : ∀ h' o', Heap.SameBut dx s.heap h' → h'.get? dx = some o' → o'.IsDictOf (PySem.strKind prog w) (kvs ++ [(name, v)]) → Q () { s with heap := h', toks := s.toks + 2 }) :
    wpAny (model prog w) A (setAttr (.ref x) name v) Q E s := by
  refine set_plain X I hs (osa_open (s := { s with toks := s.toks + 1 }) X I hp ht fun b => ?_)
  obtain ⟨cd, hc, hd'⟩ := any_some hh
  have hput := putName_new (t := s.toks + 1) (v := v) hd hn
  obtain ⟨hx, _, _, _⟩ := I
  refine wpAny_bind (wpAny_pure (wpAny_bind (wpAny_bind (wpAny_loadPart hx (wpAny_bind (looks_clsIn X hc _ _ _ _ (fun _ _ e => e) ?_))))))
  rw [hd']
  refine wpAny_pure (a := some dx) (wpAny_bind (wpAny_pure (wpAny_bind ?_)))
  unfold nsSet
  refine wpAny_bind (wpAny_bind (wpAny_askSetting (wpAny_pure (wpAny_bind (wpAny_mkText (wpAny_bind (wpAny_loadPart ho ?_)))))))
  obtain ⟨es, ep, hx0, hd0, hk0, hp0, nd0⟩ := hd
  obtain ⟨es', ep', hx1, hd1, hk1, hp1, nd1⟩ := id hput
  rw [hd0]
  dsimp only
  have c0 : (!es.any (·.key.isStr name) && es.any (·.refKey)) = false := by
    rw [← Array.any_toList, ← Array.any_toList, (pairs_find (x := name) hp0).2, Bool.and_false]
  rw [aRefKeyMayBeTheName_at, c0]
  refine wpAny_updatePart ho ?_
  have hf : (Obj.putName name (PyData.keyHash w.params name) (.str name (s.toks + 1)) v o).isFreed = false := by
    cases z : (Obj.putName name (PyData.keyHash w.params name) (.str name (s.toks + 1)) v o) with
    | mk a b d e => rw [z] at hd1; dsimp only at hd1; subst hd1; rfl
  have D' := Heap.get?_update_self (Obj.putName name (PyData.keyHash w.params name) (.str name (s.toks + 1)) v) ho hf
  have hlen : es'.size = kvs.length + 1 := by have := hp1.length; simpa using this
  refine wpAny_bind (wpAny_lookBehind D' (by rw [hd1]; exact pastItsLine_dict (by rw [hlen, sizeLine_eq]; lia)) ?_)
  exact wpAny_pure (h _ _ (Heap.SameBut.update ..) D' hput)
theorem X1.putAttr {e : Expr} {n : Str} {np : Pos} {name : Str} {p pos : Pos} {P : Fl → Mu → Rho → Prop} (hs : swapsWith e (some (.Attribute (.Name n np) name p)) pos.line c.env = pure false)
    (h : Ev c μ ρ e fun μ₁ a => Ev c μ₁ ρ (.Name n np) fun μ₂ b => ∃ x C dx es, b = .v (.ref x) ∧ Inst μ₂ x C dx es ∧ name ∉ es.map (·.1) ∧ es.length ≤ 1000 ∧
      (findIn c.g.K (.ref C) "__setattr__" = some (some (.builtin "object.__setattr__")) ∧ plainOver c.g.K C = true ∧ takerIn c.g.K C name = some Option.none ∧ hasDictIn c.g.K C = true) ∧ P .next (muSet μ₂ dx (.attrs (es ++ [(name, a)]))) ρ) :
    X1 c μ ρ (.Assign [.Attribute (.Name n np) name p] e pos) P := fun Φ s I => by
  refine plainObj_wpAny_Assign_Attribute (W.mono (h Φ s I) fun v s₁ h₁ => ?_) hs
  obtain ⟨Φ₁, μ₁, a, l₁, I₁, r₁, h₁⟩ := h₁
  refine W.mono (h₁ Φ₁ s₁ I₁) fun ov s₂ h₂ => ?_
  obtain ⟨Φ₂, μ₂, b, l₂, I₂, r₂, x, C, dx, es, rfl, hi, hn, hl, ⟨k1, k2, k3, k4⟩, p⟩ := h₂
  obtain rfl := ra_v' r₂
  obtain ⟨o, kvs, it, ho, hd, hk⟩ := I₂.inst hi
  have hlen : kvs.length = es.length := by have := congrArg List.length hk.keys; simpa using this
  refine set_attr_new I₂.kin it ho hd (by rw [hk.keys]; exact hn) (by lia) k1 k2 k3 k4 fun h' o' sb e' hd' => ?_
  obtain ⟨m, J⟩ := I₂.put (tk := s₂.toks + 2) (m' := .attrs (es ++ [(name, a)])) hi.2 (fun b o n e => (sb.2 b n).trans e) e' ⟨_, hd', hk.snoc (r₁.mono l₂.le)⟩
  exact ⟨Φ₂, _, ρ, .next, (l₁.trans l₂).trans m, J, rfl, p⟩

@[reducible] noncomputable def kMI (c : Cx) (ρ : Rho) (args : List Expr) (name : Str) (P : Mu → AV → Prop) : Mu → AV → Prop := fun μ a => ∃ x C dx es f, a = .v (.ref x) ∧ Inst μ x C dx es ∧ getA es name = Option.none ∧ (plainGet c.g.K C name = true ∧ findIn c.g.K (.ref C) name = some (some (.ref f)) ∧ isFn c.g.K (.ref f) = true ∧ keepIn c.g.K (.ref f) = true) ∧
      Evs c μ ρ args (kMet2 c ρ (.ref f) x P)
theorem Ev.methI {n : Str} {np : Pos} {pl : Sem Bool} {name : Str} {apos pos : Pos} {args : List Expr} {P : Mu → AV → Prop}
    (h : Ev c μ ρ (.Name n np) (kMI c ρ args name P))
    (he : eval (.Call (.Attribute (.Name n np) name apos) args [] pos) c.env = (do
      let ov ← eval (.Name n np) c.env
      standAt apos.atName
      let (f, first) ← holding [ov] (getMethod ov name pl)
      callWith pos f first (backTo pos (starEach args c.env)) []))
    (hp : (starEach args c.env).any (·.1) = false) : Ev c μ ρ (.Call (.Attribute (.Name n np) name apos) args [] pos) P := fun Φ s I => by
  refine MethodCall_ (W.mono (h Φ s I) fun v s₁ h₁ => ?_) he
  obtain ⟨Φ₁, μ₁, a, l₁, I₁, r₁, x, C, dx, es, f, rfl, hi, hg, ⟨k1, k2, k3, k4⟩, h₁⟩ := h₁
  obtain rfl := ra_v' r₁
  obtain ⟨o, kvs, it, ho, hd, hk⟩ := I₁.inst hi
  have hv := hk.get (x := name)
  rw [hg] at hv
  refine method_fn I₁.kin it (plainGet_of k1).1 (plainGet_of k1).2 k2 (beq_iff_eq.mp k3) (by show (lookIn name o).map _ = _; rw [lookIn_of name hd, hv]; rfl) ?_
  have hb := backTo_plain (pos := pos) hp
  refine callWith_of (P := fun h => c.g.K.In h) (by simp only [hb, List.any_nil, Bool.or_false]) (keeps_K k4) (evalArgs_any hb (W.mono (h₁ Φ₁ s₁ pos I₁) fun vs s₂ h₂ => ?_))
  obtain ⟨Φ₂, μ₂, as, l₂, I₂, r₂, h₂⟩ := h₂
  exact ⟨c.g.X.keeps I₂.old, W.mono (h₂ Φ₂ s₂ (.ref x :: vs) I₂ ⟨_, _, rfl, rfl, r₂⟩) fun u s₃ h₃ => h₃.up (l₁.trans l₂)⟩
/-- a code is called -/
noncomputable def CodeV (c : Cx) (ρ : Rho) (μ : Mu) (f : Value) (as : List AV) (P : Mu → AV → Prop) : Prop := ∀ Φ s vs, Inv c Φ μ ρ s → RAs Φ as vs →
  codeAny (model c.g.prog c.g.w) c.A (.call f ⟨vs, []⟩) (fun r s' => match r with | .ok (.ret v) => Post c Φ μ s ρ P v s' | .ok _ => False | .error e => c.E e s') s
theorem CodeV.mono {f : Value} {as : List AV} {P P' : Mu → AV → Prop} (h : CodeV c ρ μ f as P') (k : ∀ ν a, P' ν a → P ν a) : CodeV c ρ μ f as P := fun Φ s vs I r => by
  refine codeAny_mono (h Φ s vs I r) fun r s' z => ?_
  rcases r with e | (v | _ | _ | _) <;> first | exact z | skip
  obtain ⟨Ψ, ν, a, m, J, r, p⟩ := z
  exact ⟨Ψ, ν, a, m, J, r, k _ _ p⟩
/-- under the making of such an object -/
noncomputable def makeCx (c : Cx) (C : Addr) (rest : List Value) : Cx := { c with A := c.A.under (.builtin "type.__call__" ⟨.ref C :: rest, []⟩), room := c.room - 1, E := fun _ _ => False }
theorem makeFrames {C : Addr} {rest : List Value} : (makeCx c C rest).A.frames = c.A.frames := by
  show pushEnvs (Code.envs (.builtin "type.__call__" ⟨.ref C :: rest, []⟩)) c.A.frames = _
  have : Code.envs (.builtin "type.__call__" ⟨.ref C :: rest, []⟩) = [] := by unfold Code.envs; split <;> rfl
  rw [this]; rfl
theorem Inv.make {Φ : Frz} {s : Shared} {C : Addr} {rest : List Value} (I : Inv c Φ μ ρ s) (hr : 1 ≤ c.room) : Inv (makeCx c C rest) Φ μ ρ s := by
  have hf : (makeCx c C rest).A.frames = c.A.frames := makeFrames
  have hd := I.ok.depth
  have hu := I.ok.units
  refine ⟨⟨I.ok.hh, I.ok.kind, I.ok.glob, I.ok.blt, ?_, ?_, I.ok.apart, PassesOwn.never, by rw [hf]; exact I.ok.frames⟩, I.old, I.ns, I.above, I.cells, I.vars, I.frz, I.mu, I.muOff, fun l e => I.ff l (hf ▸ e), I.still⟩
  · show c.A.depth + 1 + (c.room - 1) < _; lia
  · show c.A.units + 1 + 8 * (c.room - 1) + 200 < _; lia
theorem CallV.make {C fI : Addr} {rest : List AV} {P : Mu → AV → Prop} (hr : 1 ≤ c.room) (hm : makesIn c.g.K C = true) (hi : findIn c.g.K (.ref C) "__init__" = some (some (.ref fI))) (hf : isFn c.g.K (.ref fI) = true)
    (h : ∀ x dx vs, x ∉ μ.map (·.1) → dx ∉ μ.map (·.1) → x ≠ dx → CodeV (makeCx c C vs) ρ ((x, .raw (instObj C dx)) :: (dx, .attrs []) :: μ) (.ref fI) (.v (.ref x) :: rest) fun ν a => a = .d .none ∧ P ν (.v (.ref x))) : CallV c ρ μ (.ref C) rest P := fun Φ s vs I r => by
  obtain ⟨hp, g, d, t, os⟩ := s
  refine wpAny_call (make_core (makes_of I.kin hm) (looks_findIn I.kin hi) (fun self => bind_fn I.kin self (beq_iff_eq.mp hf)) (.inl rfl) ?_)
  obtain ⟨m₁, I₁⟩ := I.newMut (ρ := ρ) emptyDict (.attrs []) ⟨[], ⟨#[], 0, ⟨rfl, rfl, rfl⟩, rfl, fun _ he => by simp at he, Pairs.nil, List.nodup_nil⟩, rfl⟩ rfl
  obtain ⟨m₂, I₂⟩ := I₁.newMut (ρ := ρ) (instObj C hp.objs.size) (.raw (instObj C hp.objs.size)) ⟨rfl, by simp, by simp, by simp⟩ rfl
  have e1 : (hp.push emptyDict).objs.size = hp.objs.size + 1 := Heap.size_push ..
  have n1 : hp.objs.size ∉ μ.map (·.1) := fun q => I.noKey (Heap.fresh hp) q
  have n2 : hp.objs.size + 1 ∉ μ.map (·.1) := fun q => I.noKey (Heap.get?_none_of_le (Nat.le_succ _)) q
  rw [show ({ heap := hp.push emptyDict, gens := g, drawn := d, toks := t, os := os } : Shared).heap.objs.size = hp.objs.size + 1 from e1] at m₂ I₂
  refine codeAny_mono (h (hp.objs.size + 1) hp.objs.size vs n2 n1 (Nat.succ_ne_self _) Φ _ (.ref (hp.objs.size + 1) :: vs) (I₂.make hr) ⟨_, _, rfl, rfl, r⟩) fun r s' z => ?_
  rcases r with e | (v | _ | _ | _) <;> first | exact z.elim | skip
  obtain ⟨Ψ, ν, a, m, J, rv, rfl, p⟩ := z
  obtain rfl := ra_none' rv
  refine ⟨rfl, Ψ, ν, .v (.ref (hp.objs.size + 1)), (m₁.trans m₂).trans m, ?_, rfl, p⟩
  have hf : (makeCx c C vs).A.frames = c.A.frames := makeFrames
  exact ⟨I.ok, J.old, J.ns, J.above, J.cells, J.vars, J.frz, J.mu, J.muOff, fun l e => J.ff l (hf.trans e), J.still⟩
end
/-- what a code does, wherever it is called -/
noncomputable def SatK (g : Gd) (r : Nat) (f : Value) (as : List AV) (μ : Mu) (P : Mu → AV → Prop) : Prop := ∀ c ρ, c.g = g → r ≤ c.room → CodeV c ρ μ f as P
theorem SatK.fn {g : Gd} {oc : Value} {od : Option Addr} {osl : Array (Option Value)} {f : Addr} {name qual : Str} {params : Arguments} {body ss : List Stmt} {scope : Scope} {dV kV doc pm cdv ct : Value} {an : Option Addr} {as : List AV} {r : Nat} {μ : Mu} {P : Mu → AV → Prop}
    (names : List Str)
    (ho : List.lookup f g.K = some ⟨oc, od, .func (fnOf name qual params body scope dV kV doc pm an cdv ct), osl⟩) (hcd : codeIn g.K cdv qual = true)
    (hbind : ForN as.length fun vs => bindArgs (fnOf name qual params body scope dV kV doc pm an cdv ct) ⟨vs, []⟩ = pure (names.zip vs)) (hc : fnChk scope names as.length = true) (hs : body = ss)
    (hb : ∀ A E L, Ex ⟨g, A, envOfC qual scope L f cdv, r, false, E⟩ μ (names.zip as) ss (kRt P)) : SatK g (r + 1) (.ref f) as μ P := fun c ρ hg hr => by
  subst hg
  exact fnCode1 (fun _ _ _ => False) ho hcd hr hbind hc hs (fun _ => PassesOwn.never) (fun _ _ _ q => q.elim) (fun L => hb _ _ L)
end Mine
namespace Mine
section
variable {nm q : Str} {C N : Addr} {bs bm : List Value} {hdct : Bool} {sn : List Str} {sub : List Value} {ab : Bool} {col : Option Bool} {dd : Option Addr} {k0 k1 k2 k3 k5 : Option Value}
section
variable {M : Model} {A : Around} {E : Value → Shared → Prop} {h : Heap} {g : Array GenState} {d : Drawn} {t : Nat} {os : OsState}
theorem exc_check_new (hB : bm.contains (.type "Exception") = true) {rest : List Value} {Q : Unit → Shared → Prop} (hC : h.get? C = some (excClassObj nm q C N bs bm hdct sn sub ab col dd k0 k1 k2 k3 k5 "Exception.__new__"))
    (hq : Q () ⟨h, g, d, t, os⟩) : wpAny M A (checkBuiltinCall "Exception.__new__" ⟨.ref C :: rest, []⟩) Q E ⟨h, g, d, t, os⟩ := by
  have F := PySem.F.excBase_Exception
  have hcont : (Value.ref C :: bm).contains (.type "Exception") = true := by rw [List.contains_cons, hB, Bool.or_true]
  have hstar := F.noStar
  simp only [checkBuiltinCall, F.newKind, F.newSplit, F.newRow]
  repeat (first | refine wpAny_loadPart_at hC ?_ | (refine wpAny_isSubtype_exc hC ?_; rw [hcont]) | refine wpAny_staticBase_exc hC ?_ | refine wpAny_madeBy_exc hC ?_ | simp only [bne_self_eq_false, Bool.false_eq_true, if_false] | wp_step)
  exact hq
end
section
variable {prog : Program} {w : World} {A : Around} {R : Result → Shared → Prop} {h : Heap} {g : Array GenState} {d : Drawn} {t : Nat} {os : OsState}
theorem exc_new_code (hB : bm.contains (.type "Exception") = true) (hA : bm.contains (.type "AttributeError") = false) (hN : bm.contains (.type "NameError") = false) {rest : List Value} (hC : h.get? C = some (excClassObj nm q C N bs bm hdct sn sub ab col dd k0 k1 k2 k3 k5 "Exception.__new__"))
    (hq : R (.ok (.ret (.ref (h.objs.size + 1)))) ⟨(h.push { cls := .type "tuple", data := .seq rest.toArray }).push
      { cls := .ref C, data := .fields #[.ref h.objs.size, .none, .none, .none, .bool false, .none] }, g, d, t, os⟩) (hrest : rest.length ≤ sizeLine) :
    codeAny (model prog w) A (.builtin "Exception.__new__" ⟨.ref C :: rest, []⟩) R ⟨h, g, d, t, os⟩ := by
  have F := PySem.F.excBase_Exception
  have hends := F.ends
  have hcB : (Value.ref C :: bm).contains (.type "Exception") = true := by rw [List.contains_cons, hB, Bool.or_true]
  have hcA : (Value.ref C :: bm).contains (.type "AttributeError") = false := by rw [List.contains_cons, hA]; rfl
  have hcN : (Value.ref C :: bm).contains (.type "NameError") = false := by rw [List.contains_cons, hN]; rfl
  refine codeAny_builtinAt F.entry ?_
  unfold Builtin.«BaseException.__new__»
  refine PySem.wpAt_bind ?_
  show PySem.wpAt _ _ _ (stack >>= _) _ _ _
  refine PySem.wpAt_bind (PySem.wpAt_stack fun p below => PySem.wpAt_of_wpAny ?_)
  wp_walk
  refine PySem.wpAt_of_wpAny ?_
  rw [F.owner]
  repeat (first | with_reducible refine wpAny_madeHere_exc F.canon hC ?_ | with_reducible refine wpAny_loadPart_at hC ?_ | (with_reducible refine wpAny_isSubtype_exc hC ?_; first | rw [hcB] | rw [hcA] | rw [hcN]) | wp_step)
  show R _ _
  rw [Heap.size_push]
  exact hq
/-- an own class of exceptions with an own __init__ is called -/
theorem exc_make {K : Frag} {fI : Addr} {rest : List Value} (X : K.In h) (hB : bm.contains (.type "Exception") = true) (hA : bm.contains (.type "AttributeError") = false) (hN : bm.contains (.type "NameError") = false)
    (hC : h.get? C = some (excClassObj nm q C N bs bm hdct sn sub ab col dd k0 k1 k2 k3 k5 "Exception.__new__")) (hrest : rest.length ≤ sizeLine)
    (hi : findIn K (.ref C) "__init__" = some (some (.ref fI))) (hf : typeIn K (.ref fI) = some (.type "function"))
    (hq : codeAny (model prog w) (A.under (.builtin "type.__call__" ⟨.ref C :: rest, []⟩)) (.call (.ref fI) ⟨.ref (h.objs.size + 1) :: rest, []⟩) (InitBack (h.objs.size + 1) R) ⟨(h.push { cls := .type "tuple", data := .seq rest.toArray }).push
      { cls := .ref C, data := .fields #[.ref h.objs.size, .none, .none, .none, .bool false, .none] }, g, d, t, os⟩) :
    codeAny (model prog w) A (.call (.ref C) ⟨rest, []⟩) R ⟨h, g, d, t, os⟩ := by
  have F := PySem.F.excBase_Exception
  have f1 := tc_lookup
  have f2 := tc_bind (.ref C)
  have hT : (⟨h, g, d, t, os⟩ : Shared).TypeIs (.ref C) "type" := ⟨_, hC, rfl⟩
  refine codeAny_of_tree ?_
  show wpAny _ _ (callAny (.ref C) _) _ _ _
  repeat (any_goals (first | assumption | with_reducible refine wpAny_loadPart_at hC ?_ | wp_step))
  refine ⟨rfl, ?_⟩
  refine codeAny_call_builtin_at (Code.quiet_builtin _ (by decide +kernel)) entry_typeCall (wpAny_check_type_call_sub hC ?_)
  repeat (first | with_reducible refine wpAny_loadPart_at hC ?_ | with_reducible refine wpAny_madeBy_exc hC ?_ | wp_step)
  refine codeAny_call_builtin_code (Code.quiet_builtin _ F.quiet) (exc_check_new hB hC ?_)
  refine exc_new_code (rest := rest) hB hA hN hC ?_ hrest
  show wpAny _ _ _ _ _ _
  have k : ∀ b o, h.get? b = some o → ((h.push { cls := .type "tuple", data := .seq rest.toArray }).push { cls := .ref C, data := .fields #[.ref h.objs.size, .none, .none, .none, .bool false, .none] }).get? b = some o := fun b o e => Heap.get?_push_of_some _ (Heap.get?_push_of_some _ e)
  have hC₁ := k _ _ hC
  have hget : ((h.push { cls := .type "tuple", data := .seq rest.toArray }).push
      { cls := .ref C, data := .fields #[.ref h.objs.size, .none, .none, .none, .bool false, .none] }).get? (h.objs.size + 1) = some
      { cls := .ref C, data := .fields #[.ref h.objs.size, .none, .none, .none, .bool false, .none] } := by heap_get
  have hcC : (Value.ref C :: bm).contains (.ref C) = true := by simp
  have t1 : Looks (model prog w) ((h.push { cls := .type "tuple", data := .seq rest.toArray }).push { cls := .ref C, data := .fields #[.ref h.objs.size, .none, .none, .none, .bool false, .none] }) (typeOf (.ref (h.objs.size + 1))) (.ref C) := (Looks.ld hget).andThen .now
  have i1 := looks_findIn (M := model prog w) (Frag.In.keeps X k) hi
  have b1 := bind_fn (M := model prog w) (Frag.In.keeps X k) (.ref (h.objs.size + 1)) hf
  unfold isInstance callSpecial? specialOf
  repeat (first | with_reducible refine wpAny_call ?_ | (with_reducible refine wpAny_isSubtype_exc hC₁ ?_; rw [hcC]) | lk)
  refine codeAny_mono hq fun r s' z => ?_
  rcases r with e | (v | _ | _ | _) <;> first | exact z | exact z.elim | skip
  obtain ⟨rfl, z⟩ := z
  exact wpAny_pure (wpAny_pure z)
end
end

section
open Builtin Builtin.ObjectAttr Builtin.Getset_descriptor
variable {prog : Program} {w : World} {A : Around} {E : Value → Shared → Prop} {h : Heap} {g : Array GenState} {d : Drawn} {t : Nat} {os : OsState} {K : Frag} {C C' x : Addr} {mA : Str → Option Value} {name : Str} {v : Value} {ns : List Str}
theorem exc_store {Q : Unit → Shared → Prop} (X : K.In h) (I : h.Inst x C mA)
    (hm : (clsIn K C).any (fun cd => cd.mro == [.ref C, .ref C', .type "Exception", .type "BaseException", .type "object"]) = true)
    (hs : findIn K (.ref C) "__setattr__" = some (some (.builtin "object.__setattr__"))) (ht : takerIn K C name = some none) (hh : hasDictIn K C = true)
    (hq : ∀ h' tk' dx o₀, h.get? x = some o₀ → h'.get? x = some { o₀ with dict := some dx } → (o₀.dict = some dx ∨ (o₀.dict = none ∧ h.get? dx = none)) → (∀ b o, b ≠ x → b ≠ dx → h.get? b = some o → h'.get? b = some o) →
      h'.Inst x C (fun y => if y = name then some v else mA y) → Q () ⟨h', g, d, tk', os⟩) (hw : Within mA ns) (hsz : ns.length ≤ 1000) :
    wpAny (model prog w) A (setAttr (.ref x) name v) Q E ⟨h, g, d, t, os⟩ := by
  obtain ⟨cd, hc, hmro⟩ := any_some hm
  have hmro := beq_iff_eq.mp hmro
  obtain ⟨cd', hc', hdict⟩ := any_some hh
  rw [hc] at hc'; cases hc'
  obtain ⟨o, hx, hcl, hnc, hd⟩ := I
  have IA : ∃ od, InstAt h x o C od := by
    rcases hd with ⟨hdn, _⟩ | ⟨dx, hdx, _, o2, _, _, e2, _⟩
    · exact ⟨none, hx, hcl, by unfold notCls; split <;> first | rfl | (rename_i z; exact absurd z (hnc _)), by rw [hdn]; trivial⟩
    · exact ⟨some o2, hx, hcl, by unfold notCls; split <;> first | rfl | (rename_i z; exact absurd z (hnc _)), by rw [hdx]; exact e2⟩
  obtain ⟨od, IA⟩ := IA
  refine set_plain (s := ⟨h, g, d, t, os⟩) X IA hs ?_
  have SF := PySem.F.store_object
  have sub : Looks (model prog w) h (isInstance (.ref x) (.type "object")) true := IA.type.andThen (looks_mroIn X (by unfold mroIn; rw [hc, Option.bind_some, hmro]; rfl))
  refine codeAny_call_builtin SF.slot.plain SF.entry (@check_slot (model prog w) _ _ ⟨h, g, d, t + 1, os⟩ "object.__setattr__" "object" "__setattr__" (.ref x) [.str name t, v] [] _ SF.kind SF.split sub (SF.args (.ref x) (.str name t) v) ?_)
  obtain ⟨attr, ha, hr⟩ := Option.bind_eq_some_iff.mp ht
  have hml : Looks (model prog w) h (mroOf (.ref C)) cd.mro := (looks_clsIn X hc).andThen .now
  have L3 : Looks (model prog w) h (storeTaker? attr) none := by
    cases attr with
    | none => exact .now
    | some a =>
      obtain ⟨b, hb, hr⟩ := Option.map_eq_some_iff.mp hr
      refine (looks_takesIn X hb).andThen ?_
      cases b <;> first | exact .now | cases hr
  have L1 := IA.type (M := model prog w)
  have L2 := looks_findIn (M := model prog w) X ha
  have L4 := looks_clsIn (M := model prog w) X hc
  rw [osa_eq, refuse_eq]
  refine wpAny_bind (wpAny_bind (L1 _ _ _ _ (fun _ _ e => e) (wpAny_bind (hml _ _ _ _ (fun _ _ e => e) ?_))))
  rw [hmro, refuseLoop_ref, refuseLoop_ref, PySem.F.store_Exception.passes]
  refine wpAny_pure (wpAny_bind (L1 _ _ _ _ (fun _ _ e => e) (wpAny_bind (L2 _ _ _ _ (fun _ _ e => e) (wpAny_bind (L3 _ _ _ _ (fun _ _ e => e) ?_))))))
  show wpAny _ _ (storeInOwnDict (.ref x) (.ref C) (.str name t) name v _) _ _ _
  obtain ⟨oc, odi, oda, osl⟩ := o
  dsimp only at hcl hd hnc
  subst hcl
  refine wpAny_bind (wpAny_pure (wpAny_bind (wpAny_bind (wpAny_loadPart hx (wpAny_bind (L4 _ _ _ _ (fun _ _ e => e) ?_))))))
  rw [hdict]
  rcases hd with ⟨rfl, hmA⟩ | ⟨dx, rfl, hne, hns⟩
  · have hx₁ : (h.push { cls := .type "dict", data := .dict #[] }).get? x = some { cls := .ref C, dict := none, data := oda, slots := osl } := Heap.get?_push_of_some _ hx
    have hxs : x ≠ h.objs.size := Nat.ne_of_lt (Heap.lt_size hx)
    have key : ∀ {Q1 : Option Addr → Shared → Prop} {E1 : Value → Shared → Prop}, Q1 (some h.objs.size) ⟨(h.push { cls := .type "dict", data := .dict #[] }).update x (fun o => { cls := o.cls, dict := some h.objs.size, data := o.data, slots := o.slots }), g, d, t + 1, os⟩ →
        wpAny (model prog w) A.in1 (do
          let d ← alloc { cls := .type "dict", data := .dict #[] }
          update x fun o => { cls := o.cls, dict := some d, data := o.data, slots := o.slots }
          dictMade (.ref C) x d) Q1 E1 ⟨h, g, d, t + 1, os⟩ := fun q => wpAny_bind (wpAny_alloc' (wpAny_bind (wpAny_update' hx₁ (wpAny_pure q))))
    have hfr : ({ cls := .ref C, dict := some h.objs.size, data := oda, slots := osl } : Obj).isFreed = false := by
      have := (Heap.get?_some_iff.mp hx).2
      cases oda <;> first | rfl | exact this
    have hgd : ((h.push { cls := .type "dict", data := .dict #[] }).update x fun o => { cls := o.cls, dict := some h.objs.size, data := o.data, slots := o.slots }).get? h.objs.size
        = some { cls := .type "dict", data := .dict #[] } :=
      (Heap.get?_update_ne _ _ _ _ hxs.symm).trans (Heap.get?_push_at rfl rfl)
    have hgx := Heap.get?_update_self (fun o => ({ cls := o.cls, dict := some h.objs.size, data := o.data, slots := o.slots } : Obj)) hx₁ hfr
    have hnd : ((h.push { cls := .type "dict", data := .dict #[] }).update x fun o => { cls := o.cls, dict := some h.objs.size, data := o.data, slots := o.slots }).Ns h.objs.size (fun _ => none) :=
      ⟨_, #[], _, hgd, rfl, fun e he => absurd he (by simp), fun _ => rfl⟩
    have fin : ∀ {Q1 : Fin → Shared → Prop} {E1 : Value → Shared → Prop}, (∀ h' tk', h'.get? x = some { cls := .ref C, dict := some h.objs.size, data := oda, slots := osl } → h'.Inst x C (fun y => if y = name then some v else mA y) → (∀ b o, b ≠ x → h.get? b = some o → h'.get? b = some o) → Q1 (.done (.ret .none)) ⟨h', g, d, tk', os⟩) →
        wpAny (model prog w) A.in1 (storeInDict h.objs.size (.str name t) name v) Q1 E1 ⟨(h.push { cls := .type "dict", data := .dict #[] }).update x (fun o => { cls := o.cls, dict := some h.objs.size, data := o.data, slots := o.slots }), g, d, t + 1, os⟩ := fun {Q1 E1} q => by
      unfold storeInDict newKeyGuard
      refine wpAny_bind (wpAny_pure (wpAny_bind (wpAny_nsSet1 (Heap.Ns1.of_empty hnd) fun h' hn' hs => ?_)))
      obtain ⟨oD, esD, epD, hoD, hdD, hcD⟩ := hn'.count (Within.cons name v Within.nil)
      refine wpAny_bind (wpAny_lookBehind hoD (by rw [hdD]; exact pastItsLine_dict (Nat.le_trans hcD (by rw [List.length_cons, List.length_nil, sizeLine_eq]; omega))) ?_)
      have hx' := (hs.2 x hxs).trans hgx
      refine wpAny_pure (q h' _ hx' ⟨_, hx', rfl, hnc, .inr ⟨h.objs.size, rfl, hxs.symm, ?_⟩⟩ fun b ob hbx hb => ?_)
      · obtain ⟨o', es, ep, e1, e2, e3, eu, e4⟩ := hn'
        exact ⟨o', es, ep, e1, e2, e3, eu, fun y => by rw [e4 y]; by_cases hy : y = name <;> simp [hy, hmA]⟩
      · exact (hs.2 b (Nat.ne_of_lt (Heap.lt_size hb))).trans ((Heap.get?_update_ne _ _ _ _ hbx).trans (Heap.get?_push_of_some _ hb))
    cases oda <;> first | exact absurd rfl (hnc _) | exact key (fin fun h' tk' e1 e2 e3 => hq h' tk' _ _ hx e1 (.inr ⟨rfl, Heap.get?_none_of_le (Nat.le_refl _)⟩) (fun b o n _ e => e3 b o n e) e2)
  · have fin : ∀ {Q1 : Fin → Shared → Prop} {E1 : Value → Shared → Prop}, (∀ h' tk', h'.get? x = some { cls := .ref C, dict := some dx, data := oda, slots := osl } → h'.Inst x C (fun y => if y = name then some v else mA y) → (∀ b o, b ≠ dx → h.get? b = some o → h'.get? b = some o) → Q1 (.done (.ret .none)) ⟨h', g, d, tk', os⟩) →
        wpAny (model prog w) A.in1 (storeInDict dx (.str name t) name v) Q1 E1 ⟨h, g, d, t + 1, os⟩ := fun {Q1 E1} q => by
      unfold storeInDict newKeyGuard
      refine wpAny_bind (wpAny_pure (wpAny_bind (wpAny_nsSet1 hns fun h' hn' hs => ?_)))
      obtain ⟨oD, esD, epD, hoD, hdD, hcD⟩ := hn'.count (Within.cons name v hw)
      refine wpAny_bind (wpAny_lookBehind hoD (by rw [hdD]; exact pastItsLine_dict (Nat.le_trans hcD (by rw [List.length_cons, sizeLine_eq]; omega))) ?_)
      have hx' := (hs.2 x hne.symm).trans hx
      exact wpAny_pure (q h' _ hx' ⟨_, hx', rfl, hnc, .inr ⟨dx, rfl, hne, hn'⟩⟩ fun b ob hbd hb => (hs.2 b hbd).trans hb)
    exact wpAny_pure (a := some dx) (fin fun h' tk' e1 e2 e3 => hq h' tk' dx _ hx e1 (.inl rfl) (fun b o _ n e => e3 b o n e) e2)
end

section
variable {prog : Program} {w : World} {A : Around} {E : Value → Shared → Prop} {s : Shared} {K : Frag}
theorem method_exc {pl : Sem Bool} {Q : Value × List Value → Shared → Prop} (X : K.In s.heap) (e : findCls K (.type "Exception") (.type "type") "__init__" = some (.val (.builtin "Exception.__init__"))) (h : Q (.builtin "Exception.__init__", []) { s with toks := s.toks + 1 }) :
    wpAny (model prog w) A (getMethod (.type "Exception") "__init__" pl) Q E s := by
  have ht : typeOf (.type "Exception") = pure (.type "type") := rfl
  have hs : Manifest.isStub "Exception" = false := by decide +kernel
  have hstub : opaqueClassAbove (.type "Exception") = pure none := by unfold opaqueClassAbove; dsimp only; rw [hs]; rfl
  have L0 : Looks (model prog w) s.heap (typeOf (.type "Exception")) (.type "type") := Looks.of_pure ht
  have hg : findIn K (.type "type") "__getattribute__" = some (some (.builtin "type.__getattribute__")) := type_tga
  unfold getMethod specialOf
  refine wpAny_bind (wpAny_bind (L0.here ((looks_findIn X hg).here ?_)))
  dsimp only
  rw [if_pos canon_tga]
  refine wpAny_bind (wpAny_mono (Q := fun v => Q (v, [])) (E := E) ?_ (fun _ _ z => wpAny_pure z) fun _ _ z => z)
  have LO : Looks (model prog w) s.heap (opaqueClassAbove (.type "Exception")) none := Looks.of_pure hstub
  refine cls_open X LO L0 hg (looks_hook X (r := none) (by rfl)) (by show subIn K _ _ = _; rfl) e
    (wpAny_pure (by show wpAny _ _ (handedOut _) _ _ _; rw [handedOut_of (by rfl)]; exact wpAny_pure h))
variable {nm q : Str} {C N x : Addr} {bs bm : List Value} {hdct : Bool} {sn : List Str} {sub : List Value} {ab : Bool} {col : Option Bool} {dd : Option Addr} {k0 k1 k2 k3 k5 : Option Value}
theorem exc_check_init (hB : bm.contains (.type "Exception") = true) {M : Model} {e : Addr} {oe : Obj} {rest : List Value} {Q : Unit → Shared → Prop} {h : Heap} {g : Array GenState} {d : Drawn} {t : Nat} {os : OsState}
    (hC : h.get? C = some (excClassObj nm q C N bs bm hdct sn sub ab col dd k0 k1 k2 k3 k5 "Exception.__new__")) (he : h.get? e = some oe) (hcls : oe.cls = .ref C) (hq : Q () ⟨h, g, d, t, os⟩) :
    wpAny M A (checkBuiltinCall "Exception.__init__" ⟨.ref e :: rest, []⟩) Q E ⟨h, g, d, t, os⟩ := by
  have F := PySem.F.excBase_Exception
  have hcB : (Value.ref C :: bm).contains (.type "Exception") = true := by rw [List.contains_cons, hB, Bool.or_true]
  have hshort := F.noStar
  simp only [checkBuiltinCall, F.initKind, F.initSplit, F.initRow]
  repeat (first | (with_reducible refine wpAny_loadPart_at he ?_; rw [hcls]) | with_reducible refine wpAny_loadPart_at hC ?_ | (with_reducible refine wpAny_isSubtype_exc hC ?_; rw [hcB]) | wp_step)
  refine wpAny_onRaise ?_
  rw [show ∀ (a b : String) (n : Nat), Bind.check ⟨.positional, "*", "Exception", .self, [⟨"args", .varPos, false⟩]⟩ a b n (List.map (fun x => x.fst) ({ pos := Value.ref e :: rest } : Args).kw) = pure () from
    fun a b n => check_star_args _ _ _ _ _ _]
  exact wpAny_pure hq
theorem exc_init_call (hB : bm.contains (.type "Exception") = true) {e t0 : Addr} {od : Option Addr} {rest : List Value} {Q : Value → Shared → Prop}
    (hC : s.heap.get? C = some (excClassObj nm q C N bs bm hdct sn sub ab col dd k0 k1 k2 k3 k5 "Exception.__new__")) (he : s.heap.get? e = some { cls := .ref C, dict := od, data := .fields #[.ref t0, .none, .none, .none, .bool false, .none] })
    (h : ∀ h' t1, h'.get? e = some { cls := .ref C, dict := od, data := .fields #[.ref t1, .none, .none, .none, .bool false, .none] } → (∀ b o, b ≠ e → s.heap.get? b = some o → h'.get? b = some o) → Q .none { s with heap := h' }) (hrest : rest.length ≤ sizeLine) :
    wpAny (model prog w) A (call (.builtin "Exception.__init__") (.ref e :: rest)) Q E s := by
  have F := PySem.F.excBase_Exception
  refine wpAny_call (codeAny_call_builtin F.init.plain F.initEntry (exc_check_init hB hC he rfl ?_))
  unfold Builtin.«BaseException.__init__»
  dsimp only
  rw [if_neg (by simp)]
  unfold newTuple Builtin.BaseException.bexcPut
  have he₁ := Heap.get?_push_of_some (h := s.heap) { cls := .type "tuple", data := .seq rest.toArray } he
  refine wpAny_bind (wpAny_newObj_type (wpAny_bind (wpAny_bind (wpAny_field he₁ rfl rfl (wpAny_bind (wpAny_setField he₁ rfl (Nat.le_of_ble_eq_true rfl) ?_))))) (by show rest.toArray.size ≤ sizeLine; rw [List.size_toArray]; exact hrest))
  refine wpAny_letGo (wpAny_pure (h _ s.heap.objs.size ?_ fun b o n eb => ?_))
  · exact Heap.get?_update_self _ he₁ rfl
  · rw [Heap.get?_update_other _ _ (Ne.symm n)]; exact Heap.get?_push_of_some _ eb
/-- a plain function is entered -/
theorem enter_code {oc : Value} {od : Option Addr} {osl : Array (Option Value)} {f : Addr} {name qual : Str} {params : Arguments} {body : List Stmt} {scope : Scope} {dV kV doc pm cdv ct : Value} {an : Option Addr} {vs : List Value} {R : Result → Shared → Prop}
    (names : List Str) (X : K.In s.heap) (hlim : s.heap.NoLimit) (hroom : A.depth < recursionLimit)
    (ho : List.lookup f K = some ⟨oc, od, .func (fnOf name qual params body scope dV kV doc pm an cdv ct), osl⟩) (hcd : codeIn K cdv qual = true)
    (hbind : BindsTo s (fnOf name qual params body scope dV kV doc pm an cdv ct) ⟨vs, []⟩ (names.zip vs)) (hlen : names.length = vs.length)
    (hnames : (names.all fun y => scope.names.lookup y == some .local) = true) (hnd : names.Nodup)
    (h : ∀ h₁ tk m, h₁.Ns s.heap.objs.size m → (∀ x v, (x, v) ∈ names.zip vs → m x = some v) → (∀ b o, s.heap.get? b = some o → h₁.get? b = some o) →
      wpAny (model prog w) (A.deeper (envOfC qual scope s.heap.objs.size f cdv)) (execs body (envOfC qual scope s.heap.objs.size f cdv)) (fun fl s' => R (.ok (.ret (match fl with | .ret v => v | _ => .none))) s')
        (fun e s' => wpAny (model prog w) (A.deeper (envOfC qual scope s.heap.objs.size f cdv)) (leaving (envOfC qual scope s.heap.objs.size f cdv) e) (fun _ s'' => R (.error e) s'') (fun e' s'' => R (.error e') s'') s') { s with heap := h₁, toks := tk })
    (hco : scope.isCoroutine = false) (hgen : scope.isGenerator = false) (hk : scope.kind = .function) : codeAny (model prog w) A (.call (.ref f) ⟨vs, []⟩) R s := by
  have hzn : (names.zip vs).map (·.1) = names := by rw [List.map_fst_zip]; omega
  have hkd : ((names.zip vs).all fun y => scope.names.lookup y.1 == some .local || scope.names.lookup y.1 == some .cell) = true := by
    refine List.all_eq_true.mpr fun y hy => ?_
    have := List.all_eq_true.mp hnames y.1 (hzn ▸ List.mem_map_of_mem hy)
    rw [this]; rfl
  refine codeAny_call_function hroom (X _ _ ho) rfl hco hgen rfl (codeRec_of X hcd) (hbind _ _ _ _ ?_)
  refine wpAny_newFunctionEnv_cells hk (kinds_of hkd _) fun env' he s' x => ?_
  subst he
  refine ⟨hlim.keeps x.toInCall.keep, codeAny_func ?_⟩
  obtain ⟨h₁, tk, rfl, hk₁⟩ := x.done
  refine h h₁ tk _ x.toInCall.ns (fun y v hm => ?_) hk₁
  have hy : y ∈ names := hzn ▸ List.mem_map_of_mem (f := (·.1)) hm
  have q : scope.names.lookup y = some .local := by simpa using List.all_eq_true.mp hnames y hy
  exact bindL_mem q (hzn.symm ▸ hnd) hm
end
end Mine
namespace Mine
noncomputable abbrev excObj (od : Option Addr) (t0 : Addr) : Obj := { cls := .ref 45, dict := od, data := .fields #[.ref t0, .none, .none, .none, .bool false, .none] }
theorem flow_init {g : Gd} {A : Around} {s : Shared} (hold : ∀ b o, g.h₀.get? b = some o → s.heap.get? b = some o) (hroom : A.depth < recursionLimit) {x t0 : Addr} {m sp : Value} (hx : s.heap.get? x = some (excObj none t0)) (hx0 : g.h₀.get? x = none) {R : Result → Shared → Prop}
    (hR : ∀ h' tk od t1, h'.get? x = some (excObj od t1) → (∀ b o, b ≠ x → s.heap.get? b = some o → h'.get? b = some o) → R (.ok (.ret .none)) { s with heap := h', toks := tk }) :
    codeAny (model g.prog g.w) A (.call (.ref 29) ⟨[.ref x, m, sp], []⟩) R s := by
  refine enter_code (K := g.K) ["self", "message", "spot"] (Frag.In.keeps g.X hold) (g.T.nolimit.keeps hold) hroom rfl rfl (BindsTo.of_defaults rfl (Frag.In.keeps g.X hold _ _ rfl) rfl rfl rfl) rfl (by decide) (by decide) ?_ rfl rfl rfl
  intro h₁ tk mm hns hm hk
  have hold₁ : ∀ b o, g.h₀.get? b = some o → h₁.get? b = some o := fun b o e => hk b o (hold b o e)
  have X₁ : g.K.In h₁ := Frag.In.keeps g.X hold₁
  have m1 := hm "self" _ (.head _)
  have m2 := hm "message" _ (.tail _ (.head _))
  have m3 := hm "spot" _ (.tail _ (.tail _ (.head _)))
  have hx₁ := hk _ _ hx
  have hC := X₁ 45 _ rfl
  refine wpAny_execs_cons ?_
  rw [exec_Expr _ _ _ rfl rfl]
  refine wpAny_bind (wpAny_standAt (wpAny_bind ?_))
  refine MethodCall_ ?_ (by rfl)
  refine Name_function_global rfl rfl (loadGlobal_builtin (g.T.g.keeps hold₁) (mg_none_of g.X g.T.g rfl) (g.T.b.keeps hold₁) ((g.T.builtins "Exception" (by decide)).trans rfl) ?_) (by decide)
  refine method_exc (K := g.K) X₁ rfl ?_
  refine callWith_builtin rfl (evalArgs_any rfl ?_)
  refine args_cons (wpAny_Name (wpAny_loadName_local rfl rfl hns m1 ?_) (by decide)) rfl
  refine args_cons (wpAny_Name (wpAny_loadName_local rfl rfl hns m2 ?_) (by decide)) rfl
  refine args_nil ?_
  refine exc_init_call (rest := [m]) (by decide +kernel) hC hx₁ (fun h₂ t1 e2 k2 => ?_) (by show 1 ≤ sizeLine; decide)
  refine wpAny_dropValue ?_
  have hxL : s.heap.objs.size ≠ x := Ne.symm (Nat.ne_of_lt (Heap.lt_size hx))
  have hold₂ : ∀ b o, g.h₀.get? b = some o → h₂.get? b = some o := fun b o e => k2 b o (fun q => by rw [q, hx0] at e; cases e) (hold₁ b o e)
  have hns₂ : h₂.Ns s.heap.objs.size mm := let ⟨o, es, ep, e, r⟩ := hns; ⟨o, es, ep, k2 _ _ hxL e, r⟩
  refine wpAny_execs_cons (plainObj_wpAny_Assign_Attribute (wpAny_Name (wpAny_loadName_local rfl rfl hns₂ m2 (wpAny_Name (wpAny_loadName_local rfl rfl hns₂ m1 ?_) (by decide))) (by decide)) rfl)
  refine exc_store (K := g.K) (C' := 32) (mA := fun _ => none) (ns := []) (Frag.In.keeps g.X hold₂) ⟨_, e2, rfl, (fun c q => by cases q), .inl ⟨rfl, fun _ => rfl⟩⟩ rfl rfl rfl rfl (fun h₃ tk₃ dx o₀ a1 a2 a3 a4 a5 => ?_) Within.nil (by decide)
  rw [e2] at a1; cases a1
  have fdx : h₂.get? dx = none := by
    rcases a3 with q | q
    · cases q
    · exact q.2
  have k3 : ∀ b o, b ≠ x → h₂.get? b = some o → h₃.get? b = some o := fun b o n e => a4 b o n (fun q => by rw [q, fdx] at e; cases e) e
  have hold₃ : ∀ b o, g.h₀.get? b = some o → h₃.get? b = some o := fun b o e => k3 b o (fun q => by rw [q, hx0] at e; cases e) (hold₂ b o e)
  have hns₃ : h₃.Ns s.heap.objs.size mm := let ⟨o, es, ep, e, r⟩ := hns₂; ⟨o, es, ep, k3 _ _ hxL e, r⟩
  refine wpAny_execs_cons (plainObj_wpAny_Assign_Attribute (wpAny_Name (wpAny_loadName_local rfl rfl hns₃ m3 (wpAny_Name (wpAny_loadName_local rfl rfl hns₃ m1 ?_) (by decide))) (by decide)) rfl)
  refine exc_store (K := g.K) (C' := 32) (ns := _) (Frag.In.keeps g.X hold₃) a5 rfl rfl rfl rfl (fun h₄ tk₄ dx' o₀ b1 b2 b3 b4 b5 => ?_) (Within.cons "message" m Within.nil) (by decide)
  rw [a2] at b1; cases b1
  have edx : dx' = dx := by
    rcases b3 with q | q
    · cases q; rfl
    · cases q.1
  subst edx
  refine wpAny_execs_nil (hR h₄ _ _ t1 b2 fun b o n e => b4 b o n (fun q => ?_) (k3 b o n (k2 b o n (hk b o e))))
  have e' := k2 b o n (hk b o e)
  rw [q, fdx] at e'; cases e'
end Mine
namespace Mine
noncomputable def Same (g : Gd) (s : Shared) : Prop := s.gens = g.gn ∧ s.drawn = g.dr ∧ s.os = g.os
/-- an exception on its way through these frames -/
inductive Fly (g : Gd) (l : List Env) (e : Value) (s' : Shared) : Prop
  | mk (a : Addr) (a0 : Value) (he : e = .ref a) (fl : Heap.FlyingW g.bs l a (.ref 45) a0 s'.heap) (up : g.h₀.UpToSlots s'.heap) (sm : Same g s')
/-- an exception raised here -/
inductive New (g : Gd) (l : List Env) (e : Value) (s' : Shared) : Prop
  | mk (a : Addr) (oe : Obj) (vs : Array Value) (a0 : Value) (he : e = .ref a) (h1 : s'.heap.get? a = some oe) (h2 : oe.cls = .ref 45) (h3 : oe.data = .fields vs) (h4 : vs[1]? = some .none) (h5 : vs[0]? = some a0) (h6 : g.bs.get? a = none)
    (h7 : g.bs.StaysIn s'.heap) (h8 : s'.heap.FunFrames g.bs l) (up : g.h₀.UpToSlots s'.heap) (sm : Same g s')
noncomputable def CanFly (c : Cx) : Prop := ∀ l, c.A.frames = some l → ∀ e s', Fly c.g l e s' → c.E e s'
noncomputable def CanNew (c : Cx) : Prop := ∀ l, c.A.frames = some l → ∀ e s', New c.g l e s' → c.E e s'
/-- what leaves a called function -/
noncomputable abbrev leavesTo (c : Cx) (env : Env) : Value → Shared → Prop := fun e s' => wpAny (model c.g.prog c.g.w) (c.A.deeper env) (leaving env e) (fun _ s'' => c.E e s'') (fun e' s'' => c.E e' s'') s'
theorem deeper_frames {A : Around} {env : Env} {l : List Env} (h : (A.deeper env).frames = some l) : ∃ l₀, A.frames = some l₀ ∧ l = env :: l₀ := by
  cases q : A.frames with
  | none =>
    have : (A.deeper env).frames = A.frames.map (env :: ·) := rfl
    rw [this, q] at h; cases h
  | some l₀ => rw [Around.frames_deeper q] at h; cases h; exact ⟨l₀, rfl, rfl⟩
theorem flyCallee {c : Cx} (h : CanFly c) {env : Env} {r : Nat} {L : Addr} (hf : env.frame = some L) : CanFly (callee c env (leavesTo c env) r) := fun l hl e s' q => by
  obtain ⟨a, a0, he, hfl, up, sm⟩ := q
  obtain ⟨l₀, h0, rfl⟩ := deeper_frames hl
  subst he
  exact wpAny_leaves_onW hl hf hfl fun h' hfl' hsm => h l₀ h0 _ _ ⟨a, a0, rfl, hfl', up.trans hsm, sm⟩
theorem newCallee {c : Cx} (h : CanFly c) {env : Env} {r : Nat} {L : Addr} (hf : env.frame = some L) : CanNew (callee c env (leavesTo c env) r) := fun l hl e s' q => by
  obtain ⟨a, oe, vs, a0, he, h1, h2, h3, h4, h5, h6, h7, h8, up, sm⟩ := q
  obtain ⟨l₀, h0, rfl⟩ := deeper_frames hl
  subst he
  refine wpAny_leaving_firstW hl h8 hf h1 h7 h6 h3 h4 h5 fun h' hL => ?_
  obtain ⟨k1, ⟨_, _, k2⟩, k3, k4⟩ := hL
  exact h l₀ h0 _ _ ⟨a, a0, rfl, ⟨k1, h6, k2, h2 ▸ k3⟩, up.trans k4, sm⟩
/-- what a call does that may raise, only where it is bad -/
noncomputable def SatR (g : Gd) (r : Nat) (f : Value) (as : List AV) (μ : Mu) (bad : Prop) (P : Mu → AV → Prop) : Prop := ∀ c ρ, c.g = g → r ≤ c.room → (bad → CanFly c) → CallV c ρ μ f as P
theorem SatR.fn {g : Gd} {oc : Value} {od : Option Addr} {osl : Array (Option Value)} {f : Addr} {name qual : Str} {params : Arguments} {body ss : List Stmt} {scope : Scope} {dV kV doc pm cdv ct : Value} {an : Option Addr} {as : List AV} {r : Nat} {μ : Mu} {bad : Prop} {P : Mu → AV → Prop}
    (names : List Str)
    (ho : List.lookup f g.K = some ⟨oc, od, .func (fnOf name qual params body scope dV kV doc pm an cdv ct), osl⟩) (hcd : codeIn g.K cdv qual = true)
    (hbind : ForN as.length fun vs => bindArgs (fnOf name qual params body scope dV kV doc pm an cdv ct) ⟨vs, []⟩ = pure (names.zip vs)) (hc : fnChk scope names as.length = true) (hs : body = ss)
    (hb : ∀ A E L, (bad → CanFly ⟨g, A, envOfC qual scope L f cdv, r, false, E⟩ ∧ CanNew ⟨g, A, envOfC qual scope L f cdv, r, false, E⟩) → Ex ⟨g, A, envOfC qual scope L f cdv, r, false, E⟩ μ (names.zip as) ss (kRt P)) : SatR g (r + 1) (.ref f) as μ bad P := fun c ρ hg hr hcan => by
  subst hg
  exact CallV.code (fnCode1 (fun env => leavesTo c env) ho hcd hr hbind hc hs (fun _ => PassesOwn.leaving) (fun _ _ _ q => q) (fun L => hb _ _ L fun hbad => ⟨flyCallee (hcan hbad) rfl, newCallee (hcan hbad) rfl⟩))
theorem SatR.use {g : Gd} {r : Nat} {f : Value} {as : List AV} {μ : Mu} {bad : Prop} {P : Mu → AV → Prop} (h : SatR g r f as μ bad P) {c : Cx} {ρ : Rho} {P' : Mu → AV → Prop} (hg : c.g = g) (hr : r ≤ c.room) (hc : bad → CanFly c) (k : ∀ ν a, P ν a → P' ν a) : CallV c ρ μ f as P' :=
  (h c ρ hg hr hc).mono k
noncomputable def IsExcCls (C : Addr) (h : Heap) : Prop := ∃ (nm q : Str) (N : Addr) (bs bm : List Value) (hdct : Bool) (sn : List Str) (sub : List Value) (ab : Bool) (col : Option Bool) (dd : Option Addr) (k0 k1 k2 k3 k5 : Option Value),
  bm.contains (.type "BaseException") = true ∧ h.get? C = some (excClassObj nm q C N bs bm hdct sn sub ab col dd k0 k1 k2 k3 k5 "Exception.__new__")
theorem raise_stmt {M : Model} {A : Around} {E : Value → Shared → Prop} {env : Env} {s : Shared} {x : Sem Value} {Q : Flow → Shared → Prop} {C : Addr} (hh : A.handled = none)
    (h : wpAny M A x (fun v s₁ => ∃ e t od, v = .ref e ∧ IsExcCls C s₁.heap ∧
      s₁.heap.get? e = some { cls := .ref C, dict := od, data := .fields #[.ref t, .none, .none, .none, .bool false, .none] } ∧ E (.ref e) s₁) E s) :
    wpAny M A (raiseStmt env (some x) none) Q E s := by
  unfold raiseStmt
  refine wpAny_bind (wpAny_mono h (fun v s₁ h₁ => ?_) fun _ _ x => x)
  obtain ⟨e, t, od, rfl, ⟨nm, q, N, bs, bm, hdct, sn, sub, ab, col, dd, k0, k1, k2, k3, k5, hbase, hC⟩, he, hE⟩ := h₁
  have hcB : (Value.ref C :: bm).contains (.type "BaseException") = true := by rw [List.contains_cons, hbase, Bool.or_true]
  obtain ⟨hp, g, d, tk, os⟩ := s₁
  repeat (first | with_reducible refine wpAny_loadPart_at he ?_ | with_reducible refine wpAny_loadPart_at hC ?_ | (with_reducible refine wpAny_isSubtype_exc hC ?_; rw [hcB]) | wp_step)
  exact wpAny_raiseNew_none hh hE
theorem X1.raise {c : Cx} {μ : Mu} {ρ : Rho} {args : List Expr} {np cpos pos : Pos} {P : Fl → Mu → Rho → Prop} (hN : CanNew c) (hroom : 2 ≤ c.room)
    (hx : c.env.kindOf "FlowFault" = some .globalImplicit) (e : nsIn c.g.K mainGlobals "FlowFault" = some (some (.ref 45)))
    (h : Evs c μ ρ args fun μ₁ as => ∃ a b, as = [a, b])
    (he : eval (.Call (.Name "FlowFault" np) args [] cpos) c.env = (do callWith cpos (← eval (.Name "FlowFault" np) c.env) [] (backTo cpos (starEach args c.env)) (backToKw cpos (keywordEach [] c.env))))
    (hp : (starEach args c.env).any (·.1) = false) : X1 c μ ρ (.Raise (some (.Call (.Name "FlowFault" np) args [] cpos)) none pos) P := fun Φ s I => by
  show wpAny (model c.g.prog c.g.w) c.A (exec (.Raise (some (.Call (.Name "FlowFault" np) args [] cpos)) none pos) c.env) _ c.E s
  rw [arm_exec_Raise]
  have hf : Ev c μ ρ (.Name "FlowFault" np) fun μ' a => μ' = μ ∧ a = .v (.ref 45) := Ev.glob hx (by rfl) e ⟨rfl, rfl⟩
  refine wpAny_bind (wpAny_standAt (raise_stmt (C := 45) I.ok.hh (wpAny_bind (wpAny_mono (Call_ (W.mono (hf Φ s I) fun v s₁ h₁ => ?_) he) (fun v s₃ h₃ => wpAny_bind (wpAny_standAt (wpAny_pure h₃))) fun _ _ x => x))))
  obtain ⟨Φ₁, μ₁, a, l₁, I₁, r₁, rfl, rfl⟩ := h₁
  obtain rfl := ra_v' r₁
  have hb := backTo_plain (pos := cpos) hp
  refine callWith_of (P := fun h => c.g.K.In h) (by simp only [hb, List.any_nil, Bool.or_false]) (keeps_K rfl) (evalArgs_any hb (W.mono (h Φ₁ s₁ cpos I₁) fun vs s₂ h₂ => ?_))
  obtain ⟨Φ₂, μ₂, as, l₂, I₂, r₂, a, b, rfl⟩ := h₂
  obtain ⟨v1, ws, rfl, ra, v2, us, rfl, rb, rfl⟩ := r₂
  refine ⟨I₂.kin, ?_⟩
  obtain ⟨l, hl⟩ := I₂.ok.frames
  have hfr := I₂.ff l hl
  have hold := I₂.old
  have hst := I₂.still
  have hd := I₂.ok.depth
  obtain ⟨hp2, g2, d2, t2, os2⟩ := s₂
  have X := I₂.kin
  have hC := X 45 _ rfl
  have e0 : hp2.get? (hp2.objs.size + 1) = none := Heap.get?_none_of_le (Nat.le_succ _)
  refine wpAny_call (exc_make (rest := [v1, v2]) (bm := [.ref 32, .type "Exception", .type "BaseException", .type "object"]) (K := c.g.K) X (by decide +kernel) (by decide +kernel) (by decide +kernel) hC (by show 2 ≤ sizeLine; decide) rfl rfl ?_)
  have kp : ∀ b o, hp2.get? b = some o → ((hp2.push { cls := .type "tuple", data := .seq [v1, v2].toArray }).push (excObj none hp2.objs.size)).get? b = some o := fun b o e => Heap.get?_push_of_some _ (Heap.get?_push_of_some _ e)
  refine flow_init (t0 := hp2.objs.size) (s := ⟨(hp2.push { cls := .type "tuple", data := .seq [v1, v2].toArray }).push (excObj none hp2.objs.size), g2, d2, t2, os2⟩) (fun b o e => kp b o (hold b o e)) ?_ ?_ (I₂.noBase e0) fun h' tk od t1 e' k' => ?_
  · show c.A.depth + 1 < recursionLimit; lia
  · exact Heap.get?_push_at (by rw [Heap.size_push]) rfl
  have kk : ∀ b o, hp2.get? b = some o → h'.get? b = some o := fun b o e => k' b o (fun q => by rw [q, e0] at e; cases e) (kp b o e)
  refine ⟨rfl, hp2.objs.size + 1, t1, od, rfl, ⟨_, _, _, _, _, _, _, _, _, _, _, _, _, _, _, _, (by decide +kernel), k' _ _ (fun q => ?_) (kp _ _ hC)⟩, e', ?_⟩
  · rw [q, e0] at hC; cases hC
  · refine hN l hl _ _ ⟨hp2.objs.size + 1, _, _, _, rfl, e', rfl, rfl, rfl, rfl, c.g.bsNone (I₂.noBase e0), fun b o e => kk b o (hold b o (c.g.sub b o e)), ?_, Heap.UpToSlots.of_keeps fun b o e => kk b o (hold b o e), hst⟩
    exact hfr.of_keeps fun b o e _ => ⟨o, kk b o e, rfl⟩
end Mine
namespace Mine
section
variable {c : Cx} {Φ : Frz} {μ : Mu} {ρ : Rho} {s : Shared}
/-- what is known of an object is said in other words -/
theorem Inv.swap (I : Inv c Φ μ ρ s) {a : Addr} {m m' : MO} (h : (a, m) ∈ μ) (k : ∀ o, s.heap.get? a = some o → MOk c.g.pw Φ m o → MOk c.g.pw Φ m' o) : Mv c Φ μ s Φ (muSet μ a m') s ∧ Inv c Φ (muSet μ a m') ρ s := by
  obtain ⟨⟨o, eo, mo⟩, _⟩ := I.mu.2 _ h
  exact I.put (h' := s.heap) (tk := s.toks) h (fun _ _ _ e => e) eo (k o eo mo)
theorem Inv.pinL (I : Inv c Φ μ ρ s) {A : Addr} {ds : List PyData} (h : (A, .list ds) ∈ μ) : ∃ o, Mv c Φ μ s Φ (muSet μ A (.listP ds o)) s ∧ Inv c Φ (muSet μ A (.listP ds o)) ρ s := by
  obtain ⟨⟨o, eo, mo⟩, _⟩ := I.mu.2 _ h
  have eo : s.heap.get? A = some o := eo
  exact ⟨o, I.swap h fun o' e k => by rw [eo] at e; cases e; exact ⟨rfl, k⟩⟩
theorem Inv.unpinL (I : Inv c Φ μ ρ s) {A : Addr} {ds : List PyData} {o : Obj} (h : (A, .listP ds o) ∈ μ) : Mv c Φ μ s Φ (muSet μ A (.list ds)) s ∧ Inv c Φ (muSet μ A (.list ds)) ρ s := I.swap h fun o' e k => k.2
theorem Inv.pinD (I : Inv c Φ μ ρ s) {A : Addr} {ds : List (Str × PyData)} (h : (A, .dict ds) ∈ μ) : ∃ o, Mv c Φ μ s Φ (muSet μ A (.dictP ds o)) s ∧ Inv c Φ (muSet μ A (.dictP ds o)) ρ s := by
  obtain ⟨⟨o, eo, mo⟩, _⟩ := I.mu.2 _ h
  have eo : s.heap.get? A = some o := eo
  exact ⟨o, I.swap h fun o' e k => by rw [eo] at e; cases e; exact ⟨rfl, k⟩⟩
theorem Inv.unpinD (I : Inv c Φ μ ρ s) {A : Addr} {ds : List (Str × PyData)} {o : Obj} (h : (A, .dictP ds o) ∈ μ) : Mv c Φ μ s Φ (muSet μ A (.dict ds)) s ∧ Inv c Φ (muSet μ A (.dict ds)) ρ s := I.swap h fun o' e k => k.2
end
section
variable {c : Cx} {μ : Mu} {ρ : Rho}
theorem Ex.pinL {ss : List Stmt} {P : Fl → Mu → Rho → Prop} {A : Addr} {ds : List PyData} (h : (A, .list ds) ∈ μ) (k : ∀ o, Ex c (muSet μ A (.listP ds o)) ρ ss P) : Ex c μ ρ ss P := fun Φ s I => by
  obtain ⟨o, m, J⟩ := I.pinL h
  exact W.mono (k o Φ s J) fun _ _ h => h.up m
theorem Ex.unpinL {ss : List Stmt} {P : Fl → Mu → Rho → Prop} {A : Addr} {ds : List PyData} {o : Obj} (h : (A, .listP ds o) ∈ μ) (k : Ex c (muSet μ A (.list ds)) ρ ss P) : Ex c μ ρ ss P := fun Φ s I => by
  obtain ⟨m, J⟩ := I.unpinL h
  exact W.mono (k Φ s J) fun _ _ h => h.up m
theorem Ex.pinD {ss : List Stmt} {P : Fl → Mu → Rho → Prop} {A : Addr} {ds : List (Str × PyData)} (h : (A, .dict ds) ∈ μ) (k : ∀ o, Ex c (muSet μ A (.dictP ds o)) ρ ss P) : Ex c μ ρ ss P := fun Φ s I => by
  obtain ⟨o, m, J⟩ := I.pinD h
  exact W.mono (k o Φ s J) fun _ _ h => h.up m
theorem Ex.unpinD {ss : List Stmt} {P : Fl → Mu → Rho → Prop} {A : Addr} {ds : List (Str × PyData)} {o : Obj} (h : (A, .dictP ds o) ∈ μ) (k : Ex c (muSet μ A (.dict ds)) ρ ss P) : Ex c μ ρ ss P := fun Φ s I => by
  obtain ⟨m, J⟩ := I.unpinD h
  exact W.mono (k Φ s J) fun _ _ h => h.up m
theorem ItP.lst {κ : Mu} {e : Expr} {P : Mu → List AV → Prop} (h : Ev c μ ρ e fun ν a => ∃ A ds o, a = .v (.ref A) ∧ (A, .listP ds o) ∈ ν ∧ (A, .listP ds o) ∈ κ ∧ P ν (ds.map .d)) : ItP κ c μ ρ e P := fun Φ s I₀ => by
  refine W.mono (h Φ s I₀) fun xv s₁ h₁ => ?_
  obtain ⟨Ψ, ν, a, m, I₁, r, ax, ds, o, rfl, hm, hk, hp⟩ := h₁
  obtain rfl := ra_v' r
  obtain ⟨⟨o', eo, rfl, vs, n, rfl, e2⟩, _⟩ := I₁.mu.2 _ hm
  have hl : s₁.heap.IsList ax vs.toArray := ⟨_, eo, rfl, n, rfl⟩
  refine wpAny_pyIter_list hl (PostI.up m ?_)
  obtain ⟨m₂, I₂⟩ := I₁.push { cls := .type "list_iterator", data := .fields #[.ref ax, .int 0 0] }
  have hlt : ax < s₁.heap.objs.size := by obtain ⟨_, e, _⟩ := hl; exact Heap.lt_size e
  refine ⟨Ψ, ν, s₁.heap.objs.size, ds.map .d, [s₁.heap.objs.size, ax], fun i v => vs.toArray[i]? = some v, fun i h => h.IsListIter s₁.heap.objs.size ax i ∧ h.IsList ax vs.toArray, rfl, m₂, I₂, ⟨?_, ?_, ?_, ?_⟩, ⟨⟨_, Heap.get?_push_size _ rfl, rfl, rfl⟩, hl.push _⟩, Heap.fresh _, hp⟩
  · rw [List.length_map, ← e2.length, ← List.size_toArray]
    exact Walks.list I₁.ok.hh _ _ (Nat.ne_of_lt hlt) _
  · intro i v hv _
    obtain ⟨d, ed, rd⟩ := e2.get' (by simpa using hv)
    exact ⟨.d d, by simp [ed], rd⟩
  · intro b hb
    rcases List.mem_cons.mp hb with rfl | hb
    · exact .inl rfl
    · rw [List.mem_singleton.mp hb]; exact .inr (.inr (.inr ⟨_, _, hk, rfl⟩))
  · rintro i h ⟨⟨o, e, hc, hd⟩, _⟩
    exact ⟨o, _, e, hd, fun n q => by rw [hc] at q; cases q; rfl⟩
theorem KvR.keys {Φ : Frz} : ∀ {es : List (Str × PyData)} {kvs : List (Str × Value)}, KvR Φ es kvs → kvs.map (·.1) = es.map (·.1)
  | [], _, h => by cases h; rfl
  | (x, d) :: r, _, ⟨v, rest, e, _, h⟩ => by subst e; rw [List.map_cons, List.map_cons, KvR.keys h]
theorem ItP.dct {κ : Mu} {e : Expr} {P : Mu → List AV → Prop} (h : Ev c μ ρ e fun ν a => ∃ A ds o, a = .v (.ref A) ∧ (A, .dictP ds o) ∈ ν ∧ (A, .dictP ds o) ∈ κ ∧ P ν (ds.map fun p => .d (.str p.1))) : ItP κ c μ ρ e P := fun Φ s I₀ => by
  refine W.mono (h Φ s I₀) fun xv s₁ h₁ => ?_
  obtain ⟨Ψ, ν, a, m, I₁, r, ax, ds, o, rfl, hm, hk, hp⟩ := h₁
  obtain rfl := ra_v' r
  obtain ⟨⟨o', eo, rfl, kvs, hd, e2⟩, ⟨_, h0⟩, _⟩ := I₁.mu.2 _ hm
  obtain ⟨ep, hl⟩ := (Heap.dictOf_iff.mpr ⟨_, eo, hd⟩ : s₁.heap.DictOf (PySem.strKind c.g.prog c.g.w) ax kvs).dictAt
  refine wpAny_pyIter_dict h0 hl (PostI.up m ?_)
  obtain ⟨m₂, I₂⟩ := I₁.push { cls := .type "dict_keyiterator", data := .fields #[.ref ax, .int 0 0, .int kvs.length 0, .int ep 0] }
  have hlt : ax < s₁.heap.objs.size := hl.lt_size
  have hks := e2.keys
  refine ⟨Ψ, ν, s₁.heap.objs.size, ds.map (fun p => .d (.str p.1)), [s₁.heap.objs.size, ax], fun i v => ∃ k x, kvs[i]? = some (k, x) ∧ (PySem.strKind c.g.prog c.g.w).is k v = true, fun i h => h.IsKeyIter s₁.heap.objs.size ax i kvs.length ep ∧ h.DictAt (PySem.strKind c.g.prog c.g.w) ax kvs ep, rfl, m₂, I₂, ⟨?_, ?_, ?_, ?_⟩, ⟨⟨_, Heap.get?_push_size _ rfl, rfl, rfl⟩, hl.push _⟩, Heap.fresh _, hp⟩
  · rw [List.length_map, ← KvR.length e2]
    exact Walks.dictKeys I₁.ok.hh _ _ (Nat.ne_of_lt hlt) _ _
  · rintro i v ⟨k, x, hx, hv⟩ _
    obtain ⟨t, rfl⟩ := Value.isStrOf_shape hv
    have h1 : (kvs.map (·.1))[i]? = some k := by rw [List.getElem?_map, hx]; rfl
    rw [hks, List.getElem?_map] at h1
    obtain ⟨p, hp1, hp2⟩ := Option.map_eq_some_iff.mp h1
    exact ⟨.d (.str p.1), by rw [List.getElem?_map, hp1]; rfl, by rw [hp2]; exact ra_str _ _⟩
  · intro b hb
    rcases List.mem_cons.mp hb with rfl | hb
    · exact .inl rfl
    · rw [List.mem_singleton.mp hb]; exact .inr (.inr (.inr ⟨_, _, hk, rfl⟩))
  · rintro i h ⟨⟨o, e, hc, hd⟩, _⟩
    exact ⟨o, _, e, hd, fun n q => by rw [hc] at q; cases q; rfl⟩
theorem Op2.itemDP {l r : Expr} {A : Addr} {es : List (Str × PyData)} {o : Obj} {x : Str} {d : PyData} {P : Mu → AV → Prop} (hm : (A, .dictP es o) ∈ μ) (hs : ∀ a k t, subscripted r false (.ref a) (.str k t) = operate [.ref a, .str k t] (getItem (.ref a) (.str k t)))
    (e : getE es x = some d) (h : P μ (.d d)) : Op2 c ρ (subscriptTail l r) μ (.v (.ref A)) (.d (.str x)) P := fun Φ s v w I ra rb => by
  obtain rfl := ra_v' ra
  obtain ⟨t, rfl⟩ := ra_str' rb
  obtain ⟨⟨o', eo, rfl, kvs, hd, hk⟩, _⟩ := I.mu.2 _ hm
  have hd : s.heap.DictOf (PySem.strKind c.g.prog c.g.w) A kvs := Heap.dictOf_iff.mpr ⟨_, eo, hd⟩
  obtain ⟨u, e1, e2⟩ := hk.get e
  exact tail_any hd.typeIs slot_dict_getitem.lookup (wpAny_getItem_of (strKind_is _ _ _ _) hd.mapOf e1 (Post.then (I.toks _) (ra_d e2) h)) (hs _ _ _)
end
end Mine
namespace Mine
/-- one place is hidden -/
noncomputable def hide (h : Heap) (a : Addr) : Heap := h.update a fun o => { o with data := .freed }
theorem hide_ne {h : Heap} {a b : Addr} (n : b ≠ a) : (hide h a).get? b = h.get? b := Heap.get?_update_ne _ _ _ _ n
theorem hide_self (h : Heap) (a : Addr) : (hide h a).get? a = none := by
  obtain ⟨objs, life⟩ := h
  show Heap.get? (Heap.update ⟨objs, life⟩ a _) a = none
  unfold Heap.get? Heap.update
  simp only [Array.getElem?_modify, if_true]
  cases objs[a]? with
  | none => rfl
  | some o => rfl
theorem hide_sub {h : Heap} {a b : Addr} {o : Obj} (e : (hide h a).get? b = some o) : h.get? b = some o := by
  by_cases q : b = a
  · rw [q, hide_self] at e; cases e
  · rw [hide_ne q] at e; exact e
theorem funFrames_base {bs bs' h h' : Heap} (k : ∀ b o, h.get? b = some o → h'.get? b = some o) {l : List Env} (hb : ∀ b ∈ l.filterMap (·.frame), bs'.get? b = none) (x : h.FunFrames bs l) : h'.FunFrames bs' l :=
  funFrames_gen (fun b m _ o e d => ⟨hb b m, o, k b o e, d⟩) x
/-- the ground, with all that stands now -/
noncomputable def Gd.re (g : Gd) (h : Heap) (old : ∀ b o, g.h₀.get? b = some o → h.get? b = some o) (bs : Heap) (sub : ∀ b o, bs.get? b = some o → h.get? b = some o) : Gd :=
  { g with h₀ := h, bs := bs, sub := sub, X := Frag.In.keeps g.X old, T := g.T.keeps old }
/-- but for the slots of the body's own frame all stands -/
theorem Inv.slotted {c : Cx} {Φ : Frz} {μ : Mu} {ρ : Rho} {s : Shared} (I : Inv c Φ μ ρ s) {h' : Heap} {tk : Nat} (kb : ∀ b o, b ≠ c.env.locals → s.heap.get? b = some o → h'.get? b = some o)
    (kl : ∀ o, s.heap.get? c.env.locals = some o → ∃ sl, h'.get? c.env.locals = some { o with slots := sl }) :
    Mv c Φ μ s Φ μ { s with heap := h', toks := tk } ∧ Inv c Φ μ ρ { s with heap := h', toks := tk } := by
  have k : Keep (fun a => a = c.env.locals) s.heap h' := Keep.of_keepsBut fun b o n e => kb b o n e
  obtain ⟨m, o, es, ep, eo, ed, er⟩ := I.ns
  obtain ⟨sl, eo'⟩ := kl o eo
  have h0 : c.g.h₀.get? c.env.locals = none := Heap.get?_none_of_le I.above
  have noCell : ∀ x a, c.env.cells.lookup x = some a → a ≠ c.env.locals := fun x a e q => by
    obtain ⟨⟨v, o2, e2, d2⟩, _⟩ := I.cells x a e
    rw [q, eo] at e2; cases e2; rw [ed] at d2; cases d2
  have kd : ∀ a, a = c.env.locals → ∃ o', h'.get? a = some o' ∧ ∀ vs, o'.data ≠ .fields vs := fun a q => ⟨_, q ▸ eo', fun vs z => by
    have z : o.data = .fields vs := z
    rw [ed] at z; cases z⟩
  have NS : ∀ {m'}, s.heap.Ns c.env.locals m' → h'.Ns c.env.locals m' := fun {m'} n => by
    obtain ⟨o2, es2, ep2, eo2, ed2, er2⟩ := n
    obtain ⟨sl2, eo2'⟩ := kl o2 eo2
    exact ⟨_, es2, ep2, eo2', ed2, er2⟩
  refine ⟨⟨Frz.le.refl _, fun _ _ h => .inl h, k.mono fun a q => .inl (.inl q), fun a q => .inl q, k.alive fun a q => let ⟨o', e', _⟩ := kd a q; ⟨o', e'⟩, rfl, rfl, rfl⟩, ⟨I.ok, fun a o e => kb a o (fun q => by rw [q, h0] at e; cases e) (I.old a o e), ⟨m, NS ⟨o, es, ep, eo, ed, er⟩⟩, I.above,
    fun x a e => ⟨let ⟨⟨v, q⟩, _⟩ := I.cells x a e; ⟨v, cell_keep q k (noCell x a e)⟩, (I.cells x a e).2⟩, fun x a e => ?_, I.frz.keep k fun a q => ?_, ⟨I.mu.1, fun p hp => ?_⟩, I.muOff, fun l e => funFrames_keep k kd (I.ff l e), I.still⟩⟩
  · obtain ⟨v, ⟨d1, d2, r⟩, q⟩ := I.vars x a e
    refine ⟨v, ⟨d1, d2, ?_⟩, q⟩
    cases z : c.env.kindOf x with
    | none => rw [z] at r; exact r
    | some kd =>
      rw [z] at r
      cases kd <;> first | exact r | skip
      · obtain ⟨m, a, b⟩ := r; exact ⟨m, NS a, b⟩
      · obtain ⟨c', a, b⟩ := r; exact ⟨c', a, cell_keep b k (noCell _ _ a)⟩
      · obtain ⟨c', a, b⟩ := r; exact ⟨c', a, cell_keep b k (noCell _ _ a)⟩
  · cases z : Φ a with
    | none => rfl
    | some x => exact absurd (.inl q) (I.frzOff z)
  · obtain ⟨⟨o, e, m⟩, r⟩ := I.mu.2 p hp
    exact ⟨⟨o, kb p.1 o (I.muOff p hp) e, m⟩, r⟩
end Mine
namespace Mine
/-- a function is entered from where no frame of ours stands -/
theorem enter_first {g : Gd} {A : Around} {s : Shared} {oc : Value} {od : Option Addr} {osl : Array (Option Value)} {f : Addr} {name qual : Str} {params : Arguments} {body : List Stmt} {scope : Scope} {dV kV doc pm cdv ct : Value} {an : Option Addr} {v : Value} {R : Result → Shared → Prop} {r : Nat} {x : Str} {l₀ : List Env}
    (h0 : g.h₀ = s.heap) (hst : Same g s) (hA : A.handled = none) (hfr : A.frames = some l₀) (hff : s.heap.FunFrames g.bs l₀) (hdep : A.depth + 1 + r < recursionLimit) (hun : A.units + 3 + 8 * r + 200 < cLine)
    (ho : List.lookup f g.K = some ⟨oc, od, .func (fnOf name qual params body scope dV kV doc pm an cdv ct), osl⟩) (hcd : codeIn g.K cdv qual = true)
    (hbind : BindsTo s (fnOf name qual params body scope dV kV doc pm an cdv ct) ⟨[v], []⟩ [(x, v)])
    (hx : (scope.names.lookup x == some .local && !(x == ("__debug__" : Str)) && !(x == ("__classdict__" : Str))) = true)
    (h : Ex ⟨g, A.deeper (envOfC qual scope s.heap.objs.size f cdv), envOfC qual scope s.heap.objs.size f cdv, r, false, fun _ _ => False⟩ [] [(x, .v v)] body fun fl _ _ => match fl with | .ret a => a = .d (.bool true) | _ => False)
    (hR : ∀ s' L m, Fr s.heap L s'.heap m → Same g s' → R (.ok (.ret (.bool true))) s')
    (hco : scope.isCoroutine = false) (hgen : scope.isGenerator = false) (hk : scope.kind = .function) : codeAny (model g.prog g.w) A (.call (.ref f) ⟨[v], []⟩) R s := by
  have hold : ∀ b o, g.h₀.get? b = some o → s.heap.get? b = some o := fun b o e => h0 ▸ e
  have X : g.K.In s.heap := Frag.In.keeps g.X hold
  simp only [Bool.and_eq_true, Bool.not_eq_true', beq_iff_eq] at hx
  obtain ⟨⟨hx1, hx2⟩, hx3⟩ := hx
  refine codeAny_call_function (by omega) (X _ _ ho) rfl hco hgen rfl (codeRec_of X hcd) (hbind _ _ _ _ ?_)
  refine wpAny_newFunctionEnv_cells hk (kinds_of (by simp [hx1]) _) fun env' he s' xc => ?_
  subst he
  refine ⟨(g.T.nolimit.keeps hold).keeps xc.toInCall.keep, codeAny_func ?_⟩
  obtain ⟨h₁, tk, rfl, _⟩ := xc.done
  have hk₁ := xc.toInCall.keep
  have hcells : ∀ {y a}, (cellsFrom (s.heap.objs.size + 1) scope.names []).lookup y = some a → s.heap.get? a = none := fun {y a} e =>
    Heap.get?_none_of_le (Nat.le_of_lt (xc.above y a (mem_of_lookup e)))
  have I' : Inv ⟨g, A.deeper (envOfC qual scope s.heap.objs.size f cdv), envOfC qual scope s.heap.objs.size f cdv, r, false, fun _ _ => False⟩ (fun _ => none) [] [(x, .v v)] { s with heap := h₁, toks := tk } := by
    refine ⟨⟨hA, hk, rfl, rfl, hdep, hun, ?_, PassesOwn.never, ⟨_, Around.frames_deeper hfr⟩⟩, fun b o e => hk₁ b o (hold b o e), ⟨_, xc.toInCall.ns⟩, by show g.h₀.objs.size ≤ s.heap.objs.size; rw [h0]; exact Nat.le_refl _, ?_, ?_, fun a b vs e => (by cases e), ⟨List.nodup_nil, fun p hp => (by cases hp)⟩, fun p hp => (by cases hp), ?_, hst⟩
    · intro y z a e1 e2; exact name_of_addr xc.apart (mem_of_lookup e1) (mem_of_lookup e2)
    · intro y a e
      exact ⟨⟨_, xc.cell y a e⟩, by show g.h₀.get? a = none; rw [h0]; exact hcells e⟩
    · intro y a e
      unfold look at e
      split at e
      · rename_i q; subst q; cases e
        refine ⟨v, ⟨hx2, hx3, ?_⟩, rfl⟩
        show match scope.names.lookup x with | some .local => _ | some .cell => _ | some .free => _ | _ => _
        rw [hx1]
        exact ⟨_, xc.toInCall.ns, bindL_mem hx1 (by simp) (.head _)⟩
      · cases e
    · intro l e
      have q : some _ = some l := (Around.frames_deeper hfr).symm.trans e
      cases q
      obtain ⟨o, es, ep, eo, ed, _⟩ := xc.toInCall.ns
      exact ⟨by show scope.kind ≠ _; rw [hk]; decide, ⟨s.heap.objs.size, o, rfl, g.bsNone (by rw [h0]; exact Heap.fresh _), eo, fun vs q => by rw [ed] at q; cases q⟩, funFrames_keep (S := fun _ => False) (Keep.of_keeps hk₁) (fun _ q => q.elim) hff⟩
  refine wpAny_mono (h _ _ I') (fun fl s₂ h₂ => ?_) fun e s' q => q.elim
  obtain ⟨Ψ, ν, ρ', fl', m, I₂, rf, h₂⟩ := h₂
  cases fl' with
  | ret a =>
    obtain ⟨u, rfl, q⟩ := rf
    have h₂ : a = .d (.bool true) := h₂
    subst h₂
    obtain rfl := ra_bool' q
    obtain ⟨mm, hm⟩ := I₂.ns
    exact hR s₂ _ mm ⟨hm, fun b o e => I₂.old b o (by show g.h₀.get? b = some o; rw [h0]; exact e), h0 ▸ I₂.above⟩ I₂.still
  | next => exact h₂.elim
  | brk => exact h₂.elim
  | cont => exact h₂.elim
end Mine
set_option maxHeartbeats 8000000
set_option compiler.extract_closed false
namespace Mine
local macro_rules
  | `(tactic| walk_at "hb") => `(tactic| first | exact fun _ => rfl | exact fun _ _ => rfl | exact fun _ _ _ => rfl | exact fun _ _ _ _ _ => rfl)
  | `(tactic| walk_at "fn") => `(tactic| (
    (case h0 => walk_at "a"); (case h1 => walk_at "a"); (case h2 => walk_at "hb"); (case h3 => walk_at "b"); (case h4 => (conv => (lhs; whnf)))))
local macro_rules | `(tactic| walk_at "cok") => `(tactic| exact ⟨rfl, rfl, by decide, by decide, by first | (intro p hp; exact absurd hp (List.not_mem_nil)) | (intro p hp; cases hp with | head => exact ⟨rfl, rfl, .inl rfl, .inl rfl⟩ | tail _ h => exact absurd h (List.not_mem_nil))⟩)
local macro_rules | `(tactic| walk_at "mem") => `(tactic| first | assumption | exact List.Mem.head _ | exact .tail _ (.head _) | exact .tail _ (.tail _ (.head _)))
local macro_rules
  | `(tactic| walk_at "a") => `(tactic| exact rfl)
  | `(tactic| walk_at "b") => `(tactic| kernel_rfl!)
  | `(tactic| walk_at "c") => `(tactic| decide)
  | `(tactic| walk_at "d") => `(tactic| first | exact rfl | assumption)
  | `(tactic| walk_at "e") => `(tactic| (intros; exact rfl))
  | `(tactic| walk_at "f") => `(tactic| first | exact rfl | exact item0 | exact item1 | exact item2)
  | `(tactic| walk_at "g") => `(tactic| first | exact .inl rfl | exact .inr rfl)
  | `(tactic| walk_at "h") => `(tactic| first | exact Nat.le_of_ble_eq_true rfl | assumption)
  | `(tactic| walk_at "i") => `(tactic| exact List.cons_ne_nil _ _)
  | `(tactic| walk_at "j") => `(tactic| first | exact IntMulOk.of_right (by decide) | exact IntMulOk.of_left (by decide) | assumption)
  | `(tactic| walk_at "k") => `(tactic| first | decide | assumption)
  | `(tactic| walk_at "l") => `(tactic| exact PyProof.noPylong_small (by lia))
  | `(tactic| walk_at "n") => `(tactic| first | exact shaped_lab _ | exact shaped_int _ | assumption | decide +kernel)
  | `(tactic| walk_at "o") => `(tactic| first | exact ⟨rfl, rfl, .inl rfl⟩ | exact ⟨rfl, rfl, .inr ⟨rfl, rfl, _, rfl⟩⟩)
  | `(tactic| walk_at "p") => `(tactic| walk_at "mem")
  | `(tactic| walk_at "q") => `(tactic| first | exact True.intro | exact rfl)
  | `(tactic| walk_at "r") => do `(tactic| first | exact $(Lean.mkIdent `ckI) | assumption)
  | `(tactic| walk_at "s") => `(tactic| exact ⟨rfl, rfl, rfl⟩)
  | `(tactic| walk_at "t") => `(tactic| first | assumption | exact Nat.le_of_ble_eq_true rfl | (simp only [labStr]; decide +kernel))
/-- steps by lemmas, the first that fits: a lemma's name, then its parts by the letters ('_': what goes on) -/
def stepsBy (l : String) : Lean.MacroM (Lean.TSyntax `tactic) := do
  let mut alts : Array (Lean.TSyntax `tactic) := #[]
  let mut nm := ""
  for w in l.splitOn " " do
    if nm = "" then nm := w
    else
      let mut hs : Array Lean.Term := #[]
      let mut ts : Array (Lean.TSyntax `tactic) := #[]
      for c in w.toList do
        if c = '_' then hs := hs.push (← `(?_))
        else
          let i := Lean.mkIdent (.mkSimple s!"h{hs.size}")
          hs := hs.push (← `(?$i:ident))
          ts := ts.push (← `(tactic| case $i:ident => walk_at $(Lean.quote c.toString):str))
      let t ← `(tactic| with_reducible refine' $(Lean.mkIdent nm.toName) $hs*)
      alts := alts.push (← `(tactic| ($[$(#[t] ++ ts)];*)))
      nm := ""
  `(tactic| first $[| $alts:tactic]*)
local macro_rules
  | `(tactic| walk_at "u") => stepsBy "blLen  blMax  blMin  blInt  blTuple  blSet  blStr  blRange "
  | `(tactic| walk_at "v") => stepsBy "bvLen  bvMax  bvMin  bvInt  bvTuple  bvSet  bvStr  bvRange "
  | `(tactic| walk_at "z") => stepsBy "glCaseRows  glInnerLists  glHasBreak  glIsPanic  glIsCaseEnded  glEndsByCases  glIsTerminating  glLabelchecker  glCheckLabels  glLawPool  glLawTake  glLawOne  glLawCall  glLawBody  glLawBlock  glLawCases  glLawLabelled  glLawStatement  glLawParts  glLawWays  glLawIsLeft  glLawEnds  glLawLabels  glLawLabelsRight  glLawIsLet  glFlowfault  glChanerror  glLoops  glLeftByBreak "
  | `(tactic| walk_at "mEv") => stepsBy "Ev.pev a_ Ev.name d_ Ev.int _ Ev.str _ Ev.tail1 _ Ev.sub _ Ev.cmp _a Ev.bltF aacuv_ Ev.bltT aacuv_ Ev.globT aazaa_ Ev.glob aaz_ Ev.none _ Ev.bool _ Ev.append _aaaa Ev.insert _aaaa Ev.pop _aaaa Ev.call _aa Ev.tuple _ Ev.list _ Ev.neg _ Ev.bin _ Ev.not _ Ev.ite _ Ev.one _ Ev.and _ Ev.or _"
  | `(tactic| walk_at "mOp2") => stepsBy "Op2.itemD pea_ Op2.itemT eccf_ Op2.itemM pecca_ Op2.itemL ecca_ Op2.mulL gh_ Op2.mulT gi_ Op2.addL h_ Op2.addT h_ Op2.gt _ Op2.lt _ Op2.ge _ Op2.add _ Op2.subI _ Op2.mulI j_ Op2.fdiv kl_ Op2.pow ccc_ Op2.mod k_ Op2.isNone _ Op2.isNotNone _ Op2.eqLab _ Op2.eq nn_ Op2.ne nn_ Op2.inT nn_ Op2.ninT nn_ Op2.inL nn_ Op2.ninL nn_"
  | `(tactic| walk_at "mTr") => stepsBy "Tr.tevF b_ Tr.tevT b_ Tr.not _ Tr.andNil _ Tr.orNil _ Tr.and _ Tr.or _ Tr.ite _ Tr.cmp _a Tr.plain _e"
  | `(tactic| walk_at "mEvs") => stepsBy "Evs.nil _ Evs.cons _a"
  | `(tactic| walk_at "mX1") => stepsBy "X1.putSub a_ X1.expr _aa X1.putS ooaa_ X1.ite _ X1.ret _ X1.ret0 _ X1.put oa_"
  | `(tactic| walk_at "mEx") => stepsBy "Ex.nil _ Ex.retP a_ Ex.putP oaa_ Ex.ifF b_ Ex.ifT b_ Ex.cons _"
  | `(tactic| walk_at "mCallV") => stepsBy "CallV.intB _ CallV.intI _ CallV.lenT h_ CallV.lenL h_ CallV.tupL h_ CallV.max _ CallV.min _"
  | `(tactic| walk_at "mSm") => stepsBy "Truthy.bool _ As.name o_ AsEach.nil _ AsEach.cons _ Ts.nil _ Ts.one _"
  | `(tactic| walk_at "mX") => stepsBy "kCal.mk q_ kItT.mk _ kItL.mk _ kTup.mk ah_ kLst.mk ah_ kMet.mk p_ kFrz.mk p_ kTail.mk h_ iteT a_ iteF a_"
  | `(tactic| walk_at "mCk") => stepsBy "Ev.ck dras_"
  | `(tactic| walk_at "mCl") => stepsBy "Op2.addS t_ Op2.inD p_ Op2.ninD p_"
local macro_rules
  | `(tactic| walk_at "mS1") => `(tactic| first
    | ((with_reducible refine' Ev.dict0 ?_); intro _ _)
    | ((with_reducible refine' Ev.dict ?e ?h0 ?h1 ?h2 ?h3 ?_); (case e => first | exact .cons .nil | exact .cons (.cons .nil) | exact .cons (.cons (.cons .nil))); (case h0 => walk_at "i"); (case h1 => walk_at "h"); (case h2 => walk_at "a"); (case h3 => walk_at "a"); intro _ _))
  | `(tactic| walk_at "mS2") => `(tactic| first
    | ((with_reducible refine' As.tuple ?h0 ?h1 ?_); (case h0 => walk_at "a"); (case h1 => walk_at "a"); (simp only [List.map_cons, List.map_nil]))
    | ((with_reducible refine' Exists.intro _ (Exists.intro _ (And.intro rfl (And.intro ?h0 ?_)))); (case h0 => walk_at "mem"))
    | with_reducible exact ⟨rfl, rfl⟩
    | with_reducible exact ⟨_, List.Sublist.refl _, rfl, rfl⟩
    | with_reducible exact ⟨_, List.sublist_cons_self _ _, rfl, rfl⟩
    | with_reducible exact rfl
    | ((with_reducible refine' Exists.intro _ (And.intro rfl (And.intro ?h0 ?_))); (case h0 => first | exact True.intro | walk_at "h" | walk_at "a"))
    | with_reducible refine' Exists.intro _ (And.intro rfl ?_))
  | `(tactic| walk_at "m1") => `(tactic| first
    | ((guard_target = Ev _ _ _ _ _); first | walk_at "mEv" | walk_at "mCk" | walk_at "mS1")
    | ((guard_target = Op2 _ _ _ _ _ _ _); first | walk_at "mCl" | walk_at "mOp2")
    | ((guard_target = Tr _ _ _ _ _); walk_at "mTr")
    | ((guard_target = Evs _ _ _ _ _); walk_at "mEvs")
    | ((guard_target = X1 _ _ _ _ _); walk_at "mX1")
    | ((guard_target = Ex _ _ _ _ _); walk_at "mEx")
    | ((guard_target = CallV _ _ _ _ _ _); walk_at "mCallV")
    | walk_at "mSm"
    | walk_at "mX"
    | walk_at "mS2")
  | `(tactic| walk_at "m") => `(tactic| first | walk_at "m1" | (dsimp only; walk_at "m1"))
  | `(tactic| walk_at "k1") => `(tactic| walk_at "m")
  | `(tactic| walk_at "w") => `(tactic| ((repeat walk_at "m"); try dsimp only))
noncomputable def isPanic : St → Bool
  | .call p => p
  | .ret => false
  | .fall => false
  | .brk _ => false
  | .cont _ => false
  | .block _ => false
  | .if1 _ => false
  | .if2 _ _ => false
  | .forr _ _ _ => false
  | .range _ _ => false
  | .sw _ _ _ => false
theorem is_panic_ok (g : Gd) (s : St) : Pure g 1 76 [enc s] (.bool (isPanic s)) := fun μ => by
  refine' Sat.fn ["statement"] ?h0 ?h1 ?h2 ?h3 ?h4 ?_
  walk_at "fn"
  intro A E L
  cases s with
  | call p => cases p <;> dsimp only [enc, encCall, isPanic] <;> (walk_at "w")
  | sw k l cs => cases k <;> dsimp only [enc, isPanic] <;> (walk_at "w")
  | _ => dsimp only [enc, isPanic] <;> (walk_at "w")
noncomputable def casesOf : St → List PyData
  | .sw k _ cs => encCs k cs
  | .ret => []
  | .fall => []
  | .call _ => []
  | .brk _ => []
  | .cont _ => []
  | .block _ => []
  | .if1 _ => []
  | .if2 _ _ => []
  | .forr _ _ _ => []
  | .range _ _ => []
theorem case_rows_ok (g : Gd) (k : Sw) (l : Lab) (cs : Cs) : Pure g 1 56 [enc (.sw k l cs)] (.tuple (encCs k cs)) := fun μ => by
  refine' Sat.fn ["statement"] ?h0 ?h1 ?h2 ?h3 ?h4 ?_
  walk_at "fn"
  intro A E L
  refine Ex.drop ?_
  cases k <;> dsimp only [enc] <;> (walk_at "w")

theorem inner_lists_ok (g : Gd) (s : St) (hs : (inners s).length ≤ 2000) : Pure g 2 61 [enc s] (.list ((inners s).map encB)) := fun μ => by
  refine' Sat.fn ["statement"] ?h0 ?h1 ?h2 ?h3 ?h4 ?_
  walk_at "fn"
  intro A E L
  cases s with
  | sw k l cs => 
    have hl : cs.rows.length ≤ 2000 := by simpa [inners] using hs
    cases k <;> simp only [enc, inners, encB, List.map_cons, List.map_nil, List.map_map] <;> (walk_at "w")
    · refine Ev.compP (cl := []) (encRow .switch) cs.rows (fun r => [.tuple (encs r.body)]) ?ok ?hn ?it ?st ?p
      case ok => walk_at "cok"
      case hn => lia
      case it =>
        refine It.tup ?_
        walk_at "w"
        refine Pure.use (case_rows_ok g .switch l cs) rfl (Nat.le_of_ble_eq_true rfl) ?_
        exact ⟨_, rfl, rfl, by rw [encCs_rows, List.map_map]; rfl⟩
      case st =>
        intro C r hr
        unfold encRow
        walk_at "w"
      case p => rw [flatMap_one]; exact ⟨rfl, rfl⟩
    · refine Ev.compP (cl := []) (encRow .typeswitch) cs.rows (fun r => [.tuple (encs r.body)]) ?ok ?hn ?it ?st ?p
      case ok => walk_at "cok"
      case hn => lia
      case it =>
        refine It.tup ?_
        walk_at "w"
        refine Pure.use (case_rows_ok g .typeswitch l cs) rfl (Nat.le_of_ble_eq_true rfl) ?_
        exact ⟨_, rfl, rfl, by rw [encCs_rows, List.map_map]; rfl⟩
      case st =>
        intro C r hr
        unfold encRow
        walk_at "w"
      case p => rw [flatMap_one]; exact ⟨rfl, rfl⟩
    · refine Ev.compP (cl := []) (encRow .choose) cs.rows (fun r => [.tuple (encs r.body)]) ?ok ?hn ?it ?st ?p
      case ok => walk_at "cok"
      case hn => lia
      case it =>
        refine It.tup ?_
        walk_at "w"
        refine Pure.use (case_rows_ok g .choose l cs) rfl (Nat.le_of_ble_eq_true rfl) ?_
        exact ⟨_, rfl, rfl, by rw [encCs_rows, List.map_map]; rfl⟩
      case st =>
        intro C r hr
        unfold encRow
        walk_at "w"
      case p => rw [flatMap_one]; exact ⟨rfl, rfl⟩
  | if2 b o => dsimp only [enc, inners, encB, Sts.one, encs, List.map_cons, List.map_nil] <;> (walk_at "w")
  | _ => dsimp only [enc, encCall, inners, encB, List.map_cons, List.map_nil] <;> (walk_at "w")
/-- a break here that leaves what is asked of -/
noncomputable def brkHit (lab : Lab) (near : Bool) : St → Bool
  | .brk l => (l == none && near) || (l != none && l == lab)
  | .ret => false
  | .fall => false
  | .call _ => false
  | .cont _ => false
  | .block _ => false
  | .if1 _ => false
  | .if2 _ _ => false
  | .forr _ _ _ => false
  | .range _ _ => false
  | .sw _ _ _ => false
mutual
noncomputable def hb (lab : Lab) : Bool → Sts → Bool
  | _, .nil => false
  | near, .cons s r => hbS lab near s || hb lab near r
noncomputable def hbS (lab : Lab) : Bool → St → Bool
  | near, .brk l => (l == none && near) || (l != none && l == lab)
  | near, .block b => hb lab near b
  | near, .if1 b => hb lab near b
  | near, .if2 b o => hb lab near b || hb lab near o
  | _, .forr _ _ b => hb lab false b
  | _, .range _ b => hb lab false b
  | _, .sw _ _ cs => hbC lab cs
  | _, .ret => false
  | _, .fall => false
  | _, .call _ => false
  | _, .cont _ => false
noncomputable def hbC (lab : Lab) : Cs → Bool
  | .nil => false
  | .cons _ b r => hb lab false b || hbC lab r
end
theorem hb_any (lab : Lab) (near : Bool) : ∀ ss : Sts, hb lab near ss = ss.toList.any (hbS lab near)
  | .nil => by simp only [hb, Sts.toList, List.any_nil]
  | .cons s r => by simp only [hb, Sts.toList, List.any_cons, hb_any lab near r]
theorem hbC_any (lab : Lab) : ∀ cs : Cs, hbC lab cs = (cs.rows.map Row.body).any (hb lab false)
  | .nil => by simp only [hbC, Cs.rows, List.map_nil, List.any_nil]
  | .cons d b r => by simp only [hbC, Cs.rows, List.map_cons, List.any_cons, hbC_any lab r]
theorem hbS_eq (lab : Lab) (near : Bool) (s : St) : hbS lab near s = (brkHit lab near s || (inners s).any (hb lab (near && !isLeft s))) := by
  cases s <;> simp [hbS, brkHit, inners, isLeft, hb, Sts.one, hbC_any]
theorem has_break_ok (g : Gd) : ∀ (n : Nat) (ss : Sts) (lab : Lab) (near : Bool), hgt ss ≤ n → size ss ≤ 2000 → Pure g (n + 3) 69 [.tuple (encs ss), encL lab, .bool near] (.bool (hb lab near ss)) ∧ (near = true → Pure g (n + 3) 69 [.tuple (encs ss), encL lab] (.bool (hb lab near ss)))
  | n, ss, lab, near, hn, hz => by
    refine (fun key => ⟨fun μ => (key μ).1, fun h μ => (key μ).2 (by rw [h])⟩ : (∀ μ, Sat g (n + 2 + 1) (.ref 69) ([.d (.tuple (encs ss)), .d (encL lab)] ++ [.d (.bool near)]) μ (fun ν a => ν = μ ∧ a = .d (.bool (hb lab near ss))) ∧ (AV.d (.bool near) = AV.d (.bool true) → Sat g (n + 2 + 1) (.ref 69) [.d (.tuple (encs ss)), .d (encL lab)] μ (fun ν a => ν = μ ∧ a = .d (.bool (hb lab near ss))))) → _) fun μ => ?_
    refine' Sat.both (v0 := .bool true) ["statements", "label", "is_near"] ?h0 ?h1 ?hb ?hb0 ?hda ?h3 ?h4 ?_
    case h0 => walk_at "a"
    case h1 => walk_at "a"
    case hb => exact fun vs s hK h => ForN.all (n := 3) (p := fun vs => BindsTo s _ ⟨vs, []⟩ (List.zip _ (vs ++ _))) (fun _ _ _ => BindsTo.of_defaults rfl (hK _ _ rfl) rfl rfl rfl) vs h
    case hb0 => exact fun vs s hK h => ForN.all (n := 2) (p := fun vs => BindsTo s _ ⟨vs, []⟩ (List.zip _ (vs ++ _))) (fun _ _ => BindsTo.of_defaults rfl (hK _ _ rfl) rfl rfl rfl) vs h
    case hda => exact fun Φ => ra_bool _
    case h3 => walk_at "b"
    case h4 => (conv => (lhs; whnf))
    intro A E L
    refine Ex.cons (X1.forL enc ss.toList (fun pre μ₁ ρ₁ => μ₁ = μ ∧ LookAll [("label", .d (encL lab)), ("is_near", .d (.bool near))] ρ₁ ∧ pre.any (hbS lab near) = false) ?it ?st ?fi)
    case it =>
      refine It.tup ?_
      walk_at "w"
      exact ⟨by rw [encs_toList, List.map_map]; rfl, rfl, ⟨rfl, rfl, trivial⟩, rfl⟩
    case fi =>
      rintro μ₁ ρ₁ ⟨rfl, hl, h⟩
      rw [hb_any, h]
      walk_at "w"
    case st =>
      rintro pre s post μ₁ ρ₁ hs ⟨rfl, hl, hpre⟩
      have hmem : s ∈ ss.toList := by rw [hs]; simp
      have hsn : hgtS s ≤ n := Nat.le_trans (hgt_mem hmem) hn
      have hsz : sizeS s ≤ 2000 := by have := size_mem hmem; lia
      refine As.weak hl ?_
      walk_at "m"
      refine Ex.seq (fun ν ρ' => ν = μ₁ ∧ brkHit lab near s = false ∧ LookAll [("statement", .d (enc s)), ("label", .d (encL lab)), ("is_near", .d (.bool near))] ρ') ?_ ?_
      · have hit : brkHit lab near s = true → (true : Bool) = hb lab near ss := fun h => by
          rw [hb_any, hs]; simp [hbS_eq, h]
        cases hB : isBrk s with
        | true =>
          cases s with
          | brk l =>
            cases l with
            | none =>
              cases near <;> dsimp only [enc] <;> (walk_at "w")
              · exact ⟨rfl, rfl, rfl, rfl, rfl, trivial⟩
              · rw [← hit rfl]; exact ⟨rfl, rfl⟩
            | some l =>
              dsimp only [enc]
              walk_at "w"
              refine iteB ?_ ?_ <;> intro hl
              · walk_at "w"
                rw [← hit (by simpa [brkHit] using hl)]; exact ⟨rfl, rfl⟩
              · walk_at "w"
                exact ⟨rfl, by simpa [brkHit] using hl, rfl, rfl, rfl, trivial⟩
          | _ => cases hB
        | false =>
          have hh : brkHit lab near s = false := by cases s <;> first | (cases hB; done) | rfl
          obtain ⟨ds, hds⟩ := enc_kind s
          have hj := kind_brk s
          rw [hB] at hj
          have hks := kind_sh s
          rw [hds]
          walk_at "w"
          rw [hj]
          walk_at "w"
          exact ⟨rfl, hh, rfl, rfl, rfl, trivial⟩
      · rintro ν ρ' ⟨rfl, hnb, hl'⟩
        refine Ex.weak hl' ?_
        refine Ex.seq (fun ν' ρ' => ν' = ν ∧ LookAll [("near", .d (.bool (near && !isLeft s))), ("statement", .d (enc s)), ("label", .d (encL lab)), ("is_near", .d (.bool near))] ρ') ?_ ?_
        · obtain ⟨ds, hds⟩ := enc_kind s
          have hks := kind_sh s
          rw [hds, ← kind_loop s]
          cases near <;> (walk_at "w") <;> exact ⟨rfl, rfl, rfl, rfl, rfl, trivial⟩
        · rintro ν' ρ' ⟨rfl, hl'⟩
          refine Ex.weak hl' ?_
          refine Ex.cons (X1.forL encB (inners s) (fun pre2 μ₂ ρ₂ => μ₂ = ν' ∧ LookAll [("near", .d (.bool (near && !isLeft s))), ("label", .d (encL lab)), ("is_near", .d (.bool near))] ρ₂ ∧ pre2.any (hb lab (near && !isLeft s)) = false) ?it2 ?st2 ?fi2)
          case it2 =>
            refine It.lst ?_
            walk_at "w"
            refine Pure.use (inner_lists_ok g s (Nat.le_trans (inners_len s) hsz)) rfl (by show 2 ≤ n + 2; lia) ?_
            exact ⟨_, rfl, by rw [List.map_map]; rfl, rfl, ⟨rfl, rfl, rfl, trivial⟩, rfl⟩
          case fi2 =>
            rintro μ₂ ρ₂ ⟨rfl, hl2, h2⟩
            have : (pre ++ [s]).any (hbS lab near) = false := by simp [List.any_append, hpre, hbS_eq, hnb, h2]
            walk_at "w"
            exact ⟨rfl, ⟨hl2.2.1, hl2.2.2.1, trivial⟩, this⟩
          case st2 =>
            rintro pre2 b post2 μ₂ ρ₂ hs2 ⟨rfl, hl2, h2⟩
            have hb2 : b ∈ inners s := by rw [hs2]; simp
            refine As.weak hl2 ?_
            unfold encB
            walk_at "w"
            obtain ⟨m, rfl⟩ : ∃ m, n = m + 1 := ⟨n - 1, by have := hgt_inner hb2; lia⟩
            refine Pure.use (has_break_ok g m b lab (near && !isLeft s) (by have := hgt_inner hb2; lia) (by have := size_inner hb2; lia)).1 rfl (Nat.le_refl _) ?_
            refine Truthy.bool (iteB ?_ ?_) <;> intro hbb
            · have : (true : Bool) = hb lab near ss := by rw [hb_any, hs]; simp [hbS_eq, hs2, hbb]
              walk_at "w"
              rw [← this]; exact ⟨rfl, rfl⟩
            · walk_at "w"
              exact ⟨rfl, ⟨rfl, rfl, rfl, trivial⟩, by simp [List.any_append, h2, hbb]⟩
noncomputable def isFallS : St → Bool
  | .fall => true
  | .ret => false
  | .call _ => false
  | .brk _ => false
  | .cont _ => false
  | .block _ => false
  | .if1 _ => false
  | .if2 _ _ => false
  | .forr _ _ _ => false
  | .range _ _ => false
  | .sw _ _ _ => false
/-- what the last statement is -/
noncomputable def lastOf (ss : Sts) : Option St := ss.toList.getLast?
noncomputable def Sw.isChoose : Sw → Bool
  | .choose => true
  | .switch => false
  | .typeswitch => false
mutual
/-- what is_terminating tells -/
noncomputable def term : Sts → Bool
  | .nil => false
  | .cons s .nil => termS s
  | .cons _ (.cons t r) => term (.cons t r)
noncomputable def termS : St → Bool
  | .ret => true
  | .call p => p
  | .block b => term b
  | .if2 b o => term b && term o
  | .forr l c b => !c && !hb l true b
  | .sw k l cs => (k.isChoose || cs.rows.any Row.dflt) && termC l cs
  | .fall => false
  | .brk _ => false
  | .cont _ => false
  | .if1 _ => false
  | .range _ _ => false
noncomputable def termC (l : Lab) : Cs → Bool
  | .nil => true
  | .cons _ b r => (isFall b || term b) && !hb l true b && termC l r
noncomputable def isFall : Sts → Bool
  | .nil => false
  | .cons s .nil => match s with | .fall => true | _ => false
  | .cons _ (.cons t r) => isFall (.cons t r)
end
theorem term_last : ∀ ss : Sts, term ss = (match lastOf ss with | none => false | some s => termS s)
  | .nil => by simp only [term]; rfl
  | .cons s .nil => by simp only [term]; rfl
  | .cons s (.cons t r) => by
    have := term_last (.cons t r)
    simp only [term, this]
    unfold lastOf
    simp only [Sts.toList, List.getLast?_cons_cons]
theorem fall_last : ∀ ss : Sts, isFall ss = (match lastOf ss with | some .fall => true | _ => false)
  | .nil => by simp only [isFall]; rfl
  | .cons s .nil => by cases s <;> simp only [isFall] <;> rfl
  | .cons s (.cons t r) => by
    have := fall_last (.cons t r)
    simp only [isFall, this]
    unfold lastOf
    simp only [Sts.toList, List.getLast?_cons_cons]
theorem last_split {ss : Sts} {s : St} (h : lastOf ss = some s) : ∃ pre, ss.toList = pre ++ [s] := by
  obtain ⟨pre, e⟩ := List.getLast?_eq_some_iff.mp h
  exact ⟨pre, e⟩
theorem itemAt_last {l : List PyData} {d : PyData} : itemAt (l ++ [d]) (-1) = some d := by
  unfold itemAt seqIndex?
  simp
  rw [if_pos (by lia)]
  simp only [Option.bind_some]
  rw [show (-1 + ((l.length : Int) + 1)).toNat = l.length by lia]
  simp
theorem termC_all (l : Lab) : ∀ cs : Cs, termC l cs = cs.rows.all fun r => (isFall r.body || term r.body) && !hb l true r.body
  | .nil => by simp only [termC, Cs.rows, List.all_nil]
  | .cons d b r => by simp only [termC, Cs.rows, List.all_cons, termC_all l r]

theorem case_ended_of {g : Gd} {n : Nat} {ss : Sts} (hn : hgt ss ≤ 12) (h : Pure g (3 * n + 6) 95 [.tuple (encs ss)] (.bool (term ss))) : Pure g (3 * n + 7) 83 [.tuple (encs ss)] (.bool (isFall ss || term ss)) := fun μ => by
  refine' Sat.fn ["statements"] ?h0 ?h1 ?h2 ?h3 ?h4 ?_
  walk_at "fn"
  intro A E L
  have sh := shaped_encs hn
  cases e : lastOf ss with
  | none =>
    have hf : isFall ss = false := by rw [fall_last, e]
    have he : encs ss = [] := by
      rw [encs_toList]
      unfold lastOf at e
      rw [List.getLast?_eq_none_iff.mp e]; rfl
    rw [hf, Bool.false_or]
    rw [he] at h sh ⊢
    walk_at "w"
    exact Pure.use h rfl (Nat.le_refl _) ⟨rfl, rfl⟩
  | some s =>
    obtain ⟨pre, hs⟩ := last_split e
    have he : encs ss = pre.map enc ++ [enc s] := by rw [encs_toList, hs, List.map_append]; rfl
    have hne : PyData.eqv (.tuple (encs ss)) (.tuple []) = false := by
      rw [he]; cases pre <;> rfl
    have key : isFall ss = isFallS s := by rw [fall_last, e]; cases s <;> rfl
    rw [key]
    walk_at "w"
    rw [hne]
    walk_at "w"
    refine Op2.itemT (fun _ _ _ => rfl) (by decide) (by decide) (d := enc s) (by rw [he]; exact itemAt_last) ?_
    cases s with
    | fall => 
      dsimp only [enc, isFallS]
      walk_at "w"
    | sw k l cs =>
      simp only [isFallS, Bool.false_or]
      cases k <;> dsimp only [enc] <;> (walk_at "w") <;> exact Pure.use h rfl (Nat.le_refl _) ⟨rfl, rfl⟩
    | _ =>
      simp only [enc, encCall, isFallS, Bool.false_or]
      walk_at "w"
      exact Pure.use h rfl (Nat.le_refl _) ⟨rfl, rfl⟩
theorem ends_of {g : Gd} {n : Nat} {k : Sw} {l : Lab} {cs : Cs} (hl : cs.rows.length ≤ 2000) (hh : ∀ r ∈ cs.rows, hgt r.body ≤ 12) (h : ∀ r ∈ cs.rows, Pure g (3 * n + 7) 83 [.tuple (encs r.body)] (.bool (isFall r.body || term r.body)) ∧ Pure g (n + 3) 69 [.tuple (encs r.body), encL l] (.bool (hb l true r.body))) :
    Pure g (3 * n + 8) 88 [enc (.sw k l cs)] (.bool (termS (.sw k l cs))) := fun μ => by
  refine' Sat.fn ["statement"] ?h0 ?h1 ?h2 ?h3 ?h4 ?_
  walk_at "fn"
  intro A E L
  refine Ex.seq (fun ν ρ' => ν = μ ∧ LookAll [("rows", .d (.tuple (cs.rows.map (encRow k)))), ("label", .d (encL l)), ("statement", .d (enc (.sw k l cs)))] ρ') ?_ ?_
  · walk_at "w"
    refine Pure.use (case_rows_ok g k l cs) rfl (by show 1 ≤ 3 * n + 7; lia) ?_
    cases k <;> dsimp only [enc] <;> (walk_at "w") <;> (rw [encCs_rows]; exact ⟨_, _, rfl, rfl, rfl, rfl, rfl, trivial⟩)
  rintro ν ρ' ⟨rfl, hl'⟩
  refine Ex.weak hl' ?_
  refine Ex.seq (fun ν' ρ' => ν' = ν ∧ (k.isChoose || cs.rows.any Row.dflt) = true ∧ LookAll [("rows", .d (.tuple (cs.rows.map (encRow k)))), ("label", .d (encL l)), ("statement", .d (enc (.sw k l cs)))] ρ') ?_ ?_
  · have hcomp : ∀ k, (cs.rows.flatMap fun r => if r.dflt then [encRow k r] else []).isEmpty = !(cs.rows.any Row.dflt) := fun k => by
      generalize cs.rows = rs
      induction rs with
      | nil => rfl
      | cons r rs ih => cases hr : r.dflt <;> simp [hr, ih]
    have hsh : ∀ k, SeqAt.shaped (.list (cs.rows.flatMap fun r => if r.dflt then [encRow k r] else [])) = true := fun k => shaped_list fun x hx => by
      obtain ⟨r, hr, hx⟩ := List.mem_flatMap.mp hx
      split at hx
      · have hx := List.mem_singleton.mp hx
        subst hx
        have h1 := dep_row k r
        have h2 := hh r hr
        exact ⟨lay_row k r, by lia⟩
      · cases hx
    cases k <;> dsimp only [enc] <;> (walk_at "w")
    · refine Ev.compP (cl := []) (encRow .switch) cs.rows (fun r => if r.dflt then [encRow .switch r] else []) ?ok0 ?hn0 ?it0 ?st0 ?p0
      case ok0 => walk_at "cok"
      case hn0 => lia
      case it0 =>
        refine It.tup ?_
        walk_at "w"
        rw [List.map_map]; exact ⟨rfl, rfl⟩
      case st0 =>
        intro C r hr
        unfold encRow
        cases hd : r.dflt <;> simp only [swHead, Bool.false_eq_true, ↓reduceIte] <;> (walk_at "w") <;> (try exact ⟨rfl, trivial⟩)
      case p0 =>
        have sh := hsh .switch
        walk_at "w"
        rw [eqv_nil, hcomp]
        refine iteB ?_ ?_ <;> intro hc
        · have : termS (.sw .switch l cs) = false := by
            have : cs.rows.any Row.dflt = false := by simpa using hc
            simp only [termS, Sw.isChoose, this]; rfl
          rw [this]
          walk_at "w"
        · walk_at "w"
          exact ⟨rfl, by simpa [Sw.isChoose] using hc, rfl, rfl, rfl, trivial⟩
    · refine Ev.compP (cl := []) (encRow .typeswitch) cs.rows (fun r => if r.dflt then [encRow .typeswitch r] else []) ?ok1 ?hn1 ?it1 ?st1 ?p1
      case ok1 => walk_at "cok"
      case hn1 => lia
      case it1 =>
        refine It.tup ?_
        walk_at "w"
        rw [List.map_map]; exact ⟨rfl, rfl⟩
      case st1 =>
        intro C r hr
        unfold encRow
        cases hd : r.dflt <;> simp only [swHead, Bool.false_eq_true, ↓reduceIte] <;> (walk_at "w") <;> (try exact ⟨rfl, trivial⟩)
      case p1 =>
        have sh := hsh .typeswitch
        walk_at "w"
        rw [eqv_nil, hcomp]
        refine iteB ?_ ?_ <;> intro hc
        · have : termS (.sw .typeswitch l cs) = false := by
            have : cs.rows.any Row.dflt = false := by simpa using hc
            simp only [termS, Sw.isChoose, this]; rfl
          rw [this]
          walk_at "w"
        · walk_at "w"
          exact ⟨rfl, by simpa [Sw.isChoose] using hc, rfl, rfl, rfl, trivial⟩
    · exact ⟨rfl, rfl, rfl, rfl, rfl, trivial⟩
  rintro ν' ρ' ⟨rfl, hd, hl'⟩
  refine Ex.weak hl' ?_
  refine Ex.cons (X1.forL (encRow k) cs.rows (fun pre μ₁ ρ₁ => μ₁ = ν' ∧ LookAll [("label", .d (encL l))] ρ₁ ∧ pre.all (fun r => (isFall r.body || term r.body) && !hb l true r.body) = true) ?it ?st ?fi)
  case it =>
    refine It.tup ?_
    walk_at "w"
    exact ⟨by rw [List.map_map]; rfl, rfl, ⟨rfl, trivial⟩, rfl⟩
  case fi =>
    rintro μ₁ ρ₁ ⟨rfl, hl, h⟩
    have : termS (.sw k l cs) = true := by simp only [termS, hd, termC_all, h]; rfl
    rw [this]
    walk_at "w"
  case st =>
    rintro pre r post μ₁ ρ₁ hs ⟨rfl, hl2, hpre⟩
    have hmem : r ∈ cs.rows := by rw [hs]; simp
    obtain ⟨h1, h2⟩ := h r hmem
    refine As.weak hl2 ?_
    unfold encRow
    walk_at "w"
    refine Pure.use h1 rfl (Nat.le_refl _) ?_
    refine Truthy.bool (iteB ?_ ?_) <;> intro hc
    · walk_at "w"
      have : termS (.sw k l cs) = false := by
        have := Bool.or_eq_false_iff.mp (by simpa using hc : (isFall r.body || term r.body) = false)
        simp [termS, termC_all, hs, this.1, this.2]
      rw [this]; exact ⟨rfl, rfl⟩
    · walk_at "w"
      refine Pure.use h2 rfl (by show n + 3 ≤ 3 * n + 7; lia) ?_
      refine Truthy.bool (iteB ?_ ?_) <;> intro hc2
      · walk_at "w"
        have : termS (.sw k l cs) = false := by simp [termS, termC_all, hs, hc2]
        rw [this]; exact ⟨rfl, rfl⟩
      · walk_at "w"
        exact ⟨rfl, ⟨rfl, trivial⟩, by
          have hc' : (isFall r.body || term r.body) = true := by
            cases h : (isFall r.body || term r.body) with
            | true => rfl
            | false => rw [h] at hc; cases hc
          simp only [List.all_append, hpre, List.all_cons, List.all_nil, hc2, hc']; rfl⟩

theorem is_term_ok (g : Gd) : ∀ (n : Nat) (ss : Sts), hgt ss ≤ n → n ≤ 10 → size ss ≤ 2000 → Pure g (3 * n + 6) 95 [.tuple (encs ss)] (.bool (term ss))
  | n, ss, hn, hn2, hz => fun μ => by
    refine' Sat.fn ["statements"] ?h0 ?h1 ?h2 ?h3 ?h4 ?_
    walk_at "fn"
    intro A E L
    have hz' := size_len ss
    cases e : lastOf ss with
    | none =>
      have he : encs ss = [] := by
        rw [encs_toList]
        unfold lastOf at e
        rw [List.getLast?_eq_none_iff.mp e]; rfl
      rw [term_last, e, he]
      walk_at "w"
    | some s =>
      obtain ⟨pre, hs⟩ := last_split e
      have he : encs ss = pre.map enc ++ [enc s] := by rw [encs_toList, hs, List.map_append]; rfl
      have hmem : s ∈ ss.toList := by rw [hs]; simp
      have hsn := hgt_mem hmem
      have hsz := size_mem hmem
      rw [term_last, e]
      try dsimp only
      have hle : (encs ss).length ≤ 1000000 := by rw [encs_toList, List.length_map]; lia
      have hlen : PyData.eqv (.int ((encs ss).length : Nat)) (.int 0) = false := by
        rw [he]; simp [PyData.eqv]; lia
      walk_at "w"
      rw [hlen]
      walk_at "w"
      refine Op2.itemT (fun _ _ _ => rfl) (by decide) (by decide) (d := enc s) (by rw [he]; exact itemAt_last) ?_
      have panic : Pure g 1 76 [enc s] (.bool (isPanic s)) := is_panic_ok g s
      cases s with
      | ret => dsimp only [enc, termS]; walk_at "w"
      | fall =>
        dsimp only [enc, termS] at panic ⊢
        walk_at "w"
        refine Pure.use panic rfl (by show 1 ≤ 3 * n + 5; lia) ?_
        walk_at "w"
      | call p =>
        cases p <;> dsimp only [enc, encCall, termS] at panic ⊢ <;> (walk_at "w") <;> refine Pure.use panic rfl (by show 1 ≤ 3 * n + 5; lia) ?_ <;> (walk_at "w")
      | brk l =>
        dsimp only [enc, termS] at panic ⊢
        walk_at "w"
        refine Pure.use panic rfl (by show 1 ≤ 3 * n + 5; lia) ?_
        walk_at "w"
      | cont l =>
        dsimp only [enc, termS] at panic ⊢
        walk_at "w"
        refine Pure.use panic rfl (by show 1 ≤ 3 * n + 5; lia) ?_
        walk_at "w"
      | if1 b =>
        dsimp only [enc, termS] at panic ⊢
        walk_at "w"
        refine Pure.use panic rfl (by show 1 ≤ 3 * n + 5; lia) ?_
        walk_at "w"
      | range l b =>
        dsimp only [enc, termS] at panic ⊢
        walk_at "w"
        refine Pure.use panic rfl (by show 1 ≤ 3 * n + 5; lia) ?_
        walk_at "w"
      | block b =>
        dsimp only [enc, termS] at panic ⊢
        simp only [hgtS, sizeS] at hsn hsz
        obtain ⟨m, rfl⟩ : ∃ m, n = m + 1 := ⟨n - 1, by lia⟩
        have ih := is_term_ok g m b (by lia) (by lia) (by lia)
        walk_at "w"
        refine Pure.use panic rfl (by show 1 ≤ 3 * (m + 1) + 5; lia) ?_
        walk_at "w"
        exact Pure.use ih rfl (by show 3 * m + 6 ≤ 3 * (m + 1) + 5; lia) ⟨rfl, rfl⟩
      | if2 b o =>
        dsimp only [enc, termS] at panic ⊢
        simp only [hgtS, sizeS] at hsn hsz
        obtain ⟨m, rfl⟩ : ∃ m, n = m + 1 := ⟨n - 1, by lia⟩
        have ih1 := is_term_ok g m b (by lia) (by lia) (by lia)
        have ih2 := is_term_ok g m (.one (.block o)) (by simp only [Sts.one, hgt, hgtS]; lia) (by lia) (by simp only [Sts.one, size, sizeS]; lia)
        have e2 : term (.one (.block o)) = term o := by simp only [Sts.one, term, termS]
        rw [e2] at ih2
        simp only [Sts.one, encs, enc] at ih2
        walk_at "w"
        refine Pure.use panic rfl (by show 1 ≤ 3 * (m + 1) + 5; lia) ?_
        walk_at "w"
        refine Pure.use ih1 rfl (by show 3 * m + 6 ≤ 3 * (m + 1) + 5; lia) ?_
        refine Truthy.bool (iteB ?_ ?_) <;> intro hb
        · rw [hb, Bool.true_and]
          walk_at "w"
          exact Pure.use ih2 rfl (by show 3 * m + 6 ≤ 3 * (m + 1) + 5; lia) ⟨rfl, rfl⟩
        · rw [hb]; exact ⟨rfl, rfl⟩
      | forr l c b =>
        dsimp only [enc, termS] at panic ⊢
        simp only [hgtS, sizeS] at hsn hsz
        obtain ⟨m, rfl⟩ : ∃ m, n = m + 1 := ⟨n - 1, by lia⟩
        have ih := (has_break_ok g m b l true (by lia) (by lia)).2 rfl
        cases c
        · simp only [Bool.false_eq_true, ↓reduceIte] at panic ⊢
          walk_at "w"
          refine Pure.use panic rfl (by show 1 ≤ 3 * (m + 1) + 5; lia) ?_
          walk_at "w"
          refine Pure.use ih rfl (by show m + 3 ≤ 3 * (m + 1) + 5; lia) ?_
          exact Truthy.bool ⟨rfl, rfl⟩
        · simp only [↓reduceIte] at panic ⊢
          unfold yes at panic ⊢
          walk_at "w"
          refine Pure.use panic rfl (by show 1 ≤ 3 * (m + 1) + 5; lia) ?_
          walk_at "w"
      | sw k l cs =>
        simp only [hgtS, sizeS] at hsn hsz
        obtain ⟨m, rfl⟩ : ∃ m, n = m + 1 := ⟨n - 1, by lia⟩
        have hr := size_rows cs
        have ih := ends_of (g := g) (n := m) (k := k) (l := l) (cs := cs) (by lia) (fun r h => by have := hgt_row h; lia) fun r h => by
          have h1 := hgt_row h
          have h2 := size_row h
          exact ⟨case_ended_of (by lia) (is_term_ok g m r.body (by lia) (by lia) (by lia)), (has_break_ok g m r.body l true (by lia) (by lia)).2 rfl⟩
        cases k <;> dsimp only [enc] at panic ih ⊢ <;> (walk_at "w") <;> refine Pure.use panic rfl (by show 1 ≤ 3 * (m + 1) + 5; lia) ?_ <;> (walk_at "w") <;> exact Pure.use ih rfl (Nat.le_refl _) ⟨rfl, rfl⟩
theorem law_call_ok (g : Gd) (p : Bool) : Pure g 1 177 [.str (if p then "panic" else "f")] (encCall p) := fun μ => by
  refine' Sat.fn ["name"] ?h0 ?h1 ?h2 ?h3 ?h4 ?_
  walk_at "fn"
  intro A E L
  unfold encCall
  walk_at "w"
theorem law_parts_ok (g : Gd) (s : St) (hs : (parts s).length ≤ 2000) : Pure g 1 215 [enc s] (.list ((parts s).map encB)) := fun μ => by
  refine' Sat.fn ["told"] ?h0 ?h1 ?h2 ?h3 ?h4 ?_
  walk_at "fn"
  intro A E L
  cases s with
  | if1 b =>
    dsimp only [enc, parts, encB, List.map_cons, List.map_nil]
    walk_at "w"
    refine Ev.compP (cl := []) (fun y => y) [PyData.none] (fun _ => []) ?ok ?hn1 ?it ?st ?p
    case ok => walk_at "cok"
    case hn1 => decide
    case it =>
      refine It.lst ?_
      walk_at "w"
    case st =>
      intro C y hy
      rw [List.mem_singleton.mp hy]
      walk_at "w"
    case p => walk_at "w"
  | if2 b o =>
    dsimp only [enc, parts, encB, List.map_cons, List.map_nil]
    walk_at "w"
    refine Ev.compP (cl := []) (fun y => y) [PyData.tuple [.str "block", .int 0, .tuple (encs o)]] (fun _ => [.tuple (encs o)]) ?ok2 ?hn2 ?it2 ?st2 ?p2
    case ok2 => walk_at "cok"
    case hn2 => exact Nat.le_of_ble_eq_true rfl
    case it2 =>
      refine It.lst ?_
      walk_at "w"
    case st2 =>
      intro C y hy
      rw [List.mem_singleton.mp hy]
      walk_at "w"
    case p2 => walk_at "w"
  | sw k l cs =>
    have hl : cs.rows.length ≤ 2000 := by simpa [parts] using hs
    cases k <;> simp only [enc, parts, List.map_map] <;> (walk_at "w")
    · refine Ev.compP (cl := []) (encRow .switch) cs.rows (fun r => [.tuple (encs r.body)]) ?oka ?hna ?ita ?sta ?pa
      case oka => walk_at "cok"
      case hna => lia
      case ita =>
        refine It.tup ?_
        walk_at "w"
        rw [encCs_rows, List.map_map]; exact ⟨rfl, rfl⟩
      case sta =>
        intro C r hr
        unfold encRow
        walk_at "w"
      case pa => rw [flatMap_one]; exact ⟨rfl, rfl⟩
    · refine Ev.compP (cl := []) (encRow .typeswitch) cs.rows (fun r => [.tuple (encs r.body)]) ?okb ?hnb ?itb ?stb ?pb
      case okb => walk_at "cok"
      case hnb => lia
      case itb =>
        refine It.tup ?_
        walk_at "w"
        rw [encCs_rows, List.map_map]; exact ⟨rfl, rfl⟩
      case stb =>
        intro C r hr
        unfold encRow
        walk_at "w"
      case pb => rw [flatMap_one]; exact ⟨rfl, rfl⟩
    · refine Ev.compP (cl := []) (encRow .choose) cs.rows (fun r => [.tuple (encs r.body)]) ?okc ?hnc ?itc ?stc ?pc
      case okc => walk_at "cok"
      case hnc => lia
      case itc =>
        refine It.tup ?_
        walk_at "w"
        rw [encCs_rows, List.map_map]; exact ⟨rfl, rfl⟩
      case stc =>
        intro C r hr
        unfold encRow
        walk_at "w"
      case pc => rw [flatMap_one]; exact ⟨rfl, rfl⟩
  | _ => dsimp only [enc, encCall, parts, encB, List.map_cons, List.map_nil] <;> (walk_at "w")

theorem law_ways_ok (g : Gd) : ∀ (n : Nat) (ss : Sts) (ar : List (Lab × Kd)), hgt ss ≤ n → size ss ≤ 2000 → ar.length + n ≤ 100 → Pure g (n + 3) 222 [.tuple (encs ss), .list (ar.map encA)] (.list ((ways ar ss).map encW))
  | n, ss, ar, hn, hz, ha => fun μ => by
    refine' Sat.fn ["rows", "around"] ?h0 ?h1 ?h2 ?h3 ?h4 ?_
    walk_at "fn"
    intro A E L
    have hwl := ways_len ss ar
    refine Ex.cons (X1.put ⟨rfl, rfl, .inl rfl⟩ rfl (Ev.listM (Evs.nil ⟨[], rfl, Nat.zero_le _, fun F hF => ?_⟩)))
    try dsimp only
    refine Ex.cons (X1.forL enc ss.toList (fun pre μ₁ ρ₁ => ∃ F, F ∉ μ.map (·.1) ∧ μ₁ = (F, .list ((pre.flatMap (waysS ar)).map encW)) :: μ ∧ LookAll [("found", .v (.ref F)), ("around", .d (.list (ar.map encA)))] ρ₁) ?it ?st ?fi)
    case it =>
      refine It.tup ?_
      walk_at "w"
      exact ⟨by rw [encs_toList, List.map_map]; rfl, F, hF, rfl, rfl, rfl, trivial⟩
    case fi =>
      rintro μ₁ ρ₁ ⟨F, hF, rfl, hl⟩
      refine Ex.weak hl ?_
      refine Ex.cons (X1.ret (Ev.freeze ?_))
      walk_at "w"
      rw [muDel_head hF, ways_flat]
      exact ⟨rfl, rfl⟩
    case st =>
      rintro pre s post μ₁ ρ₁ hs ⟨F, hF, rfl, hl⟩
      have hmem : s ∈ ss.toList := by rw [hs]; simp
      have hsn : hgtS s ≤ n := Nat.le_trans (hgt_mem hmem) hn
      have hsz : sizeS s ≤ 2000 := by have := size_mem hmem; lia
      have hpl : (pre.flatMap (waysS ar)).length + (waysS ar s).length ≤ 2000 := by
        rw [ways_flat, hs] at hwl
        simp only [List.flatMap_append, List.flatMap_cons, List.length_append] at hwl
        lia
      refine As.weak hl ?_
      walk_at "m"
      refine Ex.seq (fun ν ρ' => ν = (F, .list ((pre.flatMap (waysS ar) ++ here ar s).map encW)) :: μ ∧ LookAll [("told", .d (enc s)), ("found", .v (.ref F)), ("around", .d (.list (ar.map encA)))] ρ') ?_ ?_
      · cases hJ : isJump s with
        | true =>
          cases s with
          | brk l =>
            dsimp only [enc, here]
            have h1 : waysS ar (.brk l) = [⟨true, l, ar⟩] := by simp only [waysS]
            rw [h1] at hpl
            walk_at "w"
            refine CallV.append (.head _) (by rw [List.length_map]; lia) ?_
            rw [muSet_head hF]
            walk_at "w"
            exact ⟨by rw [List.map_append]; rfl, rfl, rfl, rfl, trivial⟩
          | cont l =>
            dsimp only [enc, here]
            have h1 : waysS ar (.cont l) = [⟨false, l, ar⟩] := by simp only [waysS]
            rw [h1] at hpl
            walk_at "w"
            refine CallV.append (.head _) (by rw [List.length_map]; lia) ?_
            rw [muSet_head hF]
            walk_at "w"
            exact ⟨by rw [List.map_append]; rfl, rfl, rfl, rfl, trivial⟩
          | _ => cases hJ
        | false =>
          have hh : here ar s = [] := by cases s <;> first | (cases hJ; done) | rfl
          obtain ⟨ds, hds⟩ := enc_kind s
          have hj := kind_jump s
          rw [hJ] at hj
          have hks := kind_sh s
          rw [hh, hds]
          simp only [List.append_nil]
          walk_at "w"
          rw [hj]
          walk_at "w"
          exact ⟨rfl, rfl, rfl, rfl, trivial⟩
      · rintro ν ρ' ⟨rfl, hl'⟩
        refine Ex.weak hl' ?_
        refine Ex.seq (fun ν' ρ' => ν' = (F, .list ((pre.flatMap (waysS ar) ++ here ar s).map encW)) :: μ ∧ LookAll [("is_left", .d (.bool (isLeft s))), ("told", .d (enc s)), ("found", .v (.ref F)), ("around", .d (.list (ar.map encA)))] ρ') ?_ ?_
        · obtain ⟨ds, hds⟩ := enc_kind s
          have hks := kind_sh s
          rw [hds, ← kind_loop s]
          walk_at "w"
          exact ⟨rfl, rfl, rfl, rfl, rfl, trivial⟩
        rintro ν' ρ' ⟨rfl, hl'⟩
        refine Ex.weak hl' ?_
        have hpp : ∀ pre2 post2, parts s = pre2 ++ post2 → (pre.flatMap (waysS ar)).length + ((here ar s).length + (pre2.flatMap (ways (ar ++ ring s))).length) ≤ 2000 := fun pre2 post2 e => by
          rw [waysS_eq, e] at hpl
          simp only [List.flatMap_append, List.length_append] at hpl
          lia
        refine Ex.cons (X1.forL encB (parts s) (fun pre2 μ₂ ρ₂ => ∃ F, F ∉ μ.map (·.1) ∧ μ₂ = (F, .list ((pre.flatMap (waysS ar) ++ (here ar s ++ pre2.flatMap (ways (ar ++ ring s)))).map encW)) :: μ ∧ LookAll [("is_left", .d (.bool (isLeft s))), ("told", .d (enc s)), ("found", .v (.ref F)), ("around", .d (.list (ar.map encA)))] ρ₂) ?it2 ?st2 ?fi2)
        case it2 =>
          refine It.lst ?_
          walk_at "w"
          refine Pure.use (law_parts_ok g s (Nat.le_trans (parts_len s) hsz)) rfl (by show 1 ≤ n + 2; lia) ?_
          exact ⟨_, rfl, by rw [List.map_map]; rfl, F, hF, by simp, rfl, rfl, rfl, rfl, trivial⟩
        case fi2 =>
          rintro μ₂ ρ₂ ⟨F, hF, rfl, hl2⟩
          walk_at "w"
          refine ⟨F, hF, ?_, hl2.2.2.1, hl2.2.2.2.1, trivial⟩
          rw [← waysS_eq, List.flatMap_append]; simp
        case st2 =>
          rintro pre2 b post2 μ₂ ρ₂ hs2 ⟨F, hF, rfl, hl2⟩
          have hb2 : b ∈ parts s := by rw [hs2]; simp
          have hp3 := hpp (pre2 ++ [b]) post2 (by rw [hs2]; simp)
          obtain ⟨m, rfl⟩ : ∃ m, n = m + 1 := ⟨n - 1, by have := hgt_part hb2; lia⟩
          have ring_len : (ring s).length ≤ 1 := by cases s <;> simp [ring]
          have ih := law_ways_ok g m b (ar ++ ring s) (by have := hgt_part hb2; lia) (by have := size_part hb2; lia) (by rw [List.length_append]; lia)
          refine As.weak hl2 ?_
          unfold encB
          rw [List.map_append] at ih
          simp only [List.flatMap_append, List.flatMap_cons, List.flatMap_nil, List.length_append, List.append_nil] at hp3
          have fin : ∀ {c : Cx} {B : Addr} {ρ' : Rho} {Q : Fl → Mu → Rho → Prop}, B ∉ (((F, MO.list (((pre.flatMap (waysS ar) ++ (here ar s ++ pre2.flatMap (ways (ar ++ ring s)))).map encW))) :: μ).map (·.1)) → LookAll [("is_left", .d (.bool (isLeft s))), ("told", .d (enc s)), ("found", .v (.ref B)), ("around", .d (.list (ar.map encA)))] ρ' →
              (∀ ν ρ'', (∃ F, F ∉ μ.map (·.1) ∧ ν = (F, .list ((pre.flatMap (waysS ar) ++ (here ar s ++ (pre2 ++ [b]).flatMap (ways (ar ++ ring s)))).map encW)) :: μ ∧ LookAll [("is_left", .d (.bool (isLeft s))), ("told", .d (enc s)), ("found", .v (.ref F)), ("around", .d (.list (ar.map encA)))] ρ'') → Q .next ν ρ'') →
              Ex c ((B, .list ((pre.flatMap (waysS ar) ++ (here ar s ++ pre2.flatMap (ways (ar ++ ring s)))).map encW ++ (ways (ar ++ ring s) b).map encW)) :: (F, .list ((pre.flatMap (waysS ar) ++ (here ar s ++ pre2.flatMap (ways (ar ++ ring s)))).map encW)) :: μ) ρ' [] Q := fun {c B ρ' Q} hB hl k => by
            refine Ex.sub (ν := (B, .list ((pre.flatMap (waysS ar) ++ (here ar s ++ pre2.flatMap (ways (ar ++ ring s)))).map encW ++ (ways (ar ++ ring s) b).map encW)) :: μ) (.cons_cons _ (List.sublist_cons_self _ _)) (Ex.nil (k _ _ ⟨B, fun q => hB (List.mem_cons_of_mem _ q), ?_, hl⟩))
            simp [List.map_append, List.flatMap_append]
          have hsz2 : ((pre.flatMap (waysS ar) ++ (here ar s ++ pre2.flatMap (ways (ar ++ ring s)))).map encW).length + ((ways (ar ++ ring s) b).map encW).length ≤ 1000000 := by
            simp only [List.length_map, List.length_append]; lia
          have hal : (ar.map encA).length + 1 ≤ 1000000 := by rw [List.length_map]; lia
          have hal0 : (ar.map encA).length + 0 ≤ 1000000 := by rw [List.length_map]; lia
          have callW : ∀ {c : Cx} {ρ' : Rho} {ν : Mu} {P : Mu → AV → Prop}, c.g = g → m + 3 ≤ c.room → P ν (.d (.list ((ways (ar ++ ring s) b).map encW))) → CallV c ρ' ν (.ref 222) [.d (.tuple (encs b)), .d (.list (ar.map encA ++ (ring s).map encA))] P := fun e1 e2 p => ih.use e1 e2 p
          obtain ⟨ds, x, hds, hr1, hr0⟩ := part_item hb2
          have hks := kind_sh s
          have hsq : SeqAt.shaped (.bool (isLeft s)) = true := by cases isLeft s <;> decide +kernel
          cases hL : isLeft s with
          | true =>
            have hr := hr1 hL
            rw [hr] at callW
            simp only [hds, hL] at fin ⊢
            walk_at "w"
            refine callW rfl (Nat.le_refl _) ?_
            refine Op2.addM (.head _) hsz2 (fun B hB => ?_)
            try dsimp only
            exact fin hB ⟨rfl, rfl, rfl, rfl, trivial⟩ fun _ _ h => h
          | false =>
            have hr : (ring s).map encA = [] := by rw [hr0 hL]; rfl
            rw [hr] at callW
            simp only [hds, hL] at fin ⊢
            walk_at "w"
            refine callW rfl (Nat.le_refl _) ?_
            refine Op2.addM (.head _) hsz2 (fun B hB => ?_)
            try dsimp only
            exact fin hB ⟨rfl, rfl, rfl, rfl, trivial⟩ fun _ _ h => h
theorem law_labels_ok (g : Gd) : ∀ (n : Nat) (ss : Sts), hgt ss ≤ n → size ss ≤ 2000 → Pure g (n + 3) 241 [.tuple (encs ss)] (.list (encLs (labels ss)))
  | n, ss, hn, hz => fun μ => by
    refine' Sat.fn ["rows"] ?h0 ?h1 ?h2 ?h3 ?h4 ?_
    walk_at "fn"
    intro A E L
    have hwl := labels_len ss
    refine Ex.cons (X1.put ⟨rfl, rfl, .inl rfl⟩ rfl (Ev.listM (Evs.nil ⟨[], rfl, Nat.zero_le _, fun F hF => ?_⟩)))
    try dsimp only
    refine Ex.cons (X1.forL enc ss.toList (fun pre μ₁ ρ₁ => ∃ F, F ∉ μ.map (·.1) ∧ μ₁ = (F, .list (encLs (pre.flatMap labelsS))) :: μ ∧ LookAll [("found", .v (.ref F))] ρ₁) ?it ?st ?fi)
    case it =>
      refine It.tup ?_
      walk_at "w"
      exact ⟨by rw [encs_toList, List.map_map]; rfl, F, hF, rfl, rfl, trivial⟩
    case fi =>
      rintro μ₁ ρ₁ ⟨F, hF, rfl, hl⟩
      refine Ex.weak hl ?_
      refine Ex.cons (X1.ret (Ev.freeze ?_))
      walk_at "w"
      rw [muDel_head hF, labels_flat]
      exact ⟨rfl, rfl⟩
    case st =>
      rintro pre s post μ₁ ρ₁ hs ⟨F, hF, rfl, hl⟩
      have hmem : s ∈ ss.toList := by rw [hs]; simp
      have hsn : hgtS s ≤ n := Nat.le_trans (hgt_mem hmem) hn
      have hsz : sizeS s ≤ 2000 := by have := size_mem hmem; lia
      have hpl : (pre.flatMap labelsS).length + (labelsS s).length ≤ 2000 := by
        rw [labels_flat, hs] at hwl
        simp only [List.flatMap_append, List.flatMap_cons, List.length_append] at hwl
        lia
      refine As.weak hl ?_
      walk_at "m"
      refine Ex.seq (fun ν ρ' => ν = (F, .list (encLs (pre.flatMap labelsS ++ toldL s))) :: μ ∧ LookAll [("told", .d (enc s)), ("found", .v (.ref F))] ρ') ?_ ?_
      · have ap : ∀ i, toldL s = [i] → (encLs (pre.flatMap labelsS)).length ≤ 1000000 := fun i e => by
          unfold encLs; rw [List.length_map]; lia
        have apE : ∀ i : Fin 4, encLs (pre.flatMap labelsS) ++ [.str (labStr i)] = encLs (pre.flatMap labelsS ++ [i]) := fun i => by simp [encLs]
        have ok : ∀ i : Fin 4, (encL (some i) : PyData) = .str (labStr i) := fun _ => rfl
        have hlp := kind_loop s
        have hks := kind_sh s
        cases hL : isLeft s with
        | false =>
          have ht : toldL s = [] := by cases s <;> first | (cases hL; done) | rfl
          obtain ⟨ds, hds⟩ := enc_kind s
          rw [hL] at hlp
          rw [ht, hds]
          simp only [List.append_nil]
          walk_at "w"
          rw [hlp]
          walk_at "w"
          exact ⟨rfl, rfl, rfl, trivial⟩
        | true =>
          obtain ⟨ds, l, hds, ht⟩ := left_item hL
          rw [hL] at hlp
          rw [hds]
          cases l with
          | none =>
            rw [ht]
            simp only [Option.toList, List.append_nil]
            walk_at "w"
            rw [hlp]
            walk_at "w"
            exact ⟨rfl, rfl, rfl, trivial⟩
          | some i =>
            have := ap i ht
            rw [ht]
            walk_at "w"
            rw [hlp]
            walk_at "w"
            refine CallV.append (.head _) this ?_
            rw [muSet_head hF]
            walk_at "w"
            exact ⟨by rw [ok, apE]; rfl, rfl, rfl, trivial⟩
      · rintro ν ρ' ⟨rfl, hl'⟩
        refine Ex.weak hl' ?_
        have hpp : ∀ pre2 post2, parts s = pre2 ++ post2 → (pre.flatMap labelsS).length + ((toldL s).length + (pre2.flatMap labels).length) ≤ 2000 := fun pre2 post2 e => by
          rw [labelsS_eq, e] at hpl
          simp only [List.flatMap_append, List.length_append] at hpl
          lia
        refine Ex.cons (X1.forL encB (parts s) (fun pre2 μ₂ ρ₂ => ∃ F, F ∉ μ.map (·.1) ∧ μ₂ = (F, .list (encLs (pre.flatMap labelsS ++ (toldL s ++ pre2.flatMap labels)))) :: μ ∧ LookAll [("found", .v (.ref F))] ρ₂) ?it2 ?st2 ?fi2)
        case it2 =>
          refine It.lst ?_
          walk_at "w"
          refine Pure.use (law_parts_ok g s (Nat.le_trans (parts_len s) hsz)) rfl (by show 1 ≤ n + 2; lia) ?_
          exact ⟨_, rfl, by rw [List.map_map]; rfl, F, hF, by simp, rfl, trivial⟩
        case fi2 =>
          rintro μ₂ ρ₂ ⟨F, hF, rfl, hl2⟩
          walk_at "w"
          refine ⟨F, hF, ?_, hl2⟩
          rw [← labelsS_eq, List.flatMap_append]; simp
        case st2 =>
          rintro pre2 b post2 μ₂ ρ₂ hs2 ⟨F, hF, rfl, hl2⟩
          have hb2 : b ∈ parts s := by rw [hs2]; simp
          have hp3 := hpp (pre2 ++ [b]) post2 (by rw [hs2]; simp)
          obtain ⟨m, rfl⟩ : ∃ m, n = m + 1 := ⟨n - 1, by have := hgt_part hb2; lia⟩
          have ih := law_labels_ok g m b (by have := hgt_part hb2; lia) (by have := size_part hb2; lia)
          refine As.weak hl2 ?_
          unfold encB
          simp only [List.flatMap_append, List.flatMap_cons, List.flatMap_nil, List.length_append, List.append_nil] at hp3
          have hsz2 : (encLs (pre.flatMap labelsS ++ (toldL s ++ pre2.flatMap labels))).length + (encLs (labels b)).length ≤ 1000000 := by
            simp only [encLs, List.length_map, List.length_append]; lia
          walk_at "w"
          refine Pure.use ih rfl (Nat.le_refl _) ?_
          refine Op2.addM (.head _) hsz2 (fun B hB => ?_)
          try dsimp only
          refine Ex.sub (ν := (B, .list (encLs (pre.flatMap labelsS ++ (toldL s ++ pre2.flatMap labels)) ++ encLs (labels b))) :: μ) (.cons_cons _ (List.sublist_cons_self _ _)) (Ex.nil ⟨B, fun q => hB (List.mem_cons_of_mem _ q), ?_, rfl, trivial⟩)
          simp [encLs, List.map_append, List.flatMap_append]
/-- a break within leads out of the loop, as the law counts it -/
noncomputable def labOf : St → Lab
  | .forr l _ _ => l
  | .range l _ => l
  | .sw _ l _ => l
  | .ret => none
  | .fall => none
  | .call _ => none
  | .brk _ => none
  | .cont _ => none
  | .block _ => none
  | .if1 _ => none
  | .if2 _ _ => none
noncomputable def wayLeft (l : Lab) (w : Way) : Bool := w.brk && (match w.lab with | none => w.around.isEmpty | some i => (some i : Lab) == l)
noncomputable def leftBy (s : St) : Bool := (parts s).any fun b => (ways [] b).any (wayLeft (labOf s))

theorem lab_item {s : St} (h : isLeft s = true) : ∃ ds, enc s = .tuple ds ∧ itemAt ds 2 = some (encL (labOf s)) := by
  cases s <;> simp only [isLeft] at h <;> (try cases h)
  case forr l c b => exact ⟨_, rfl, rfl⟩
  case range l b => exact ⟨_, rfl, rfl⟩
  case sw k l cs => cases k <;> exact ⟨_, rfl, rfl⟩
theorem lay_around (ar : List (Lab × Kd)) : SeqAt.shaped (.list (ar.map encA)) = true := shaped_list fun x hx => by
  obtain ⟨⟨l, k⟩, _, rfl⟩ := List.mem_map.mp hx
  have h1 := lay_lab l
  have h2 := dep_lab l
  unfold encA
  refine ⟨?_, ?_⟩
  · cases k with
    | sw k => cases k <;> simp only [Kd.str, PyData.canLay0, PyData.canLayAll0, h1] <;> decide +kernel
    | _ => simp only [Kd.str, PyData.canLay0, PyData.canLayAll0, h1] <;> decide +kernel
  · simp only [PyData.depth, PyData.depthAll, h2]; lia
theorem law_is_left_ok (g : Gd) (n : Nat) (s : St) (hl0 : isLeft s = true) (hn : hgtS s ≤ n + 1) (hn2 : n ≤ 50) (hz : sizeS s ≤ 2000) : Pure g (n + 4) 229 [enc s] (.bool (leftBy s)) := fun μ => by
  refine' Sat.fn ["told"] ?h0 ?h1 ?h2 ?h3 ?h4 ?_
  walk_at "fn"
  intro A E L
  refine Ex.cons (X1.forL encB (parts s) (fun pre μ₁ ρ₁ => μ₁ = μ ∧ LookAll [("told", .d (enc s))] ρ₁ ∧ pre.any (fun b => (ways [] b).any (wayLeft (labOf s))) = false) ?it ?st ?fi)
  case it =>
    refine It.lst ?_
    walk_at "w"
    refine Pure.use (law_parts_ok g s (Nat.le_trans (parts_len s) hz)) rfl (by show 1 ≤ n + 3; lia) ?_
    exact ⟨_, rfl, by rw [List.map_map]; rfl, rfl, ⟨rfl, trivial⟩, rfl⟩
  case fi =>
    rintro μ₁ ρ₁ ⟨rfl, hl, h⟩
    have : leftBy s = false := h
    rw [this]
    walk_at "w"
  case st =>
    rintro pre b post μ₁ ρ₁ hs ⟨rfl, hl, hpre⟩
    have hb : b ∈ parts s := by rw [hs]; simp
    have hlen := ways_len b []
    have hsb := size_part hb
    have ih := law_ways_ok g n b [] (by have := hgt_part hb; lia) (by lia) (by simp; lia)
    refine As.weak hl ?_
    unfold encB
    walk_at "m"
    refine Ex.cons (X1.forL encW (ways [] b) (fun pre2 μ₂ ρ₂ => μ₂ = μ₁ ∧ LookAll [("told", .d (enc s))] ρ₂ ∧ pre2.any (wayLeft (labOf s)) = false) ?it2 ?st2 ?fi2)
    case it2 =>
      refine It.lst ?_
      walk_at "w"
      refine Pure.use ih rfl (Nat.le_refl _) ?_
      exact ⟨_, rfl, by rw [List.map_map]; rfl, rfl, ⟨rfl, trivial⟩, rfl⟩
    case fi2 =>
      rintro μ₂ ρ₂ ⟨rfl, hl2, h2⟩
      walk_at "w"
      exact ⟨rfl, hl2, by simp only [List.any_append, hpre, List.any_cons, h2, List.any_nil]; rfl⟩
    case st2 =>
      rintro pre2 w post2 μ₂ ρ₂ hs2 ⟨rfl, hl2, h2⟩
      refine As.weak hl2 ?_
      obtain ⟨ds, e1, e2⟩ := lab_item hl0
      have hit : wayLeft (labOf s) w = true → leftBy s = true := fun h => by
        unfold leftBy
        rw [hs]
        simp [List.any_append, hs2, h]
      obtain ⟨wb, wl, wa⟩ := w
      have sh := lay_around wa
      rw [e1]
      unfold encW
      try dsimp only
      cases wb with
      | false =>
        simp only [Bool.false_eq_true, ↓reduceIte]
        walk_at "w"
        exact ⟨rfl, ⟨rfl, trivial⟩, by simp [List.any_append, h2, wayLeft]⟩
      | true =>
        simp only [↓reduceIte]
        cases wl with
        | none =>
          walk_at "w"
          rw [eqv_nil]
          refine iteB ?_ ?_ <;> intro hc
          · rw [hit (by simpa [wayLeft] using hc)]
            walk_at "w"
          · walk_at "w"
            exact ⟨rfl, ⟨rfl, trivial⟩, by simpa [List.any_append, h2, wayLeft] using hc⟩
        | some i =>
          walk_at "w"
          refine Op2.itemT (fun _ _ _ => rfl) (by decide) (by decide) e2 ?_
          walk_at "w"
          refine iteB ?_ ?_ <;> intro hc
          · rw [hit (by simpa [wayLeft] using hc)]
            walk_at "w"
          · walk_at "w"
            exact ⟨rfl, ⟨rfl, trivial⟩, by simpa [List.any_append, h2, wayLeft] using hc⟩
mutual
/-- what the law's own rule tells -/
noncomputable def lends : Sts → Bool
  | .nil => false
  | .cons s .nil => lendsS s
  | .cons _ (.cons t r) => lends (.cons t r)
noncomputable def lendsS : St → Bool
  | .ret => true
  | .call p => p
  | .block b => lends b
  | .if2 b o => lends b && lends o
  | .forr l c b => !c && !leftBy (.forr l c b)
  | .sw k l cs => (k.isChoose || cs.rows.any Row.dflt) && !leftBy (.sw k l cs) && lendsC cs
  | .fall => false
  | .brk _ => false
  | .cont _ => false
  | .if1 _ => false
  | .range _ _ => false
noncomputable def lendsC : Cs → Bool
  | .nil => true
  | .cons _ b r => (lends b || isFall b) && lendsC r
end
theorem lends_last : ∀ ss : Sts, lends ss = (match lastOf ss with | none => false | some s => lendsS s)
  | .nil => by simp only [lends]; rfl
  | .cons s .nil => by simp only [lends]; rfl
  | .cons s (.cons t r) => by
    have := lends_last (.cons t r)
    simp only [lends, this]
    unfold lastOf
    simp only [Sts.toList, List.getLast?_cons_cons]
theorem lendsC_all : ∀ cs : Cs, lendsC cs = cs.rows.all fun r => lends r.body || isFall r.body
  | .nil => by simp only [lendsC, Cs.rows, List.all_nil]
  | .cons d b r => by simp only [lendsC, Cs.rows, List.all_cons, lendsC_all r]
noncomputable def isPanicCall : St → Bool
  | .call p => p
  | .ret => false
  | .fall => false
  | .brk _ => false
  | .cont _ => false
  | .block _ => false
  | .if1 _ => false
  | .if2 _ _ => false
  | .forr _ _ _ => false
  | .range _ _ => false
  | .sw _ _ _ => false
theorem eqv_panic (s : St) : PyData.eqv (enc s) (encCall true) = isPanicCall s := by
  cases s with
  | call p => cases p <;> rfl
  | sw k l cs => cases k <;> rfl
  | _ => rfl
theorem shaped_panic : SeqAt.shaped (encCall true) = true := by decide +kernel
theorem notEnds (ps : List Sts) : (ps.flatMap fun b => if lends b then [] else [encB b]).isEmpty = ps.all lends := by
  induction ps with
  | nil => rfl
  | cons b r ih => cases h : lends b <;> simp [h, ih]
theorem notEnds_sh {ps : List Sts} (h : ∀ b ∈ ps, hgt b ≤ 12) : SeqAt.shaped (.list (ps.flatMap fun b => if lends b then [] else [encB b])) = true := shaped_list fun x hx => by
  obtain ⟨b, hb, hx⟩ := List.mem_flatMap.mp hx
  split at hx
  · cases hx
  · have hx := List.mem_singleton.mp hx
    subst hx
    have h1 := dep_encs b
    have h2 := h b hb
    unfold encB
    refine ⟨by simp only [PyData.canLay0]; exact lay_encs b, by simp only [PyData.depth]; lia⟩
theorem rowsBad (k : Sw) (rs : List Row) : (rs.flatMap fun r => if lends r.body || isFall r.body then [] else [encRow k r]).isEmpty = rs.all fun r => lends r.body || isFall r.body := by
  induction rs with
  | nil => rfl
  | cons b r ih => cases h : (lends b.body || isFall b.body) <;> simp only [List.flatMap_cons, h, Bool.false_eq_true, ↓reduceIte, List.all_cons, Bool.true_and, Bool.false_and, List.nil_append] <;> first | exact ih | rfl
theorem rowsBad_sh {k : Sw} {rs : List Row} (h : ∀ r ∈ rs, hgt r.body ≤ 12) : SeqAt.shaped (.list (rs.flatMap fun r => if lends r.body || isFall r.body then [] else [encRow k r])) = true := shaped_list fun x hx => by
  obtain ⟨r, hr, hx⟩ := List.mem_flatMap.mp hx
  split at hx
  · cases hx
  · have hx := List.mem_singleton.mp hx
    subst hx
    have h1 := dep_row k r
    have h2 := h r hr
    exact ⟨lay_row k r, by lia⟩
noncomputable def rowHead (k : Sw) (r : Row) : PyData := if r.dflt then .none else swHead k
theorem heads_any (k : Sw) (rs : List Row) : ((rs.map (rowHead k)).any fun y => PyData.eqv y .none) = rs.any Row.dflt := by
  induction rs with
  | nil => rfl
  | cons r rs ih =>
    rw [List.map_cons, List.any_cons, List.any_cons, ih]
    congr 1
    unfold rowHead
    cases r.dflt
    · cases k <;> rfl
    · rfl
theorem heads_sh (k : Sw) (rs : List Row) : SeqAt.shaped (.list (rs.map (rowHead k))) = true := shaped_list fun x hx => by
  obtain ⟨r, hr, rfl⟩ := List.mem_map.mp hx
  unfold rowHead
  cases r.dflt
  · cases k <;> exact ⟨by decide +kernel, by decide⟩
  · exact ⟨rfl, Nat.zero_le _⟩
theorem eqv_fall (s : St) : PyData.eqv (enc s) (.tuple [.str "fallthrough", .int 0]) = isFallS s := by
  cases s with
  | call p => cases p <;> rfl
  | sw k l cs => cases k <;> rfl
  | _ => rfl
theorem fall_slice (b : Sts) : PyData.eqv (.tuple ((encs b).drop ((encs b).length - 1))) (.tuple [.tuple [.str "fallthrough", .int 0]]) = isFall b := by
  rw [fall_last]
  cases e : lastOf b with
  | none =>
    have he : encs b = [] := by
      rw [encs_toList]
      unfold lastOf at e
      rw [List.getLast?_eq_none_iff.mp e]; rfl
    rw [he]; rfl
  | some s =>
    obtain ⟨pre, hs⟩ := last_split e
    have he : encs b = pre.map enc ++ [enc s] := by rw [encs_toList, hs, List.map_append]; rfl
    rw [he]
    have : (pre.map enc ++ [enc s]).drop ((pre.map enc ++ [enc s]).length - 1) = [enc s] := by simp
    rw [this]
    show (PyData.eqv (enc s) (.tuple [.str "fallthrough", .int 0]) && true) = _
    rw [eqv_fall, Bool.and_true]
    cases s <;> rfl
theorem slice_sh {b : Sts} (h : hgt b ≤ 12) (n : Nat) : SeqAt.shaped (.tuple ((encs b).drop n)) = true := shaped_tuple fun x hx => by
  have hx := List.mem_of_mem_drop hx
  rw [encs_toList] at hx
  obtain ⟨s, hs, rfl⟩ := List.mem_map.mp hx
  have h1 := dep_enc s
  have h2 := hgt_mem hs
  exact ⟨lay_enc s, by lia⟩
theorem law_ends_ok (g : Gd) : ∀ (n : Nat) (ss : Sts), hgt ss ≤ n → n ≤ 10 → size ss ≤ 2000 → Pure g (n + 5) 234 [.tuple (encs ss)] (.bool (lends ss))
  | n, ss, hn, hn2, hz => fun μ => by
    refine' Sat.fn ["rows"] ?h0 ?h1 ?h2 ?h3 ?h4 ?_
    walk_at "fn"
    intro A E L
    have hz' := size_len ss
    have shs : SeqAt.shaped (.tuple (encs ss)) = true := shaped_encs (by lia)
    refine Ex.drop ?_
    cases e : lastOf ss with
    | none =>
      have he : encs ss = [] := by
        rw [encs_toList]
        unfold lastOf at e
        rw [List.getLast?_eq_none_iff.mp e]; rfl
      rw [lends_last, e, he]
      walk_at "w"
    | some s =>
      obtain ⟨pre, hs⟩ := last_split e
      have he : encs ss = pre.map enc ++ [enc s] := by rw [encs_toList, hs, List.map_append]; rfl
      have hmem : s ∈ ss.toList := by rw [hs]; simp
      have hsn := hgt_mem hmem
      have hsz := size_mem hmem
      rw [lends_last, e]
      try dsimp only
      have hne : PyData.eqv (.tuple (encs ss)) (.tuple []) = false := by
        rw [he]; cases pre <;> rfl
      walk_at "w"
      rw [hne]
      walk_at "w"
      refine Op2.itemT (fun _ _ _ => rfl) (by decide) (by decide) (d := enc s) (by rw [he]; exact itemAt_last) ?_
      have shS : SeqAt.shaped (enc s) = true := shaped_enc (by lia)
      have shP := shaped_panic
      have eqP := eqv_panic s
      have callP : ∀ {c : Cx} {ρ' : Rho} {ν : Mu} {P : Mu → AV → Prop}, c.g = g → 1 ≤ c.room → P ν (.d (encCall true)) → CallV c ρ' ν (.ref 177) [.d (.str "panic")] P := fun e1 e2 p => (law_call_ok g true).use e1 e2 p
      have r1 : 1 ≤ n + 4 := by lia
      cases s with
      | ret => dsimp only [enc, lendsS]; walk_at "w"
      | call p =>
        cases p <;> dsimp only [enc, lendsS] at shS ⊢ <;> unfold encCall <;> (walk_at "w") <;> refine callP rfl r1 ?_ <;> (walk_at "w")
      | fall | brk l | cont l | range l b => dsimp only [enc, lendsS] at shS ⊢ <;> (walk_at "w") <;> refine callP rfl r1 ?_ <;> (walk_at "w")
      | block b =>
        have hp := law_parts_ok g (.block b) (by simp [parts])
        simp only [hgtS, sizeS] at hsn hsz
        obtain ⟨m, rfl⟩ : ∃ m, n = m + 1 := ⟨n - 1, by lia⟩
        have ih := law_ends_ok g m b (by lia) (by lia) (by lia)
        dsimp only [enc, lendsS, parts, List.map_cons, List.map_nil] at shS hp ⊢
        walk_at "w"
        refine callP rfl r1 ?_
        walk_at "w"
        refine Pure.use hp rfl r1 ?_
        walk_at "w"
        have hps : ∀ y ∈ [b], hgt y ≤ 12 := fun y hy => by rw [List.mem_singleton.mp hy]; lia
        have ihs : ∀ y ∈ [b], Pure g (m + 5) 234 [.tuple (encs y)] (.bool (lends y)) := fun y hy => by rw [List.mem_singleton.mp hy]; exact ih
        have nsh := notEnds_sh hps
        refine Ev.compP (cl := []) encB [b] (fun b => if lends b then [] else [encB b]) ?oka ?hna ?ita ?sta ?pa
        case oka => walk_at "cok"
        case hna => exact Nat.le_of_ble_eq_true rfl
        case ita =>
          refine It.lst ?_
          walk_at "w"
        case sta =>
          intro C y hy
          have hy' : y ∈ [b] := hy
          have ihy := ihs y hy'
          have hyn := hps y hy'
          unfold encB
          walk_at "w"
          refine Pure.use ihy rfl (Nat.le_refl _) ?_
          cases hl : lends y <;> (walk_at "w") <;> (try rfl)
        case pa =>
          walk_at "w"
          rw [eqv_nil, notEnds]
          exact ⟨_, List.sublist_cons_self _ _, rfl, by simp⟩
      | if1 b =>
        have hp := law_parts_ok g (.if1 b) (by simp [parts])
        dsimp only [enc, lendsS, parts, List.map_cons, List.map_nil] at shS hp ⊢
        walk_at "w"
        refine callP rfl r1 ?_
        walk_at "w"
        refine Pure.use hp rfl r1 ?_
        walk_at "w"
      | if2 b o =>
        have hp := law_parts_ok g (.if2 b o) (by simp [parts])
        simp only [hgtS, sizeS] at hsn hsz
        obtain ⟨m, rfl⟩ : ∃ m, n = m + 1 := ⟨n - 1, by lia⟩
        have h1 := size_pos b
        have h2 := size_pos o
        have hps : ∀ y ∈ [b, o], hgt y ≤ 12 := fun y hy => by simp at hy; rcases hy with rfl | rfl <;> lia
        have ihs : ∀ y ∈ [b, o], Pure g (m + 5) 234 [.tuple (encs y)] (.bool (lends y)) := fun y hy => by
          simp at hy
          rcases hy with rfl | rfl
          · exact law_ends_ok g m _ (by lia) (by lia) (by lia)
          · exact law_ends_ok g m _ (by lia) (by lia) (by lia)
        have nsh := notEnds_sh hps
        dsimp only [enc, lendsS, parts, List.map_cons, List.map_nil] at shS hp ⊢
        walk_at "w"
        refine callP rfl r1 ?_
        walk_at "w"
        refine Pure.use hp rfl r1 ?_
        walk_at "w"
        refine Ev.compP (cl := []) encB [b, o] (fun b => if lends b then [] else [encB b]) ?okb ?hnb ?itb ?stb ?pb
        case okb => walk_at "cok"
        case hnb => exact Nat.le_of_ble_eq_true rfl
        case itb =>
          refine It.lst ?_
          walk_at "w"
        case stb =>
          intro C y hy
          have hy' : y ∈ [b, o] := hy
          have ihy := ihs y hy'
          have hyn := hps y hy'
          unfold encB
          walk_at "w"
          refine Pure.use ihy rfl (Nat.le_refl _) ?_
          cases hl : lends y <;> (walk_at "w") <;> (try rfl)
        case pb =>
          walk_at "w"
          rw [eqv_nil, notEnds]
          exact ⟨_, List.sublist_cons_self _ _, rfl, by simp⟩
      | forr l c b =>
        have h0 := hsn
        have h00 := hsz
        simp only [hgtS, sizeS] at hsn hsz
        obtain ⟨m, rfl⟩ : ∃ m, n = m + 1 := ⟨n - 1, by lia⟩
        have ih := law_is_left_ok g m (.forr l c b) rfl (by lia) (by lia) (by lia)
        cases c <;> simp only [enc, lendsS, Bool.false_eq_true, ↓reduceIte] at shS ih ⊢
        · walk_at "w"
          refine callP rfl r1 ?_
          walk_at "w"
          refine Pure.use ih rfl (by show m + 4 ≤ m + 1 + 4; lia) ?_
          walk_at "w"
        · unfold yes at shS ⊢
          walk_at "w"
          refine callP rfl r1 ?_
          walk_at "w"
      | sw k l cs =>
        have h0 := hsn
        have h00 := hsz
        simp only [hgtS, sizeS] at hsn hsz
        obtain ⟨m, rfl⟩ : ∃ m, n = m + 1 := ⟨n - 1, by lia⟩
        have ihl := law_is_left_ok g m (.sw k l cs) rfl (by lia) (by lia) (by lia)
        have hrl := size_rows cs
        have hhr : ∀ r ∈ cs.rows, hgt r.body ≤ 12 := fun r hr => by have := hgt_row hr; lia
        have hrb : ∀ r ∈ cs.rows, (encs r.body).length ≤ 1000000 := fun r hr => by have h1 := size_len r.body; have h2 := size_row hr; rw [encs_toList, List.length_map]; lia
        have ihs : ∀ r ∈ cs.rows, Pure g (m + 5) 234 [.tuple (encs r.body)] (.bool (lends r.body)) := fun r hr => by
          have h1 := hgt_row hr
          have h2 := size_row hr
          exact law_ends_ok g m _ (by lia) (by lia) (by lia)
        cases k <;> dsimp only [enc, lendsS] at shS ihl ⊢
        · walk_at "w"
          refine callP rfl r1 ?_
          walk_at "w"
          refine Ev.compP (cl := []) (encRow .switch) cs.rows (fun r => [rowHead .switch r]) ?okc0 ?hnc0 ?itc0 ?stc0 ?pc0
          case okc0 => walk_at "cok"
          case hnc0 => lia
          case itc0 =>
            refine It.tup ?_
            walk_at "w"
            rw [encCs_rows, List.map_map]; exact ⟨rfl, rfl⟩
          case stc0 =>
            intro C r hr
            unfold encRow rowHead
            walk_at "w"
          case pc0 =>
            rw [flatMap_one]
            have hsh := heads_sh .switch cs.rows
            walk_at "w"
            rw [heads_any]
            refine iteB ?_ ?_ <;> intro hd
            · have : cs.rows.any Row.dflt = false := by simpa using hd
              walk_at "w"
              exact ⟨_, List.Sublist.refl _, rfl, by simp only [Sw.isChoose, this]; rfl⟩
            · have hd : cs.rows.any Row.dflt = true := by simpa using hd
              walk_at "w"
              refine Pure.use ihl rfl (by show m + 4 ≤ m + 1 + 4; lia) ?_
              refine Truthy.bool (iteB ?_ ?_) <;> intro hlb
              · walk_at "w"
                exact ⟨_, List.Sublist.refl _, rfl, by simp only [hlb, Bool.not_true, Bool.and_false, Bool.false_and]⟩
              · walk_at "w"
                simp only [hlb, hd, Bool.not_false, Bool.and_true, Bool.or_true, Bool.true_and]
                refine Ev.compP (cl := []) (encRow .switch) cs.rows (fun r => if lends r.body || isFall r.body then [] else [encRow .switch r]) ?okd0 ?hnd0 ?itd0 ?std0 ?pd0
                case okd0 => walk_at "cok"
                case hnd0 => lia
                case itd0 =>
                  refine It.tup ?_
                  walk_at "w"
                  rw [encCs_rows, List.map_map]; exact ⟨rfl, rfl⟩
                case std0 =>
                  intro C r hr
                  have ihr := ihs r hr
                  have hrb' := hrb r hr
                  have ssh := slice_sh (hhr r hr) ((encs r.body).length - 1)
                  unfold encRow
                  walk_at "w"
                  refine Pure.use ihr rfl (Nat.le_refl _) ?_
                  refine Truthy.bool ?_
                  cases hl : lends r.body
                  · walk_at "w"
                    rw [fall_slice]
                    cases hf : isFall r.body <;> (walk_at "w") <;> (try rfl) <;> (try exact ⟨rfl, rfl⟩)
                  · walk_at "w"
                case pd0 =>
                  have rsh := rowsBad_sh (k := .switch) hhr
                  walk_at "w"
                  rw [eqv_nil, rowsBad, lendsC_all]
                  exact ⟨_, List.Sublist.refl _, rfl, rfl⟩
        · walk_at "w"
          refine callP rfl r1 ?_
          walk_at "w"
          refine Ev.compP (cl := []) (encRow .typeswitch) cs.rows (fun r => [rowHead .typeswitch r]) ?okc1 ?hnc1 ?itc1 ?stc1 ?pc1
          case okc1 => walk_at "cok"
          case hnc1 => lia
          case itc1 =>
            refine It.tup ?_
            walk_at "w"
            rw [encCs_rows, List.map_map]; exact ⟨rfl, rfl⟩
          case stc1 =>
            intro C r hr
            unfold encRow rowHead
            walk_at "w"
          case pc1 =>
            rw [flatMap_one]
            have hsh := heads_sh .typeswitch cs.rows
            walk_at "w"
            rw [heads_any]
            refine iteB ?_ ?_ <;> intro hd
            · have : cs.rows.any Row.dflt = false := by simpa using hd
              walk_at "w"
              exact ⟨_, List.Sublist.refl _, rfl, by simp only [Sw.isChoose, this]; rfl⟩
            · have hd : cs.rows.any Row.dflt = true := by simpa using hd
              walk_at "w"
              refine Pure.use ihl rfl (by show m + 4 ≤ m + 1 + 4; lia) ?_
              refine Truthy.bool (iteB ?_ ?_) <;> intro hlb
              · walk_at "w"
                exact ⟨_, List.Sublist.refl _, rfl, by simp only [hlb, Bool.not_true, Bool.and_false, Bool.false_and]⟩
              · walk_at "w"
                simp only [hlb, hd, Bool.not_false, Bool.and_true, Bool.or_true, Bool.true_and]
                refine Ev.compP (cl := []) (encRow .typeswitch) cs.rows (fun r => if lends r.body || isFall r.body then [] else [encRow .typeswitch r]) ?okd1 ?hnd1 ?itd1 ?std1 ?pd1
                case okd1 => walk_at "cok"
                case hnd1 => lia
                case itd1 =>
                  refine It.tup ?_
                  walk_at "w"
                  rw [encCs_rows, List.map_map]; exact ⟨rfl, rfl⟩
                case std1 =>
                  intro C r hr
                  have ihr := ihs r hr
                  have hrb' := hrb r hr
                  have ssh := slice_sh (hhr r hr) ((encs r.body).length - 1)
                  unfold encRow
                  walk_at "w"
                  refine Pure.use ihr rfl (Nat.le_refl _) ?_
                  refine Truthy.bool ?_
                  cases hl : lends r.body
                  · walk_at "w"
                    rw [fall_slice]
                    cases hf : isFall r.body <;> (walk_at "w") <;> (try rfl) <;> (try exact ⟨rfl, rfl⟩)
                  · walk_at "w"
                case pd1 =>
                  have rsh := rowsBad_sh (k := .typeswitch) hhr
                  walk_at "w"
                  rw [eqv_nil, rowsBad, lendsC_all]
                  exact ⟨_, List.Sublist.refl _, rfl, rfl⟩
        · walk_at "w"
          refine callP rfl r1 ?_
          walk_at "w"
          refine Pure.use ihl rfl (by show m + 4 ≤ m + 1 + 4; lia) ?_
          refine Truthy.bool (iteB ?_ ?_) <;> intro hlb
          · walk_at "w"
            exact ⟨_, List.Sublist.refl _, rfl, by simp only [hlb, Bool.not_true, Bool.and_false, Bool.false_and]⟩
          · walk_at "w"
            simp only [hlb, Sw.isChoose, Bool.not_false, Bool.and_true, Bool.true_or, Bool.true_and]
            refine Ev.compP (cl := []) (encRow .choose) cs.rows (fun r => if lends r.body || isFall r.body then [] else [encRow .choose r]) ?okd2 ?hnd2 ?itd2 ?std2 ?pd2
            case okd2 => walk_at "cok"
            case hnd2 => lia
            case itd2 =>
              refine It.tup ?_
              walk_at "w"
              rw [encCs_rows, List.map_map]; exact ⟨rfl, rfl⟩
            case std2 =>
              intro C r hr
              have ihr := ihs r hr
              have hrb' := hrb r hr
              have ssh := slice_sh (hhr r hr) ((encs r.body).length - 1)
              unfold encRow
              walk_at "w"
              refine Pure.use ihr rfl (Nat.le_refl _) ?_
              refine Truthy.bool ?_
              cases hl : lends r.body
              · walk_at "w"
                rw [fall_slice]
                cases hf : isFall r.body <;> (walk_at "w") <;> (try rfl) <;> (try exact ⟨rfl, rfl⟩)
              · walk_at "w"
            case pd2 =>
              have rsh := rowsBad_sh (k := .choose) hhr
              walk_at "w"
              rw [eqv_nil, rowsBad, lendsC_all]
              exact ⟨_, List.Sublist.refl _, rfl, rfl⟩
theorem law_take_ok (g : Gd) (top : Int) (h1 : 0 < top) (h2 : top ≤ 100) : Gen g 1 163 [.d (.int top)] fun a => ∃ k, a = .d (.int k) ∧ 0 ≤ k ∧ k < top := fun S μ hS => by
  refine' Sat.fn ["source", "top"] ?h0 ?h1 ?h2 ?h3 ?h4 ?_
  walk_at "fn"
  intro A E L
  obtain ⟨a, b, hm, hb0, hb1⟩ := hS
  have ht : top ≠ 0 := by lia
  walk_at "w"
  have f0 : ∀ x : Int, 0 ≤ x.fmod top ∧ x.fmod top < top := fun x => ⟨Int.fmod_nonneg_of_pos x h1, Int.fmod_lt_of_pos x h1⟩
  have f1 : ∀ x : Int, 0 ≤ x.fmod 2147483647 ∧ x.fmod 2147483647 < 2147483647 := fun x => ⟨Int.fmod_nonneg_of_pos x (by decide), Int.fmod_lt_of_pos x (by decide)⟩
  have bits : ∀ x : Int, 0 ≤ x → x < 2147483647 → IntMulOk x x := fun x h0 h1 => IntMulOk.of_left (by
    unfold Builtin.Int.intBits
    split
    · lia
    · rename_i hx
      have hx : x ≠ 0 := fun q => hx (by rw [q]; rfl)
      have : x.natAbs.log2 < 31 := (Nat.log2_lt (by lia)).mpr (by lia)
      lia)
  refine iteB ?_ ?_ <;> intro hc
  · walk_at "w"
    refine SetI.list hm (by decide) (by decide) (by simp) ?_
    walk_at "w"
    exact ⟨⟨_, _, rfl, hb0, hb1⟩, _, rfl, (f0 a).1, (f0 a).2⟩
  · walk_at "w"
    refine SetI.list hm (by decide) (by decide) (by simp) ?_
    have hm2 := muSet_mem (m := .list ([PyData.int a, .int b].set (Int.toNat 1) (.int ((b * 39373 + 7).fmod 2147483647)))) hm
    have bb := bits _ (f1 (b * 39373 + 7)).1 (f1 (b * 39373 + 7)).2
    walk_at "w"
    exact ⟨⟨_, _, rfl, (f1 _).1, (f1 _).2⟩, _, rfl, (f0 _).1, (f0 _).2⟩

theorem law_one_ok (g : Gd) (ds : List PyData) (h1 : ds ≠ []) (h2 : ds.length ≤ 100) : Gen g 2 170 [.d (.list ds)] fun a => ∃ d, d ∈ ds ∧ a = .d d := fun S μ hS => by
  refine' Sat.fn ["source", "things"] ?h0 ?h1 ?h2 ?h3 ?h4 ?_
  walk_at "fn"
  intro A E L
  have hl : 0 < ds.length := List.length_pos_iff.mpr h1
  have hn : ds.length ≤ 1000000 := by lia
  walk_at "w"
  refine Gen.use (law_take_ok g ds.length (by lia) (by lia)) hS rfl (Nat.le_refl _) ?_
  rintro ν a hM ⟨k, rfl, h3, h4⟩
  have hk : k.toNat < ds.length := by lia
  refine Op2.itemL (fun _ _ _ => rfl) h3 (by lia) (List.getElem?_eq_getElem hk) ?_
  exact ⟨hM, _, List.getElem_mem hk, rfl⟩

noncomputable def encSs (P : Sts → Prop) (a : AV) : Prop := ∃ ss, a = .d (.tuple (encs ss)) ∧ P ss
noncomputable def encS1 (P : St → Prop) (a : AV) : Prop := ∃ s, a = .d (enc s) ∧ P s
/-- heights and sizes of what is drawn -/
noncomputable def zS : Nat → Nat
  | 0 => 1
  | d + 1 => 3 * (2 * zS d + 1) + 5
noncomputable def stOk (d : Nat) (s : St) : Prop := hgtS s ≤ 2 * d ∧ sizeS s ≤ zS d
noncomputable def bodyOk (d : Nat) (ss : Sts) : Prop := hgt ss ≤ 2 * d ∧ size ss ≤ 2 * zS d + 1
theorem law_block_of {g : Gd} {r : Nat} {d : Nat} {ls : List (Fin 4)} (h : Gen g r 182 [.d (.int (d : Nat)), .d (.list (encLs ls))] (encSs (bodyOk d))) : Gen g (r + 1) 189 [.d (.int (d : Nat)), .d (.list (encLs ls))] fun a => ∃ ss, a = .d (.tuple [.str "block", .int 0, .tuple (encs ss)]) ∧ bodyOk d ss := fun S μ hS => by
  refine' Sat.fn ["source", "deep", "labels"] ?h0 ?h1 ?h2 ?h3 ?h4 ?_
  walk_at "fn"
  intro A E L
  walk_at "w"
  refine h.use hS rfl (Nat.le_refl _) ?_
  rintro ν a hM ⟨ss, rfl, hb⟩
  walk_at "w"
  exact ⟨hM, _, rfl, hb⟩
theorem law_body_of {g : Gd} {r : Nat} {d : Nat} {ls : List (Fin 4)} (hr : 1 ≤ r) (h : Gen g r 210 [.d (.int (d : Nat)), .d (.list (encLs ls))] (encS1 (stOk d))) : Gen g (r + 2) 182 [.d (.int (d : Nat)), .d (.list (encLs ls))] (encSs (bodyOk d)) := fun S μ hS => by
  refine' Sat.fn ["source", "deep", "labels"] ?h0 ?h1 ?h2 ?h3 ?h4 ?_
  walk_at "fn"
  intro A E L
  walk_at "w"
  refine' Ev.comp (cl := [("source", L + 1), ("labels", L + 1 + 1 + 1), ("deep", L + 1 + 1)]) ?ok (fun i μ₁ acc => Moved μ S μ₁ ∧ ∃ l : List St, acc = l.map enc ∧ l.length = i ∧ ∀ s ∈ l, stOk d s) ?it
  case ok => exact ⟨rfl, rfl, by decide, by decide, by intro p hp; simp only [List.mem_cons, List.not_mem_nil, or_false] at hp; rcases hp with rfl | rfl | rfl <;> exact ⟨rfl, rfl, .inl rfl, .inl rfl⟩⟩
  refine It.range rfl rfl rfl rfl ?_
  walk_at "w"
  refine Gen.use (law_one_ok g [.int 1, .int 1, .int 2, .int 0] (by simp) (by decide)) hS rfl (by show 2 ≤ r + 1; lia) ?_
  rintro ν a hM ⟨x, hx, rfl⟩
  have hk : ∃ k : Int, x = .int k ∧ 0 ≤ k ∧ k ≤ 2 := by
    simp only [List.mem_cons, List.not_mem_nil, or_false] at hx
    rcases hx with rfl | rfl | rfl | rfl <;> exact ⟨_, rfl, by decide, by decide⟩
  obtain ⟨k, rfl, hk0, hk2⟩ := hk
  have hin : (intsTo k.toNat).length = k.toNat := by simp [intsTo]
  refine ⟨k, rfl, hk0, by lia, by rw [hin]; lia, ⟨hM, [], rfl, rfl, fun _ h => by cases h⟩, ?_, ?_⟩
  · rintro C i a μ₁ acc hi ⟨hM1, l, rfl, hl, hl2⟩
    walk_at "w"
    refine h.use (hM1.ok hS) rfl (by show r ≤ r + 1; lia) ?_
    rintro ν2 b hM2 ⟨s, rfl, hs⟩
    exact ⟨_, rfl, hM1.trans hM2, l ++ [s], by simp, by simp [hl], fun x hx => by
      rcases List.mem_append.mp hx with hx | hx
      · exact hl2 x hx
      · rw [List.mem_singleton.mp hx]; exact hs⟩
  · rintro μ₁ acc ⟨hM1, l, rfl, hl, hl2⟩
    rw [hin] at hl
    have hlen : (l.map enc).length ≤ 1000000 := by rw [List.length_map]; lia
    walk_at "w"
    refine ⟨hM1, ofList l, by rw [encs_ofList], hgt_ofList fun s hs => (hl2 s hs).1, ?_⟩
    have := size_ofList (n := zS d) (l := l) fun s hs => (hl2 s hs).2
    have h3 : l.length * zS d ≤ 2 * zS d := Nat.mul_le_mul_right _ (by lia)
    lia
theorem CallV.tupM {c : Cx} {μ : Mu} {ρ : Rho} {P : Mu → AV → Prop} {A : Addr} {ds : List PyData} (hm : (A, .list ds) ∈ μ) (hn : ds.length ≤ 1000000) (h : P μ (.d (.tuple ds))) : CallV c ρ μ (.type "tuple") [.v (.ref A)] P := fun Φ s vs I r => by
  obtain ⟨v, ws, rfl, r1, rfl⟩ := r
  obtain rfl := ra_v' r1
  obtain ⟨⟨o, eo, us, n, rfl, rs⟩, h0, hΦ⟩ := I.mu.2 _ hm
  refine call_tuple_list (items := us.toArray) ⟨_, eo, rfl, n, rfl⟩ (fun h' hk => ?_) (by rw [List.size_toArray, rs.length, sizeLine_eq]; lia)
  obtain ⟨m', I'⟩ := I.keeps (tk := s.toks) hk
  obtain ⟨le, I''⟩ := I'.newSeq true us 0
  exact ⟨_, μ, _, m'.trans le, I'', ra_tup (Frz.put_self _ _ _) (rs.mono le.le), h⟩
noncomputable def rowOk (d : Nat) (r : Row) : Prop := hgt r.body ≤ 2 * d ∧ size r.body ≤ 2 * zS d + 2
theorem fall_body {d : Nat} {ss : Sts} (h : bodyOk d ss) (b : Bool) : ∃ ss', encs ss ++ (if (if b then (1 : Int) else 0) = 1 then [enc .fall] else []) = encs ss' ∧ hgt ss' ≤ 2 * d ∧ size ss' ≤ 2 * zS d + 2 := by
  cases b with
  | false => exact ⟨ss, by simp, h.1, by have := h.2; lia⟩
  | true =>
    refine ⟨ofList (ss.toList ++ [.fall]), ?_, ?_, ?_⟩
    · rw [encs_ofList, List.map_append, ← encs_toList]; rfl
    · refine hgt_ofList fun s hs => ?_
      rcases List.mem_append.mp hs with hs | hs
      · exact Nat.le_trans (hgt_mem hs) h.1
      · rw [List.mem_singleton.mp hs]; simp only [hgtS]; lia
    · have key : ∀ l : List St, size (ofList (l ++ [.fall])) = size (ofList l) + 1 := by
        intro l
        induction l with
        | nil => simp only [List.nil_append, ofList, size, sizeS]
        | cons s r ih => simp only [List.cons_append, ofList, size, ih]; lia
      have back : ∀ ss : Sts, ofList ss.toList = ss := by
        intro ss
        induction ss using Sts.rec (motive_1 := fun _ => True) (motive_3 := fun _ => True) with
        | nil => rfl
        | cons s r _ ih => simp only [Sts.toList, ofList, ih]
        | _ => trivial
      rw [key, back]
      have := h.2; lia
theorem law_cases_of {g : Gd} {r d : Nat} {ls : List (Fin 4)} {k : Sw} {fall : Bool} (hr : 2 ≤ r) (hd : 2 * zS d + 1 ≤ 1000) (h : Gen g r 182 [.d (.int (d : Nat)), .d (.list (encLs ls))] (encSs (bodyOk d))) :
    Gen g (r + 1) 196 [.d (.int (d : Nat)), .d (.list (encLs ls)), .d (swHead k), .d (.bool fall)] fun a => ∃ cs : Cs, a = .d (.tuple (encCs k cs)) ∧ cs.rows.length ≤ 3 ∧ ∀ x ∈ cs.rows, rowOk d x := fun S μ hS => by
  refine' Sat.fn ["source", "deep", "labels", "heads", "can_fall"] ?h0 ?h1 ?h2 ?h3 ?h4 ?_
  walk_at "fn"
  intro A E L
  refine Ex.drop ?_
  refine Ex.cons (X1.put ⟨rfl, rfl, .inl rfl⟩ rfl (Ev.listM (Evs.nil ⟨[], rfl, Nat.zero_le _, fun F hF => ?_⟩)))
  try dsimp only
  refine Ex.cons (X1.forIn (fun i μ₁ ρ₁ => ∃ (ν : Mu) (rows : List Row), μ₁ = (F, .list (rows.map (encRow k))) :: ν ∧ Moved μ S ν ∧ rows.length = i ∧ (∀ x ∈ rows, rowOk d x) ∧
    LookAll [("found", .v (.ref F)), ("source", .v (.ref S)), ("deep", .d (.int (d : Nat))), ("labels", .d (.list (encLs ls))), ("heads", .d (swHead k)), ("can_fall", .d (.bool fall))] ρ₁) ?it)
  case it =>
    refine It.range rfl rfl rfl rfl ?_
    walk_at "w"
    refine Gen.use (law_take_ok g 3 (by decide) (by decide)) hS.cons rfl (by show 1 ≤ r; lia) ?_
    rintro ν a hM ⟨n, rfl, hn0, hn3⟩
    obtain ⟨ν1, rfl, hM1⟩ := hM.cons hF hS
    have hin : (intsTo n.toNat).length = n.toNat := by simp [intsTo]
    refine ⟨n, rfl, hn0, by lia, ⟨ν1, [], rfl, hM1, rfl, (fun _ h => by cases h), rfl, rfl, rfl, rfl, rfl, rfl, trivial⟩, ?_, ?_⟩
    · rintro i a μ₁ ρ₁ hi ⟨ν2, rows, rfl, hM2, hl, hrows, hlk⟩
      have hi2 : i < n.toNat := by
        have := List.getElem?_eq_some_iff.mp hi
        obtain ⟨h, _⟩ := this
        rw [hin] at h; exact h
      refine As.weak hlk ?_
      walk_at "w"
      refine h.use (hM2.ok hS).cons rfl (Nat.le_refl _) ?_
      rintro ν3 a3 hM3 ⟨ss, rfl, hss⟩
      obtain ⟨ν4, rfl, hM4⟩ := hM3.cons (by rw [hM2.keys]; exact hF) (hM2.ok hS)
      have hM5 := hM2.trans hM4
      have hsl := size_len ss
      have hss2 := hss.2
      have hz : 2 * zS d + 1 ≤ 1000 := hd
      have hsn1 : (encs ss).length + 1 ≤ 1000000 := by rw [encs_toList, List.length_map]; lia
      have hsn0 : (encs ss).length + 0 ≤ 1000000 := by lia
      cases fall with
      | false =>
        walk_at "w"
        refine CallV.append (.head _) (by rw [List.length_map]; lia) ?_
        rw [muSet_head (by first | (rw [hM7.keys]; exact hF) | (rw [hM5.keys]; exact hF))]
        walk_at "w"
        obtain ⟨ss', e, e1, e2⟩ := fall_body hss false
        refine ⟨_, rows ++ [⟨false, ss'⟩], ?_, hM5, by simp [hl], fun x hx => ?_, rfl, rfl, rfl, rfl, rfl, rfl, trivial⟩
        · rw [List.map_append]
          have : [PyData.tuple [swHead k, .tuple (encs ss')]] = [Row.mk false ss'].map (encRow k) := rfl
          rw [← this, ← e]; rfl
        · rcases List.mem_append.mp hx with hx | hx
          · exact hrows x hx
          · rw [List.mem_singleton.mp hx]; exact ⟨e1, e2⟩
      | true =>
        walk_at "w"
        refine Gen.use (law_take_ok g 4 (by decide) (by decide)) (hM5.ok hS).cons rfl (by show 1 ≤ r; lia) ?_
        rintro ν6 a6 hM6 ⟨n6, rfl, hn60, hn63⟩
        obtain ⟨ν7, rfl, hM7'⟩ := hM6.cons (by rw [hM5.keys]; exact hF) (hM5.ok hS)
        have hM7 := hM5.trans hM7'
        walk_at "w"
        generalize PyData.eqv (.int n6) (.int 0) = bb
        cases bb
        · walk_at "w"
          refine CallV.append (.head _) (by rw [List.length_map]; lia) ?_
          rw [muSet_head (by first | (rw [hM7.keys]; exact hF) | (rw [hM5.keys]; exact hF))]
          walk_at "w"
          obtain ⟨ss', e, e1, e2⟩ := fall_body hss false
          refine ⟨_, rows ++ [⟨false, ss'⟩], ?_, hM7, by simp [hl], fun x hx => ?_, rfl, rfl, rfl, rfl, rfl, rfl, trivial⟩
          · rw [List.map_append]
            have : [PyData.tuple [swHead k, .tuple (encs ss')]] = [Row.mk false ss'].map (encRow k) := rfl
            rw [← this, ← e]; rfl
          · rcases List.mem_append.mp hx with hx | hx
            · exact hrows x hx
            · rw [List.mem_singleton.mp hx]; exact ⟨e1, e2⟩
        · walk_at "w"
          refine CallV.append (.head _) (by rw [List.length_map]; lia) ?_
          rw [muSet_head (by first | (rw [hM7.keys]; exact hF) | (rw [hM5.keys]; exact hF))]
          walk_at "w"
          obtain ⟨ss', e, e1, e2⟩ := fall_body hss true
          refine ⟨_, rows ++ [⟨false, ss'⟩], ?_, hM7, by simp [hl], fun x hx => ?_, rfl, rfl, rfl, rfl, rfl, rfl, trivial⟩
          · rw [List.map_append]
            have : [PyData.tuple [swHead k, .tuple (encs ss')]] = [Row.mk false ss'].map (encRow k) := rfl
            rw [← this, ← e]; rfl
          · rcases List.mem_append.mp hx with hx | hx
            · exact hrows x hx
            · rw [List.mem_singleton.mp hx]; exact ⟨e1, e2⟩
    · rintro μ₁ ρ₁ ⟨ν2, rows, rfl, hM2, hl, hrows, hlk⟩
      rw [hin] at hl
      refine Ex.weak hlk ?_
      have hll : rows.length ≤ 2 := by lia
      walk_at "w"
      refine Gen.use (law_take_ok g 3 (by decide) (by decide)) (hM2.ok hS).cons rfl (by show 1 ≤ r; lia) ?_
      rintro ν3 a3 hM3 ⟨n3, rfl, hn30, hn33⟩
      obtain ⟨ν4, rfl, hM4'⟩ := hM3.cons (by rw [hM2.keys]; exact hF) (hM2.ok hS)
      have hM4 := hM2.trans hM4'
      walk_at "w"
      refine iteB ?_ ?_ <;> intro hc
      · walk_at "w"
        refine CallV.lenM (.head _) (by rw [List.length_map]; lia) ?_
        walk_at "w"
        refine Gen.use (law_take_ok g _ (by rw [List.length_map]; lia) (by rw [List.length_map]; lia)) (hM4.ok hS).cons rfl (by show 1 ≤ r; lia) ?_
        rintro ν5 a5 hM5 ⟨n5, rfl, hn50, hn53⟩
        obtain ⟨ν6, rfl, hM6'⟩ := hM5.cons (by rw [hM4.keys]; exact hF) (hM4.ok hS)
        have hM6 := hM4.trans hM6'
        walk_at "w"
        refine h.use (hM6.ok hS).cons rfl (Nat.le_refl _) ?_
        rintro ν7 a7 hM7 ⟨ss, rfl, hss⟩
        obtain ⟨ν8, rfl, hM8'⟩ := hM7.cons (by rw [hM6.keys]; exact hF) (hM6.ok hS)
        have hM8 := hM6.trans hM8'
        rw [List.length_map] at hn53
        walk_at "w"
        refine CallV.insert (.head _) (by rw [List.length_map]; lia) hn50 (by rw [List.length_map]; lia) ?_
        rw [muSet_head (by rw [hM8.keys]; exact hF)]
        have e : (rows.map (encRow k)).take n5.toNat ++ [.tuple [.none, .tuple (encs ss)]] ++ (rows.map (encRow k)).drop n5.toNat = (rows.take n5.toNat ++ [Row.mk true ss] ++ rows.drop n5.toNat).map (encRow k) := by
          rw [List.map_append, List.map_append, List.map_take, List.map_drop]; rfl
        rw [e]
        have hl2 : (rows.take n5.toNat ++ [Row.mk true ss] ++ rows.drop n5.toNat : List Row).length ≤ 3 := by simp; lia
        have hok2 : ∀ x ∈ (rows.take n5.toNat ++ [Row.mk true ss] ++ rows.drop n5.toNat : List Row), rowOk d x := fun x hx => by
          rcases List.mem_append.mp hx with hx | hx
          · rcases List.mem_append.mp hx with hx | hx
            · exact hrows x (List.mem_of_mem_take hx)
            · rw [List.mem_singleton.mp hx]; exact ⟨hss.1, by have := hss.2; show size ss ≤ _; lia⟩
          · exact hrows x (List.mem_of_mem_drop hx)
        walk_at "w"
        refine CallV.tupM (.head _) (by rw [List.length_map]; lia) ?_
        walk_at "w"
        refine ⟨_, List.sublist_cons_self _ _, hM8, cofList (rows.take n5.toNat ++ [Row.mk true ss] ++ rows.drop n5.toNat), by rw [encCs_rows, rows_cofList], by rw [rows_cofList]; exact hl2, by rw [rows_cofList]; exact hok2⟩
      · walk_at "w"
        refine CallV.tupM (.head _) (by rw [List.length_map]; lia) ?_
        walk_at "w"
        refine ⟨_, List.sublist_cons_self _ _, hM4, cofList rows, by rw [encCs_rows, rows_cofList], by rw [rows_cofList]; lia, by rw [rows_cofList]; exact hrows⟩
theorem hgtC_le {n : Nat} : ∀ {cs : Cs}, (∀ r ∈ cs.rows, hgt r.body ≤ n) → hgtC cs ≤ n
  | .nil, _ => by simp only [hgtC]; lia
  | .cons d b r, h => by
    have h1 := h ⟨d, b⟩ (.head _)
    have h2 := hgtC_le (cs := r) fun x hx => h x (.tail _ hx)
    simp only [hgtC]
    have h1 : hgt b ≤ n := h1
    lia
theorem sizeC_le {n : Nat} : ∀ {cs : Cs}, (∀ r ∈ cs.rows, size r.body ≤ n) → sizeC cs ≤ cs.rows.length * n + 1
  | .nil, _ => by simp only [sizeC, Cs.rows, List.length_nil]; lia
  | .cons d b r, h => by
    have h1 := h ⟨d, b⟩ (.head _)
    have h2 := sizeC_le (cs := r) fun x hx => h x (.tail _ hx)
    simp only [sizeC, Cs.rows, List.length_cons, Nat.add_mul]
    have h1 : size b ≤ n := h1
    lia
noncomputable def labOfDeep (d : Nat) : Fin 4 := match d with | 1 => 1 | 2 => 2 | _ => 3
theorem lab_deep : ∀ d : Nat, 1 ≤ d → d ≤ 3 → (("L" : Str) ++ (toString ((d : Nat) : Int) : Str)) = labStr (labOfDeep d)
  | 1, _, _ => by decide +kernel
  | 2, _, _ => by decide +kernel
  | 3, _, _ => by decide +kernel
theorem law_labelled_of {g : Gd} {r d : Nat} {ls : List (Fin 4)} (hd1 : d + 1 ≤ 3) (hls : ls.length ≤ 10)
    (hb : ∀ ls' : List (Fin 4), ls'.length ≤ ls.length + 1 → Gen g (r + 1) 189 [.d (.int (d : Nat)), .d (.list (encLs ls'))] fun a => ∃ ss, a = .d (.tuple [.str "block", .int 0, .tuple (encs ss)]) ∧ bodyOk d ss)
    (hc : ∀ (ls' : List (Fin 4)) (k : Sw) (fall : Bool), ls'.length ≤ ls.length + 1 → Gen g (r + 1) 196 [.d (.int (d : Nat)), .d (.list (encLs ls')), .d (swHead k), .d (.bool fall)] fun a => ∃ cs : Cs, a = .d (.tuple (encCs k cs)) ∧ cs.rows.length ≤ 3 ∧ ∀ x ∈ cs.rows, rowOk d x) (hr : 1 ≤ r) :
    Gen g (r + 2) 203 [.d (.int ((d + 1 : Nat) : Int)), .d (.list (encLs ls))] (encS1 (stOk (d + 1))) := fun S μ hS => by
  refine' Sat.fn ["source", "deep", "labels"] ?h0 ?h1 ?h2 ?h3 ?h4 ?_
  walk_at "fn"
  intro A E L
  have hsl : ("L" : Str).length + (toString ((d + 1 : Nat) : Int) : Str).length ≤ 1000000 := by
    match d, hd1 with
    | 0, _ => decide +kernel
    | 1, _ => decide +kernel
    | 2, _ => decide +kernel
  have hll : (encLs ls).length + 1 ≤ 1000000 := by unfold encLs; rw [List.length_map]; lia
  have hll0 : (encLs ls).length + 0 ≤ 1000000 := by lia
  have hdd : ((d + 1 : Nat) : Int) - 1 = (d : Nat) := by lia
  walk_at "w"
  refine CallV.strI (by
    match d, hd1 with
    | 0, _ => decide +kernel
    | 1, _ => decide +kernel
    | 2, _ => decide +kernel) ?_
  refine Op2.addS hsl ?_
  rw [lab_deep (d + 1) (by lia) hd1]
  walk_at "w"
  refine Gen.use (law_one_ok g [.none, .none, .str (labStr (labOfDeep (d + 1))), .str "M"] (by simp) (by simp)) hS rfl (by show 2 ≤ r + 1; lia) ?_
  rintro ν a hM ⟨x, hx, rfl⟩
  have hk : ∃ l : Lab, x = encL l := by
    simp only [List.mem_cons, List.not_mem_nil, or_false] at hx
    rcases hx with rfl | rfl | rfl | rfl
    · exact ⟨none, rfl⟩
    · exact ⟨none, rfl⟩
    · exact ⟨some _, rfl⟩
    · exact ⟨some 0, rfl⟩
  obtain ⟨l, rfl⟩ := hk
  refine Ex.seq (fun ν' ρ' => ν' = ν ∧ ∃ ls' : List (Fin 4), ls'.length ≤ ls.length + 1 ∧ LookAll [("within", .d (.list (encLs ls'))), ("label", .d (encL l)), ("source", .v (.ref S)), ("deep", .d (.int ((d + 1 : Nat) : Int)))] ρ') ?_ ?_
  · cases l with
    | none =>
      walk_at "w"
      exact ⟨rfl, ls, by lia, congrArg (fun x => some (AV.d (PyData.list x))) (List.append_nil (encLs ls)), rfl, rfl, rfl, trivial⟩
    | some i =>
      walk_at "w"
      exact ⟨rfl, ls ++ [i], by simp, by show look _ _ = _; unfold encLs; rw [List.map_append]; rfl, rfl, rfl, rfl, trivial⟩
  rintro ν' ρ' ⟨rfl, ls', hls', hl'⟩
  refine Ex.weak hl' ?_
  have hb' := hb ls' hls'
  refine Ex.seq (fun ν2 ρ' => Moved μ S ν2 ∧ ∃ n : Int, 0 ≤ n ∧ n < 5 ∧ LookAll [("way", .d (.int n)), ("yes", .d yes), ("within", .d (.list (encLs ls'))), ("label", .d (encL l)), ("source", .v (.ref S)), ("deep", .d (.int ((d + 1 : Nat) : Int)))] ρ') ?_ ?_
  · walk_at "w"
    refine Gen.use (law_take_ok g 5 (by decide) (by decide)) (hM.ok hS) rfl (by show 1 ≤ r + 1; lia) ?_
    rintro ν3 a3 hM3 ⟨n, rfl, hn0, hn5⟩
    walk_at "w"
    exact ⟨_, _, rfl, hM.trans hM3, n, hn0, hn5, rfl, rfl, rfl, rfl, rfl, rfl, trivial⟩
  rintro ν2 ρ2 ⟨hM2, n, hn0, hn5, hl2⟩
  refine Ex.weak hl2 ?_
  have hn : n = 0 ∨ n = 1 ∨ n = 2 ∨ n = 3 ∨ n = 4 := by lia
  rcases hn with rfl | rfl | rfl | rfl | rfl
  · walk_at "w"
    refine Gen.use (law_one_ok g [.none, .none, yes] (by simp) (by simp)) (hM2.ok hS) rfl (by show 2 ≤ r + 1; lia) ?_
    rintro ν3 a3 hM3 ⟨x, hx, rfl⟩
    have hM4 := hM2.trans hM3
    have hk : ∃ c : Bool, x = (if c then yes else .none) := by
      simp only [List.mem_cons, List.not_mem_nil, or_false] at hx
      rcases hx with rfl | rfl | rfl
      · exact ⟨false, rfl⟩
      · exact ⟨false, rfl⟩
      · exact ⟨true, rfl⟩
    obtain ⟨c, rfl⟩ := hk
    walk_at "w"
    rw [hdd]
    walk_at "w"
    refine hb'.use (hM4.ok hS) rfl (Nat.le_refl _) ?_
    rintro ν5 a5 hM5 ⟨ss, rfl, h1, h2⟩
    walk_at "w"
    exact ⟨hM4.trans hM5, .forr l c ss, by simp only [enc], by simp only [hgtS]; lia, by simp only [sizeS, zS]; lia⟩
  · walk_at "w"
    rw [hdd]
    walk_at "w"
    refine hb'.use (hM2.ok hS) rfl (Nat.le_refl _) ?_
    rintro ν5 a5 hM5 ⟨ss, rfl, h1, h2⟩
    walk_at "w"
    exact ⟨hM2.trans hM5, .range l ss, by simp only [enc], by simp only [hgtS]; lia, by simp only [sizeS, zS]; lia⟩
  · walk_at "w"
    rw [hdd]
    walk_at "w"
    refine (hc ls' .switch true hls').use (hM2.ok hS) rfl (Nat.le_refl _) ?_
    rintro ν5 a5 hM5 ⟨cs, rfl, h1, h2⟩
    walk_at "w"
    have h3 := hgtC_le fun x hx => (h2 x hx).1
    have h4 := sizeC_le fun x hx => (h2 x hx).2
    have h5 : cs.rows.length * (2 * zS d + 2) ≤ 3 * (2 * zS d + 2) := Nat.mul_le_mul_right _ h1
    exact ⟨hM2.trans hM5, .sw .switch l cs, by simp only [enc], by simp only [hgtS]; lia, by simp only [sizeS, zS]; lia⟩
  · walk_at "w"
    rw [hdd]
    walk_at "w"
    refine (hc ls' .typeswitch false hls').use (hM2.ok hS) rfl (Nat.le_refl _) ?_
    rintro ν5 a5 hM5 ⟨cs, rfl, h1, h2⟩
    walk_at "w"
    have h3 := hgtC_le fun x hx => (h2 x hx).1
    have h4 := sizeC_le fun x hx => (h2 x hx).2
    have h5 : cs.rows.length * (2 * zS d + 2) ≤ 3 * (2 * zS d + 2) := Nat.mul_le_mul_right _ h1
    exact ⟨hM2.trans hM5, .sw .typeswitch l cs, by simp only [enc], by simp only [hgtS]; lia, by simp only [sizeS, zS]; lia⟩
  · walk_at "w"
    rw [hdd]
    walk_at "w"
    refine (hc ls' .choose false hls').use (hM2.ok hS) rfl (Nat.le_refl _) ?_
    rintro ν5 a5 hM5 ⟨cs, rfl, h1, h2⟩
    walk_at "w"
    have h3 := hgtC_le fun x hx => (h2 x hx).1
    have h4 := sizeC_le fun x hx => (h2 x hx).2
    have h5 : cs.rows.length * (2 * zS d + 2) ≤ 3 * (2 * zS d + 2) := Nat.mul_le_mul_right _ h1
    exact ⟨hM2.trans hM5, .sw .choose l cs, by simp only [enc], by simp only [hgtS]; lia, by simp only [sizeS, zS]; lia⟩

theorem law_one_labs (g : Gd) (ls : List (Fin 4)) (b : Bool) (hls : ls.length ≤ 10) : Gen g 2 170 [.d (.list ([PyData.none] ++ encLs ls ++ (if (if b = true then (1 : Int) else 0) = 1 then [PyData.str "M"] else [])))] fun a => ∃ l : Lab, a = .d (encL l) := fun S μ hS c ρ hg hr =>
  Gen.use (law_one_ok g ([PyData.none] ++ encLs ls ++ (if (if b = true then (1 : Int) else 0) = 1 then [PyData.str "M"] else [])) (by simp) (by cases b <;> simp [encLs] <;> lia)) hS hg hr fun ν a hM ⟨x, hx, e⟩ => ⟨hM, by
    subst e
    simp only [encLs, List.mem_cons, List.mem_append, List.not_mem_nil, or_false, List.mem_map] at hx
    rcases hx with ((rfl | ⟨i, _, rfl⟩) | hx)
    · exact ⟨none, rfl⟩
    · exact ⟨some i, rfl⟩
    · split at hx
      · rw [List.mem_singleton.mp hx]; exact ⟨some 0, rfl⟩
      · cases hx⟩
theorem law_statement_of {g : Gd} {r d : Nat} {ls : List (Fin 4)} (hd1 : d ≤ 3) (hls : ls.length ≤ 10) (hr : 2 ≤ r)
    (hb : d ≠ 0 → Gen g r 189 [.d (.int ((d - 1 : Nat) : Int)), .d (.list (encLs ls))] fun a => ∃ ss, a = .d (.tuple [.str "block", .int 0, .tuple (encs ss)]) ∧ bodyOk (d - 1) ss)
    (hl : d ≠ 0 → Gen g r 203 [.d (.int (d : Int)), .d (.list (encLs ls))] (encS1 (stOk d))) :
    Gen g (r + 1) 210 [.d (.int (d : Int)), .d (.list (encLs ls))] (encS1 (stOk d)) := fun S μ hS => by
  refine' Sat.fn ["source", "deep", "labels"] ?h0 ?h1 ?h2 ?h3 ?h4 ?_
  walk_at "fn"
  intro A E L
  have zpos : ∀ d, 1 ≤ zS d := fun d => by cases d <;> simp only [zS] <;> lia
  have hz := zpos d
  have hll : 1 + (encLs ls).length ≤ 1000000 := by unfold encLs; rw [List.length_map]; lia
  have callP : ∀ (p : Bool) {c : Cx} {ρ' : Rho} {ν : Mu} {P : Mu → AV → Prop}, c.g = g → 1 ≤ c.room → P ν (.d (encCall p)) → CallV c ρ' ν (.ref 177) [.d (.str (if p then "panic" else "f"))] P := fun p {c ρ' ν P} e1 e2 k => (law_call_ok g p).use e1 e2 k
  refine Ex.seq (fun ν ρ' => Moved μ S ν ∧ ∃ n : Int, 0 ≤ n ∧ n < 9 ∧ (d = 0 → n < 5) ∧ LookAll [("way", .d (.int n)), ("source", .v (.ref S)), ("deep", .d (.int (d : Int))), ("labels", .d (.list (encLs ls)))] ρ') ?_ ?_
  · walk_at "w"
    refine iteB ?_ ?_ <;> intro hc
    · walk_at "w"
      refine Gen.use (law_take_ok g 9 (by decide) (by decide)) hS rfl (by show 1 ≤ r; lia) ?_
      rintro ν3 a3 hM3 ⟨n, rfl, hn0, hn5⟩
      have : (d : Int) > 0 := by simpa using hc
      walk_at "w"
      exact ⟨hM3, n, hn0, hn5, fun h => by lia, rfl, rfl, rfl, rfl, trivial⟩
    · walk_at "w"
      refine Gen.use (law_take_ok g 5 (by decide) (by decide)) hS rfl (by show 1 ≤ r; lia) ?_
      rintro ν3 a3 hM3 ⟨n, rfl, hn0, hn5⟩
      walk_at "w"
      exact ⟨hM3, n, hn0, by lia, fun _ => hn5, rfl, rfl, rfl, rfl, trivial⟩
  rintro ν ρ' ⟨hM, n, hn0, hn9, hnd, hl'⟩
  refine Ex.weak hl' ?_
  have hok := hM.ok hS
  have hn : n = 0 ∨ n = 1 ∨ (n = 2 ∨ n = 3 ∨ n = 4) ∨ (n = 5 ∧ d ≠ 0) ∨ (n = 6 ∧ d ≠ 0) ∨ ((n = 7 ∨ n = 8) ∧ d ≠ 0) := by lia
  rcases hn with rfl | rfl | hn | ⟨rfl, hd⟩ | ⟨rfl, hd⟩ | ⟨hn, hd⟩
  · walk_at "w"
    exact ⟨hM, .ret, by simp only [enc], by simp only [hgtS]; lia, by simp only [sizeS]; lia⟩
  · walk_at "w"
    refine Gen.use (law_one_ok g [.str "panic", .str "f"] (by simp) (by simp)) hok rfl hr ?_
    rintro ν3 a3 hM3 ⟨x, hx, rfl⟩
    have hk : ∃ p : Bool, x = .str (if p then "panic" else "f") := by
      simp only [List.mem_cons, List.not_mem_nil, or_false] at hx
      rcases hx with rfl | rfl
      · exact ⟨true, rfl⟩
      · exact ⟨false, rfl⟩
    obtain ⟨p, rfl⟩ := hk
    walk_at "w"
    refine callP p rfl (by show 1 ≤ r; lia) ?_
    exact ⟨hM.trans hM3, .call p, by simp only [enc], by simp only [hgtS]; lia, by simp only [sizeS]; lia⟩
  · rcases hn with rfl | rfl | rfl
    · walk_at "w"
      refine Gen.use (law_take_ok g 8 (by decide) (by decide)) hok rfl (by show 1 ≤ r; lia) ?_
      rintro ν3 a3 hM3 ⟨n3, rfl, hn30, hn33⟩
      have hM4 := hM.trans hM3
      walk_at "w"
      generalize PyData.eqv (.int n3) (.int 0) = bb
      refine Op2.mulL (by cases bb <;> simp) (Nat.le_of_ble_eq_true rfl) ?_
      refine Op2.addL (by cases bb <;> simp [encLs] <;> lia) ?_
      walk_at "w"
      refine Gen.use (law_one_labs g ls bb hls) (hM4.ok hS) rfl hr ?_
      rintro ν5 a5 hM5 ⟨l, rfl⟩
      have hM6 := hM4.trans hM5
      walk_at "w"
      refine callP false rfl (by show 1 ≤ r; lia) ?_
      walk_at "w"
      refine Gen.use (law_one_ok g [enc (.brk l), enc (.cont l), enc .ret, enc (.call false)] (by simp) (by simp)) (hM6.ok hS) rfl hr ?_
      rintro ν7 a7 hM7 ⟨y, hy, rfl⟩
      have hM8 := hM6.trans hM7
      simp only [List.mem_cons, List.not_mem_nil, or_false] at hy
      rcases hy with rfl | rfl | rfl | rfl
      · exact ⟨hM8, .brk l, rfl, by simp only [hgtS]; lia, by simp only [sizeS]; lia⟩
      · exact ⟨hM8, .cont l, rfl, by simp only [hgtS]; lia, by simp only [sizeS]; lia⟩
      · exact ⟨hM8, .ret, rfl, by simp only [hgtS]; lia, by simp only [sizeS]; lia⟩
      · exact ⟨hM8, .call false, rfl, by simp only [hgtS]; lia, by simp only [sizeS]; lia⟩
    · walk_at "w"
      refine Gen.use (law_take_ok g 8 (by decide) (by decide)) hok rfl (by show 1 ≤ r; lia) ?_
      rintro ν3 a3 hM3 ⟨n3, rfl, hn30, hn33⟩
      have hM4 := hM.trans hM3
      walk_at "w"
      generalize PyData.eqv (.int n3) (.int 0) = bb
      refine Op2.mulL (by cases bb <;> simp) (Nat.le_of_ble_eq_true rfl) ?_
      refine Op2.addL (by cases bb <;> simp [encLs] <;> lia) ?_
      walk_at "w"
      refine Gen.use (law_one_labs g ls bb hls) (hM4.ok hS) rfl hr ?_
      rintro ν5 a5 hM5 ⟨l, rfl⟩
      have hM6 := hM4.trans hM5
      walk_at "w"
      refine callP false rfl (by show 1 ≤ r; lia) ?_
      walk_at "w"
      refine Gen.use (law_one_ok g [enc (.brk l), enc (.cont l), enc .ret, enc (.call false)] (by simp) (by simp)) (hM6.ok hS) rfl hr ?_
      rintro ν7 a7 hM7 ⟨y, hy, rfl⟩
      have hM8 := hM6.trans hM7
      simp only [List.mem_cons, List.not_mem_nil, or_false] at hy
      rcases hy with rfl | rfl | rfl | rfl
      · exact ⟨hM8, .brk l, rfl, by simp only [hgtS]; lia, by simp only [sizeS]; lia⟩
      · exact ⟨hM8, .cont l, rfl, by simp only [hgtS]; lia, by simp only [sizeS]; lia⟩
      · exact ⟨hM8, .ret, rfl, by simp only [hgtS]; lia, by simp only [sizeS]; lia⟩
      · exact ⟨hM8, .call false, rfl, by simp only [hgtS]; lia, by simp only [sizeS]; lia⟩
    · walk_at "w"
      refine Gen.use (law_take_ok g 8 (by decide) (by decide)) hok rfl (by show 1 ≤ r; lia) ?_
      rintro ν3 a3 hM3 ⟨n3, rfl, hn30, hn33⟩
      have hM4 := hM.trans hM3
      walk_at "w"
      generalize PyData.eqv (.int n3) (.int 0) = bb
      refine Op2.mulL (by cases bb <;> simp) (Nat.le_of_ble_eq_true rfl) ?_
      refine Op2.addL (by cases bb <;> simp [encLs] <;> lia) ?_
      walk_at "w"
      refine Gen.use (law_one_labs g ls bb hls) (hM4.ok hS) rfl hr ?_
      rintro ν5 a5 hM5 ⟨l, rfl⟩
      have hM6 := hM4.trans hM5
      walk_at "w"
      refine callP false rfl (by show 1 ≤ r; lia) ?_
      walk_at "w"
      refine Gen.use (law_one_ok g [enc (.brk l), enc (.cont l), enc .ret, enc (.call false)] (by simp) (by simp)) (hM6.ok hS) rfl hr ?_
      rintro ν7 a7 hM7 ⟨y, hy, rfl⟩
      have hM8 := hM6.trans hM7
      simp only [List.mem_cons, List.not_mem_nil, or_false] at hy
      rcases hy with rfl | rfl | rfl | rfl
      · exact ⟨hM8, .brk l, rfl, by simp only [hgtS]; lia, by simp only [sizeS]; lia⟩
      · exact ⟨hM8, .cont l, rfl, by simp only [hgtS]; lia, by simp only [sizeS]; lia⟩
      · exact ⟨hM8, .ret, rfl, by simp only [hgtS]; lia, by simp only [sizeS]; lia⟩
      · exact ⟨hM8, .call false, rfl, by simp only [hgtS]; lia, by simp only [sizeS]; lia⟩
  · obtain ⟨e, rfl⟩ : ∃ e, d = e + 1 := ⟨d - 1, by lia⟩
    have hdd : ((e + 1 : Nat) : Int) - 1 = (e : Nat) := by lia
    have hb' := hb hd
    walk_at "w"
    rw [hdd]
    walk_at "w"
    refine hb'.use hok rfl (Nat.le_refl _) ?_
    rintro ν5 a5 hM5 ⟨ss, rfl, h1, h2⟩
    have h2 : size ss ≤ 2 * zS e + 1 := h2
    have h1 : hgt ss ≤ 2 * e := h1
    exact ⟨hM.trans hM5, .block ss, by simp only [enc], by simp only [hgtS]; lia, by simp only [sizeS, zS]; lia⟩
  · obtain ⟨e, rfl⟩ : ∃ e, d = e + 1 := ⟨d - 1, by lia⟩
    have hdd : ((e + 1 : Nat) : Int) - 1 = (e : Nat) := by lia
    have hb' := hb hd
    walk_at "w"
    rw [hdd]
    walk_at "w"
    refine hb'.use hok rfl (Nat.le_refl _) ?_
    rintro ν5 a5 hM5 ⟨so, rfl, h1, h2⟩
    have h2 : size so ≤ 2 * zS e + 1 := h2
    have h1 : hgt so ≤ 2 * e := h1
    have hM6 := hM.trans hM5
    walk_at "w"
    refine Gen.use (law_one_ok g [.none, .tuple [.str "block", .int 0, .tuple (encs so)]] (by simp) (by simp)) (hM6.ok hS) rfl hr ?_
    rintro ν7 a7 hM7 ⟨x, hx, rfl⟩
    have hM8 := hM6.trans hM7
    walk_at "w"
    rw [hdd]
    walk_at "w"
    refine hb'.use (hM8.ok hS) rfl (Nat.le_refl _) ?_
    rintro ν9 a9 hM9 ⟨sb, rfl, h3, h4⟩
    have h4 : size sb ≤ 2 * zS e + 1 := h4
    have h3 : hgt sb ≤ 2 * e := h3
    walk_at "w"
    simp only [List.mem_cons, List.not_mem_nil, or_false] at hx
    rcases hx with rfl | rfl
    · exact ⟨hM8.trans hM9, .if1 sb, by simp only [enc]; rfl, by simp only [hgtS]; lia, by simp only [sizeS, zS]; lia⟩
    · exact ⟨hM8.trans hM9, .if2 sb so, by simp only [enc]; rfl, by simp only [hgtS]; lia, by simp only [sizeS, zS]; lia⟩
  · have hl2 := hl hd
    rcases hn with rfl | rfl
    · walk_at "w"
      refine hl2.use hok rfl (Nat.le_refl _) ?_
      rintro ν9 a9 hM9 ha
      exact ⟨hM.trans hM9, ha⟩
    · walk_at "w"
      refine hl2.use hok rfl (Nat.le_refl _) ?_
      rintro ν9 a9 hM9 ha
      exact ⟨hM.trans hM9, ha⟩

/-- all that is drawn, by depth -/
theorem law_statement_ok (g : Gd) : ∀ (d : Nat) (ls : List (Fin 4)), d ≤ 3 → ls.length + d ≤ 10 → Gen g (5 * d + 4) 210 [.d (.int (d : Int)), .d (.list (encLs ls))] (encS1 (stOk d))
  | 0, ls, _, h2 => law_statement_of (r := 3) (by lia) (by lia) (by lia) (fun h => absurd rfl h) (fun h => absurd rfl h)
  | d + 1, ls, h1, h2 => by
    have hbody : ∀ ls' : List (Fin 4), ls'.length ≤ ls.length + 1 → Gen g (5 * d + 6) 182 [.d (.int (d : Nat)), .d (.list (encLs ls'))] (encSs (bodyOk d)) := fun ls' hl => law_body_of (r := 5 * d + 4) (by lia) (law_statement_ok g d ls' (by lia) (by lia))
    have hz : 2 * zS d + 1 ≤ 1000 := by
      have hd : d = 0 ∨ d = 1 ∨ d = 2 := by lia
      rcases hd with rfl | rfl | rfl <;> decide
    refine law_statement_of (r := 5 * d + 8) h1 (by lia) (by lia) (fun _ => ?_) fun _ => ?_
    · intro S μ hS c ρ hg hr
      exact law_block_of (r := 5 * d + 6) (hbody ls (by lia)) S μ hS c ρ hg (by lia)
    · exact law_labelled_of (r := 5 * d + 6) h1 (by lia) (fun ls' hl => law_block_of (hbody ls' hl)) (fun ls' k fall hl => law_cases_of (by lia) hz (hbody ls' hl)) (by lia)
theorem law_body_ok (g : Gd) : Gen g 21 182 [.d (.int ((3 : Nat) : Int)), .d (.list (encLs []))] (encSs (bodyOk 3)) := law_body_of (r := 19) (by lia) (law_statement_ok g 3 [] (by lia) (by decide))
/-- the list that the law was handed: it stands in the ground -/
noncomputable def ScriptOk (g : Gd) (A : Addr) (script : List Int) : Prop := ∃ vs, g.h₀.IsList A vs.toArray ∧ IntsAre vs script
theorem isList_old {c : Cx} {Φ : Frz} {μ : Mu} {ρ : Rho} {s : Shared} (I : Inv c Φ μ ρ s) {A : Addr} {vs : List Value} (h : c.g.h₀.IsList A vs.toArray) : s.heap.IsList A vs.toArray := by
  obtain ⟨o, e, r⟩ := h
  exact ⟨o, I.old _ _ e, r⟩
theorem CallV.lenG {c : Cx} {μ : Mu} {ρ : Rho} {P : Mu → AV → Prop} {A : Addr} {script : List Int} (hs : ScriptOk c.g A script) (hn : script.length ≤ 1000) (h : P μ (.d (.int script.length))) : CallV c ρ μ (.builtin "len") [.v (.ref A)] P := fun Φ s vs I r => by
  obtain ⟨v, ws, rfl, r1, rfl⟩ := r
  obtain rfl := ra_v' r1
  obtain ⟨us, hl, hi⟩ := hs
  refine PyProof.Rows.len_list (isList_old I hl) (by rw [List.size_toArray, hi.length]; lia) ?_
  rw [List.size_toArray, hi.length]
  exact Post.then (I.toks _) (ra_int _ _) h
theorem Op2.itemG {c : Cx} {μ : Mu} {ρ : Rho} {P : Mu → AV → Prop} {l r : Expr} {A : Addr} {script : List Int} {k d : Int} (hsc : ScriptOk c.g A script) (hs : ∀ a k t, subscripted r false (.ref a) (.int k t) = operate [.ref a, .int k t] (getItem (.ref a) (.int k t))) (h0 : 0 ≤ k) (hhi : k < 2 ^ 63)
    (e : script[k.toNat]? = some d) (h : P μ (.d (.int d))) : Op2 c ρ (subscriptTail l r) μ (.v (.ref A)) (.d (.int k)) P := fun Φ s v w I ra rb => by
  obtain rfl := ra_v' ra
  obtain ⟨t, rfl⟩ := ra_int' rb
  obtain ⟨us, hl, hi⟩ := hsc
  obtain ⟨t2, e6⟩ := hi.get _ _ e
  have hl := isList_old I hl
  exact tail_any hl.typeIs slot_list_getitem.lookup (wpAny_getItem_list hl h0 hhi (by simpa using e6) (Post.here I (ra_int _ _) h)) (hs _ _ _)
theorem law_pool_ok (g : Gd) (A₀ : Addr) (script : List Int) (hA : ScriptOk g A₀ script) (hsc : script.length ≤ 1000) (k : Nat) (hk : k = 0 ∨ k = 1) (μ : Mu) : Sat g 1 (.ref 156) [.v (.ref A₀), .d (.int (k : Nat))] μ fun ν a => ∃ S x y, a = .v (.ref S) ∧ S ∉ μ.map (·.1) ∧ ν = (S, .list [.int x, .int y]) :: μ ∧ 0 ≤ y ∧ y < 2147483647 := by
  refine' Sat.fn ["script", "k"] ?h0 ?h1 ?h2 ?h3 ?h4 ?_
  walk_at "fn"
  intro A E L
  have f1 : ∀ x : Int, 0 ≤ x.fmod 2147483647 ∧ x.fmod 2147483647 < 2147483647 := fun x => ⟨Int.fmod_nonneg_of_pos x (by decide), Int.fmod_lt_of_pos x (by decide)⟩
  refine Ex.seqL μ [("cell", .d (.int 0)), ("script", .v (.ref A₀)), ("k", .d (.int (k : Nat)))] ?_ ?_
  · walk_at "w"
    exact ⟨rfl, rfl, rfl, rfl, trivial⟩
  refine Ex.seqE μ (fun cell : Int => [("cell", .d (.int cell)), ("script", .v (.ref A₀)), ("k", .d (.int (k : Nat)))]) (fun _ => True) ?_ ?_
  · walk_at "w"
    refine CallV.lenG hA hsc ?_
    walk_at "w"
    refine iteB ?_ ?_ <;> intro hc
    · have hc : (k : Int) < script.length := by simpa using hc
      have hk2 : k < script.length := by lia
      walk_at "w"
      refine Op2.itemG hA (fun _ _ _ => rfl) (by lia) (by lia) (d := script[k]) (by simp [hk2]) ?_
      walk_at "w"
      exact ⟨rfl, script[k], trivial, rfl, rfl, rfl, trivial⟩
    · walk_at "w"
      exact ⟨rfl, 0, trivial, rfl, rfl, rfl, trivial⟩
  intro cell _
  refine Ex.seqE μ (fun big : Int => [("big", .d (.int big)), ("k", .d (.int (k : Nat)))]) (fun _ => True) ?_ ?_
  · walk_at "w"
    exact ⟨rfl, _, trivial, rfl, rfl, trivial⟩
  intro big _
  refine Ex.seqE μ (fun y : Int => [("stirred", .d (.int y)), ("big", .d (.int big))]) (fun y => 0 ≤ y ∧ y < 2147483647) ?_ ?_
  · rcases hk with rfl | rfl <;> (walk_at "w") <;> exact ⟨rfl, _, f1 _, rfl, rfl, trivial⟩
  intro y hy
  refine Ex.cons (X1.ret (Ev.listM ?_))
  walk_at "w"
  have hbit : IntMulOk big (if decide (big ≥ 10 ^ Int.toNat 18) = true then 1 else 0) := IntMulOk.of_right (by split <;> decide)
  walk_at "w"
  intro S hS
  exact ⟨S, _, y, rfl, hS, rfl, hy⟩
noncomputable def goalsOf (w : Way) : List Lab := (w.around.filter fun p => w.brk || p.2.isLoop).map Prod.fst
noncomputable def wayOk (w : Way) : Bool := !(goalsOf w).isEmpty && (w.lab == none || (goalsOf w).contains w.lab)
noncomputable def right (ss : Sts) : Bool := (ways [] ss).all wayOk && (decide (labels ss).Nodup && (labels ss).all fun i => (ways [] ss).any fun w => w.lab == some i)
mutual
theorem ways_around : ∀ (ss : Sts) (ar : List (Lab × Kd)) (w : Way), w ∈ ways ar ss → w.around.length ≤ ar.length + hgt ss
  | .nil, ar, w, h => by simp only [ways] at h; cases h
  | .cons s r, ar, w, h => by
    simp only [ways] at h
    simp only [hgt]
    rcases List.mem_append.mp h with h | h
    · have := waysS_around s ar w h; lia
    · have := ways_around r ar w h; lia
theorem waysS_around : ∀ (s : St) (ar : List (Lab × Kd)) (w : Way), w ∈ waysS ar s → w.around.length ≤ ar.length + hgtS s
  | .ret, _, _, h | .fall, _, _, h | .call _, _, _, h => by simp only [waysS] at h; cases h
  | .brk _, ar, w, h | .cont _, ar, w, h => by
    simp only [waysS] at h
    rw [List.mem_singleton.mp h]; exact Nat.le_add_right _ _
  | .block b, ar, w, h => by simp only [waysS] at h; have := ways_around b ar w h; simp only [hgtS]; lia
  | .if1 b, ar, w, h => by simp only [waysS] at h; have := ways_around b ar w h; simp only [hgtS]; lia
  | .if2 b o, ar, w, h => by
    simp only [waysS] at h
    simp only [hgtS]
    rcases List.mem_append.mp h with h | h
    · have := ways_around b ar w h; lia
    · have := ways_around o ar w h; lia
  | .forr l _ b, ar, w, h => by simp only [waysS] at h; have := ways_around b _ w h; rw [List.length_append, List.length_singleton] at this; simp only [hgtS]; lia
  | .range l b, ar, w, h => by simp only [waysS] at h; have := ways_around b _ w h; rw [List.length_append, List.length_singleton] at this; simp only [hgtS]; lia
  | .sw k l cs, ar, w, h => by simp only [waysS] at h; have := waysC_around cs _ w h; rw [List.length_append, List.length_singleton] at this; simp only [hgtS]; lia
theorem waysC_around : ∀ (cs : Cs) (ar : List (Lab × Kd)) (w : Way), w ∈ waysC ar cs → w.around.length ≤ ar.length + hgtC cs
  | .nil, ar, w, h => by simp only [waysC] at h; cases h
  | .cons _ b r, ar, w, h => by
    simp only [waysC] at h
    simp only [hgtC]
    rcases List.mem_append.mp h with h | h
    · have := ways_around b ar w h; lia
    · have := waysC_around r ar w h; lia
end
theorem goals_flat (wb : Bool) (wl : Lab) (wa : List (Lab × Kd)) : (wa.flatMap fun p => if (wb || p.2.isLoop) = true then [encL p.1] else []) = (goalsOf ⟨wb, wl, wa⟩).map encL := by
  unfold goalsOf
  try dsimp only
  induction wa with
  | nil => rfl
  | cons p r ih =>
    rw [List.flatMap_cons, ih, List.filter_cons]
    cases h : (wb || p.2.isLoop)
    · simp only [Bool.false_eq_true, ↓reduceIte, List.nil_append]
    · simp only [↓reduceIte, List.map_cons, List.cons_append, List.nil_append]
theorem labStr_inj : ∀ i j : Fin 4, labStr i = labStr j → i = j := by decide +kernel
theorem labStr_nodup (l : List (Fin 4)) : (l.map labStr).Nodup ↔ l.Nodup := by
  induction l with
  | nil => simp
  | cons a r ih =>
    rw [List.map_cons, List.nodup_cons, List.nodup_cons, ih]
    refine and_congr (not_congr ⟨fun h => ?_, fun h => List.mem_map_of_mem h⟩) Iff.rfl
    obtain ⟨b, hb, e⟩ := List.mem_map.mp h
    exact labStr_inj _ _ e ▸ hb
theorem law_labels_right_ok (g : Gd) (n : Nat) (ss : Sts) (hn : hgt ss ≤ n) (hn2 : n ≤ 50) (hz : size ss ≤ 2000) : Pure g (n + 4) 246 [.tuple (encs ss)] (.bool (right ss)) := fun μ => by
  refine' Sat.fn ["rows"] ?h0 ?h1 ?h2 ?h3 ?h4 ?_
  walk_at "fn"
  intro A E L
  have hwl := ways_len ss []
  have hll := labels_len ss
  have ihL := law_labels_ok g n ss hn hz
  have ihW := law_ways_ok g n ss [] hn hz (by simp; lia)
  refine Ex.drop ?_
  refine Ex.seq (fun ν ρ' => ν = μ ∧ LookAll [("labels", .d (.list (encLs (labels ss)))), ("ways", .d (.list ((ways [] ss).map encW)))] ρ') ?_ ?_
  · walk_at "w"
    refine Pure.use ihL rfl (by show n + 3 ≤ n + 3; lia) ?_
    walk_at "w"
    refine Pure.use ihW rfl (by show n + 3 ≤ n + 3; lia) ?_
    walk_at "w"
    exact ⟨_, _, rfl, rfl, rfl, rfl, trivial⟩
  rintro ν ρ' ⟨rfl, hl'⟩
  refine Ex.weak hl' ?_
  refine Ex.seq (fun ν' ρ' => ν' = ν ∧ (ways [] ss).all wayOk = true ∧ LookAll [("labels", .d (.list (encLs (labels ss)))), ("ways", .d (.list ((ways [] ss).map encW)))] ρ') ?_ ?_
  · refine X1.forL encW (ways [] ss) (fun pre μ₁ ρ₁ => μ₁ = ν ∧ pre.all wayOk = true ∧ LookAll [("labels", .d (.list (encLs (labels ss)))), ("ways", .d (.list ((ways [] ss).map encW)))] ρ₁) ?it ?st ?fi
    case it =>
      refine It.lst ?_
      walk_at "w"
      exact ⟨by rw [List.map_map]; rfl, rfl, rfl, rfl, rfl, trivial⟩
    case fi =>
      rintro μ₁ ρ₁ ⟨rfl, h, hl⟩
      exact ⟨rfl, h, hl⟩
    case st =>
      rintro pre w post μ₁ ρ₁ hs ⟨rfl, hpre, hl⟩
      refine As.weak hl ?_
      have hbad : wayOk w = false → right ss = false := fun h => by
        unfold right
        rw [hs]
        simp [List.all_append, h]
      obtain ⟨wb, wl, wa⟩ := w
      have hwa : wa.length ≤ 1000000 := by
        have := ways_around ss [] ⟨wb, wl, wa⟩ (by rw [hs]; simp)
        have this : wa.length ≤ 0 + hgt ss := this
        lia
      unfold encW
      try dsimp only
      have hgl := goals_flat wb wl wa
      have hsh : SeqAt.shaped (.list ((goalsOf ⟨wb, wl, wa⟩).map encL)) = true := shaped_list fun x hx => by
        obtain ⟨l, _, rfl⟩ := List.mem_map.mp hx
        exact ⟨lay_lab l, by rw [dep_lab]; lia⟩
      have hin : ∀ l : Lab, (((goalsOf ⟨wb, wl, wa⟩).map encL).any fun y => PyData.eqv y (encL l)) = (goalsOf ⟨wb, wl, wa⟩).contains l := fun l => by
        generalize goalsOf ⟨wb, wl, wa⟩ = gs
        induction gs with
        | nil => rfl
        | cons x r ih => rw [List.map_cons, List.any_cons, ih, eqv_lab, List.contains_cons, Bool.beq_comm]
      iterate 8 walk_at "m"
      refine Ex.seq (fun ν' ρ' => ν' = μ₁ ∧ LookAll [("goals", .d (.list ((goalsOf ⟨wb, wl, wa⟩).map encL))), ("label", .d (encL wl)), ("labels", .d (.list (encLs (labels ss)))), ("ways", .d (.list ((ways [] ss).map encW)))] ρ') ?_ ?_
      · refine X1.putCompP (cl := [("word", L + 1)]) encA wa (fun p => if (wb || p.2.isLoop) = true then [encL p.1] else []) ?ok1 ⟨rfl, rfl, .inl rfl⟩ rfl hwa ?it1 ?st1 ?p1
        case ok1 => walk_at "cok"
        case it1 =>
          refine It.lst ?_
          walk_at "w"
          rw [List.map_map]; exact ⟨rfl, rfl⟩
        case st1 =>
          rintro C ⟨pl, pk⟩ hp
          unfold encA
          cases wb with
          | true =>
            walk_at "w"
            rfl
          | false =>
            simp only [Bool.false_eq_true, ↓reduceIte]
            cases pk with
            | sw k => cases k <;> dsimp only [Kd.str, Kd.isLoop] <;> (walk_at "w") <;> (try rfl) <;> (try exact ⟨rfl, rfl⟩)
            | _ => dsimp only [Kd.str, Kd.isLoop] <;> (walk_at "w") <;> (try rfl) <;> (try exact ⟨rfl, rfl⟩)
        case p1 =>
          rw [hgl]
          exact ⟨rfl, rfl, rfl, rfl, rfl, trivial⟩
      · rintro ν' ρ' ⟨rfl, hl'⟩
        refine Ex.weak hl' ?_
        walk_at "w"
        rw [eqv_nil]
        refine iteB ?_ ?_ <;> intro hg
        · have : wayOk ⟨wb, wl, wa⟩ = false := by
            have hg : (goalsOf ⟨wb, wl, wa⟩).isEmpty = true := by simpa using hg
            simp only [wayOk, hg]; rfl
          rw [hbad this]
          walk_at "w"
        · have hg : (goalsOf ⟨wb, wl, wa⟩).isEmpty = false := by
            cases h : (goalsOf ⟨wb, wl, wa⟩) with
            | nil => rw [h] at hg; cases hg
            | cons a r => rfl
          cases wl with
          | none =>
            walk_at "w"
            exact ⟨rfl, by simp [List.all_append, hpre, wayOk, hg], rfl, rfl, trivial⟩
          | some i =>
            walk_at "w"
            have hin' : (((goalsOf ⟨wb, some i, wa⟩).map encL).any fun y => PyData.eqv y (encL (some i))) = (goalsOf ⟨wb, some i, wa⟩).contains (some i) := hin (some i)
            rw [hin']
            refine iteB ?_ ?_ <;> intro hc
            · have : wayOk ⟨wb, some i, wa⟩ = false := by
                simp only [wayOk, hg]
                simpa using hc
              rw [hbad this]
              walk_at "w"
            · walk_at "w"
              exact ⟨rfl, by simp only [List.all_append, hpre, wayOk, hg, List.all_cons, List.all_nil]; simpa using hc, rfl, rfl, trivial⟩
  rintro ν' ρ' ⟨rfl, hall, hl'⟩
  refine Ex.weak hl' ?_
  refine Ex.seq (fun ν₂ ρ' => ν₂ = ν' ∧ LookAll [("used", .d (.list ((ways [] ss).map fun w => encL w.lab))), ("labels", .d (.list (encLs (labels ss))))] ρ') ?_ ?_
  · refine X1.put ⟨rfl, rfl, .inr ⟨rfl, rfl, _, rfl⟩⟩ rfl ?_
    refine Ev.compP (cl := []) encW (ways [] ss) (fun w => [encL w.lab]) ?ok2 ?hn2 ?it2 ?st2 ?p2
    case ok2 => walk_at "cok"
    case hn2 => lia
    case it2 =>
      refine It.lst ?_
      walk_at "w"
      rw [List.map_map]; exact ⟨rfl, rfl⟩
    case st2 =>
      rintro C ⟨wb, wl, wa⟩ hp
      unfold encW
      try dsimp only
      walk_at "w"
    case p2 =>
      have e : ∀ l : List Way, (l.flatMap fun w => [encL w.lab]) = l.map fun w => encL w.lab := fun l => by
        induction l with
        | nil => rfl
        | cons a r ih => rw [List.flatMap_cons, ih]; rfl
      rw [e]
      exact ⟨rfl, rfl, rfl, trivial⟩
  rintro ν₂ ρ' ⟨rfl, hl'⟩
  refine Ex.weak hl' ?_
  have hE : encLs (labels ss) = ((labels ss).map labStr).map PyData.str := by rw [List.map_map]; rfl
  have hLd : (labels ss).length = ((labels ss).map labStr).length := by rw [List.length_map]
  have hmet := met_list ((labels ss).map labStr)
  have hnd : ((labels ss).map labStr).Nodup ↔ (labels ss).Nodup := labStr_nodup _
  generalize hM : (met (fun i => ((labels ss).map labStr).getD i "") ((labels ss).map labStr).length).length = M at hmet
  have hMle : M ≤ 1000000 := by have := met_le (fun i => ((labels ss).map labStr).getD i "") ((labels ss).map labStr).length; lia
  have hshU : SeqAt.shaped (.list ((ways [] ss).map fun w => encL w.lab)) = true := shaped_list fun x hx => by
    obtain ⟨l, _, rfl⟩ := List.mem_map.mp hx
    exact ⟨lay_lab _, by rw [dep_lab]; lia⟩
  have hinU : ∀ i, (((ways [] ss).map fun w => encL w.lab).any fun y => PyData.eqv y (.str (labStr i))) = (ways [] ss).any fun w => w.lab == some i := fun i => by
    generalize ways [] ss = gs
    induction gs with
    | nil => rfl
    | cons x r ih => rw [List.map_cons, List.any_cons, ih, List.any_cons, ← eqv_lab]; rfl
  have hshF : SeqAt.shaped (.list ((labels ss).flatMap fun i => if ((ways [] ss).any fun w => w.lab == some i) = true then [] else [PyData.str (labStr i)])) = true := shaped_list fun x hx => by
    obtain ⟨i, _, h⟩ := List.mem_flatMap.mp hx
    split at h
    · cases h
    · obtain rfl := List.mem_singleton.mp h
      exact ⟨lay_lab (some i), by rw [show PyData.str (labStr i) = encL (some i) from rfl, dep_lab]; lia⟩
  have hnl : (encLs (labels ss)).length ≤ 1000000 := by unfold encLs; rw [List.length_map]; lia
  walk_at "w"
  rw [hE]
  refine CallV.setL (xs := (labels ss).map labStr) (by rw [List.length_map]; lia) fun S o hS hN => ?_
  rw [hM] at hN
  rw [← hE]
  walk_at "w"
  refine CallV.lenS (.head _) hN hMle ?_
  walk_at "w"
  have hlen : (encLs (labels ss)).length = (labels ss).length := by unfold encLs; rw [List.length_map]
  rw [hlen, show PyData.eqv (.int (M : Int)) (.int ((labels ss).length : Int)) = decide (labels ss).Nodup from ?hEq]
  case hEq =>
    show decide ((M : Int) = ((labels ss).length : Int)) = _
    refine decide_eq_decide.mpr ?_
    rw [← hnd, ← hmet, List.length_map]
    lia
  have hR : right ss = (decide (labels ss).Nodup && (labels ss).all fun i => (ways [] ss).any fun w => w.lab == some i) := by unfold right; rw [hall]; rfl
  refine iteB ?_ ?_ <;> intro hnod
  · walk_at "w"
    refine Ev.compP (cl := [("used", L + 1 + 1)]) (fun i => PyData.str (labStr i)) (labels ss) (fun i => if ((ways [] ss).any fun w => w.lab == some i) = true then [] else [.str (labStr i)]) ?ok3 ?hn3 ?it3 ?st3 ?p3
    case ok3 => walk_at "cok"
    case hn3 => lia
    case it3 =>
      refine It.lst ?_
      walk_at "w"
      unfold encLs
      rw [List.map_map]; exact ⟨rfl, rfl⟩
    case st3 =>
      intro C i hi
      have hiU := hinU i
      have hsi : SeqAt.shaped (.str (labStr i)) = true := shaped_lab (some i)
      walk_at "w"
      rw [hiU]
      cases hc : (ways [] ss).any fun w => w.lab == some i with
      | true => walk_at "w"
      | false =>
        walk_at "w"
        rfl
    case p3 =>
      walk_at "w"
      refine ⟨_, List.sublist_cons_self _ _, rfl, ?_⟩
      rw [eqv_nil, hR, hnod, Bool.true_and]
      have e : ∀ (l : List (Fin 4)) (c : Fin 4 → Bool), (l.flatMap fun i => if c i = true then [] else [PyData.str (labStr i)]).isEmpty = l.all c := fun l c => by
        induction l with
        | nil => rfl
        | cons a r ih =>
          rw [List.flatMap_cons, List.all_cons]
          cases h : c a
          · simp
          · simp only [↓reduceIte, List.nil_append, Bool.true_and]; exact ih
      rw [e]
  · walk_at "w"
    refine ⟨_, List.sublist_cons_self _ _, rfl, ?_⟩
    rw [hR, hnod]; rfl
set_option genInjectivity false in
set_option genSizeOf false in
/-- where a checker's parts lie -/
structure LC where
  x : Addr
  dx : Addr
  D1 : Addr
  D2 : Addr
  O : Addr
set_option genInjectivity false in
set_option genSizeOf false in
/-- what it has met -/
structure Ck where
  told : List (Fin 4)
  used : List (Fin 4)
  opn : List (Lab × Kd)
noncomputable def ckAttrs (L : LC) : List (Str × AV) := [("told", .v (.ref L.D1)), ("used", .v (.ref L.D2)), ("open", .v (.ref L.O))]
noncomputable def tolds (l : List (Fin 4)) : List (Str × PyData) := l.map fun i => (labStr i, .int 0)
noncomputable def useds (l : List (Fin 4)) : List (Str × PyData) := l.map fun i => (labStr i, .bool true)
noncomputable def ckMu (L : LC) (σ : Ck) (μ : Mu) : Mu := (L.O, .list (σ.opn.map encA)) :: (L.D2, .dict (useds σ.used)) :: (L.D1, .dict (tolds σ.told)) :: (L.x, .raw (instObj 138 L.dx)) :: (L.dx, .attrs (ckAttrs L)) :: μ
/-- a checker lies here -/
noncomputable def CkI (μ : Mu) (L : LC) : Prop := Inst μ L.x 138 L.dx (ckAttrs L)
theorem ckI {L : LC} {σ : Ck} {μ : Mu} : CkI (ckMu L σ μ) L := ⟨.tail _ (.tail _ (.tail _ (.head _))), .tail _ (.tail _ (.tail _ (.tail _ (.head _))))⟩
set_option genInjectivity false in
set_option genSizeOf false in
structure LC.Ok (L : LC) (μ : Mu) : Prop where
  o2 : L.O ≠ L.D2
  o1 : L.O ≠ L.D1
  ox : L.O ≠ L.x
  od : L.O ≠ L.dx
  oμ : L.O ∉ μ.map (·.1)
  d21 : L.D2 ≠ L.D1
  d2x : L.D2 ≠ L.x
  d2d : L.D2 ≠ L.dx
  d2μ : L.D2 ∉ μ.map (·.1)
  d1x : L.D1 ≠ L.x
  d1d : L.D1 ≠ L.dx
  d1μ : L.D1 ∉ μ.map (·.1)
theorem LC.ok {L : LC} {σ : Ck} {μ : Mu} (h : ((ckMu L σ μ).map (·.1)).Nodup) : L.Ok μ := by
  simp only [ckMu, List.map_cons, List.nodup_cons, List.mem_cons, not_or] at h
  obtain ⟨⟨a1, a2, a3, a4, a5⟩, ⟨b1, b2, b3, b4⟩, ⟨c1, c2, c3⟩, ⟨d1, d2⟩, e, f⟩ := h
  exact ⟨a1, a2, a3, a4, a5, b1, b2, b3, b4, c1, c2, c3⟩
theorem muSet_none {μ : Mu} {a : Addr} {m : MO} (h : a ∉ μ.map (·.1)) : muSet μ a m = μ := by
  unfold muSet
  refine (List.map_congr_left fun p hp => ?_).trans (List.map_id _)
  exact if_neg fun q : p.1 = a => h (by rw [← q]; exact List.mem_map_of_mem (f := (·.1)) hp)
theorem muSet_hit {μ : Mu} {a : Addr} {m n : MO} : muSet ((a, n) :: μ) a m = (a, m) :: muSet μ a m := by simp [muSet]
theorem ckSetO {L : LC} {σ : Ck} {μ : Mu} {m : MO} (h : L.Ok μ) : muSet (ckMu L σ μ) L.O m = (L.O, m) :: (ckMu L σ μ).tail := by
  unfold ckMu
  rw [muSet_hit, muSet_cons_ne (Ne.symm h.o2), muSet_cons_ne (Ne.symm h.o1), muSet_cons_ne (Ne.symm h.ox), muSet_cons_ne (Ne.symm h.od), muSet_none h.oμ]; rfl
theorem ckSetD2 {L : LC} {σ : Ck} {μ : Mu} {m : MO} (h : L.Ok μ) : muSet (ckMu L σ μ) L.D2 m = (L.O, .list (σ.opn.map encA)) :: (L.D2, m) :: (ckMu L σ μ).tail.tail := by
  unfold ckMu
  rw [muSet_cons_ne h.o2, muSet_hit, muSet_cons_ne (Ne.symm h.d21), muSet_cons_ne (Ne.symm h.d2x), muSet_cons_ne (Ne.symm h.d2d), muSet_none h.d2μ]; rfl
theorem ckSetD1 {L : LC} {σ : Ck} {μ : Mu} {m : MO} (h : L.Ok μ) : muSet (ckMu L σ μ) L.D1 m = (L.O, .list (σ.opn.map encA)) :: (L.D2, .dict (useds σ.used)) :: (L.D1, m) :: (ckMu L σ μ).tail.tail.tail := by
  unfold ckMu
  rw [muSet_cons_ne h.o1, muSet_cons_ne h.d21, muSet_hit, muSet_cons_ne (Ne.symm h.d1x), muSet_cons_ne (Ne.symm h.d1d), muSet_none h.d1μ]; rfl
theorem ckO {L : LC} {σ : Ck} {μ : Mu} (h : L.Ok μ) (o : List (Lab × Kd)) : muSet (ckMu L σ μ) L.O (.list (o.map encA)) = ckMu L { σ with opn := o } μ := ckSetO h
theorem ckO' {L : LC} {σ : Ck} {μ : Mu} (h : L.Ok μ) (p : Lab × Kd) : muSet (ckMu L σ μ) L.O (.list (σ.opn.map encA ++ [encA p])) = ckMu L { σ with opn := σ.opn ++ [p] } μ := by
  have := ckO (σ := σ) h (σ.opn ++ [p])
  rw [List.map_append] at this; exact this
/-- a word is told, or met -/
noncomputable def addU (l : List (Fin 4)) (i : Fin 4) : List (Fin 4) := if i ∈ l then l else l ++ [i]
theorem dict_has {d : PyData} {i : Fin 4} : ∀ {l : List (Fin 4)}, ((l.map fun j => (labStr j, d)).any fun p => p.1 = labStr i) = decide (i ∈ l)
  | [] => by simp
  | j :: r => by
    rw [List.map_cons, List.any_cons, dict_has (l := r)]
    by_cases q : j = i
    · subst q; simp
    · have q2 : ¬ labStr j = labStr i := fun h => q (labStr_inj _ _ h)
      simp [q2, Ne.symm q]
theorem getE_has {es : List (Str × PyData)} {x : Str} : (getE es x).isSome = es.any fun p => p.1 = x := by
  unfold getE
  rw [Option.isSome_map]
  induction es with
  | nil => rfl
  | cons p r ih =>
    rw [List.find?_cons, List.any_cons, ← ih]
    cases decide (p.1 = x) <;> rfl
theorem getE_told {d : PyData} {i : Fin 4} {l : List (Fin 4)} : (getE (l.map fun j => (labStr j, d)) (labStr i)).isSome = decide (i ∈ l) := getE_has.trans dict_has
theorem putE_new {d : PyData} {i : Fin 4} {l : List (Fin 4)} : putE (l.map fun j => (labStr j, d)) (labStr i) d = (addU l i).map fun j => (labStr j, d) := by
  unfold putE addU
  rw [dict_has]
  by_cases h : i ∈ l
  · rw [if_pos (by simpa using h), if_pos h, List.map_map]
    refine List.map_congr_left fun j _ => ?_
    show (if labStr j = labStr i then (labStr j, d) else (labStr j, d)) = _
    split <;> rfl
  · rw [if_neg (by simpa using h), if_neg h, List.map_append]; rfl
theorem ckU {L : LC} {σ : Ck} {μ : Mu} (h : L.Ok μ) (i : Fin 4) : muSet (ckMu L σ μ) L.D2 (.dict (putE (useds σ.used) (labStr i) (.bool true))) = ckMu L { σ with used := addU σ.used i } μ := by
  unfold useds
  rw [putE_new]; exact ckSetD2 h
theorem ckT {L : LC} {σ : Ck} {μ : Mu} (h : L.Ok μ) (i : Fin 4) : muSet (ckMu L σ μ) L.D1 (.dict (putE (tolds σ.told) (labStr i) (.int 0))) = ckMu L { σ with told := addU σ.told i } μ := by
  unfold tolds
  rw [putE_new]; exact ckSetD1 h
/-- what a break or a continue asks -/
noncomputable def leads (brk : Bool) (l : Lab) (σ : Ck) : List (Lab × Kd) := (σ.opn.filter fun p => brk || p.2.isLoop).filter fun p => l == none || p.1 == l
noncomputable def lead (brk : Bool) (l : Lab) (σ : Ck) : Option Ck := if (leads brk l σ).isEmpty then none else some { σ with used := match l with | none => σ.used | some i => addU σ.used i }
/-- a word is told -/
noncomputable def tell (l : Lab) (σ : Ck) : Option Ck := match l with
  | none => some σ
  | some i => if i ∈ σ.told then none else some { σ with told := σ.told ++ [i] }
noncomputable def pushed (l : Lab) (k : Kd) (σ : Ck) : Ck := { σ with opn := σ.opn ++ [(l, k)] }
noncomputable def popped (σ : Ck) : Ck := { σ with opn := σ.opn.dropLast }
mutual
noncomputable def run : Sts → Ck → Option Ck
  | .nil, σ => some σ
  | .cons s r, σ => (runS s σ).bind (run r)
noncomputable def runS : St → Ck → Option Ck
  | .brk l, σ => lead true l σ
  | .cont l, σ => lead false l σ
  | .block b, σ => run b σ
  | .if1 b, σ => run b σ
  | .if2 b o, σ => (run b σ).bind (run o)
  | .forr l _ b, σ => (tell l σ).bind fun σ => (run b (pushed l .for_ σ)).map popped
  | .range l b, σ => (tell l σ).bind fun σ => (run b (pushed l .range σ)).map popped
  | .sw k l cs, σ => (tell l σ).bind fun σ => (runC cs (pushed l (.sw k) σ)).map popped
  | .ret, σ => some σ
  | .fall, σ => some σ
  | .call _, σ => some σ
noncomputable def runC : Cs → Ck → Option Ck
  | .nil, σ => some σ
  | .cons _ b r, σ => (run b σ).bind (runC r)
end
/-- one after the other -/
noncomputable def seqK {α : Type} (f : α → Ck → Option Ck) : List α → Ck → Option Ck
  | [], σ => some σ
  | a :: r, σ => (f a σ).bind (seqK f r)
theorem seqK_append {α : Type} (f : α → Ck → Option Ck) : ∀ (l r : List α) (σ : Ck), seqK f (l ++ r) σ = (seqK f l σ).bind (seqK f r)
  | [], _, _ => rfl
  | a :: l, r, σ => by
    show (f a σ).bind _ = ((f a σ).bind _).bind _
    rw [Option.bind_assoc]
    congr 1
    funext σ'
    exact seqK_append f l r σ'
theorem run_seq : ∀ ss : Sts, ∀ σ, run ss σ = seqK runS ss.toList σ
  | .nil, σ => by simp only [run, Sts.toList, seqK]
  | .cons s r, σ => by simp only [run, Sts.toList, seqK]; congr 1; funext σ'; exact run_seq r σ'
theorem runC_seq : ∀ cs : Cs, ∀ σ, runC cs σ = seqK run (cs.rows.map Row.body) σ
  | .nil, σ => by simp only [runC, Cs.rows, List.map_nil, seqK]
  | .cons d b r, σ => by simp only [runC, Cs.rows, List.map_cons, seqK]; congr 1; funext σ'; exact runC_seq r σ'
noncomputable def leadIf : St → Ck → Option Ck
  | .brk l, σ => lead true l σ
  | .cont l, σ => lead false l σ
  | .ret, σ => some σ
  | .fall, σ => some σ
  | .call _, σ => some σ
  | .block _, σ => some σ
  | .if1 _, σ => some σ
  | .if2 _ _, σ => some σ
  | .forr _ _ _, σ => some σ
  | .range _ _, σ => some σ
  | .sw _ _ _, σ => some σ
noncomputable def kdOf : St → Kd
  | .forr .. => .for_
  | .sw k _ _ => .sw k
  | .ret => .range
  | .fall => .range
  | .call _ => .range
  | .brk _ => .range
  | .cont _ => .range
  | .block _ => .range
  | .if1 _ => .range
  | .if2 _ _ => .range
  | .range _ _ => .range
theorem runS_flat {s : St} (h : isLeft s = false) (σ : Ck) : runS s σ = (leadIf s σ).bind (seqK run (inners s)) := by
  cases s <;> first | cases h | skip
  all_goals simp only [runS, leadIf, inners, seqK, Option.bind_some]
  case if2 b o => congr 1; funext σ'; simp [run, Sts.one, runS]
  all_goals first | rfl | (cases run _ σ <;> rfl) | (cases lead _ _ σ <;> rfl)
theorem runS_left {s : St} (h : isLeft s = true) (σ : Ck) : runS s σ = (tell (labOf s) σ).bind fun σ => (seqK run (inners s) (pushed (labOf s) (kdOf s) σ)).map popped := by
  cases s <;> first | cases h | skip
  all_goals simp only [runS, labOf, inners, kdOf, seqK, runC_seq]
  all_goals congr 1; funext σ'
  all_goals cases run _ _ <;> rfl
noncomputable def checked (ss : Sts) : Bool := match run ss ⟨[], [], []⟩ with
  | none => false
  | some σ => σ.told.all fun i => decide (i ∈ σ.used)
section
variable {c : Cx} {μ : Mu} {ρ : Rho}
theorem Ev.ck {L : LC} {n : Str} {np : Pos} {name : Str} {pos : Pos} {P : Mu → AV → Prop} {D : Addr} (e : look ρ n = some (.v (.ref L.x))) (hi : CkI μ L) (hg : getA (ckAttrs L) name = some (.v (.ref D)))
    (hk : plainGet c.g.K 138 name = true ∧ hasDictIn c.g.K 138 = true ∧ findIn c.g.K (.ref 138) name = some Option.none) (h : P μ (.v (.ref D))) : Ev c μ ρ (.Attribute (.Name n np) name pos) P :=
  Ev.attr (Ev.name e ⟨_, _, _, _, _, rfl, hi, hg, hk, rfl, h⟩)
end
-- a break that leaves: both ways of telling it
mutual
theorem hb_ways (lab : Lab) : ∀ (ss : Sts) (ar : List (Lab × Kd)), hb lab ar.isEmpty ss = (ways ar ss).any (wayLeft lab)
  | .nil, ar => by simp only [hb, ways, List.any_nil]
  | .cons s r, ar => by simp only [hb, ways, List.any_append, hbS_ways lab s ar, hb_ways lab r ar]
theorem hbS_ways (lab : Lab) : ∀ (s : St) (ar : List (Lab × Kd)), hbS lab ar.isEmpty s = (waysS ar s).any (wayLeft lab)
  | .ret, ar | .fall, ar | .call _, ar => by simp only [hbS, waysS, List.any_nil]
  | .brk l, ar => by
    simp only [hbS, waysS, List.any_cons, List.any_nil, Bool.or_false, wayLeft, Bool.true_and]
    cases l with
    | none => simp
    | some i => simp
  | .cont l, ar => by simp only [hbS, waysS, List.any_cons, List.any_nil, wayLeft, Bool.false_and, Bool.or_false]
  | .block b, ar | .if1 b, ar => by simp only [hbS, waysS, hb_ways lab b ar]
  | .if2 b o, ar => by simp only [hbS, waysS, List.any_append, hb_ways lab b ar, hb_ways lab o ar]
  | .forr l c b, ar => by have h := hb_ways lab b (ar ++ [(l, .for_)]); rw [show (ar ++ [(l, Kd.for_)]).isEmpty = false by simp] at h; simp only [hbS, waysS, h]
  | .range l b, ar => by have h := hb_ways lab b (ar ++ [(l, .range)]); rw [show (ar ++ [(l, Kd.range)]).isEmpty = false by simp] at h; simp only [hbS, waysS, h]
  | .sw k l cs, ar => by have h := hbC_ways lab cs (ar ++ [(l, .sw k)]) (by simp); simp only [hbS, waysS, h]
theorem hbC_ways (lab : Lab) : ∀ (cs : Cs) (ar : List (Lab × Kd)), ar.isEmpty = false → hbC lab cs = (waysC ar cs).any (wayLeft lab)
  | .nil, ar, h => by simp only [hbC, waysC, List.any_nil]
  | .cons d b r, ar, h => by have h1 := hb_ways lab b ar; rw [h] at h1; simp only [hbC, waysC, List.any_append, h1, hbC_ways lab r ar h]
end
theorem hb_nil (lab : Lab) (b : Sts) : hb lab true b = (ways [] b).any (wayLeft lab) := hb_ways lab b []
-- the end of a body: both ways of telling it
mutual
theorem term_lends : ∀ ss : Sts, term ss = lends ss
  | .nil => by simp only [term, lends]
  | .cons s .nil => by simp only [term, lends, termS_lends s]
  | .cons s (.cons t r) => by simp only [term, lends, term_lends (.cons t r)]
theorem termS_lends : ∀ s : St, termS s = lendsS s
  | .ret | .fall | .call _ | .brk _ | .cont _ | .if1 _ | .range _ _ => by simp only [termS, lendsS]
  | .block b => by simp only [termS, lendsS, term_lends b]
  | .if2 b o => by simp only [termS, lendsS, term_lends b, term_lends o]
  | .forr l c b => by simp only [termS, lendsS, leftBy, parts, labOf, List.any_cons, List.any_nil, Bool.or_false, hb_nil]
  | .sw k l cs => by
    simp only [termS, lendsS, leftBy, parts, labOf, termC_lends l cs, Bool.and_assoc]
theorem termC_lends (l : Lab) : ∀ cs : Cs, termC l cs = (!((cs.rows.map Row.body).any fun b => (ways [] b).any (wayLeft l)) && lendsC cs)
  | .nil => by simp only [termC, lendsC, Cs.rows, List.map_nil, List.any_nil]; rfl
  | .cons d b r => by
    simp only [termC, lendsC, Cs.rows, List.map_cons, List.any_cons, termC_lends l r, term_lends b, hb_nil]
    generalize isFall b = x1
    generalize lends b = x2
    generalize (ways [] b).any (wayLeft l) = x3
    generalize ((List.map Row.body r.rows).any fun b => (ways [] b).any (wayLeft l)) = x4
    generalize lendsC r = x5
    revert x1 x2 x3 x4 x5
    decide
end
-- the checker in one line
noncomputable def addW (u : List (Fin 4)) (w : Way) : List (Fin 4) := match w.lab with
  | none => u
  | some i => addU u i
noncomputable def closed (W : List Way) (Ls : List (Fin 4)) (σ : Ck) : Option Ck := if W.all wayOk && decide ((σ.told ++ Ls).Nodup) then some ⟨σ.told ++ Ls, W.foldl addW σ.used, σ.opn⟩ else none
theorem closed_ok {W : List Way} {Ls : List (Fin 4)} {σ σ' : Ck} (h : closed W Ls σ = some σ') : W.all wayOk = true ∧ (σ.told ++ Ls).Nodup ∧ σ' = ⟨σ.told ++ Ls, W.foldl addW σ.used, σ.opn⟩ := by
  unfold closed at h
  split at h
  · rename_i q
    simp only [Bool.and_eq_true, decide_eq_true_eq] at q
    exact ⟨q.1, q.2, (Option.some.inj h).symm⟩
  · cases h
theorem closed_no {W : List Way} {Ls : List (Fin 4)} {σ : Ck} (h : closed W Ls σ = none) : ¬ (W.all wayOk = true ∧ (σ.told ++ Ls).Nodup) := by
  unfold closed at h
  split at h
  · cases h
  · rename_i q
    simpa only [Bool.and_eq_true, decide_eq_true_eq] using q
theorem closed_yes {W : List Way} {Ls : List (Fin 4)} {σ : Ck} (h : W.all wayOk = true ∧ (σ.told ++ Ls).Nodup) : closed W Ls σ = some ⟨σ.told ++ Ls, W.foldl addW σ.used, σ.opn⟩ := by
  unfold closed
  rw [if_pos (by simpa only [Bool.and_eq_true, decide_eq_true_eq] using h)]
theorem closed_not {W : List Way} {Ls : List (Fin 4)} {σ : Ck} (h : ¬ (W.all wayOk = true ∧ (σ.told ++ Ls).Nodup)) : closed W Ls σ = none := by
  unfold closed
  rw [if_neg (by simpa only [Bool.and_eq_true, decide_eq_true_eq] using h)]
theorem closed_comp {W₁ W₂ : List Way} {L₁ L₂ : List (Fin 4)} {σ : Ck} {f : Ck → Option Ck} (hf : ∀ σ', σ'.told.Nodup → σ'.opn = σ.opn → f σ' = closed W₂ L₂ σ') : (closed W₁ L₁ σ).bind f = closed (W₁ ++ W₂) (L₁ ++ L₂) σ := by
  cases h : closed W₁ L₁ σ with
  | none =>
    refine (closed_not fun q => closed_no h ⟨?_, ?_⟩).symm
    · have := q.1
      rw [List.all_append, Bool.and_eq_true] at this
      exact this.1
    · have := q.2
      rw [← List.append_assoc] at this
      exact (List.nodup_append.mp this).1
  | some σ' =>
    obtain ⟨h1, h2, rfl⟩ := closed_ok h
    show f _ = _
    rw [hf ⟨σ.told ++ L₁, W₁.foldl addW σ.used, σ.opn⟩ h2 rfl]
    by_cases q : W₂.all wayOk = true ∧ ((σ.told ++ L₁) ++ L₂).Nodup
    · rw [closed_yes (σ := ⟨σ.told ++ L₁, W₁.foldl addW σ.used, σ.opn⟩) q, closed_yes ⟨by rw [List.all_append, h1, q.1]; rfl, by rw [← List.append_assoc]; exact q.2⟩]
      simp [List.foldl_append]
    · rw [closed_not (σ := ⟨σ.told ++ L₁, W₁.foldl addW σ.used, σ.opn⟩) q]
      refine (closed_not fun z => q ⟨?_, ?_⟩).symm
      · have := z.1
        rw [List.all_append, Bool.and_eq_true] at this
        exact this.2
      · have := z.2
        rw [← List.append_assoc] at this
        exact this
theorem closed_nil {σ : Ck} (h : σ.told.Nodup) : closed [] [] σ = some σ := by
  rw [closed_yes ⟨rfl, by simpa using h⟩]; simp
theorem leads_ok (brk : Bool) (l : Lab) (σ : Ck) : wayOk ⟨brk, l, σ.opn⟩ = !(leads brk l σ).isEmpty := by
  unfold wayOk goalsOf leads
  dsimp only
  generalize (σ.opn.filter fun p => brk || p.2.isLoop) = gs
  cases l with
  | none =>
    simp only [BEq.rfl, Bool.true_or, Bool.and_true, List.isEmpty_map]
    rw [List.filter_eq_self.mpr (by simp)]
  | some i =>
    have e : ((some i : Lab) == none) = false := rfl
    simp only [e, Bool.false_or, List.isEmpty_map]
    induction gs with
    | nil => rfl
    | cons a r ih =>
      rw [List.filter_cons, List.map_cons, List.contains_cons]
      cases h : (a.1 == some i) with
      | true =>
        have h' : ((some i : Lab) == a.1) = true := by rw [Bool.beq_comm]; exact h
        simp [h']
      | false =>
        have h' : ((some i : Lab) == a.1) = false := by rw [Bool.beq_comm]; exact h
        simp only [h', Bool.false_or, Bool.false_eq_true, if_false]
        rw [← ih]
        cases r <;> simp
theorem lead_closed {brk : Bool} {l : Lab} {σ : Ck} (h : σ.told.Nodup) : lead brk l σ = closed [⟨brk, l, σ.opn⟩] [] σ := by
  have e := leads_ok brk l σ
  unfold lead
  cases q : (leads brk l σ).isEmpty with
  | true =>
    rw [q] at e
    rw [if_pos rfl, closed_not]
    rintro ⟨z, _⟩
    simp [e] at z
  | false =>
    rw [q] at e
    rw [if_neg (by simp), closed_yes ⟨by simp [e], by simpa using h⟩]
    cases l <;> simp [addW]
noncomputable def toldOf : Lab → List (Fin 4)
  | none => []
  | some i => [i]
theorem tell_closed {l : Lab} {σ : Ck} (h : σ.told.Nodup) : tell l σ = closed [] (toldOf l) σ := by
  cases l with
  | none => exact (closed_nil h).symm
  | some i =>
    unfold tell
    dsimp only
    by_cases q : i ∈ σ.told
    · rw [if_pos q, closed_not]
      rintro ⟨_, z⟩
      exact (List.nodup_append.mp z).2.2 i q i (by simp [toldOf]) rfl
    · rw [if_neg q, closed_yes ⟨rfl, List.nodup_append.mpr ⟨h, by simp [toldOf], fun a ha b hb e => ?_⟩⟩]
      · rfl
      · have : b = i := by simpa [toldOf] using hb
        exact q (this ▸ e ▸ ha)
theorem ring_closed {l : Lab} {k : Kd} {σ : Ck} {f : Ck → Option Ck} {W : List Way} {Ls : List (Fin 4)} (h : σ.told.Nodup) (hf : ∀ σ', σ'.told.Nodup → σ'.opn = σ.opn ++ [(l, k)] → f σ' = closed W Ls σ') :
    ((tell l σ).bind fun σ => (f (pushed l k σ)).map popped) = closed W (toldOf l ++ Ls) σ := by
  rw [tell_closed h]
  refine closed_comp (W₁ := []) fun σ' h' o' => ?_
  rw [hf (pushed l k σ') h' (by show σ'.opn ++ _ = _; rw [o'])]
  cases q : closed W Ls (pushed l k σ') with
  | none =>
    have := closed_no q
    exact (closed_not (σ := σ') this).symm
  | some σ₂ =>
    obtain ⟨q1, q2, rfl⟩ := closed_ok q
    rw [closed_yes (σ := σ') ⟨q1, q2⟩]
    show some (popped _) = _
    unfold popped pushed
    simp
mutual
theorem run_closed : ∀ (ss : Sts) (σ : Ck), σ.told.Nodup → run ss σ = closed (ways σ.opn ss) (labels ss) σ
  | .nil, σ, h => by simp only [run, ways, labels]; exact (closed_nil h).symm
  | .cons s r, σ, h => by
    simp only [run, ways, labels]
    rw [runS_closed s σ h]
    exact closed_comp fun σ' h' o' => by rw [run_closed r σ' h', o']
theorem runS_closed : ∀ (s : St) (σ : Ck), σ.told.Nodup → runS s σ = closed (waysS σ.opn s) (labelsS s) σ
  | .ret, σ, h | .fall, σ, h | .call _, σ, h => by simp only [runS, waysS, labelsS]; exact (closed_nil h).symm
  | .brk l, σ, h | .cont l, σ, h => by simp only [runS, waysS, labelsS]; exact lead_closed h
  | .block b, σ, h | .if1 b, σ, h => by simp only [runS, waysS, labelsS]; exact run_closed b σ h
  | .if2 b o, σ, h => by
    simp only [runS, waysS, labelsS]
    rw [run_closed b σ h]
    exact closed_comp fun σ' h' o' => by rw [run_closed o σ' h', o']
  | .forr l c b, σ, h => by
    have e : toldL (.forr l c b) = toldOf l := by cases l <;> rfl
    simp only [runS, waysS, labelsS, e]
    exact ring_closed h fun σ' h' o' => by rw [run_closed b σ' h', o']
  | .range l b, σ, h => by
    have e : toldL (.range l b) = toldOf l := by cases l <;> rfl
    simp only [runS, waysS, labelsS, e]
    exact ring_closed h fun σ' h' o' => by rw [run_closed b σ' h', o']
  | .sw k l cs, σ, h => by
    have e : toldL (.sw k l cs) = toldOf l := by cases l <;> rfl
    simp only [runS, waysS, labelsS, e]
    exact ring_closed h fun σ' h' o' => by rw [runC_closed cs σ' h', o']
theorem runC_closed : ∀ (cs : Cs) (σ : Ck), σ.told.Nodup → runC cs σ = closed (waysC σ.opn cs) (labelsC cs) σ
  | .nil, σ, h => by simp only [runC, waysC, labelsC]; exact (closed_nil h).symm
  | .cons d b r, σ, h => by
    simp only [runC, waysC, labelsC]
    rw [run_closed b σ h]
    exact closed_comp fun σ' h' o' => by rw [runC_closed r σ' h', o']
end
theorem mem_addW (i : Fin 4) : ∀ (W : List Way) (u : List (Fin 4)), i ∈ W.foldl addW u ↔ i ∈ u ∨ (W.any fun w => w.lab == some i) = true
  | [], u => by simp
  | w :: r, u => by
    rw [List.foldl_cons, mem_addW i r, List.any_cons, Bool.or_eq_true, ← or_assoc]
    refine or_congr ?_ Iff.rfl
    unfold addW
    cases h : w.lab with
    | none => simp
    | some j =>
      unfold addU
      have e : ((some j : Lab) == some i) = true ↔ j = i := by simp
      rw [e]
      show i ∈ (if j ∈ u then u else u ++ [j]) ↔ _
      split
      · rename_i hj
        exact ⟨.inl, fun q => q.elim id fun q => q ▸ hj⟩
      · simp [eq_comm]
theorem checked_right (ss : Sts) : checked ss = right ss := by
  have e := run_closed ss ⟨[], [], []⟩ List.nodup_nil
  unfold checked right
  cases q : closed (ways [] ss) (labels ss) ⟨[], [], []⟩ with
  | none =>
    rw [show run ss ⟨[], [], []⟩ = none from e.trans q]
    have z := closed_no q
    simp only [List.nil_append] at z
    by_cases z1 : (ways [] ss).all wayOk = true
    · have z2 : ¬ (labels ss).Nodup := fun h => z ⟨z1, h⟩
      simp [z2]
    · have z1 : (ways [] ss).all wayOk = false := by simpa using z1
      rw [z1]; rfl
  | some σ =>
    rw [show run ss ⟨[], [], []⟩ = some σ from e.trans q]
    obtain ⟨z1, z2, rfl⟩ := closed_ok q
    simp only [List.nil_append] at z2 ⊢
    rw [z1, decide_eq_true z2]
    simp only [Bool.true_and]
    congr 1
    funext i
    rw [← Bool.coe_iff_coe, decide_eq_true_eq, mem_addW]
    simp
/-- what the law counts as due -/
noncomputable def dueOk (l : Lab) (w : Way) : Bool := (w.lab == l && l != none) || (w.lab == none && w.around.isEmpty)
theorem due_left (l : Lab) (w : Way) : (w.brk && dueOk l w) = wayLeft l w := by
  obtain ⟨b, wl, wa⟩ := w
  unfold dueOk wayLeft
  dsimp only
  cases wl with
  | none => cases l <;> simp
  | some i =>
    cases l with
    | none => simp
    | some j =>
      have : ((some j : Lab) != none) = true := rfl
      simp [this]
theorem flat_filter {α : Type} (f : α → PyData) (q : α → Bool) (l : List α) : (l.flatMap fun p => if q p = true then [f p] else []) = (l.filter q).map f := by
  induction l with
  | nil => rfl
  | cons a r ih =>
    rw [List.flatMap_cons, ih, List.filter_cons]
    cases h : q a <;> simp
theorem ck_lead_ok (g : Gd) (L : LC) (σ : Ck) (μ : Mu) (brk : Bool) (l : Lab) (hσ : σ.opn.length ≤ 1000) (hu : σ.used.length ≤ 1000) :
    SatR g 4 (.ref 128) [.v (.ref L.x), .d (enc (if brk then .brk l else .cont l))] (ckMu L σ μ) (lead brk l σ = none) fun ν a => ∃ σ', lead brk l σ = some σ' ∧ ν = ckMu L σ' μ ∧ a = .d .none := by
  refine' SatR.fn ["self", "statement"] ?h0 ?h1 ?h2 ?h3 ?h4 ?_
  walk_at "fn"
  intro A E Lf hbad
  refine Ex.nodup fun nd => ?_
  have ok := LC.ok nd
  have hs : enc (if brk then .brk l else .cont l) = .tuple [.str (if brk then "break" else "continue"), .int 0, encL l] := by cases brk <;> rfl
  rw [hs]
  refine Ex.seq (fun ν ρ' => ν = ckMu L σ μ ∧ LookAll [("kind", .d (.str (if brk then "break" else "continue"))), ("spot", .d (.int 0)), ("label", .d (encL l)), ("self", .v (.ref L.x))] ρ') ?_ ?_
  · refine X1.putT rfl rfl ?_
    walk_at "w"
    exact ⟨rfl, rfl, rfl, rfl, rfl, trivial⟩
  rintro ν ρ' ⟨rfl, hl'⟩
  refine Ex.weak hl' ?_
  refine Ex.pinL (A := L.O) (ds := σ.opn.map encA) (.head _) fun o => ?_
  rw [ckSetO ok]
  have hI : CkI ((L.O, .listP (σ.opn.map encA) o) :: (ckMu L σ μ).tail) L := ⟨.tail _ (.tail _ (.tail _ (.head _))), .tail _ (.tail _ (.tail _ (.tail _ (.head _))))⟩
  refine Ex.seq (fun ν' ρ' => ν' = (L.O, .listP (σ.opn.map encA) o) :: (ckMu L σ μ).tail ∧ LookAll [("rows", .d (.list ((σ.opn.filter fun p => brk || p.2.isLoop).map encA))), ("kind", .d (.str (if brk then "break" else "continue"))), ("spot", .d (.int 0)), ("label", .d (encL l)), ("self", .v (.ref L.x))] ρ') ?_ ?_
  · refine X1.putCompPK (cl := [("kind", Lf + 1)]) [(L.O, .listP (σ.opn.map encA) o)] (fun p hp => by rw [List.mem_singleton.mp hp]; exact .head _) encA σ.opn (fun p => if (brk || p.2.isLoop) = true then [encA p] else []) ?ok1 ⟨rfl, rfl, .inl rfl⟩ rfl (by lia) ?it1 ?st1 ?p1
    case ok1 => walk_at "cok"
    case it1 =>
      refine ItP.lst ?_
      walk_at "mCk"
      exact ⟨_, _, o, rfl, .head _, .head _, rfl, by rw [List.map_map]; rfl⟩
    case st1 =>
      rintro C ⟨pl, pk⟩ hp
      unfold encA
      cases brk with
      | true =>
        walk_at "w"
        rfl
      | false =>
        simp only [Bool.false_eq_true, ↓reduceIte]
        cases pk with
        | sw k => cases k <;> dsimp only [Kd.str, Kd.isLoop] <;> (walk_at "w") <;> (try rfl) <;> (try exact ⟨rfl, rfl⟩)
        | _ => dsimp only [Kd.str, Kd.isLoop] <;> (walk_at "w") <;> (try rfl) <;> (try exact ⟨rfl, rfl⟩)
    case p1 =>
      rw [flat_filter]
      exact ⟨rfl, rfl, rfl, rfl, rfl, rfl, trivial⟩
  rintro ν ρ' ⟨rfl, hl'⟩
  refine Ex.weak hl' ?_
  refine Ex.unpinL (A := L.O) (ds := σ.opn.map encA) (o := o) (.head _) ?_
  rw [show muSet ((L.O, .listP (σ.opn.map encA) o) :: (ckMu L σ μ).tail) L.O (.list (σ.opn.map encA)) = ckMu L σ μ by rw [← ckSetO ok, muSet_set, ckO ok]]
  refine Ex.seq (fun ν' ρ' => ν' = ckMu L { σ with used := match l with | none => σ.used | some i => addU σ.used i } μ ∧ LookAll [("rows", .d (.list ((leads brk l σ).map encA))), ("kind", .d (.str (if brk then "break" else "continue"))), ("spot", .d (.int 0))] ρ') ?_ ?_
  · cases l with
    | none =>
      have e0 : leads brk none σ = σ.opn.filter fun p => brk || p.2.isLoop := by unfold leads; simp
      rw [e0]
      walk_at "w"
      exact ⟨rfl, rfl, rfl, rfl, trivial⟩
    | some i =>
      have hul : (useds σ.used).length ≤ 1000000 := by unfold useds; rw [List.length_map]; lia
      walk_at "w"
      refine SetI.dict (A := L.D2) (es := useds σ.used) (x := labStr i) (d := .bool true) (.tail _ (.head _)) hul ?_
      rw [ckU ok]
      refine Ex.cons (X1.putCompP (cl := [("label", Lf + 2)]) encA (σ.opn.filter fun p => brk || p.2.isLoop) (fun p => if (p.1 == some i) = true then [encA p] else []) ?ok1 ⟨rfl, rfl, .inl rfl⟩ rfl ?hn1 ?it1 ?st1 ?p1)
      case ok1 => walk_at "cok"
      case hn1 => have := List.length_filter_le (fun p : Lab × Kd => brk || p.2.isLoop) σ.opn; lia
      case it1 =>
        refine It.lst ?_
        walk_at "w"
        rw [List.map_map]; exact ⟨rfl, rfl⟩
      case st1 =>
        rintro C ⟨pl, pk⟩ hp
        unfold encA
        walk_at "w"
        cases hc : (pl == some i) with
        | true =>
          walk_at "w"
          rfl
        | false =>
          walk_at "w"
      case p1 =>
        rw [flat_filter encA (fun p : Lab × Kd => p.1 == some i)]
        have e0 : leads brk (some i) σ = (σ.opn.filter fun p => brk || p.2.isLoop).filter fun p => p.1 == some i := by unfold leads; simp
        rw [e0]
        walk_at "w"
        exact ⟨rfl, rfl, rfl, rfl, trivial⟩
  rintro ν ρ' ⟨rfl, hl'⟩
  refine Ex.weak hl' ?_
  have hsh := lay_around (leads brk l σ)
  walk_at "w"
  rw [eqv_nil]
  refine iteB ?_ ?_ <;> intro hc
  · have hn : lead brk l σ = none := by
      unfold lead
      rw [if_pos (by simpa using hc)]
    obtain ⟨hF, hN⟩ := hbad hn
    refine Ex.cons (X1.raise hN (Nat.le_of_ble_eq_true rfl) rfl rfl ?_ rfl rfl)
    have hk : ("a " : Str).length + (if brk = true then ("break" : Str) else "continue").length ≤ 1000000 := by cases brk <;> decide +kernel
    have hk2 : (("a " : Str) ++ (if brk = true then ("break" : Str) else "continue")).length + (" that leads nowhere" : Str).length ≤ 1000000 := by cases brk <;> decide +kernel
    walk_at "w"
    exact ⟨_, _, rfl⟩
  · walk_at "w"
    exact ⟨_, by unfold lead; exact if_neg (by simpa using hc), rfl, rfl⟩
theorem len_a : ∀ i : Fin 4, ("the label " : Str).length + (labStr i).length ≤ 1000000 := by decide +kernel
theorem len_b : ∀ i : Fin 4, (("the label " : Str) ++ labStr i).length + (" is not used" : Str).length ≤ 1000000 := by decide +kernel
theorem len_c : ∀ i : Fin 4, (("the label " : Str) ++ labStr i).length + (" is told twice" : Str).length ≤ 1000000 := by decide +kernel
theorem getE_val {d : PyData} {i : Fin 4} : ∀ {l : List (Fin 4)}, i ∈ l → getE (l.map fun j => (labStr j, d)) (labStr i) = some d
  | j :: r, h => by
    unfold getE
    rw [List.map_cons, List.find?_cons]
    by_cases q : labStr j = labStr i
    · simp [q]
    · have h2 : i ∈ r := by
        rcases List.mem_cons.mp h with rfl | h
        · exact absurd rfl q
        · exact h
      simp only [q, decide_false]
      exact getE_val h2
theorem ck_used_ok (g : Gd) (L : LC) (σ : Ck) (μ : Mu) :
    SatR g 4 (.ref 135) [.v (.ref L.x)] (ckMu L σ μ) ((σ.told.all fun i => decide (i ∈ σ.used)) = false) fun ν a => (σ.told.all fun i => decide (i ∈ σ.used)) = true ∧ ν = ckMu L σ μ ∧ a = .d .none := by
  refine' SatR.fn ["self"] ?h0 ?h1 ?h2 ?h3 ?h4 ?_
  walk_at "fn"
  intro A E Lf hbad
  refine Ex.nodup fun nd => ?_
  have ok := LC.ok nd
  refine Ex.pinD (A := L.D1) (ds := tolds σ.told) (.tail _ (.tail _ (.head _))) fun o => ?_
  rw [ckSetD1 ok]
  have hI : CkI ((L.O, .list (σ.opn.map encA)) :: (L.D2, .dict (useds σ.used)) :: (L.D1, .dictP (tolds σ.told) o) :: (ckMu L σ μ).tail.tail.tail) L := ⟨.tail _ (.tail _ (.tail _ (.head _))), .tail _ (.tail _ (.tail _ (.tail _ (.head _))))⟩
  refine Ex.seq (fun ν ρ' => ν = ((L.O, .list (σ.opn.map encA)) :: (L.D2, .dict (useds σ.used)) :: (L.D1, .dictP (tolds σ.told) o) :: (ckMu L σ μ).tail.tail.tail) ∧ (σ.told.all fun i => decide (i ∈ σ.used)) = true) ?_ ?_
  · refine X1.forLP [(L.D1, .dictP (tolds σ.told) o)] (fun i => .str (labStr i)) σ.told (fun pre μ₁ ρ₁ => μ₁ = ((L.O, .list (σ.opn.map encA)) :: (L.D2, .dict (useds σ.used)) :: (L.D1, .dictP (tolds σ.told) o) :: (ckMu L σ μ).tail.tail.tail) ∧ (pre.all fun i => decide (i ∈ σ.used)) = true ∧ LookAll [("self", .v (.ref L.x))] ρ₁) ?it ?hκ ?st ?fi
    case it =>
      refine ItP.dct ?_
      walk_at "k1"
      exact ⟨_, _, o, rfl, .tail _ (.tail _ (.head _)), .head _, by unfold tolds; rw [List.map_map]; rfl, rfl, rfl, rfl, trivial⟩
    case hκ =>
      rintro pre μ₁ ρ₁ ⟨rfl, _⟩ p hp
      rw [List.mem_singleton.mp hp]; exact .tail _ (.tail _ (.head _))
    case fi =>
      rintro μ₁ ρ₁ ⟨rfl, h, _⟩
      exact ⟨rfl, h⟩
    case st =>
      rintro pre i post μ₁ ρ₁ hs ⟨rfl, hpre, hl⟩
      refine As.weak hl ?_
      have h1 : ("the label " : Str).length + (labStr i).length ≤ 1000000 := len_a i
      have h2 : (("the label " : Str) ++ labStr i).length + (" is not used" : Str).length ≤ 1000000 := len_b i
      have hg := getE_val (d := .int 0) (i := i) (l := σ.told) (by rw [hs]; simp)
      walk_at "w"
      unfold useds
      rw [getE_told]
      refine iteB ?_ ?_ <;> intro hc
      · obtain ⟨hF, hN⟩ := hbad (by rw [hs]; simp at hc; simp [hc])
        refine Ex.cons (X1.raise hN (Nat.le_of_ble_eq_true rfl) rfl rfl ?_ rfl rfl)
        walk_at "w"
        refine Op2.itemDP (A := L.D1) (es := tolds σ.told) (o := o) (d := .int 0) (.tail _ (.tail _ (.head _))) (by intros; exact rfl) hg ?_
        walk_at "w"
        exact ⟨_, _, rfl⟩
      · walk_at "w"
        exact ⟨rfl, by simp at hc; simp [List.all_append, hpre, hc], rfl, trivial⟩
  · rintro ν ρ' ⟨rfl, h⟩
    refine Ex.unpinD (A := L.D1) (ds := tolds σ.told) (o := o) (.tail _ (.tail _ (.head _))) ?_
    rw [← ckSetD1 ok, muSet_set, ckSetD1 ok]
    exact Ex.nil ⟨h, rfl, rfl⟩
theorem length_le4 {l : List (Fin 4)} (h : l.Nodup) : l.length ≤ 4 := by
  have key : ∀ l : List (Fin 4), l.length = l.count 0 + l.count 1 + l.count 2 + l.count 3 := fun l => by
    induction l with
    | nil => rfl
    | cons a r ih =>
      have : ∀ a : Fin 4, (if a = 0 then 1 else 0) + (if a = 1 then 1 else 0) + (if a = 2 then 1 else 0) + (if a = 3 then 1 else 0) = 1 := by decide
      have := this a
      simp only [List.length_cons, List.count_cons, ih, beq_iff_eq]
      lia
  have c := List.nodup_iff_count.mp h
  have := key l
  have c0 := c 0; have c1 := c 1; have c2 := c 2; have c3 := c 3
  lia
structure Ck.Ok (σ : Ck) : Prop where
  told : σ.told.Nodup
  used : σ.used.Nodup
theorem addU_nodup {l : List (Fin 4)} (h : l.Nodup) (i : Fin 4) : (addU l i).Nodup := by
  unfold addU
  split
  · exact h
  · rename_i q
    exact List.nodup_append.mpr ⟨h, by simp, fun a ha b hb e => by rw [List.mem_singleton.mp hb] at e; exact q (e ▸ ha)⟩
theorem lead_ok {brk : Bool} {l : Lab} {σ σ' : Ck} (e : lead brk l σ = some σ') (h : σ.Ok) : σ'.Ok ∧ σ'.opn = σ.opn := by
  unfold lead at e
  split at e
  · cases e
  · cases e
    refine ⟨⟨h.told, ?_⟩, rfl⟩
    cases l with
    | none => exact h.used
    | some i => exact addU_nodup h.used i
theorem tell_ok {l : Lab} {σ σ' : Ck} (e : tell l σ = some σ') (h : σ.Ok) : σ'.Ok ∧ σ'.opn = σ.opn := by
  cases l with
  | none => cases e; exact ⟨h, rfl⟩
  | some i =>
    unfold tell at e
    dsimp only at e
    split at e
    · cases e
    · rename_i q
      cases e
      exact ⟨⟨List.nodup_append.mpr ⟨h.told, by simp, fun a ha b hb e => by rw [List.mem_singleton.mp hb] at e; exact q (e ▸ ha)⟩, h.used⟩, rfl⟩
theorem ring_ok {l : Lab} {k : Kd} {σ σ' : Ck} {f : Ck → Option Ck} (hf : ∀ σ σ', f σ = some σ' → σ.Ok → σ'.Ok ∧ σ'.opn = σ.opn) (e : ((tell l σ).bind fun σ => (f (pushed l k σ)).map popped) = some σ') (h : σ.Ok) : σ'.Ok ∧ σ'.opn = σ.opn := by
  obtain ⟨σ₁, e1, e⟩ := Option.bind_eq_some_iff.mp e
  obtain ⟨σ₂, e2, rfl⟩ := Option.map_eq_some_iff.mp e
  obtain ⟨h1, o1⟩ := tell_ok e1 h
  obtain ⟨h2, o2⟩ := hf _ _ e2 ⟨h1.told, h1.used⟩
  refine ⟨⟨h2.told, h2.used⟩, ?_⟩
  show σ₂.opn.dropLast = _
  rw [o2]
  show (σ₁.opn ++ [(l, k)]).dropLast = _
  rw [List.dropLast_concat, o1]
mutual
theorem run_ok : ∀ (ss : Sts) (σ σ' : Ck), run ss σ = some σ' → σ.Ok → σ'.Ok ∧ σ'.opn = σ.opn
  | .nil, σ, σ', e, h => by simp only [run] at e; cases e; exact ⟨h, rfl⟩
  | .cons s r, σ, σ', e, h => by
    simp only [run] at e
    obtain ⟨σ₁, e1, e2⟩ := Option.bind_eq_some_iff.mp e
    obtain ⟨h1, o1⟩ := runS_ok s _ _ e1 h
    obtain ⟨h2, o2⟩ := run_ok r _ _ e2 h1
    exact ⟨h2, o2.trans o1⟩
theorem runS_ok : ∀ (s : St) (σ σ' : Ck), runS s σ = some σ' → σ.Ok → σ'.Ok ∧ σ'.opn = σ.opn
  | .ret, σ, σ', e, h | .fall, σ, σ', e, h | .call _, σ, σ', e, h => by simp only [runS] at e; cases e; exact ⟨h, rfl⟩
  | .brk l, σ, σ', e, h | .cont l, σ, σ', e, h => by simp only [runS] at e; exact lead_ok e h
  | .block b, σ, σ', e, h | .if1 b, σ, σ', e, h => by simp only [runS] at e; exact run_ok b _ _ e h
  | .if2 b o, σ, σ', e, h => by
    simp only [runS] at e
    obtain ⟨σ₁, e1, e2⟩ := Option.bind_eq_some_iff.mp e
    obtain ⟨h1, o1⟩ := run_ok b _ _ e1 h
    obtain ⟨h2, o2⟩ := run_ok o _ _ e2 h1
    exact ⟨h2, o2.trans o1⟩
  | .forr l _ b, σ, σ', e, h | .range l b, σ, σ', e, h => by simp only [runS] at e; exact ring_ok (fun σ σ' e h => run_ok b σ σ' e h) e h
  | .sw k l cs, σ, σ', e, h => by simp only [runS] at e; exact ring_ok (fun σ σ' e h => runC_ok cs σ σ' e h) e h
theorem runC_ok : ∀ (cs : Cs) (σ σ' : Ck), runC cs σ = some σ' → σ.Ok → σ'.Ok ∧ σ'.opn = σ.opn
  | .nil, σ, σ', e, h => by simp only [runC] at e; cases e; exact ⟨h, rfl⟩
  | .cons _ b r, σ, σ', e, h => by
    simp only [runC] at e
    obtain ⟨σ₁, e1, e2⟩ := Option.bind_eq_some_iff.mp e
    obtain ⟨h1, o1⟩ := run_ok b _ _ e1 h
    obtain ⟨h2, o2⟩ := runC_ok r _ _ e2 h1
    exact ⟨h2, o2.trans o1⟩
end
theorem seqK_ok {α : Type} {f : α → Ck → Option Ck} (hf : ∀ a σ σ', f a σ = some σ' → σ.Ok → σ'.Ok ∧ σ'.opn = σ.opn) : ∀ (l : List α) (σ σ' : Ck), seqK f l σ = some σ' → σ.Ok → σ'.Ok ∧ σ'.opn = σ.opn
  | [], σ, σ', e, h => by cases e; exact ⟨h, rfl⟩
  | a :: r, σ, σ', e, h => by
    obtain ⟨σ₁, e1, e2⟩ := Option.bind_eq_some_iff.mp e
    obtain ⟨h1, o1⟩ := hf a _ _ e1 h
    obtain ⟨h2, o2⟩ := seqK_ok hf r _ _ e2 h1
    exact ⟨h2, o2.trans o1⟩
theorem seqK_step {α : Type} {f : α → Ck → Option Ck} {pre : List α} {a : α} {σ σ' : Ck} (h : seqK f pre σ = some σ') : seqK f (pre ++ [a]) σ = f a σ' := by
  rw [seqK_append, h]
  show (f a σ').bind some = _
  cases f a σ' <;> rfl
theorem seqK_bad {α : Type} {f : α → Ck → Option Ck} {pre post : List α} {a : α} {σ σ' : Ck} (h : seqK f pre σ = some σ') (k : f a σ' = none) : seqK f (pre ++ a :: post) σ = none := by
  rw [seqK_append, h]
  show (f a σ').bind _ = _
  rw [k]; rfl
noncomputable def StmtOk (g : Gd) (L : LC) (n : Nat) : Prop := ∀ (s : St) (σ : Ck) (μ : Mu), hgtS s ≤ n → sizeS s ≤ 2000 → σ.Ok → σ.opn.length + n ≤ 500 →
  SatR g (2 * n + 5) (.ref 123) [.v (.ref L.x), .d (enc s)] (ckMu L σ μ) (runS s σ = none) fun ν a => ∃ σ', runS s σ = some σ' ∧ ν = ckMu L σ' μ ∧ a = .d .none
noncomputable def AllOk (g : Gd) (L : LC) (n : Nat) : Prop := ∀ (ss : Sts) (σ : Ck) (μ : Mu), hgt ss ≤ n → size ss ≤ 2000 → σ.Ok → σ.opn.length + n ≤ 500 →
  SatR g (2 * n + 6) (.ref 116) [.v (.ref L.x), .d (.tuple (encs ss))] (ckMu L σ μ) (run ss σ = none) fun ν a => ∃ σ', run ss σ = some σ' ∧ ν = ckMu L σ' μ ∧ a = .d .none
theorem ck_all_of {g : Gd} {L : LC} {n : Nat} (h : StmtOk g L n) : AllOk g L n := fun ss σ μ hn hz hσ ho => by
  refine' SatR.fn ["self", "statements"] ?h0 ?h1 ?h2 ?h3 ?h4 ?_
  walk_at "fn"
  intro A E Lf hbad
  rw [run_seq] at hbad ⊢
  refine Ex.cons (X1.forL enc ss.toList (fun pre μ₁ ρ₁ => ∃ σ', seqK runS pre σ = some σ' ∧ μ₁ = ckMu L σ' μ ∧ LookAll [("self", .v (.ref L.x))] ρ₁) ?it ?st ?fi)
  case it =>
    refine It.tup ?_
    walk_at "w"
    exact ⟨by rw [encs_toList, List.map_map]; rfl, σ, rfl, rfl, rfl, trivial⟩
  case fi =>
    rintro μ₁ ρ₁ ⟨σ', e, rfl, hl⟩
    exact Ex.nil ⟨σ', e, rfl, rfl⟩
  case st =>
    rintro pre s post μ₁ ρ₁ hs ⟨σ', e, rfl, hl⟩
    refine As.weak hl ?_
    have hmem : s ∈ ss.toList := by rw [hs]; simp
    have hsn : hgtS s ≤ n := Nat.le_trans (hgt_mem hmem) hn
    have hsz : sizeS s ≤ 2000 := by have := size_mem hmem; lia
    obtain ⟨h1, o1⟩ := seqK_ok runS_ok _ _ _ e hσ
    walk_at "w"
    refine Ev.methI (Ev.name rfl ⟨_, _, _, _, 123, rfl, ckI, rfl, ⟨rfl, rfl, rfl, rfl⟩, ?_⟩) rfl rfl
    walk_at "w"
    refine SatR.use (h s σ' μ hsn hsz h1 (by rw [o1]; exact ho)) rfl (Nat.le_refl _) (fun hb => ?_) fun ν a hp => ?_
    · exact (hbad (by rw [hs]; exact seqK_bad e hb)).1
    · obtain ⟨σ₂, e2, rfl, rfl⟩ := hp
      walk_at "w"
      exact ⟨σ₂, (seqK_step e).trans e2, rfl, rfl, trivial⟩
theorem kind_left {s : St} (h : isLeft s = true) : kindStr s = (kdOf s).str := by
  cases s <;> first | (cases h; done) | rfl
theorem jump_left {s : St} (h : isJump s = true) : isLeft s = false ∧ inners s = [] ∧ ∃ (b : Bool) (l : Lab), s = (if b then .brk l else .cont l) ∧ ∀ σ, leadIf s σ = lead b l σ := by
  cases s <;> first | (cases h; done) | skip
  · exact ⟨rfl, rfl, true, _, rfl, fun _ => rfl⟩
  · exact ⟨rfl, rfl, false, _, rfl, fun _ => rfl⟩
theorem leadIf_left {s : St} (h : isJump s = false) (σ : Ck) : leadIf s σ = some σ := by
  cases s <;> first | (cases h; done) | rfl
theorem ck_stmt_of {g : Gd} {L : LC} {n : Nat} (h : ∀ m, n = m + 1 → AllOk g L m) : StmtOk g L n := fun s σ μ hn hz hσ ho => by
  refine' SatR.fn ["self", "statement"] ?h0 ?h1 ?h2 ?h3 ?h4 ?_
  walk_at "fn"
  intro A E Lf hbad
  refine Ex.nodup fun nd => ?_
  have ok := LC.ok nd
  obtain ⟨ds, hds⟩ := enc_kind s
  have hil := inner_lists_ok g s (Nat.le_trans (inners_len s) hz)
  have hin : ∀ b ∈ inners s, ∃ m, n = m + 1 ∧ hgt b ≤ m ∧ size b ≤ 2000 := fun b hb => by
    have h1 := hgt_inner hb
    have h2 := size_inner hb
    exact ⟨n - 1, by lia, by lia, by lia⟩
  rw [hds] at hil ⊢
  refine Ex.seq (fun ν ρ' => ν = ckMu L σ μ ∧ LookAll [("kind", .d (.str (kindStr s))), ("statement", .d (.tuple (.str (kindStr s) :: .int 0 :: ds))), ("self", .v (.ref L.x))] ρ') ?_ ?_
  · walk_at "w"
    walk_at "w"
    exact ⟨rfl, rfl, rfl, rfl, trivial⟩
  rintro ν ρ' ⟨rfl, hl'⟩
  refine Ex.weak hl' ?_
  have hj := kind_jump s
  have hks := kind_sh s
  have hlp := kind_loop s
  refine Ex.seq (fun ν ρ' => ∃ σ₁, leadIf s σ = some σ₁ ∧ ν = ckMu L σ₁ μ ∧ LookAll [("kind", .d (.str (kindStr s))), ("statement", .d (.tuple (.str (kindStr s) :: .int 0 :: ds))), ("self", .v (.ref L.x))] ρ') ?_ ?_
  · walk_at "w"
    rw [hj]
    refine iteB ?_ ?_ <;> intro hc
    · obtain ⟨h1, h2, b, l, hs, hle⟩ := jump_left hc
      walk_at "w"
      refine Ev.methI (Ev.name rfl ⟨_, _, _, _, 128, rfl, ckI, rfl, ⟨rfl, rfl, rfl, rfl⟩, ?_⟩) rfl rfl
      walk_at "w"
      have hlead := ck_lead_ok g L σ μ b l (by lia) (by have := length_le4 hσ.used; lia)
      rw [← hs, hds] at hlead
      refine SatR.use hlead rfl (by show 4 ≤ 2 * n + 4; lia) (fun hb => ?_) fun ν a hp => ?_
      · refine (hbad ?_).1
        rw [runS_flat h1, hle, hb]; rfl
      · obtain ⟨σ₂, e2, rfl, rfl⟩ := hp
        walk_at "w"
        exact ⟨σ₂, (hle σ).trans e2, rfl, rfl, rfl, rfl, trivial⟩
    · walk_at "w"
      exact ⟨σ, leadIf_left hc σ, rfl, rfl, rfl, rfl, trivial⟩
  rintro ν ρ' ⟨σ₁, hσ₁, rfl, hl'⟩
  refine Ex.weak hl' ?_
  walk_at "w"
  rw [hlp]
  cases hL : isLeft s with
  | false =>
    walk_at "w"
    refine X1.forL encB (inners s) (fun pre μ₁ ρ₁ => ∃ σ', seqK run pre σ₁ = some σ' ∧ μ₁ = ckMu L σ' μ ∧ LookAll [("self", .v (.ref L.x))] ρ₁) ?it ?st ?fi
    case it =>
      refine It.lst ?_
      walk_at "w"
      refine Pure.use hil rfl (by show 2 ≤ 2 * n + 4; lia) ?_
      exact ⟨_, rfl, by rw [List.map_map]; rfl, σ₁, rfl, rfl, rfl, trivial⟩
    case fi =>
      rintro μ₁ ρ₁ ⟨σ', e, rfl, hl⟩
      walk_at "w"
      exact ⟨σ', by rw [runS_flat hL, hσ₁]; exact e, rfl, rfl⟩
    case st =>
      rintro pre b post μ₁ ρ₁ hs ⟨σ', e, rfl, hl⟩
      refine As.weak hl ?_
      obtain ⟨m, rfl, hb1, hb2⟩ := hin b (by rw [hs]; simp)
      have hσ2 : σ₁.Ok ∧ σ₁.opn = σ.opn := by
        cases hJ : isJump s with
        | true => obtain ⟨_, _, b, l, _, hle⟩ := jump_left hJ; rw [hle] at hσ₁; exact lead_ok hσ₁ hσ
        | false => rw [leadIf_left hJ] at hσ₁; cases hσ₁; exact ⟨hσ, rfl⟩
      obtain ⟨h1, o1⟩ := seqK_ok run_ok _ _ _ e hσ2.1
      unfold encB
      walk_at "w"
      refine Ev.methI (Ev.name rfl ⟨_, _, _, _, 116, rfl, ckI, rfl, ⟨rfl, rfl, rfl, rfl⟩, ?_⟩) rfl rfl
      walk_at "w"
      refine SatR.use (h m rfl b σ' μ hb1 hb2 h1 (by rw [o1, hσ2.2]; lia)) rfl (by show 2 * m + 6 ≤ 2 * (m + 1) + 4; lia) (fun hb => ?_) fun ν a hp => ?_
      · exact (hbad (by rw [runS_flat hL, hσ₁, hs]; exact seqK_bad e hb)).1
      · obtain ⟨σ₂, e2, rfl, rfl⟩ := hp
        walk_at "w"
        exact ⟨σ₂, (seqK_step e).trans e2, rfl, rfl, trivial⟩
  | true =>
    have hJ : isJump s = false := by cases s <;> first | (cases hL; done) | rfl
    rw [leadIf_left hJ] at hσ₁
    cases hσ₁
    obtain ⟨ds2, hd2, hi2⟩ := lab_item hL
    rw [hds] at hd2
    cases hd2
    refine iteF rfl (Ex.nil ?_)
    try dsimp only
    refine Ex.seq (fun ν ρ' => ν = ckMu L σ μ ∧ LookAll [("label", .d (encL (labOf s))), ("kind", .d (.str (kindStr s))), ("statement", .d (.tuple (.str (kindStr s) :: .int 0 :: ds))), ("self", .v (.ref L.x))] ρ') ?_ ?_
    · walk_at "w"
      refine Op2.itemT (fun _ _ _ => rfl) (by decide) (by decide) hi2 ?_
      walk_at "w"
      exact ⟨rfl, rfl, rfl, rfl, rfl, trivial⟩
    rintro ν ρ' ⟨rfl, hl'⟩
    refine Ex.weak hl' ?_
    refine Ex.seq (fun ν ρ' => ∃ σ₂, tell (labOf s) σ = some σ₂ ∧ ν = ckMu L σ₂ μ ∧ LookAll [("label", .d (encL (labOf s))), ("kind", .d (.str (kindStr s))), ("statement", .d (.tuple (.str (kindStr s) :: .int 0 :: ds))), ("self", .v (.ref L.x))] ρ') ?_ ?_
    · cases hlab : labOf s with
      | none =>
        walk_at "w"
        exact ⟨rfl, rfl, rfl, rfl, trivial⟩
      | some i =>
        have h1 : ("the label " : Str).length + (labStr i).length ≤ 1000000 := len_a i
        have h2 : (("the label " : Str) ++ labStr i).length + (" is told twice" : Str).length ≤ 1000000 := len_c i
        have htl : (tolds σ.told).length ≤ 1000000 := by unfold tolds; rw [List.length_map]; have := length_le4 hσ.told; lia
        dsimp only [encL]
        walk_at "w"
        rw [show (getE (tolds σ.told) (labStr i)).isSome = decide (i ∈ σ.told) from getE_told]
        refine iteB ?_ ?_ <;> intro hc
        · obtain ⟨hF, hN⟩ := hbad (by
            rw [runS_left hL, hlab]
            unfold tell
            try dsimp only
            rw [if_pos (by simpa using hc)]; rfl)
          refine Ex.cons (X1.raise hN (by show 2 ≤ 2 * n + 4; lia) rfl rfl ?_ rfl rfl)
          walk_at "w"
          walk_at "w"
          exact ⟨_, _, rfl⟩
        · walk_at "w"
          walk_at "w"
          refine SetI.dict (A := L.D1) (es := tolds σ.told) (x := labStr i) (d := .int 0) (.tail _ (.tail _ (.head _))) htl ?_
          rw [ckT ok]
          walk_at "w"
          refine ⟨{ σ with told := addU σ.told i }, ?_, rfl, rfl, rfl, rfl, rfl, trivial⟩
          have hc : ¬ i ∈ σ.told := by simpa using hc
          unfold tell addU
          try dsimp only
          rw [if_neg hc, if_neg hc]
    rintro ν ρ' ⟨σ₂, hσ₂, rfl, hl'⟩
    refine Ex.weak hl' ?_
    obtain ⟨hok2, ho2⟩ := tell_ok hσ₂ hσ
    have hrun : ∀ σ', runS s σ = σ' → (seqK run (inners s) (pushed (labOf s) (kdOf s) σ₂)).map popped = σ' := fun σ' e => by rw [runS_left hL, hσ₂] at e; exact e
    refine Ex.seq (fun ν ρ' => ν = ckMu L (pushed (labOf s) (kdOf s) σ₂) μ ∧ LookAll [("statement", .d (.tuple (.str (kindStr s) :: .int 0 :: ds))), ("self", .v (.ref L.x))] ρ') ?_ ?_
    · walk_at "w"
      refine CallV.append (A := L.O) (ds := σ₂.opn.map encA) (.head _) (by rw [List.length_map, ho2]; lia) ?_
      rw [show (PyData.tuple [encL (labOf s), .str (kindStr s)]) = encA (labOf s, kdOf s) by rw [kind_left hL]; rfl, ckO' ok]
      walk_at "w"
      exact ⟨rfl, rfl, rfl, trivial⟩
    rintro ν ρ' ⟨rfl, hl'⟩
    refine Ex.weak hl' ?_
    have hopn : (pushed (labOf s) (kdOf s) σ₂).opn = σ.opn ++ [(labOf s, kdOf s)] := by show σ₂.opn ++ _ = _; rw [ho2]
    refine Ex.seq (fun ν ρ' => ∃ σ₃, seqK run (inners s) (pushed (labOf s) (kdOf s) σ₂) = some σ₃ ∧ ν = ckMu L σ₃ μ ∧ LookAll [("self", .v (.ref L.x))] ρ') ?_ ?_
    · refine X1.forL encB (inners s) (fun pre μ₁ ρ₁ => ∃ σ', seqK run pre (pushed (labOf s) (kdOf s) σ₂) = some σ' ∧ μ₁ = ckMu L σ' μ ∧ LookAll [("self", .v (.ref L.x))] ρ₁) ?it2 ?st2 ?fi2
      case it2 =>
        refine It.lst ?_
        walk_at "w"
        refine Pure.use hil rfl (by show 2 ≤ 2 * n + 4; lia) ?_
        exact ⟨_, rfl, by rw [List.map_map]; rfl, _, rfl, rfl, rfl, trivial⟩
      case fi2 =>
        rintro μ₁ ρ₁ ⟨σ', e, rfl, hl⟩
        exact ⟨σ', e, rfl, hl⟩
      case st2 =>
        rintro pre b post μ₁ ρ₁ hs ⟨σ', e, rfl, hl⟩
        refine As.weak hl ?_
        obtain ⟨m, rfl, hb1, hb2⟩ := hin b (by rw [hs]; simp)
        obtain ⟨h1, o1⟩ := seqK_ok run_ok _ _ _ e ⟨hok2.told, hok2.used⟩
        unfold encB
        walk_at "w"
        refine Ev.methI (Ev.name rfl ⟨_, _, _, _, 116, rfl, ckI, rfl, ⟨rfl, rfl, rfl, rfl⟩, ?_⟩) rfl rfl
        walk_at "w"
        refine SatR.use (h m rfl b σ' μ hb1 hb2 h1 (by rw [o1, hopn, List.length_append, List.length_singleton]; lia)) rfl (by show 2 * m + 6 ≤ 2 * (m + 1) + 4; lia) (fun hb => ?_) fun ν a hp => ?_
        · refine (hbad ?_).1
          rw [← hrun _ rfl, hs, seqK_bad e hb]; rfl
        · obtain ⟨σ₂, e2, rfl, rfl⟩ := hp
          walk_at "w"
          exact ⟨σ₂, (seqK_step e).trans e2, rfl, rfl, trivial⟩
    rintro ν ρ' ⟨σ₃, e, rfl, hl'⟩
    refine Ex.weak hl' ?_
    obtain ⟨h3, o3⟩ := seqK_ok run_ok _ _ _ e ⟨hok2.told, hok2.used⟩
    rw [hopn] at o3
    walk_at "w"
    refine CallV.pop (A := L.O) (ds := σ.opn.map encA) (d := encA (labOf s, kdOf s)) ?_ (by rw [List.length_map]; lia) ?_
    · have : σ₃.opn.map encA = σ.opn.map encA ++ [encA (labOf s, kdOf s)] := by rw [o3, List.map_append]; rfl
      rw [← this]; exact .head _
    · rw [ckO ok]
      walk_at "w"
      refine ⟨popped σ₃, by rw [← hrun _ rfl, e]; rfl, ?_, rfl⟩
      show ckMu L { σ₃ with opn := σ.opn } μ = ckMu L { σ₃ with opn := σ₃.opn.dropLast } μ
      rw [o3, List.dropLast_concat]
theorem ck_all_ok (g : Gd) (L : LC) : ∀ n, AllOk g L n
  | 0 => ck_all_of (ck_stmt_of fun m e => by cases e)
  | n + 1 => ck_all_of (ck_stmt_of fun m e => by cases e; exact ck_all_ok g L n)
theorem ck_init_ok (g : Gd) (x dx : Addr) (μ : Mu) : SatK g 1 (.ref 109) [.v (.ref x)] ((x, .raw (instObj 138 dx)) :: (dx, .attrs []) :: μ) fun ν a => a = .d .none ∧ ∃ L : LC, L.x = x ∧ L.dx = dx ∧ ν = ckMu L ⟨[], [], []⟩ μ := by
  refine' SatK.fn ["self"] ?h0 ?h1 ?h2 ?h3 ?h4 ?_
  walk_at "fn"
  intro A E Lf
  refine Ex.nodup fun nd => ?_
  simp only [List.map_cons, List.nodup_cons, List.mem_cons, not_or] at nd
  obtain ⟨⟨nxd, nx⟩, nd1, _⟩ := nd
  refine Ex.seq (fun ν ρ' => (∃ D1, D1 ≠ x ∧ D1 ≠ dx ∧ D1 ∉ μ.map (·.1) ∧ ν = (D1, .dict []) :: (x, .raw (instObj 138 dx)) :: (dx, .attrs [("told", .v (.ref D1))]) :: μ) ∧ LookAll [("self", .v (.ref x))] ρ') ?_ ?_
  · refine X1.putAttr rfl (Ev.dict0 fun D1 hD => Ev.name rfl ⟨x, 138, dx, [], rfl, ⟨.tail _ (.head _), .tail _ (.tail _ (.head _))⟩, by decide, by decide, ⟨rfl, rfl, rfl, rfl⟩, ?_⟩)
    simp only [List.map_cons, List.mem_cons, not_or] at hD
    obtain ⟨h1, h2, h3⟩ := hD
    exact ⟨⟨D1, h1, h2, h3, by rw [muSet_cons_ne h2, muSet_cons_ne nxd, muSet_head nd1]; rfl⟩, rfl, trivial⟩
  rintro ν ρ' ⟨⟨D1, h1, h2, h3, rfl⟩, hl'⟩
  refine Ex.weak hl' ?_
  refine Ex.seq (fun ν ρ' => (∃ D2, D2 ≠ D1 ∧ D2 ≠ x ∧ D2 ≠ dx ∧ D2 ∉ μ.map (·.1) ∧ ν = (D2, .dict []) :: (D1, .dict []) :: (x, .raw (instObj 138 dx)) :: (dx, .attrs [("told", .v (.ref D1)), ("used", .v (.ref D2))]) :: μ) ∧ LookAll [("self", .v (.ref x))] ρ') ?_ ?_
  · refine X1.putAttr rfl (Ev.dict0 fun D2 hD => Ev.name rfl ⟨x, 138, dx, [("told", .v (.ref D1))], rfl, ⟨.tail _ (.tail _ (.head _)), .tail _ (.tail _ (.tail _ (.head _)))⟩, (show ¬ ("used" : Str) ∈ [("told" : Str)] from by decide), Nat.le_of_ble_eq_true rfl, ⟨rfl, rfl, rfl, rfl⟩, ?_⟩)
    simp only [List.map_cons, List.mem_cons, not_or] at hD
    obtain ⟨k0, k1, k2, k3⟩ := hD
    exact ⟨⟨D2, k0, k1, k2, k3, by rw [muSet_cons_ne k2, muSet_cons_ne h2, muSet_cons_ne nxd, muSet_head nd1]; rfl⟩, rfl, trivial⟩
  rintro ν ρ' ⟨⟨D2, k0, k1, k2, k3, rfl⟩, hl'⟩
  refine Ex.weak hl' ?_
  refine Ex.cons (X1.putAttr rfl (Ev.listM (Evs.nil ⟨[], rfl, by decide, fun O hO => Ev.name rfl ⟨x, 138, dx, [("told", .v (.ref D1)), ("used", .v (.ref D2))], rfl, ⟨.tail _ (.tail _ (.tail _ (.head _))), .tail _ (.tail _ (.tail _ (.tail _ (.head _))))⟩, (show ¬ ("open" : Str) ∈ [("told" : Str), "used"] from by decide), Nat.le_of_ble_eq_true rfl, ⟨rfl, rfl, rfl, rfl⟩, ?_⟩⟩)))
  simp only [List.map_cons, List.mem_cons, not_or] at hO
  obtain ⟨j0, j1, j2, j3, j4⟩ := hO
  refine Ex.nil ⟨rfl, ⟨x, dx, D1, D2, O⟩, rfl, rfl, ?_⟩
  rw [muSet_cons_ne j3, muSet_cons_ne k2, muSet_cons_ne h2, muSet_cons_ne nxd, muSet_head nd1]; rfl
theorem check_labels_ok (g : Gd) (n : Nat) (ss : Sts) (μ : Mu) (hn : hgt ss ≤ n) (hn2 : n ≤ 400) (hz : size ss ≤ 2000) :
    SatR g (2 * n + 7) (.ref 149) [.d (.tuple (encs ss))] μ (checked ss = false) fun ν a => checked ss = true ∧ ν = μ ∧ a = .d .none := by
  refine' SatR.fn ["statements"] ?h0 ?h1 ?h2 ?h3 ?h4 ?_
  walk_at "fn"
  intro A E Lf hbad
  refine Ex.drop ?_
  refine Ex.seq (fun ν ρ' => ∃ L : LC, ν = ckMu L ⟨[], [], []⟩ μ ∧ LookAll [("checker", .v (.ref L.x)), ("statements", .d (.tuple (encs ss)))] ρ') ?_ ?_
  · walk_at "w"
    refine CallV.make (fI := 109) (by show 1 ≤ 2 * n + 6; lia) rfl rfl rfl fun x dx vs h1 h2 h3 => ?_
    refine CodeV.mono (ck_init_ok g x dx μ _ _ rfl (by show 1 ≤ 2 * n + 6 - 1; lia)) fun ν a hp => ?_
    obtain ⟨rfl, L, rfl, rfl, rfl⟩ := hp
    exact ⟨rfl, L, rfl, rfl, rfl, trivial⟩
  rintro ν ρ' ⟨L, rfl, hl'⟩
  refine Ex.weak hl' ?_
  refine Ex.seq (fun ν ρ' => ∃ σ, run ss ⟨[], [], []⟩ = some σ ∧ ν = ckMu L σ μ ∧ LookAll [("checker", .v (.ref L.x))] ρ') ?_ ?_
  · walk_at "w"
    refine Ev.methI (Ev.name rfl ⟨_, _, _, _, 116, rfl, ckI, rfl, ⟨rfl, rfl, rfl, rfl⟩, ?_⟩) rfl rfl
    walk_at "w"
    refine SatR.use (ck_all_ok g L n ss ⟨[], [], []⟩ μ hn hz ⟨List.nodup_nil, List.nodup_nil⟩ (by show 0 + n ≤ 500; lia)) rfl (by show 2 * n + 6 ≤ 2 * n + 6; lia) (fun hb => ?_) fun ν a hp => ?_
    · exact (hbad (by unfold checked; rw [hb])).1
    · obtain ⟨σ, e, rfl, rfl⟩ := hp
      exact ⟨σ, e, rfl, rfl, trivial⟩
  rintro ν ρ' ⟨σ, e, rfl, hl'⟩
  refine Ex.weak hl' ?_
  walk_at "w"
  refine Ev.methI (Ev.name rfl ⟨_, _, _, _, 135, rfl, ckI, rfl, ⟨rfl, rfl, rfl, rfl⟩, ?_⟩) rfl rfl
  walk_at "w"
  have hck : checked ss = σ.told.all fun i => decide (i ∈ σ.used) := by unfold checked; rw [e]
  refine SatR.use (ck_used_ok g L σ μ) rfl (by show 4 ≤ 2 * n + 6; lia) (fun hb => (hbad (hck.trans hb)).1) fun ν a hp => ?_
  obtain ⟨hp, rfl, rfl⟩ := hp
  exact Ex.nil ⟨μ, .cons _ (.cons _ (.cons _ (.cons _ (.cons _ (List.Sublist.refl _))))), hck.trans hp, rfl, rfl⟩
noncomputable def letScope : Scope := { kind := .function, names := [("rows", .local), ("check_labels", .globalImplicit), ("FlowFault", .globalImplicit)], isGenerator := false, isCoroutine := false }
noncomputable abbrev letEnv (L : Addr) : Env := envOfC "_law_is_let" letScope L 253 (.ref 252)
theorem let_try (g : Gd) (A : Around) (L : Addr) (E : Value → Shared → Prop) (n : Nat) (ss : Sts) (hn : hgt ss ≤ n) (hn2 : n ≤ 400) (hz : size ss ≤ 2000) {np ap cp sp : Pos}
    (hcan : checked ss = false → CanFly ⟨g, A, letEnv L, 2 * n + 7, false, E⟩) :
    Ex ⟨g, A, letEnv L, 2 * n + 7, false, E⟩ [] [("rows", .d (.tuple (encs ss)))] [.Expr (.Call (.Name "check_labels" np) [.Name "rows" ap] [] cp) sp] fun fl _ _ => (match fl with | .next => True | _ => False) ∧ checked ss = true := by
  refine Ex.cons (X1.expr (Ev.call (Ev.glob rfl rfl rfl ⟨_, rfl, rfl, Evs.cons (Ev.name rfl (Evs.nil ?_)) rfl⟩) rfl rfl) rfl rfl)
  refine SatR.use (check_labels_ok g n ss [] hn hn2 hz) rfl (Nat.le_refl _) hcan fun ν a hp => ?_
  exact Ex.nil ⟨trivial, hp.1⟩
theorem is_let_ok (g : Gd) (n : Nat) (ss : Sts) (hn : hgt ss ≤ n) (hn2 : n ≤ 400) (hz : size ss ≤ 2000) (c : Cx) (ρ : Rho) (μ : Mu) (hg : c.g = g) (hr : 2 * n + 8 ≤ c.room)
    (hfr : ∀ l, c.A.frames = some l → ∀ b ∈ l.filterMap (·.frame), b = c.env.locals) : CallV c ρ μ (.ref 253) [.d (.tuple (encs ss))] fun ν a => ν = μ ∧ a = .d (.bool (checked ss)) := by
  subst hg
  refine CallV.code fun Φ s vs I ra => ?_
  have X := I.kin
  obtain ⟨v, ws, rfl, rv, hws⟩ := ra
  obtain rfl : ws = [] := hws
  obtain ⟨l₀, hl₀⟩ := I.ok.frames
  have hroom : c.A.depth < recursionLimit := by have := I.ok.depth; lia
  refine enter_code (K := c.g.K) ["rows"] X (c.g.T.nolimit.keeps I.old) hroom rfl rfl (BindsTo.of_eq rfl) rfl rfl (by decide) (fun h₁ tk m hns hm hk₁ => ?_) rfl rfl rfl
  have hdep : (c.A.deeper (letEnv s.heap.objs.size)).frames = some (letEnv s.heap.objs.size :: l₀) := Around.frames_deeper hl₀
  have hL0 : c.g.h₀.get? c.env.locals = none := Heap.get?_none_of_le I.above
  have hidden : ∀ b ∈ (letEnv s.heap.objs.size :: l₀).filterMap (·.frame), (hide s.heap c.env.locals).get? b = none := fun b hb => by
    rcases List.mem_cons.mp (show b ∈ s.heap.objs.size :: l₀.filterMap (·.frame) from hb) with rfl | hb
    · cases q : (hide s.heap c.env.locals).get? s.heap.objs.size with
      | none => rfl
      | some o => have := hide_sub q; rw [Heap.fresh] at this; cases this
    · rw [hfr l₀ hl₀ b hb, hide_self]
  have hrun : ∀ (b : Bool) (s₂ : Shared), (∀ a o, a ≠ c.env.locals → s.heap.get? a = some o → s₂.heap.get? a = some o) → (∀ o, s.heap.get? c.env.locals = some o → ∃ sl, s₂.heap.get? c.env.locals = some { o with slots := sl }) → Same c.g s₂ → checked ss = b →
      Post c Φ μ s ρ (fun ν a => ν = μ ∧ a = .d (.bool (checked ss))) (.bool b) s₂ := fun b s₂ k1 k2 sm hb => by
    obtain ⟨h2, gn, dr, tk2, os⟩ := s₂
    obtain ⟨m1, m2, m3⟩ := sm
    obtain ⟨n1, n2, n3⟩ := I.still
    have q := I.slotted (h' := h2) (tk := tk2) k1 k2
    obtain ⟨h0, gn0, dr0, tk0, os0⟩ := s
    dsimp only at m1 m2 m3 n1 n2 n3
    subst m1; subst m2; subst m3
    rw [← n1, ← n2, ← n3]
    exact ⟨Φ, μ, _, q.1, q.2, by rw [← hb]; exact ra_bool _, rfl, rfl⟩
  refine wpAny_execs_cons (wpAny_Try_except ?_)
  refine W.mono (c := ⟨(Gd.re c.g s.heap I.old (hide s.heap c.env.locals) fun b o e => hide_sub e), c.A.deeper (letEnv s.heap.objs.size), letEnv s.heap.objs.size, 2 * n + 7, false, _⟩) (let_try (Gd.re c.g s.heap I.old (hide s.heap c.env.locals) fun b o e => hide_sub e) (c.A.deeper (letEnv s.heap.objs.size)) s.heap.objs.size _ n ss hn hn2 hz ?hcan Φ _ ?hI) ?hnorm
  case hI =>
    refine ⟨⟨I.ok.hh, rfl, rfl, rfl, ?_, ?_, fun x y a e1 e2 => (by cases e1), PassesOwn.looking, ⟨_, hdep⟩⟩, fun b o e => hk₁ b o e, ⟨_, hns⟩, Nat.le_refl _, fun x a e => (by cases e), fun x a e => ?_, I.frz.keep (S := fun _ => False) (Keep.of_keeps hk₁) (fun _ q => q.elim),
      ⟨List.nodup_nil, fun p hp => (by cases hp)⟩, fun p hp => (by cases hp), fun l hl => ?_, I.still⟩
    · have := I.ok.depth; show c.A.depth + 1 + (2 * n + 7) < _; lia
    · have := I.ok.units; show c.A.units + 3 + 8 * (2 * n + 7) + 200 < _; lia
    · unfold look at e
      split at e
      · rename_i q; subst q; cases e
        exact ⟨v, ⟨rfl, rfl, ⟨_, hns, hm _ _ (.head _)⟩⟩, rv⟩
      · cases e
    · have q : some _ = some l := hdep.symm.trans hl
      cases q
      obtain ⟨o, es, ep, eo, ed, _⟩ := hns
      exact ⟨by show ScopeKind.function ≠ _; decide, ⟨s.heap.objs.size, o, rfl, hidden _ (.head _), eo, fun vs q => by rw [ed] at q; cases q⟩, funFrames_base hk₁ (fun b hb => hidden b (.tail _ hb)) (I.ff _ hl₀)⟩
  case hcan =>
    rintro hb l hl e s' ⟨a, a0, rfl, hfly, up, sm⟩
    have q : some _ = some l := hdep.symm.trans hl
    cases q
    obtain ⟨hp, gn, dr, tk', os⟩ := s'
    refine wpAny_looks_onW hdep rfl hfly fun h₄ held₄ sm₄ => ?_
    refine wpAny_landsW held₄ fun h₅ hfl₅ sm₅ => ?_
    have hold₅ : ∀ b o, c.g.h₀.get? b = some o → h₅.get? b = some o := fun b o e => hfl₅.1 b o ((hide_ne (fun q => by rw [q, hL0] at e; cases e)).trans (I.old b o e))
    refine wpAny_handleBy_cons (codeAny_handlers_test ?_) (by intro q; cases q)
    refine Name_function_global rfl rfl (loadGlobal_global (c.g.T.g.keeps hold₅) (mg_of c.g.X c.g.T.g rfl) ?_) (by rfl)
    obtain ⟨oe, he, hcls⟩ := hfl₅.there
    have hC := Frag.In.keeps c.g.X hold₅ 45 _ rfl
    refine wpAny_excMatches_sub_self (bm := [.ref 32, .type "Exception", .type "BaseException", .type "object"]) hC he hcls (by decide +kernel) ?_
    refine codeAny_handlers_suite ?_
    refine lands_againW hfl₅ fun h₆ hfl₆ sm₆ => ?_
    refine wpAny_execs_cons (wpAny_Return_some (wpAny_Constant_bool ?_))
    refine hrun false _ (fun b o nb e => hfl₆.1 b o ((hide_ne nb).trans e)) (fun o e => ?_) sm hb
    obtain ⟨mm, o2, es, ep, eo, ed, _⟩ := I.ns
    exact (((up.trans sm₄).trans sm₅).trans sm₆) _ o e (fun vs q => by rw [eo] at e; cases e; rw [ed] at q; cases q)
  case hnorm =>
    rintro f s₂ ⟨Ψ, ν, ρ', fl, m', I₂, rf, hf, hck⟩
    cases fl with
    | next =>
      obtain rfl : f = _ := rf
      refine wpAny_execs_nil (wpAny_execs_cons (wpAny_Return_some (wpAny_Constant_bool ?_)))
      exact hrun true s₂ (fun a o _ e => I₂.old a o e) (fun o e => ⟨o.slots, I₂.old _ o e⟩) I₂.still hck
    | brk => exact hf.elim
    | cont => exact hf.elim
    | ret a => exact hf.elim
/-- the law's last example: a switch of nothing in a loop -/
noncomputable def brkD : PyData := .tuple [.str "break", .int 0, .none]
noncomputable def bareSw : PyData := .tuple [.str "switch", .int 0, .none, .none, .none, .tuple [.tuple [.none, .tuple [brkD]]]]
noncomputable def keptD : PyData := .tuple [.str "for", .int 0, .none, .none, .none, .none, .tuple [.str "block", .int 0, .tuple [bareSw]]]
theorem rows_bare (g : Gd) : Pure g 1 56 [bareSw] (.tuple [.tuple [.none, .tuple [brkD]]]) := fun μ => by
  refine' Sat.fn ["statement"] ?h0 ?h1 ?h2 ?h3 ?h4 ?_
  walk_at "fn"
  intro A E L
  refine Ex.drop ?_
  unfold bareSw
  walk_at "w"
theorem inner_bare (g : Gd) : Pure g 2 61 [bareSw] (.list [.tuple [brkD]]) := fun μ => by
  refine' Sat.fn ["statement"] ?h0 ?h1 ?h2 ?h3 ?h4 ?_
  walk_at "fn"
  intro A E L
  unfold bareSw
  walk_at "w"
  refine Ev.compP (cl := []) (fun d : PyData => d) [.tuple [.none, .tuple [brkD]]] (fun _ => [.tuple [brkD]]) ?ok ?hn ?it ?st ?p
  case ok => walk_at "cok"
  case hn => decide
  case it =>
    refine It.tup ?_
    walk_at "w"
    refine Pure.use (rows_bare g) rfl (Nat.le_of_ble_eq_true rfl) ?_
    exact ⟨_, rfl, rfl, rfl⟩
  case st =>
    intro C r hr
    obtain rfl := List.mem_singleton.mp hr
    walk_at "w"
  case p => exact ⟨rfl, rfl⟩
theorem inner_brk (g : Gd) : Pure g 2 61 [brkD] (.list []) := inner_lists_ok g (.brk none) (by decide)
theorem hb_inner (g : Gd) : Pure g 3 69 [.tuple [brkD], .none, .bool false] (.bool false) :=
  (has_break_ok g 0 (.cons (.brk none) .nil) none false (by decide) (by decide)).1
theorem hb_kept (g : Gd) : Pure g 4 69 [.tuple [bareSw], .none] (.bool false) := fun μ => by
  refine' Sat.fnD ["statements", "label", "is_near"] [.bool true] [.d (.bool true)] ?h0 ?h1 ?hb0 ?hda ?h3 ?h4 ?_
  case h0 => walk_at "a"
  case h1 => walk_at "a"
  case hb0 => exact fun vs s hK h => ForN.all (n := 2) (p := fun vs => BindsTo s _ ⟨vs, []⟩ (List.zip _ (vs ++ _))) (fun _ _ => BindsTo.of_defaults rfl (hK _ _ rfl) rfl rfl rfl) vs h
  case hda => exact fun Φ => ⟨_, _, rfl, ra_bool _, rfl⟩
  case h3 => walk_at "b"
  case h4 => (conv => (lhs; whnf))
  intro A E L
  refine Ex.cons (X1.forL (fun d : PyData => d) [bareSw] (fun pre μ₁ ρ₁ => μ₁ = μ ∧ LookAll [("label", .d .none), ("is_near", .d (.bool true))] ρ₁) ?it ?st ?fi)
  case it =>
    refine It.tup ?_
    walk_at "w"
    exact ⟨rfl, rfl, rfl, rfl, trivial⟩
  case fi =>
    rintro μ₁ ρ₁ ⟨rfl, hl⟩
    walk_at "w"
  case st =>
    rintro pre s post μ₁ ρ₁ hs ⟨rfl, hl⟩
    obtain rfl : s = bareSw := by
      have : s ∈ [bareSw] := by rw [hs]; simp
      exact List.mem_singleton.mp this
    refine As.weak hl ?_
    walk_at "m"
    refine Ex.seq (fun ν ρ' => ν = μ₁ ∧ LookAll [("statement", .d bareSw), ("label", .d .none), ("is_near", .d (.bool true))] ρ') ?_ ?_
    · unfold bareSw
      walk_at "w"
      exact ⟨rfl, rfl, rfl, rfl, trivial⟩
    rintro ν ρ' ⟨rfl, hl'⟩
    refine Ex.weak hl' ?_
    refine Ex.seq (fun ν' ρ' => ν' = ν ∧ LookAll [("near", .d (.bool false)), ("statement", .d bareSw), ("label", .d .none), ("is_near", .d (.bool true))] ρ') ?_ ?_
    · unfold bareSw
      walk_at "w"
      exact ⟨rfl, rfl, rfl, rfl, rfl, trivial⟩
    rintro ν' ρ' ⟨rfl, hl'⟩
    refine Ex.weak hl' ?_
    refine Ex.cons (X1.forL (fun d : PyData => d) [.tuple [brkD]] (fun pre μ₁ ρ₁ => μ₁ = ν' ∧ LookAll [("near", .d (.bool false)), ("label", .d .none), ("is_near", .d (.bool true))] ρ₁) ?it2 ?st2 ?fi2)
    case it2 =>
      refine It.lst ?_
      walk_at "w"
      refine Pure.use (inner_bare g) rfl (Nat.le_of_ble_eq_true rfl) ?_
      exact ⟨_, rfl, rfl, rfl, rfl, rfl, rfl, trivial⟩
    case fi2 =>
      rintro μ₁ ρ₁ ⟨rfl, hl2⟩
      walk_at "w"
      exact ⟨rfl, hl2.2.1, hl2.2.2.1, trivial⟩
    case st2 =>
      rintro pre2 b post2 μ₁ ρ₁ hs2 ⟨rfl, hl2⟩
      obtain rfl : b = .tuple [brkD] := by
        have : b ∈ [PyData.tuple [brkD]] := by rw [hs2]; simp
        exact List.mem_singleton.mp this
      refine As.weak hl2 ?_
      walk_at "w"
      refine Pure.use (hb_inner g) rfl (Nat.le_refl _) ?_
      walk_at "w"
      exact ⟨rfl, rfl, rfl, rfl, trivial⟩
theorem panic_kept (g : Gd) : Pure g 1 76 [keptD] (.bool false) := fun μ => by
  refine' Sat.fn ["statement"] ?h0 ?h1 ?h2 ?h3 ?h4 ?_
  walk_at "fn"
  intro A E L
  unfold keptD
  walk_at "w"
theorem term_kept (g : Gd) : Pure g 5 95 [.tuple [keptD]] (.bool true) := fun μ => by
  refine' Sat.fn ["statements"] ?h0 ?h1 ?h2 ?h3 ?h4 ?_
  walk_at "fn"
  intro A E L
  have hp := panic_kept g
  unfold keptD at hp ⊢
  walk_at "w"
  refine Pure.use hp rfl (Nat.le_of_ble_eq_true rfl) ?_
  walk_at "w"
  refine Pure.use (hb_kept g) rfl (Nat.le_refl _) ?_
  walk_at "w"
theorem intsTo_at {n i : Nat} {a : AV} (h : (intsTo n)[i]? = some a) : i < n ∧ a = .d (.int (i : Nat)) := by
  unfold intsTo at h
  rw [List.getElem?_map] at h
  obtain ⟨j, hj, rfl⟩ := Option.map_eq_some_iff.mp h
  obtain ⟨h1, h2⟩ := List.getElem?_eq_some_iff.mp hj
  rw [List.length_range] at h1
  rw [List.getElem_range] at h2
  exact ⟨h1, by rw [h2]⟩
theorem top_ok (l : Nat) : 0 ≤ (if (if (l : Int) < 2 then (l : Int) else 2) > 1 then (if (l : Int) < 2 then (l : Int) else 2) else 1) ∧ (if (if (l : Int) < 2 then (l : Int) else 2) > 1 then (if (l : Int) < 2 then (l : Int) else 2) else 1) ≤ 2 := by
  split <;> split <;> lia
theorem eqv_bool (a b : Bool) : PyData.eqv (.bool a) (.bool b) = (a == b) := by cases a <;> cases b <;> rfl
theorem lay_way (w : Way) : (encW w).canLay0 = true ∧ (encW w).depth ≤ 10 := by
  obtain ⟨b, l, ar⟩ := w
  have h1 := SeqAt.canLay_of_shaped (lay_around ar)
  have h2 : (PyData.list (ar.map encA)).depth ≤ 5 := by
    have : PyData.depthAll (ar.map encA) ≤ 2 := depthAll_of_mem fun x hx => by
      obtain ⟨p, _, rfl⟩ := List.mem_map.mp hx
      unfold encA
      simp only [PyData.depth, PyData.depthAll, dep_lab]
      decide
    simp only [PyData.depth]; lia
  have h3 : (PyData.str (if b = true then ("break" : Str) else "continue")).canLay0 = true := by cases b <;> decide +kernel
  unfold encW
  try dsimp only
  refine ⟨by simp only [PyData.canLay0, PyData.canLayAll0, lay_lab] at h1 h3 ⊢; rw [h1, h3]; rfl, ?_⟩
  simp only [PyData.depth, PyData.depthAll, dep_lab] at h2 ⊢
  lia
theorem lay_ways (ws : List Way) : SeqAt.shaped (.list (ws.map encW)) = true := shaped_list fun x hx => by
  obtain ⟨w, _, rfl⟩ := List.mem_map.mp hx
  have := lay_way w
  exact ⟨this.1, by lia⟩
theorem law_ok (g : Gd) (A : Around) (s : Shared) (A₀ : Addr) (script : List Int) (hA : ScriptOk g A₀ script) (hsc : script.length ≤ 1000) {R : Result → Shared → Prop}
    (h0 : g.h₀ = s.heap) (hst : Same g s) (hh : A.handled = none) (hfr : A.frames = some []) (hdep : A.depth + 1 + 24 < recursionLimit) (hun : A.units + 3 + 8 * 24 + 200 < cLine)
    (hR : ∀ s' L m, Fr s.heap L s'.heap m → Same g s' → R (.ok (.ret (.bool true))) s') : codeAny (model g.prog g.w) A (.call (.ref 258) ⟨[.ref A₀], []⟩) R s := by
  refine enter_first (l₀ := []) (x := "script") h0 hst hh hfr trivial hdep hun rfl rfl (BindsTo.of_eq rfl) rfl ?_ hR rfl rfl rfl
  refine Ex.seq (fun ν ρ' => True) ?_ ?_
  · refine X1.forIn (fun i μ₁ ρ₁ => LookAll [("script", .v (.ref A₀))] ρ₁) ?it
    case it =>
      refine It.range rfl rfl rfl rfl ?_
      walk_at "w"
      refine CallV.lenG hA hsc ?_
      walk_at "w"
      have ht := top_ok script.length
      refine ⟨ht.1, by lia, ⟨rfl, trivial⟩, fun i a μ₁ ρ₁ hi hl => ?_, fun _ _ _ => trivial⟩
      obtain ⟨hi1, rfl⟩ := intsTo_at hi
      have hik : i = 0 ∨ i = 1 := by lia
      refine As.weak hl ?_
      walk_at "m"
      refine Ex.seq (fun ν ρ' => ∃ S, SrcOk ν S ∧ LookAll [("source", .v (.ref S)), ("script", .v (.ref A₀))] ρ') ?_ ?_
      · walk_at "w"
        refine (law_pool_ok g A₀ script hA hsc i hik _ _ _ rfl (Nat.le_of_ble_eq_true rfl)).mono fun ν a hp => ?_
        obtain ⟨S, x, y, rfl, hS, rfl, h1, h2⟩ := hp
        exact ⟨S, ⟨x, y, .head _, h1, h2⟩, rfl, rfl, trivial⟩
      rintro ν ρ' ⟨S, hS, hl'⟩
      refine Ex.weak hl' ?_
      refine Ex.cons (X1.forIn (fun j μ₂ ρ₂ => SrcOk μ₂ S ∧ LookAll [("source", .v (.ref S)), ("script", .v (.ref A₀))] ρ₂) ?it2)
      case it2 =>
        refine It.range rfl rfl rfl rfl ?_
        walk_at "w"
        refine ⟨by decide, by decide, ⟨hS, rfl, rfl, trivial⟩, fun j a μ₂ ρ₂ hj hJ => ?_, fun μ₂ ρ₂ hJ => Ex.nil ⟨hJ.2.2.1, trivial⟩⟩
        obtain ⟨hj1, rfl⟩ := intsTo_at hj
        obtain ⟨hS2, hl2⟩ := hJ
        refine As.weak hl2 ?_
        walk_at "m"
        refine Ex.seq (fun ν ρ' => ∃ ss, bodyOk 3 ss ∧ SrcOk ν S ∧ LookAll [("rows", .d (.tuple (encs ss))), ("source", .v (.ref S)), ("script", .v (.ref A₀))] ρ') ?_ ?_
        · walk_at "w"
          refine (law_body_ok g).use hS2 rfl (Nat.le_of_ble_eq_true rfl) ?_
          rintro ν a hM ⟨ss, rfl, hb⟩
          exact ⟨ss, hb, hM.ok hS2, rfl, rfl, rfl, trivial⟩
        rintro ν ρ' ⟨ss, ⟨hn, hz⟩, hS3, hl'⟩
        have hz : size ss ≤ 2000 := Nat.le_trans hz (by decide)
        have hn : hgt ss ≤ 6 := hn
        refine Ex.weak hl' ?_
        refine Ex.seq (fun ν' ρ' => ν' = ν ∧ LookAll [("rows", .d (.tuple (encs ss))), ("source", .v (.ref S)), ("script", .v (.ref A₀))] ρ') ?_ ?_
        · have s1 : SeqAt.shaped (.bool (term ss)) = true := rfl
          have s2 : SeqAt.shaped (.bool (lends ss)) = true := rfl
          have s3 : SeqAt.shaped (.bool (checked ss)) = true := rfl
          have s4 : SeqAt.shaped (.bool (right ss)) = true := rfl
          walk_at "w"
          refine Pure.use (is_term_ok g 6 ss hn (by decide) hz) rfl (Nat.le_refl _) ?_
          walk_at "w"
          refine Pure.use (law_ends_ok g 6 ss hn (by decide) hz) rfl (Nat.le_of_ble_eq_true rfl) ?_
          walk_at "w"
          refine iteF (by rw [eqv_bool, term_lends]; simp) ?_
          walk_at "w"
          refine (is_let_ok g 6 ss hn (by decide) hz _ _ _ rfl (Nat.le_of_ble_eq_true rfl) fun l e b hb => ?_).mono fun ν₂ a hp => ?_
          · have q : some _ = some l := (Around.frames_deeper hfr).symm.trans e
            cases q
            exact List.mem_singleton.mp hb
          obtain ⟨rfl, rfl⟩ := hp
          walk_at "w"
          refine Pure.use (law_labels_right_ok g 6 ss hn (by decide) hz) rfl (Nat.le_of_ble_eq_true rfl) ?_
          walk_at "w"
          refine iteF (by rw [eqv_bool, checked_right]; simp) ?_
          walk_at "w"
          exact ⟨rfl, rfl, rfl, rfl, trivial⟩
        rintro ν' ρ' ⟨rfl, hl'⟩
        refine Ex.weak hl' ?_
        refine Ex.seq (fun ν ρ' => ∃ l : Lab, SrcOk ν S ∧ LookAll [("label", .d (encL l)), ("rows", .d (.tuple (encs ss))), ("source", .v (.ref S)), ("script", .v (.ref A₀))] ρ') ?_ ?_
        · walk_at "w"
          refine (law_one_ok g [.none, .str "M", .str "L3"] (by simp) (by simp)).use hS3 rfl (Nat.le_of_ble_eq_true rfl) ?_
          rintro ν a hM ⟨d, hd, rfl⟩
          have : ∃ l : Lab, d = encL l := by
            rcases List.mem_cons.mp hd with rfl | hd
            · exact ⟨none, rfl⟩
            rcases List.mem_cons.mp hd with rfl | hd
            · exact ⟨some 0, rfl⟩
            · obtain rfl := List.mem_singleton.mp hd
              exact ⟨some 3, rfl⟩
          obtain ⟨l, rfl⟩ := this
          exact ⟨l, hM.ok hS3, rfl, rfl, rfl, rfl, trivial⟩
        rintro ν₃ ρ' ⟨l, hS4, hl'⟩
        refine Ex.weak hl' ?_
        have hwl := ways_len ss []
        have hbs : ∀ w : Way, SeqAt.shaped (.str (if w.brk = true then ("break" : Str) else "continue")) = true := fun w => by cases w.brk <;> decide +kernel
        refine Ex.seq (fun ν' ρ' => ν' = ν₃ ∧ LookAll [("ways", .d (.list (((ways [] ss).filter Way.brk).map encW))), ("label", .d (encL l)), ("rows", .d (.tuple (encs ss))), ("source", .v (.ref S)), ("script", .v (.ref A₀))] ρ') ?_ ?_
        · refine X1.putCompP (cl := []) encW (ways [] ss) (fun w => if w.brk = true then [encW w] else []) ?ok1 ⟨rfl, rfl, .inl rfl⟩ rfl (by lia) ?it1 ?st1 ?p1
          case ok1 => walk_at "cok"
          case it1 =>
            refine It.lst ?_
            walk_at "w"
            refine Pure.use (law_ways_ok g 6 ss [] hn hz (by decide)) rfl (Nat.le_of_ble_eq_true rfl) ?_
            exact ⟨_, rfl, rfl, by rw [List.map_map]; rfl⟩
          case st1 =>
            rintro C ⟨wb, wl, wa⟩ hw
            unfold encW
            try dsimp only
            cases wb with
            | true =>
              simp only [↓reduceIte]
              walk_at "w"
            | false =>
              simp only [Bool.false_eq_true, ↓reduceIte]
              walk_at "w"
              try exact ⟨rfl, trivial⟩
          case p1 =>
            rw [flat_filter encW Way.brk]
            exact ⟨rfl, rfl, rfl, rfl, rfl, rfl, trivial⟩
        rintro ν' ρ' ⟨rfl, hl'⟩
        refine Ex.weak hl' ?_
        refine Ex.seq (fun ν₄ ρ' => ν₄ = ν' ∧ LookAll [("due", .d (.list ((((ways [] ss).filter Way.brk).filter (dueOk l)).map encW))), ("label", .d (encL l)), ("rows", .d (.tuple (encs ss))), ("source", .v (.ref S)), ("script", .v (.ref A₀))] ρ') ?_ ?_
        · refine X1.putCompP (cl := [("label", s.heap.objs.size + 1)]) encW ((ways [] ss).filter Way.brk) (fun w => if dueOk l w = true then [encW w] else []) ?ok2 ⟨rfl, rfl, .inl rfl⟩ rfl ?hn2 ?it2 ?st2 ?p2
          case ok2 => walk_at "cok"
          case hn2 => have := List.length_filter_le Way.brk (ways [] ss); lia
          case it2 =>
            refine It.lst ?_
            walk_at "w"
            rw [List.map_map]; exact ⟨rfl, rfl⟩
          case st2 =>
            rintro C ⟨wb, wl, wa⟩ hw
            have hwa := lay_around wa
            have hbw := hbs ⟨wb, wl, wa⟩
            unfold encW dueOk
            try dsimp only
            have e0 : ∀ i : Fin 4, ((some i : Lab) != none) = true := fun _ => rfl
            have e1 : ∀ i : Fin 4, ((some i : Lab) == none) = false := fun _ => rfl
            have e2 : ∀ i : Fin 4, ((none : Lab) == some i) = false := fun _ => rfl
            have hne := eqv_nil (wa.map encA)
            rw [List.isEmpty_map] at hne
            cases wl with
            | none =>
              cases l with
              | none =>
                simp only [bne_self_eq_false, Bool.and_false, Bool.false_or, BEq.rfl, Bool.true_and]
                walk_at "w"
                rw [hne]
                cases hwe : wa.isEmpty with
                | true =>
                  walk_at "w"
                  rfl
                | false =>
                  walk_at "w"
              | some i =>
                simp only [e2, Bool.false_and, Bool.false_or, BEq.rfl, Bool.true_and]
                walk_at "w"
                rw [hne]
                cases hwe : wa.isEmpty with
                | true =>
                  walk_at "w"
                  rfl
                | false =>
                  walk_at "w"
            | some j =>
              cases l with
              | none =>
                simp only [e1, Bool.false_and, Bool.or_false]
                walk_at "w"
              | some i =>
                simp only [e1, Bool.false_and, Bool.or_false]
                walk_at "w"
                cases hjl : ((some j : Lab) == some i) with
                | true =>
                  walk_at "w"
                  rfl
                | false =>
                  walk_at "w"
          case p2 =>
            rw [flat_filter encW (dueOk l)]
            exact ⟨rfl, rfl, rfl, rfl, rfl, rfl, trivial⟩
        rintro ν₄ ρ' ⟨rfl, hl'⟩
        refine Ex.weak hl' ?_
        have s5 := lay_ways (((ways [] ss).filter Way.brk).filter (dueOk l))
        have s6 : SeqAt.shaped (.bool (hb l true ss)) = true := rfl
        have hdue : hb l true ss = !(((ways [] ss).filter Way.brk).filter (dueOk l)).isEmpty := by
          rw [hb_nil]
          generalize ways [] ss = W
          induction W with
          | nil => rfl
          | cons w r ih =>
            rw [List.any_cons, ih, ← due_left, List.filter_cons]
            cases h1 : w.brk with
            | false => simp
            | true =>
              cases h2 : dueOk l w with
              | true => simp [h2]
              | false => simp [h2]
        walk_at "w"
        refine Pure.use ((has_break_ok g 6 ss l true hn hz).2 rfl) rfl (Nat.le_of_ble_eq_true rfl) ?_
        walk_at "w"
        refine iteF (by rw [eqv_bool, eqv_nil, hdue, List.isEmpty_map]; simp) ?_
        walk_at "w"
        exact ⟨hS4, rfl, rfl, trivial⟩
  intro ν ρ' hT
  have hleft := is_term_ok g 6 (.cons (.forr none false (.cons (.brk none) .nil)) .nil) (by decide +kernel) (by decide) (by decide +kernel)
  rw [show term (.cons (.forr none false (.cons (.brk none) .nil)) .nil) = false by decide +kernel] at hleft
  simp only [encs, enc, encL, Bool.false_eq_true, ↓reduceIte] at hleft
  have hkept := term_kept g
  unfold keptD bareSw brkD at hkept
  walk_at "w"
  refine Pure.use hleft rfl (Nat.le_refl _) ?_
  walk_at "w"
  refine Pure.use hkept rfl (Nat.le_of_ble_eq_true rfl) ?_
  walk_at "w"
  trace_state
end Mine
theorem PySem.Challenge.cw_on0011_01_holds : PySem.Challenge.rw_on0011_01.Holds := by
  w_on
  o_law
  o_head (kHook Mine.heap39 Mine.heapAs (fun _ => by kernel_rfl))
  (case hw => w_witness2)
  intro w s₀ s₁ mg mb G Y fa o pm cd doc dV kV ho hd hcd hD hmg hg args vals as hpre hlay hrd hwl hlo
  have KX : (Mine.heap39 w.params).In s₁.heap := kIn_of Y
  refine Ground.open G ?_
  intro T B D TE TW
  have hfa : fa = 258 := by
    have h1 : mg "law" = some (.ref 258) := mg_of KX T.g rfl
    have h2 : mg "law" = some (.ref fa) := hmg
    rw [h1] at h2
    cases h2; rfl
  subst hfa
  clear ho hd hcd hD hmg
  wrow_args hpre hlay hrd hwl hlo
  rename_i script hs hlay0 hL1 hr1 hl2 as1 as2 A₀ vs as3 hL ra w1 r0 hI hr hcond1 hcond2
  have hsc : script.length ≤ 1000 := by lia
  refine enter_call ?_
  refine Mine.law_ok { prog := PySem.Challenge.rw_on0011_01.row.prog, w := w, p := _, loose := _, mean := _, mg := mg, mb := mb, h₀ := s₁.heap, bs := s₁.heap, sub := fun _ _ e => e, gn := s₁.gens, dr := s₁.drawn, os := s₁.os, X := KX, T := T }
    callerA s₁ A₀ script ⟨vs, hL, hI⟩ hsc rfl ⟨rfl, rfl, rfl⟩ rfl rfl (by decide) (by decide) fun s' L m F sm => GoodW.toG (goodW_bool F (sm.1.trans hg) (raisesW_false ?hn) ?hp sm.2.2)
  case hn => wrow_none_raised
  case hp => wrow_post
