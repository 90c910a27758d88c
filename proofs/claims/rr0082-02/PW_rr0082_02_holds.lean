import PyProof.Rows.All
import Wide.All
import OpenK.AllK
import Wide.FinOn
import PySem.Challenge.RW_rr0082_02
open PySem PySem.W PyProof.Rows PySem.Calls
set_option Elab.async false
set_option linter.unusedVariables false
namespace Mine
def tops : List Stmt := PySem.Challenge.rw_rr0082_02.prog.main.body
def topAt (i : Nat) : Stmt := (tops[i]?).getD (.Pass ⟨0, 0, 0, 0⟩)
def inAt (i j : Nat) : Stmt := match topAt i with
  | .ClassDef _ _ _ b .. => (b[j]?).getD (.Pass ⟨0, 0, 0, 0⟩)
  | _ => .Pass ⟨0, 0, 0, 0⟩
def fArgs : Stmt → Arguments
  | .FunctionDef _ a .. => a
  | _ => { posonlyargs := [], args := [], vararg := none, kwonlyargs := [], kw_defaults := [], kwarg := none, defaults := [] }
def fBody : Stmt → List Stmt
  | .FunctionDef _ _ b .. => b
  | _ => []
def fScope : Stmt → Scope
  | .FunctionDef _ _ _ _ _ _ s .. => s
  | _ => { kind := .module, names := [], isGenerator := false, isCoroutine := false }
set_option maxRecDepth 100000 in
noncomputable def heapK (P : Params) : Frag :=
  [(2, { cls := Value.none, data := Data.dict #[{ hash := PyData.keyHash P (Str.ofString "type.__subclasses__.Exception.0"), key := Value.str (Str.ofString "type.__subclasses__.Exception.0") 223, val := Value.int 40 0 }, { hash := PyData.keyHash P (Str.ofString "type.__subclasses__.Exception.n"), key := Value.str (Str.ofString "type.__subclasses__.Exception.n") 224, val := Value.int 1 0 }] 2 }),
   (3, { cls := Value.type "dict", data := Data.dict #[{ hash := PyData.keyHash P (Str.ofString "__name__"), key := Value.str (Str.ofString "__name__") 165, val := Value.str (Str.ofString "law_rr0082_02") 505 }, { hash := PyData.keyHash P (Str.ofString "__doc__"), key := Value.str (Str.ofString "__doc__") 166, val := Value.none }, { hash := PyData.keyHash P (Str.ofString "__package__"), key := Value.str (Str.ofString "__package__") 167, val := Value.none }, { hash := PyData.keyHash P (Str.ofString "__loader__"), key := Value.str (Str.ofString "__loader__") 168, val := Value.builtin "__main__.__loader__#opaque" }, { hash := PyData.keyHash P (Str.ofString "__spec__"), key := Value.str (Str.ofString "__spec__") 169, val := Value.none }, { hash := PyData.keyHash P (Str.ofString "__annotations__"), key := Value.str (Str.ofString "__annotations__") 170, val := Value.ref 6 }, { hash := PyData.keyHash P (Str.ofString "__builtins__"), key := Value.str (Str.ofString "__builtins__") 171, val := Value.ref 4 }, { hash := PyData.keyHash P (Str.ofString "__file__"), key := Value.str (Str.ofString "__file__") 173, val := Value.str (Str.ofString "/claim/cut.py") 172 }, { hash := PyData.keyHash P (Str.ofString "__cached__"), key := Value.str (Str.ofString "__cached__") 174, val := Value.none }, { hash := PyData.keyHash P (Str.ofString "FinderError"), key := Value.str (Str.ofString "FinderError") 226, val := Value.ref 40 }, { hash := PyData.keyHash P (Str.ofString "SpotFault"), key := Value.str (Str.ofString "SpotFault") 261, val := Value.ref 69 }, { hash := PyData.keyHash P (Str.ofString "KindFault"), key := Value.str (Str.ofString "KindFault") 277, val := Value.ref 81 }, { hash := PyData.keyHash P (Str.ofString "ORDERING"), key := Value.str (Str.ofString "ORDERING") 281, val := Value.str (Str.ofString "util/ordering") 280 }, { hash := PyData.keyHash P (Str.ofString "Signatures"), key := Value.str (Str.ofString "Signatures") 504, val := Value.ref 248 }, { hash := PyData.keyHash P (Str.ofString "_law_mults"), key := Value.str (Str.ofString "_law_mults") 511, val := Value.ref 253 }, { hash := PyData.keyHash P (Str.ofString "_law_draw"), key := Value.str (Str.ofString "_law_draw") 520, val := Value.ref 260 }, { hash := PyData.keyHash P (Str.ofString "_law_rows"), key := Value.str (Str.ofString "_law_rows") 526, val := Value.ref 265 }, { hash := PyData.keyHash P (Str.ofString "_law_item"), key := Value.str (Str.ofString "_law_item") 532, val := Value.ref 270 }, { hash := PyData.keyHash P (Str.ofString "_law_model"), key := Value.str (Str.ofString "_law_model") 538, val := Value.ref 275 }, { hash := PyData.keyHash P (Str.ofString "_law_right_above"), key := Value.str (Str.ofString "_law_right_above") 545, val := Value.ref 282 }, { hash := PyData.keyHash P (Str.ofString "_law_line"), key := Value.str (Str.ofString "_law_line") 554, val := Value.ref 289 }, { hash := PyData.keyHash P (Str.ofString "_law_over"), key := Value.str (Str.ofString "_law_over") 564, val := Value.ref 296 }, { hash := PyData.keyHash P (Str.ofString "_law_sequence"), key := Value.str (Str.ofString "_law_sequence") 570, val := Value.ref 301 }, { hash := PyData.keyHash P (Str.ofString "_law_fields"), key := Value.str (Str.ofString "_law_fields") 576, val := Value.ref 306 }, { hash := PyData.keyHash P (Str.ofString "_law_is_told"), key := Value.str (Str.ofString "_law_is_told") 582, val := Value.ref 311 }, { hash := PyData.keyHash P (Str.ofString "law"), key := Value.str (Str.ofString "law") 588, val := Value.ref 316 }] 26 }),
   (15, { cls := Value.type "tuple", data := Data.seq #[Value.type "Exception"] }),
   (18, { cls := Value.type "cell", data := Data.cell (some (Value.ref 40)) }),
   (23, { cls := Value.type "tuple", data := Data.seq #[Value.ref 18] }),
   (24, { cls := Value.type "tuple", data := Data.seq #[Value.str (Str.ofString "__class__") 204] }),
   (26, { cls := Value.type "tuple", data := Data.seq #[Value.str (Str.ofString "self") 205, Value.str (Str.ofString "what") 206] }),
   (27, { cls := Value.type "tuple", data := Data.seq #[] }),
   (29, { cls := Value.type "code", data := Data.fields #[Value.str (Str.ofString "__init__") 201, Value.str (Str.ofString "FinderError.__init__") 202, Value.str (Str.ofString "/claim/cut.py") 203, Value.int 4 0, Value.int 2 0, Value.int 0 0, Value.int 0 0, Value.int 3 0, Value.ref 24, Value.bool true, Value.int 181 0, Value.ref 25, Value.none, Value.ref 26, Value.ref 27, Value.ref 28, Value.int 207 0, Value.int 4 0, Value.str (Str.ofString "/claim/cut.py") 208] }),
   (30, { cls := Value.type "function", data := Data.func { name := Str.ofString "__init__", qualname := Str.ofString "FinderError.__init__", params := fArgs (inAt 1 0), body := FuncBody.stmts (fBody (inAt 1 0)), scope := fScope (inAt 1 0), globals := 3, closure := [(Str.ofString "__class__", 18)], defaults := Value.none, kwdefaults := Value.none, pyModule := Value.str (Str.ofString "relfinder.errors") 187, code := Value.ref 29, closureTuple := Value.ref 23 } }),
   (31, { cls := Value.type "tuple", data := Data.seq #[] }),
   (33, { cls := Value.type "tuple", data := Data.seq #[Value.str (Str.ofString "self") 213] }),
   (34, { cls := Value.type "tuple", data := Data.seq #[] }),
   (36, { cls := Value.type "code", data := Data.fields #[Value.str (Str.ofString "told") 210, Value.str (Str.ofString "FinderError.told") 211, Value.str (Str.ofString "/claim/cut.py") 212, Value.int 8 0, Value.int 1 0, Value.int 0 0, Value.int 0 0, Value.int 3 0, Value.ref 31, Value.bool true, Value.int 181 0, Value.ref 32, Value.none, Value.ref 33, Value.ref 34, Value.ref 35, Value.int 214 0, Value.int 8 0, Value.str (Str.ofString "/claim/cut.py") 215] }),
   (37, { cls := Value.type "function", data := Data.func { name := Str.ofString "told", qualname := Str.ofString "FinderError.told", params := fArgs (inAt 1 1), body := FuncBody.stmts (fBody (inAt 1 1)), scope := fScope (inAt 1 1), globals := 3, closure := [], defaults := Value.none, kwdefaults := Value.none, pyModule := Value.str (Str.ofString "relfinder.errors") 187, code := Value.ref 36 } }),
   (38, { cls := Value.type "tuple", data := Data.seq #[Value.str (Str.ofString "what") 217] }),
   (39, { cls := Value.type "dict", data := Data.dict #[{ hash := PyData.keyHash P (Str.ofString "__module__"), key := Value.str (Str.ofString "__module__") 196, val := Value.str (Str.ofString "relfinder.errors") 187 }, { hash := PyData.keyHash P (Str.ofString "__firstlineno__"), key := Value.str (Str.ofString "__firstlineno__") 200, val := Value.int 2 199 }, { hash := PyData.keyHash P (Str.ofString "__init__"), key := Value.str (Str.ofString "__init__") 209, val := Value.ref 30 }, { hash := PyData.keyHash P (Str.ofString "told"), key := Value.str (Str.ofString "told") 216, val := Value.ref 37 }, { hash := PyData.keyHash P (Str.ofString "__static_attributes__"), key := Value.str (Str.ofString "__static_attributes__") 218, val := Value.ref 38 }, { hash := PyData.keyHash P (Str.ofString "__weakref__"), key := Value.str (Str.ofString "__weakref__") 221, val := Value.ref 41 }, { hash := PyData.keyHash P (Str.ofString "__doc__"), key := Value.str (Str.ofString "__doc__") 222, val := Value.none }] 4 }),
   (40, { cls := Value.type "type", data := Data.cls { name := Str.ofString "FinderError", bases := [Value.type "Exception"], mro := [Value.ref 40, Value.type "Exception", Value.type "BaseException", Value.type "object"], ns := 39, qualname := Str.ofString "FinderError", subclasses := [Value.ref 69] }, slots := #[some (Value.ref 15), none, some (Value.str (Str.ofString "FinderError") 189), some (Value.str (Str.ofString "FinderError") 197), some (Value.builtin "Exception.__new__"), some (Value.bool true)] }),
   (41, { cls := Value.type "getset_descriptor", data := Data.fields #[Value.str (Str.ofString "__weakref__") 220, Value.ref 40, Value.builtin "ExceptionGroup.__weakref__", Value.none] }),
   (44, { cls := Value.type "tuple", data := Data.seq #[Value.ref 40] }),
   (47, { cls := Value.type "cell", data := Data.cell (some (Value.ref 69)) }),
   (52, { cls := Value.type "tuple", data := Data.seq #[Value.ref 47] }),
   (53, { cls := Value.type "tuple", data := Data.seq #[Value.str (Str.ofString "__class__") 242] }),
   (55, { cls := Value.type "tuple", data := Data.seq #[Value.str (Str.ofString "self") 243, Value.str (Str.ofString "what") 244, Value.str (Str.ofString "spot") 245] }),
   (56, { cls := Value.type "tuple", data := Data.seq #[] }),
   (58, { cls := Value.type "code", data := Data.fields #[Value.str (Str.ofString "__init__") 239, Value.str (Str.ofString "SpotFault.__init__") 240, Value.str (Str.ofString "/claim/cut.py") 241, Value.int 12 0, Value.int 3 0, Value.int 0 0, Value.int 0 0, Value.int 3 0, Value.ref 53, Value.bool true, Value.int 181 0, Value.ref 54, Value.none, Value.ref 55, Value.ref 56, Value.ref 57, Value.int 246 0, Value.int 12 0, Value.str (Str.ofString "/claim/cut.py") 247] }),
   (59, { cls := Value.type "function", data := Data.func { name := Str.ofString "__init__", qualname := Str.ofString "SpotFault.__init__", params := fArgs (inAt 2 0), body := FuncBody.stmts (fBody (inAt 2 0)), scope := fScope (inAt 2 0), globals := 3, closure := [(Str.ofString "__class__", 47)], defaults := Value.none, kwdefaults := Value.none, pyModule := Value.str (Str.ofString "relfinder.errors") 187, code := Value.ref 58, closureTuple := Value.ref 52 } }),
   (60, { cls := Value.type "tuple", data := Data.seq #[] }),
   (62, { cls := Value.type "tuple", data := Data.seq #[Value.str (Str.ofString "self") 252] }),
   (63, { cls := Value.type "tuple", data := Data.seq #[] }),
   (65, { cls := Value.type "code", data := Data.fields #[Value.str (Str.ofString "told") 249, Value.str (Str.ofString "SpotFault.told") 250, Value.str (Str.ofString "/claim/cut.py") 251, Value.int 16 0, Value.int 1 0, Value.int 0 0, Value.int 0 0, Value.int 3 0, Value.ref 60, Value.bool true, Value.int 181 0, Value.ref 61, Value.none, Value.ref 62, Value.ref 63, Value.ref 64, Value.int 253 0, Value.int 16 0, Value.str (Str.ofString "/claim/cut.py") 254] }),
   (66, { cls := Value.type "function", data := Data.func { name := Str.ofString "told", qualname := Str.ofString "SpotFault.told", params := fArgs (inAt 2 1), body := FuncBody.stmts (fBody (inAt 2 1)), scope := fScope (inAt 2 1), globals := 3, closure := [], defaults := Value.none, kwdefaults := Value.none, pyModule := Value.str (Str.ofString "relfinder.errors") 187, code := Value.ref 65 } }),
   (67, { cls := Value.type "tuple", data := Data.seq #[Value.str (Str.ofString "spot") 256] }),
   (68, { cls := Value.type "dict", data := Data.dict #[{ hash := PyData.keyHash P (Str.ofString "__module__"), key := Value.str (Str.ofString "__module__") 234, val := Value.str (Str.ofString "relfinder.errors") 187 }, { hash := PyData.keyHash P (Str.ofString "__firstlineno__"), key := Value.str (Str.ofString "__firstlineno__") 238, val := Value.int 10 237 }, { hash := PyData.keyHash P (Str.ofString "__init__"), key := Value.str (Str.ofString "__init__") 248, val := Value.ref 59 }, { hash := PyData.keyHash P (Str.ofString "told"), key := Value.str (Str.ofString "told") 255, val := Value.ref 66 }, { hash := PyData.keyHash P (Str.ofString "__static_attributes__"), key := Value.str (Str.ofString "__static_attributes__") 257, val := Value.ref 67 }, { hash := PyData.keyHash P (Str.ofString "__doc__"), key := Value.str (Str.ofString "__doc__") 259, val := Value.none }] 3 }),
   (69, { cls := Value.type "type", data := Data.cls { name := Str.ofString "SpotFault", bases := [Value.ref 40], mro := [Value.ref 69, Value.ref 40, Value.type "Exception", Value.type "BaseException", Value.type "object"], ns := 68, qualname := Str.ofString "SpotFault", subclasses := [Value.ref 81] }, slots := #[some (Value.ref 44), none, some (Value.str (Str.ofString "SpotFault") 227), some (Value.str (Str.ofString "SpotFault") 235), some (Value.builtin "Exception.__new__"), some (Value.bool true)] }),
   (72, { cls := Value.type "tuple", data := Data.seq #[Value.ref 69] }),
   (79, { cls := Value.type "tuple", data := Data.seq #[] }),
   (80, { cls := Value.type "dict", data := Data.dict #[{ hash := PyData.keyHash P (Str.ofString "__module__"), key := Value.str (Str.ofString "__module__") 269, val := Value.str (Str.ofString "relfinder.errors") 187 }, { hash := PyData.keyHash P (Str.ofString "__firstlineno__"), key := Value.str (Str.ofString "__firstlineno__") 273, val := Value.int 18 272 }, { hash := PyData.keyHash P (Str.ofString "__static_attributes__"), key := Value.str (Str.ofString "__static_attributes__") 274, val := Value.ref 79 }, { hash := PyData.keyHash P (Str.ofString "__doc__"), key := Value.str (Str.ofString "__doc__") 275, val := Value.none }] 2 }),
   (81, { cls := Value.type "type", data := Data.cls { name := Str.ofString "KindFault", bases := [Value.ref 69], mro := [Value.ref 81, Value.ref 69, Value.ref 40, Value.type "Exception", Value.type "BaseException", Value.type "object"], ns := 80, qualname := Str.ofString "KindFault" }, slots := #[some (Value.ref 72), none, some (Value.str (Str.ofString "KindFault") 262), some (Value.str (Str.ofString "KindFault") 270), some (Value.builtin "Exception.__new__"), some (Value.bool true)] }),
   (91, { cls := Value.type "tuple", data := Data.seq #[] }),
   (93, { cls := Value.type "tuple", data := Data.seq #[Value.str (Str.ofString "self") 297, Value.str (Str.ofString "items") 298, Value.str (Str.ofString "item") 299, Value.str (Str.ofString "name") 300] }),
   (94, { cls := Value.type "tuple", data := Data.seq #[] }),
   (96, { cls := Value.type "code", data := Data.fields #[Value.str (Str.ofString "__init__") 294, Value.str (Str.ofString "Signatures.__init__") 295, Value.str (Str.ofString "/claim/cut.py") 296, Value.int 24 0, Value.int 2 0, Value.int 0 0, Value.int 0 0, Value.int 3 0, Value.ref 91, Value.bool true, Value.int 181 0, Value.ref 92, Value.none, Value.ref 93, Value.ref 94, Value.ref 95, Value.int 301 0, Value.int 24 0, Value.str (Str.ofString "/claim/cut.py") 302] }),
   (97, { cls := Value.type "function", data := Data.func { name := Str.ofString "__init__", qualname := Str.ofString "Signatures.__init__", params := fArgs (inAt 6 0), body := FuncBody.stmts (fBody (inAt 6 0)), scope := fScope (inAt 6 0), globals := 3, closure := [], defaults := Value.none, kwdefaults := Value.none, pyModule := Value.str (Str.ofString "relfinder.sigs") 278, code := Value.ref 96 } }),
   (98, { cls := Value.type "tuple", data := Data.seq #[] }),
   (100, { cls := Value.type "tuple", data := Data.seq #[Value.str (Str.ofString "self") 307, Value.str (Str.ofString "item") 308, Value.str (Str.ofString "name") 309] }),
   (101, { cls := Value.type "tuple", data := Data.seq #[] }),
   (103, { cls := Value.type "code", data := Data.fields #[Value.str (Str.ofString "take_sig") 304, Value.str (Str.ofString "Signatures.take_sig") 305, Value.str (Str.ofString "/claim/cut.py") 306, Value.int 40 0, Value.int 2 0, Value.int 0 0, Value.int 0 0, Value.int 3 0, Value.ref 98, Value.bool true, Value.int 181 0, Value.ref 99, Value.none, Value.ref 100, Value.ref 101, Value.ref 102, Value.int 310 0, Value.int 40 0, Value.str (Str.ofString "/claim/cut.py") 311] }),
   (104, { cls := Value.type "function", data := Data.func { name := Str.ofString "take_sig", qualname := Str.ofString "Signatures.take_sig", params := fArgs (inAt 6 1), body := FuncBody.stmts (fBody (inAt 6 1)), scope := fScope (inAt 6 1), globals := 3, closure := [], defaults := Value.none, kwdefaults := Value.none, pyModule := Value.str (Str.ofString "relfinder.sigs") 278, code := Value.ref 103 } }),
   (105, { cls := Value.type "tuple", data := Data.seq #[] }),
   (107, { cls := Value.type "tuple", data := Data.seq #[Value.str (Str.ofString "self") 316, Value.str (Str.ofString "name") 317, Value.str (Str.ofString "other") 318] }),
   (108, { cls := Value.type "tuple", data := Data.seq #[] }),
   (110, { cls := Value.type "code", data := Data.fields #[Value.str (Str.ofString "look_above") 313, Value.str (Str.ofString "Signatures.look_above") 314, Value.str (Str.ofString "/claim/cut.py") 315, Value.int 49 0, Value.int 2 0, Value.int 0 0, Value.int 0 0, Value.int 3 0, Value.ref 105, Value.bool true, Value.int 181 0, Value.ref 106, Value.none, Value.ref 107, Value.ref 108, Value.ref 109, Value.int 319 0, Value.int 49 0, Value.str (Str.ofString "/claim/cut.py") 320] }),
   (111, { cls := Value.type "function", data := Data.func { name := Str.ofString "look_above", qualname := Str.ofString "Signatures.look_above", params := fArgs (inAt 6 2), body := FuncBody.stmts (fBody (inAt 6 2)), scope := fScope (inAt 6 2), globals := 3, closure := [], defaults := Value.none, kwdefaults := Value.none, pyModule := Value.str (Str.ofString "relfinder.sigs") 278, code := Value.ref 110 } }),
   (112, { cls := Value.type "tuple", data := Data.seq #[] }),
   (114, { cls := Value.type "tuple", data := Data.seq #[Value.str (Str.ofString "self") 325, Value.str (Str.ofString "name") 326] }),
   (115, { cls := Value.type "tuple", data := Data.seq #[] }),
   (117, { cls := Value.type "code", data := Data.fields #[Value.str (Str.ofString "direct") 322, Value.str (Str.ofString "Signatures.direct") 323, Value.str (Str.ofString "/claim/cut.py") 324, Value.int 56 0, Value.int 2 0, Value.int 0 0, Value.int 0 0, Value.int 3 0, Value.ref 112, Value.bool true, Value.int 181 0, Value.ref 113, Value.none, Value.ref 114, Value.ref 115, Value.ref 116, Value.int 327 0, Value.int 56 0, Value.str (Str.ofString "/claim/cut.py") 328] }),
   (118, { cls := Value.type "function", data := Data.func { name := Str.ofString "direct", qualname := Str.ofString "Signatures.direct", params := fArgs (inAt 6 3), body := FuncBody.stmts (fBody (inAt 6 3)), scope := fScope (inAt 6 3), globals := 3, closure := [], defaults := Value.none, kwdefaults := Value.none, pyModule := Value.str (Str.ofString "relfinder.sigs") 278, code := Value.ref 117 } }),
   (119, { cls := Value.type "tuple", data := Data.seq #[] }),
   (122, { cls := Value.type "code", data := Data.fields #[Value.str (Str.ofString "parents_first") 330, Value.str (Str.ofString "Signatures.parents_first") 331, Value.str (Str.ofString "/claim/cut.py") 332, Value.int 59 0, Value.int 1 0, Value.int 0 0, Value.int 0 0, Value.int 3 0, Value.ref 119, Value.bool true, Value.int 181 0, Value.ref 120, Value.none, Value.none, Value.none, Value.ref 121, Value.int 333 0, Value.int 59 0, Value.str (Str.ofString "/claim/cut.py") 334] }),
   (123, { cls := Value.type "function", data := Data.func { name := Str.ofString "parents_first", qualname := Str.ofString "Signatures.parents_first", params := fArgs (inAt 6 4), body := FuncBody.stmts (fBody (inAt 6 4)), scope := fScope (inAt 6 4), globals := 3, closure := [], defaults := Value.none, kwdefaults := Value.none, pyModule := Value.str (Str.ofString "relfinder.sigs") 278, code := Value.ref 122 } }),
   (124, { cls := Value.type "tuple", data := Data.seq #[] }),
   (126, { cls := Value.type "tuple", data := Data.seq #[Value.str (Str.ofString "self") 339, Value.str (Str.ofString "found") 340, Value.str (Str.ofString "group") 341, Value.str (Str.ofString "name") 342, Value.str (Str.ofString "spot") 343, Value.str (Str.ofString "is_disj") 344, Value.str (Str.ofString "fields") 345, Value.str (Str.ofString "mult") 346, Value.str (Str.ofString "node") 347, Value.str (Str.ofString "field") 348] }),
   (127, { cls := Value.type "tuple", data := Data.seq #[] }),
   (129, { cls := Value.type "code", data := Data.fields #[Value.str (Str.ofString "all_fields") 336, Value.str (Str.ofString "Signatures.all_fields") 337, Value.str (Str.ofString "/claim/cut.py") 338, Value.int 69 0, Value.int 1 0, Value.int 0 0, Value.int 0 0, Value.int 3 0, Value.ref 124, Value.bool true, Value.int 181 0, Value.ref 125, Value.none, Value.ref 126, Value.ref 127, Value.ref 128, Value.int 349 0, Value.int 69 0, Value.str (Str.ofString "/claim/cut.py") 350] }),
   (130, { cls := Value.type "function", data := Data.func { name := Str.ofString "all_fields", qualname := Str.ofString "Signatures.all_fields", params := fArgs (inAt 6 5), body := FuncBody.stmts (fBody (inAt 6 5)), scope := fScope (inAt 6 5), globals := 3, closure := [], defaults := Value.none, kwdefaults := Value.none, pyModule := Value.str (Str.ofString "relfinder.sigs") 278, code := Value.ref 129 } }),
   (131, { cls := Value.type "tuple", data := Data.seq #[] }),
   (133, { cls := Value.type "tuple", data := Data.seq #[Value.str (Str.ofString "self") 355, Value.str (Str.ofString "seen") 356, Value.str (Str.ofString "field") 357, Value.str (Str.ofString "name") 358, Value.str (Str.ofString "mult") 359, Value.str (Str.ofString "node") 360, Value.str (Str.ofString "spot") 361, Value.str (Str.ofString "group") 362, Value.str (Str.ofString "other") 363] }),
   (134, { cls := Value.type "tuple", data := Data.seq #[] }),
   (136, { cls := Value.type "code", data := Data.fields #[Value.str (Str.ofString "look_fields") 352, Value.str (Str.ofString "Signatures.look_fields") 353, Value.str (Str.ofString "/claim/cut.py") 354, Value.int 78 0, Value.int 1 0, Value.int 0 0, Value.int 0 0, Value.int 3 0, Value.ref 131, Value.bool true, Value.int 181 0, Value.ref 132, Value.none, Value.ref 133, Value.ref 134, Value.ref 135, Value.int 364 0, Value.int 78 0, Value.str (Str.ofString "/claim/cut.py") 365] }),
   (137, { cls := Value.type "function", data := Data.func { name := Str.ofString "look_fields", qualname := Str.ofString "Signatures.look_fields", params := fArgs (inAt 6 6), body := FuncBody.stmts (fBody (inAt 6 6)), scope := fScope (inAt 6 6), globals := 3, closure := [], defaults := Value.none, kwdefaults := Value.none, pyModule := Value.str (Str.ofString "relfinder.sigs") 278, code := Value.ref 136 } }),
   (138, { cls := Value.type "tuple", data := Data.seq #[] }),
   (141, { cls := Value.type "code", data := Data.fields #[Value.str (Str.ofString "take_order") 367, Value.str (Str.ofString "Signatures.take_order") 368, Value.str (Str.ofString "/claim/cut.py") 369, Value.int 88 0, Value.int 2 0, Value.int 0 0, Value.int 0 0, Value.int 3 0, Value.ref 138, Value.bool true, Value.int 181 0, Value.ref 139, Value.none, Value.none, Value.none, Value.ref 140, Value.int 370 0, Value.int 88 0, Value.str (Str.ofString "/claim/cut.py") 371] }),
   (142, { cls := Value.type "function", data := Data.func { name := Str.ofString "take_order", qualname := Str.ofString "Signatures.take_order", params := fArgs (inAt 6 7), body := FuncBody.stmts (fBody (inAt 6 7)), scope := fScope (inAt 6 7), globals := 3, closure := [], defaults := Value.none, kwdefaults := Value.none, pyModule := Value.str (Str.ofString "relfinder.sigs") 278, code := Value.ref 141 } }),
   (143, { cls := Value.type "tuple", data := Data.seq #[] }),
   (145, { cls := Value.type "tuple", data := Data.seq #[Value.str (Str.ofString "self") 376] }),
   (146, { cls := Value.type "tuple", data := Data.seq #[] }),
   (148, { cls := Value.type "code", data := Data.fields #[Value.str (Str.ofString "names") 373, Value.str (Str.ofString "Signatures.names") 374, Value.str (Str.ofString "/claim/cut.py") 375, Value.int 99 0, Value.int 1 0, Value.int 0 0, Value.int 0 0, Value.int 3 0, Value.ref 143, Value.bool true, Value.int 181 0, Value.ref 144, Value.none, Value.ref 145, Value.ref 146, Value.ref 147, Value.int 377 0, Value.int 99 0, Value.str (Str.ofString "/claim/cut.py") 378] }),
   (149, { cls := Value.type "function", data := Data.func { name := Str.ofString "names", qualname := Str.ofString "Signatures.names", params := fArgs (inAt 6 8), body := FuncBody.stmts (fBody (inAt 6 8)), scope := fScope (inAt 6 8), globals := 3, closure := [], defaults := Value.none, kwdefaults := Value.none, pyModule := Value.str (Str.ofString "relfinder.sigs") 278, code := Value.ref 148 } }),
   (150, { cls := Value.type "tuple", data := Data.seq #[] }),
   (152, { cls := Value.type "tuple", data := Data.seq #[Value.str (Str.ofString "self") 383, Value.str (Str.ofString "name") 384] }),
   (153, { cls := Value.type "tuple", data := Data.seq #[] }),
   (155, { cls := Value.type "code", data := Data.fields #[Value.str (Str.ofString "has") 380, Value.str (Str.ofString "Signatures.has") 381, Value.str (Str.ofString "/claim/cut.py") 382, Value.int 102 0, Value.int 2 0, Value.int 0 0, Value.int 0 0, Value.int 3 0, Value.ref 150, Value.bool true, Value.int 181 0, Value.ref 151, Value.none, Value.ref 152, Value.ref 153, Value.ref 154, Value.int 385 0, Value.int 102 0, Value.str (Str.ofString "/claim/cut.py") 386] }),
   (156, { cls := Value.type "function", data := Data.func { name := Str.ofString "has", qualname := Str.ofString "Signatures.has", params := fArgs (inAt 6 9), body := FuncBody.stmts (fBody (inAt 6 9)), scope := fScope (inAt 6 9), globals := 3, closure := [], defaults := Value.none, kwdefaults := Value.none, pyModule := Value.str (Str.ofString "relfinder.sigs") 278, code := Value.ref 155 } }),
   (157, { cls := Value.type "tuple", data := Data.seq #[] }),
   (159, { cls := Value.type "tuple", data := Data.seq #[Value.str (Str.ofString "self") 391, Value.str (Str.ofString "name") 392] }),
   (160, { cls := Value.type "tuple", data := Data.seq #[] }),
   (162, { cls := Value.type "code", data := Data.fields #[Value.str (Str.ofString "spot") 388, Value.str (Str.ofString "Signatures.spot") 389, Value.str (Str.ofString "/claim/cut.py") 390, Value.int 105 0, Value.int 2 0, Value.int 0 0, Value.int 0 0, Value.int 3 0, Value.ref 157, Value.bool true, Value.int 181 0, Value.ref 158, Value.none, Value.ref 159, Value.ref 160, Value.ref 161, Value.int 393 0, Value.int 105 0, Value.str (Str.ofString "/claim/cut.py") 394] }),
   (163, { cls := Value.type "function", data := Data.func { name := Str.ofString "spot", qualname := Str.ofString "Signatures.spot", params := fArgs (inAt 6 10), body := FuncBody.stmts (fBody (inAt 6 10)), scope := fScope (inAt 6 10), globals := 3, closure := [], defaults := Value.none, kwdefaults := Value.none, pyModule := Value.str (Str.ofString "relfinder.sigs") 278, code := Value.ref 162 } }),
   (164, { cls := Value.type "tuple", data := Data.seq #[] }),
   (166, { cls := Value.type "tuple", data := Data.seq #[Value.str (Str.ofString "self") 399, Value.str (Str.ofString "name") 400] }),
   (167, { cls := Value.type "tuple", data := Data.seq #[] }),
   (169, { cls := Value.type "code", data := Data.fields #[Value.str (Str.ofString "parent") 396, Value.str (Str.ofString "Signatures.parent") 397, Value.str (Str.ofString "/claim/cut.py") 398, Value.int 108 0, Value.int 2 0, Value.int 0 0, Value.int 0 0, Value.int 3 0, Value.ref 164, Value.bool true, Value.int 181 0, Value.ref 165, Value.none, Value.ref 166, Value.ref 167, Value.ref 168, Value.int 401 0, Value.int 108 0, Value.str (Str.ofString "/claim/cut.py") 402] }),
   (170, { cls := Value.type "function", data := Data.func { name := Str.ofString "parent", qualname := Str.ofString "Signatures.parent", params := fArgs (inAt 6 11), body := FuncBody.stmts (fBody (inAt 6 11)), scope := fScope (inAt 6 11), globals := 3, closure := [], defaults := Value.none, kwdefaults := Value.none, pyModule := Value.str (Str.ofString "relfinder.sigs") 278, code := Value.ref 169 } }),
   (171, { cls := Value.type "tuple", data := Data.seq #[] }),
   (173, { cls := Value.type "tuple", data := Data.seq #[Value.str (Str.ofString "self") 407, Value.str (Str.ofString "name") 408] }),
   (174, { cls := Value.type "tuple", data := Data.seq #[] }),
   (176, { cls := Value.type "code", data := Data.fields #[Value.str (Str.ofString "supers") 404, Value.str (Str.ofString "Signatures.supers") 405, Value.str (Str.ofString "/claim/cut.py") 406, Value.int 111 0, Value.int 2 0, Value.int 0 0, Value.int 0 0, Value.int 3 0, Value.ref 171, Value.bool true, Value.int 181 0, Value.ref 172, Value.none, Value.ref 173, Value.ref 174, Value.ref 175, Value.int 409 0, Value.int 111 0, Value.str (Str.ofString "/claim/cut.py") 410] }),
   (177, { cls := Value.type "function", data := Data.func { name := Str.ofString "supers", qualname := Str.ofString "Signatures.supers", params := fArgs (inAt 6 12), body := FuncBody.stmts (fBody (inAt 6 12)), scope := fScope (inAt 6 12), globals := 3, closure := [], defaults := Value.none, kwdefaults := Value.none, pyModule := Value.str (Str.ofString "relfinder.sigs") 278, code := Value.ref 176 } }),
   (178, { cls := Value.type "tuple", data := Data.seq #[] }),
   (180, { cls := Value.type "tuple", data := Data.seq #[Value.str (Str.ofString "self") 415, Value.str (Str.ofString "name") 416] }),
   (181, { cls := Value.type "tuple", data := Data.seq #[] }),
   (183, { cls := Value.type "code", data := Data.fields #[Value.str (Str.ofString "is_subset") 412, Value.str (Str.ofString "Signatures.is_subset") 413, Value.str (Str.ofString "/claim/cut.py") 414, Value.int 114 0, Value.int 2 0, Value.int 0 0, Value.int 0 0, Value.int 3 0, Value.ref 178, Value.bool true, Value.int 181 0, Value.ref 179, Value.none, Value.ref 180, Value.ref 181, Value.ref 182, Value.int 417 0, Value.int 114 0, Value.str (Str.ofString "/claim/cut.py") 418] }),
   (184, { cls := Value.type "function", data := Data.func { name := Str.ofString "is_subset", qualname := Str.ofString "Signatures.is_subset", params := fArgs (inAt 6 13), body := FuncBody.stmts (fBody (inAt 6 13)), scope := fScope (inAt 6 13), globals := 3, closure := [], defaults := Value.none, kwdefaults := Value.none, pyModule := Value.str (Str.ofString "relfinder.sigs") 278, code := Value.ref 183 } }),
   (185, { cls := Value.type "tuple", data := Data.seq #[] }),
   (188, { cls := Value.type "code", data := Data.fields #[Value.str (Str.ofString "children") 420, Value.str (Str.ofString "Signatures.children") 421, Value.str (Str.ofString "/claim/cut.py") 422, Value.int 117 0, Value.int 2 0, Value.int 0 0, Value.int 0 0, Value.int 3 0, Value.ref 185, Value.bool true, Value.int 181 0, Value.ref 186, Value.none, Value.none, Value.none, Value.ref 187, Value.int 423 0, Value.int 117 0, Value.str (Str.ofString "/claim/cut.py") 424] }),
   (189, { cls := Value.type "function", data := Data.func { name := Str.ofString "children", qualname := Str.ofString "Signatures.children", params := fArgs (inAt 6 14), body := FuncBody.stmts (fBody (inAt 6 14)), scope := fScope (inAt 6 14), globals := 3, closure := [], defaults := Value.none, kwdefaults := Value.none, pyModule := Value.str (Str.ofString "relfinder.sigs") 278, code := Value.ref 188 } }),
   (190, { cls := Value.type "tuple", data := Data.seq #[] }),
   (192, { cls := Value.type "tuple", data := Data.seq #[Value.str (Str.ofString "self") 429, Value.str (Str.ofString "name") 430, Value.str (Str.ofString "found") 431] }),
   (193, { cls := Value.type "tuple", data := Data.seq #[] }),
   (195, { cls := Value.type "code", data := Data.fields #[Value.str (Str.ofString "above") 426, Value.str (Str.ofString "Signatures.above") 427, Value.str (Str.ofString "/claim/cut.py") 428, Value.int 120 0, Value.int 2 0, Value.int 0 0, Value.int 0 0, Value.int 3 0, Value.ref 190, Value.bool true, Value.int 181 0, Value.ref 191, Value.none, Value.ref 192, Value.ref 193, Value.ref 194, Value.int 432 0, Value.int 120 0, Value.str (Str.ofString "/claim/cut.py") 433] }),
   (196, { cls := Value.type "function", data := Data.func { name := Str.ofString "above", qualname := Str.ofString "Signatures.above", params := fArgs (inAt 6 15), body := FuncBody.stmts (fBody (inAt 6 15)), scope := fScope (inAt 6 15), globals := 3, closure := [], defaults := Value.none, kwdefaults := Value.none, pyModule := Value.str (Str.ofString "relfinder.sigs") 278, code := Value.ref 195 } }),
   (197, { cls := Value.type "tuple", data := Data.seq #[] }),
   (199, { cls := Value.type "tuple", data := Data.seq #[Value.str (Str.ofString "self") 438, Value.str (Str.ofString "name") 439] }),
   (200, { cls := Value.type "tuple", data := Data.seq #[] }),
   (202, { cls := Value.type "code", data := Data.fields #[Value.str (Str.ofString "top") 435, Value.str (Str.ofString "Signatures.top") 436, Value.str (Str.ofString "/claim/cut.py") 437, Value.int 127 0, Value.int 2 0, Value.int 0 0, Value.int 0 0, Value.int 3 0, Value.ref 197, Value.bool true, Value.int 181 0, Value.ref 198, Value.none, Value.ref 199, Value.ref 200, Value.ref 201, Value.int 440 0, Value.int 127 0, Value.str (Str.ofString "/claim/cut.py") 441] }),
   (203, { cls := Value.type "function", data := Data.func { name := Str.ofString "top", qualname := Str.ofString "Signatures.top", params := fArgs (inAt 6 16), body := FuncBody.stmts (fBody (inAt 6 16)), scope := fScope (inAt 6 16), globals := 3, closure := [], defaults := Value.none, kwdefaults := Value.none, pyModule := Value.str (Str.ofString "relfinder.sigs") 278, code := Value.ref 202 } }),
   (204, { cls := Value.type "tuple", data := Data.seq #[] }),
   (206, { cls := Value.type "tuple", data := Data.seq #[Value.str (Str.ofString "self") 446, Value.str (Str.ofString "name") 447, Value.str (Str.ofString "found") 448, Value.str (Str.ofString "waiting") 449, Value.str (Str.ofString "other") 450] }),
   (207, { cls := Value.type "tuple", data := Data.seq #[] }),
   (209, { cls := Value.type "code", data := Data.fields #[Value.str (Str.ofString "all_above") 443, Value.str (Str.ofString "Signatures.all_above") 444, Value.str (Str.ofString "/claim/cut.py") 445, Value.int 132 0, Value.int 2 0, Value.int 0 0, Value.int 0 0, Value.int 3 0, Value.ref 204, Value.bool true, Value.int 181 0, Value.ref 205, Value.none, Value.ref 206, Value.ref 207, Value.ref 208, Value.int 451 0, Value.int 132 0, Value.str (Str.ofString "/claim/cut.py") 452] }),
   (210, { cls := Value.type "function", data := Data.func { name := Str.ofString "all_above", qualname := Str.ofString "Signatures.all_above", params := fArgs (inAt 6 17), body := FuncBody.stmts (fBody (inAt 6 17)), scope := fScope (inAt 6 17), globals := 3, closure := [], defaults := Value.none, kwdefaults := Value.none, pyModule := Value.str (Str.ofString "relfinder.sigs") 278, code := Value.ref 209 } }),
   (211, { cls := Value.type "tuple", data := Data.seq #[] }),
   (213, { cls := Value.type "tuple", data := Data.seq #[Value.str (Str.ofString "self") 457, Value.str (Str.ofString "name") 458] }),
   (214, { cls := Value.type "tuple", data := Data.seq #[] }),
   (216, { cls := Value.type "code", data := Data.fields #[Value.str (Str.ofString "is_abstract") 454, Value.str (Str.ofString "Signatures.is_abstract") 455, Value.str (Str.ofString "/claim/cut.py") 456, Value.int 141 0, Value.int 2 0, Value.int 0 0, Value.int 0 0, Value.int 3 0, Value.ref 211, Value.bool true, Value.int 181 0, Value.ref 212, Value.none, Value.ref 213, Value.ref 214, Value.ref 215, Value.int 459 0, Value.int 141 0, Value.str (Str.ofString "/claim/cut.py") 460] }),
   (217, { cls := Value.type "function", data := Data.func { name := Str.ofString "is_abstract", qualname := Str.ofString "Signatures.is_abstract", params := fArgs (inAt 6 18), body := FuncBody.stmts (fBody (inAt 6 18)), scope := fScope (inAt 6 18), globals := 3, closure := [], defaults := Value.none, kwdefaults := Value.none, pyModule := Value.str (Str.ofString "relfinder.sigs") 278, code := Value.ref 216 } }),
   (218, { cls := Value.type "tuple", data := Data.seq #[] }),
   (220, { cls := Value.type "tuple", data := Data.seq #[Value.str (Str.ofString "self") 465, Value.str (Str.ofString "name") 466] }),
   (221, { cls := Value.type "tuple", data := Data.seq #[] }),
   (223, { cls := Value.type "code", data := Data.fields #[Value.str (Str.ofString "mult") 462, Value.str (Str.ofString "Signatures.mult") 463, Value.str (Str.ofString "/claim/cut.py") 464, Value.int 144 0, Value.int 2 0, Value.int 0 0, Value.int 0 0, Value.int 3 0, Value.ref 218, Value.bool true, Value.int 181 0, Value.ref 219, Value.none, Value.ref 220, Value.ref 221, Value.ref 222, Value.int 467 0, Value.int 144 0, Value.str (Str.ofString "/claim/cut.py") 468] }),
   (224, { cls := Value.type "function", data := Data.func { name := Str.ofString "mult", qualname := Str.ofString "Signatures.mult", params := fArgs (inAt 6 19), body := FuncBody.stmts (fBody (inAt 6 19)), scope := fScope (inAt 6 19), globals := 3, closure := [], defaults := Value.none, kwdefaults := Value.none, pyModule := Value.str (Str.ofString "relfinder.sigs") 278, code := Value.ref 223 } }),
   (225, { cls := Value.type "tuple", data := Data.seq #[] }),
   (227, { cls := Value.type "tuple", data := Data.seq #[Value.str (Str.ofString "self") 473] }),
   (228, { cls := Value.type "tuple", data := Data.seq #[] }),
   (230, { cls := Value.type "code", data := Data.fields #[Value.str (Str.ofString "fields") 470, Value.str (Str.ofString "Signatures.fields") 471, Value.str (Str.ofString "/claim/cut.py") 472, Value.int 147 0, Value.int 1 0, Value.int 0 0, Value.int 0 0, Value.int 3 0, Value.ref 225, Value.bool true, Value.int 181 0, Value.ref 226, Value.none, Value.ref 227, Value.ref 228, Value.ref 229, Value.int 474 0, Value.int 147 0, Value.str (Str.ofString "/claim/cut.py") 475] }),
   (231, { cls := Value.type "function", data := Data.func { name := Str.ofString "fields", qualname := Str.ofString "Signatures.fields", params := fArgs (inAt 6 20), body := FuncBody.stmts (fBody (inAt 6 20)), scope := fScope (inAt 6 20), globals := 3, closure := [], defaults := Value.none, kwdefaults := Value.none, pyModule := Value.str (Str.ofString "relfinder.sigs") 278, code := Value.ref 230 } }),
   (232, { cls := Value.type "tuple", data := Data.seq #[] }),
   (234, { cls := Value.type "tuple", data := Data.seq #[Value.str (Str.ofString "self") 480, Value.str (Str.ofString "name") 481] }),
   (235, { cls := Value.type "tuple", data := Data.seq #[] }),
   (237, { cls := Value.type "code", data := Data.fields #[Value.str (Str.ofString "facts") 477, Value.str (Str.ofString "Signatures.facts") 478, Value.str (Str.ofString "/claim/cut.py") 479, Value.int 150 0, Value.int 2 0, Value.int 0 0, Value.int 0 0, Value.int 3 0, Value.ref 232, Value.bool true, Value.int 181 0, Value.ref 233, Value.none, Value.ref 234, Value.ref 235, Value.ref 236, Value.int 482 0, Value.int 150 0, Value.str (Str.ofString "/claim/cut.py") 483] }),
   (238, { cls := Value.type "function", data := Data.func { name := Str.ofString "facts", qualname := Str.ofString "Signatures.facts", params := fArgs (inAt 6 21), body := FuncBody.stmts (fBody (inAt 6 21)), scope := fScope (inAt 6 21), globals := 3, closure := [], defaults := Value.none, kwdefaults := Value.none, pyModule := Value.str (Str.ofString "relfinder.sigs") 278, code := Value.ref 237 } }),
   (239, { cls := Value.type "tuple", data := Data.seq #[] }),
   (241, { cls := Value.type "tuple", data := Data.seq #[Value.str (Str.ofString "self") 488] }),
   (242, { cls := Value.type "tuple", data := Data.seq #[] }),
   (244, { cls := Value.type "code", data := Data.fields #[Value.str (Str.ofString "orders") 485, Value.str (Str.ofString "Signatures.orders") 486, Value.str (Str.ofString "/claim/cut.py") 487, Value.int 153 0, Value.int 1 0, Value.int 0 0, Value.int 0 0, Value.int 3 0, Value.ref 239, Value.bool true, Value.int 181 0, Value.ref 240, Value.none, Value.ref 241, Value.ref 242, Value.ref 243, Value.int 489 0, Value.int 153 0, Value.str (Str.ofString "/claim/cut.py") 490] }),
   (245, { cls := Value.type "function", data := Data.func { name := Str.ofString "orders", qualname := Str.ofString "Signatures.orders", params := fArgs (inAt 6 22), body := FuncBody.stmts (fBody (inAt 6 22)), scope := fScope (inAt 6 22), globals := 3, closure := [], defaults := Value.none, kwdefaults := Value.none, pyModule := Value.str (Str.ofString "relfinder.sigs") 278, code := Value.ref 244 } }),
   (246, { cls := Value.type "tuple", data := Data.seq #[Value.str (Str.ofString "entries") 492, Value.str (Str.ofString "opened") 493, Value.str (Str.ofString "ordered") 494, Value.str (Str.ofString "own_fields") 495, Value.str (Str.ofString "stands") 496] }),
   (247, { cls := Value.type "dict", data := Data.dict #[{ hash := PyData.keyHash P (Str.ofString "__module__"), key := Value.str (Str.ofString "__module__") 289, val := Value.str (Str.ofString "relfinder.sigs") 278 }, { hash := PyData.keyHash P (Str.ofString "__firstlineno__"), key := Value.str (Str.ofString "__firstlineno__") 293, val := Value.int 22 292 }, { hash := PyData.keyHash P (Str.ofString "__init__"), key := Value.str (Str.ofString "__init__") 303, val := Value.ref 97 }, { hash := PyData.keyHash P (Str.ofString "take_sig"), key := Value.str (Str.ofString "take_sig") 312, val := Value.ref 104 }, { hash := PyData.keyHash P (Str.ofString "look_above"), key := Value.str (Str.ofString "look_above") 321, val := Value.ref 111 }, { hash := PyData.keyHash P (Str.ofString "direct"), key := Value.str (Str.ofString "direct") 329, val := Value.ref 118 }, { hash := PyData.keyHash P (Str.ofString "parents_first"), key := Value.str (Str.ofString "parents_first") 335, val := Value.ref 123 }, { hash := PyData.keyHash P (Str.ofString "all_fields"), key := Value.str (Str.ofString "all_fields") 351, val := Value.ref 130 }, { hash := PyData.keyHash P (Str.ofString "look_fields"), key := Value.str (Str.ofString "look_fields") 366, val := Value.ref 137 }, { hash := PyData.keyHash P (Str.ofString "take_order"), key := Value.str (Str.ofString "take_order") 372, val := Value.ref 142 }, { hash := PyData.keyHash P (Str.ofString "names"), key := Value.str (Str.ofString "names") 379, val := Value.ref 149 }, { hash := PyData.keyHash P (Str.ofString "has"), key := Value.str (Str.ofString "has") 387, val := Value.ref 156 }, { hash := PyData.keyHash P (Str.ofString "spot"), key := Value.str (Str.ofString "spot") 395, val := Value.ref 163 }, { hash := PyData.keyHash P (Str.ofString "parent"), key := Value.str (Str.ofString "parent") 403, val := Value.ref 170 }, { hash := PyData.keyHash P (Str.ofString "supers"), key := Value.str (Str.ofString "supers") 411, val := Value.ref 177 }, { hash := PyData.keyHash P (Str.ofString "is_subset"), key := Value.str (Str.ofString "is_subset") 419, val := Value.ref 184 }, { hash := PyData.keyHash P (Str.ofString "children"), key := Value.str (Str.ofString "children") 425, val := Value.ref 189 }, { hash := PyData.keyHash P (Str.ofString "above"), key := Value.str (Str.ofString "above") 434, val := Value.ref 196 }, { hash := PyData.keyHash P (Str.ofString "top"), key := Value.str (Str.ofString "top") 442, val := Value.ref 203 }, { hash := PyData.keyHash P (Str.ofString "all_above"), key := Value.str (Str.ofString "all_above") 453, val := Value.ref 210 }, { hash := PyData.keyHash P (Str.ofString "is_abstract"), key := Value.str (Str.ofString "is_abstract") 461, val := Value.ref 217 }, { hash := PyData.keyHash P (Str.ofString "mult"), key := Value.str (Str.ofString "mult") 469, val := Value.ref 224 }, { hash := PyData.keyHash P (Str.ofString "fields"), key := Value.str (Str.ofString "fields") 476, val := Value.ref 231 }, { hash := PyData.keyHash P (Str.ofString "facts"), key := Value.str (Str.ofString "facts") 484, val := Value.ref 238 }, { hash := PyData.keyHash P (Str.ofString "orders"), key := Value.str (Str.ofString "orders") 491, val := Value.ref 245 }, { hash := PyData.keyHash P (Str.ofString "__static_attributes__"), key := Value.str (Str.ofString "__static_attributes__") 497, val := Value.ref 246 }, { hash := PyData.keyHash P (Str.ofString "__dict__"), key := Value.str (Str.ofString "__dict__") 499, val := Value.ref 249 }, { hash := PyData.keyHash P (Str.ofString "__weakref__"), key := Value.str (Str.ofString "__weakref__") 501, val := Value.ref 250 }, { hash := PyData.keyHash P (Str.ofString "__doc__"), key := Value.str (Str.ofString "__doc__") 502, val := Value.none }] 4 }),
   (248, { cls := Value.type "type", data := Data.cls { name := Str.ofString "Signatures", bases := [Value.type "object"], mro := [Value.ref 248, Value.type "object"], ns := 247, qualname := Str.ofString "Signatures" }, slots := #[none, none, some (Value.str (Str.ofString "Signatures") 282), some (Value.str (Str.ofString "Signatures") 290), some (Value.builtin "object.__new__"), some (Value.bool true)] }),
   (249, { cls := Value.type "getset_descriptor", data := Data.fields #[Value.str (Str.ofString "__dict__") 498, Value.ref 248, Value.builtin "function.__dict__", Value.builtin "function.__dict__#set"] }),
   (250, { cls := Value.type "getset_descriptor", data := Data.fields #[Value.str (Str.ofString "__weakref__") 500, Value.ref 248, Value.builtin "ExceptionGroup.__weakref__", Value.none] }),
   (253, { cls := Value.type "tuple", data := Data.seq #[Value.str (Str.ofString "") 507, Value.str (Str.ofString "one") 508, Value.str (Str.ofString "lone") 509, Value.str (Str.ofString "some") 510] }),
   (254, { cls := Value.type "tuple", data := Data.seq #[] }),
   (256, { cls := Value.type "tuple", data := Data.seq #[Value.str (Str.ofString "hand") 515, Value.str (Str.ofString "many") 516, Value.str (Str.ofString "at") 517] }),
   (257, { cls := Value.type "tuple", data := Data.seq #[] }),
   (259, { cls := Value.type "code", data := Data.fields #[Value.str (Str.ofString "_law_draw") 512, Value.str (Str.ofString "_law_draw") 513, Value.str (Str.ofString "/claim/cut.py") 514, Value.int 157 0, Value.int 2 0, Value.int 0 0, Value.int 0 0, Value.int 3 0, Value.ref 254, Value.bool true, Value.int 181 0, Value.ref 255, Value.none, Value.ref 256, Value.ref 257, Value.ref 258, Value.int 518 0, Value.int 157 0, Value.str (Str.ofString "/claim/cut.py") 519] }),
   (260, { cls := Value.type "function", data := Data.func { name := Str.ofString "_law_draw", qualname := Str.ofString "_law_draw", params := fArgs (topAt 9), body := FuncBody.stmts (fBody (topAt 9)), scope := fScope (topAt 9), globals := 3, closure := [], defaults := Value.none, kwdefaults := Value.none, pyModule := Value.str (Str.ofString "law_rr0082_02") 505, code := Value.ref 259 } }),
   (261, { cls := Value.type "tuple", data := Data.seq #[] }),
   (264, { cls := Value.type "code", data := Data.fields #[Value.str (Str.ofString "_law_rows") 521, Value.str (Str.ofString "_law_rows") 522, Value.str (Str.ofString "/claim/cut.py") 523, Value.int 163 0, Value.int 2 0, Value.int 0 0, Value.int 0 0, Value.int 3 0, Value.ref 261, Value.bool true, Value.int 181 0, Value.ref 262, Value.none, Value.none, Value.none, Value.ref 263, Value.int 524 0, Value.int 163 0, Value.str (Str.ofString "/claim/cut.py") 525] }),
   (265, { cls := Value.type "function", data := Data.func { name := Str.ofString "_law_rows", qualname := Str.ofString "_law_rows", params := fArgs (topAt 10), body := FuncBody.stmts (fBody (topAt 10)), scope := fScope (topAt 10), globals := 3, closure := [], defaults := Value.none, kwdefaults := Value.none, pyModule := Value.str (Str.ofString "law_rr0082_02") 505, code := Value.ref 264 } }),
   (266, { cls := Value.type "tuple", data := Data.seq #[] }),
   (269, { cls := Value.type "code", data := Data.fields #[Value.str (Str.ofString "_law_item") 527, Value.str (Str.ofString "_law_item") 528, Value.str (Str.ofString "/claim/cut.py") 529, Value.int 171 0, Value.int 3 0, Value.int 0 0, Value.int 0 0, Value.int 3 0, Value.ref 266, Value.bool true, Value.int 181 0, Value.ref 267, Value.none, Value.none, Value.none, Value.ref 268, Value.int 530 0, Value.int 171 0, Value.str (Str.ofString "/claim/cut.py") 531] }),
   (270, { cls := Value.type "function", data := Data.func { name := Str.ofString "_law_item", qualname := Str.ofString "_law_item", params := fArgs (topAt 11), body := FuncBody.stmts (fBody (topAt 11)), scope := fScope (topAt 11), globals := 3, closure := [], defaults := Value.none, kwdefaults := Value.none, pyModule := Value.str (Str.ofString "law_rr0082_02") 505, code := Value.ref 269 } }),
   (271, { cls := Value.type "tuple", data := Data.seq #[] }),
   (274, { cls := Value.type "code", data := Data.fields #[Value.str (Str.ofString "_law_model") 533, Value.str (Str.ofString "_law_model") 534, Value.str (Str.ofString "/claim/cut.py") 535, Value.int 183 0, Value.int 1 0, Value.int 0 0, Value.int 0 0, Value.int 3 0, Value.ref 271, Value.bool true, Value.int 181 0, Value.ref 272, Value.none, Value.none, Value.none, Value.ref 273, Value.int 536 0, Value.int 183 0, Value.str (Str.ofString "/claim/cut.py") 537] }),
   (275, { cls := Value.type "function", data := Data.func { name := Str.ofString "_law_model", qualname := Str.ofString "_law_model", params := fArgs (topAt 12), body := FuncBody.stmts (fBody (topAt 12)), scope := fScope (topAt 12), globals := 3, closure := [], defaults := Value.none, kwdefaults := Value.none, pyModule := Value.str (Str.ofString "law_rr0082_02") 505, code := Value.ref 274 } }),
   (276, { cls := Value.type "tuple", data := Data.seq #[] }),
   (278, { cls := Value.type "tuple", data := Data.seq #[Value.str (Str.ofString "item") 542] }),
   (279, { cls := Value.type "tuple", data := Data.seq #[] }),
   (281, { cls := Value.type "code", data := Data.fields #[Value.str (Str.ofString "_law_right_above") 539, Value.str (Str.ofString "_law_right_above") 540, Value.str (Str.ofString "/claim/cut.py") 541, Value.int 196 0, Value.int 1 0, Value.int 0 0, Value.int 0 0, Value.int 3 0, Value.ref 276, Value.bool true, Value.int 181 0, Value.ref 277, Value.none, Value.ref 278, Value.ref 279, Value.ref 280, Value.int 543 0, Value.int 196 0, Value.str (Str.ofString "/claim/cut.py") 544] }),
   (282, { cls := Value.type "function", data := Data.func { name := Str.ofString "_law_right_above", qualname := Str.ofString "_law_right_above", params := fArgs (topAt 13), body := FuncBody.stmts (fBody (topAt 13)), scope := fScope (topAt 13), globals := 3, closure := [], defaults := Value.none, kwdefaults := Value.none, pyModule := Value.str (Str.ofString "law_rr0082_02") 505, code := Value.ref 281 } }),
   (283, { cls := Value.type "tuple", data := Data.seq #[] }),
   (285, { cls := Value.type "tuple", data := Data.seq #[Value.str (Str.ofString "known") 549, Value.str (Str.ofString "name") 550, Value.str (Str.ofString "parent") 551] }),
   (286, { cls := Value.type "tuple", data := Data.seq #[] }),
   (288, { cls := Value.type "code", data := Data.fields #[Value.str (Str.ofString "_law_line") 546, Value.str (Str.ofString "_law_line") 547, Value.str (Str.ofString "/claim/cut.py") 548, Value.int 198 0, Value.int 2 0, Value.int 0 0, Value.int 0 0, Value.int 3 0, Value.ref 283, Value.bool true, Value.int 181 0, Value.ref 284, Value.none, Value.ref 285, Value.ref 286, Value.ref 287, Value.int 552 0, Value.int 198 0, Value.str (Str.ofString "/claim/cut.py") 553] }),
   (289, { cls := Value.type "function", data := Data.func { name := Str.ofString "_law_line", qualname := Str.ofString "_law_line", params := fArgs (topAt 14), body := FuncBody.stmts (fBody (topAt 14)), scope := fScope (topAt 14), globals := 3, closure := [], defaults := Value.none, kwdefaults := Value.none, pyModule := Value.str (Str.ofString "law_rr0082_02") 505, code := Value.ref 288 } }),
   (290, { cls := Value.type "tuple", data := Data.seq #[] }),
   (292, { cls := Value.type "tuple", data := Data.seq #[Value.str (Str.ofString "known") 558, Value.str (Str.ofString "name") 559, Value.str (Str.ofString "found") 560, Value.str (Str.ofString "other") 561] }),
   (293, { cls := Value.type "tuple", data := Data.seq #[] }),
   (295, { cls := Value.type "code", data := Data.fields #[Value.str (Str.ofString "_law_over") 555, Value.str (Str.ofString "_law_over") 556, Value.str (Str.ofString "/claim/cut.py") 557, Value.int 201 0, Value.int 2 0, Value.int 0 0, Value.int 0 0, Value.int 3 0, Value.ref 290, Value.bool true, Value.int 181 0, Value.ref 291, Value.none, Value.ref 292, Value.ref 293, Value.ref 294, Value.int 562 0, Value.int 201 0, Value.str (Str.ofString "/claim/cut.py") 563] }),
   (296, { cls := Value.type "function", data := Data.func { name := Str.ofString "_law_over", qualname := Str.ofString "_law_over", params := fArgs (topAt 15), body := FuncBody.stmts (fBody (topAt 15)), scope := fScope (topAt 15), globals := 3, closure := [], defaults := Value.none, kwdefaults := Value.none, pyModule := Value.str (Str.ofString "law_rr0082_02") 505, code := Value.ref 295 } }),
   (297, { cls := Value.type "tuple", data := Data.seq #[] }),
   (300, { cls := Value.type "code", data := Data.fields #[Value.str (Str.ofString "_law_sequence") 565, Value.str (Str.ofString "_law_sequence") 566, Value.str (Str.ofString "/claim/cut.py") 567, Value.int 207 0, Value.int 1 0, Value.int 0 0, Value.int 0 0, Value.int 3 0, Value.ref 297, Value.bool true, Value.int 181 0, Value.ref 298, Value.none, Value.none, Value.none, Value.ref 299, Value.int 568 0, Value.int 207 0, Value.str (Str.ofString "/claim/cut.py") 569] }),
   (301, { cls := Value.type "function", data := Data.func { name := Str.ofString "_law_sequence", qualname := Str.ofString "_law_sequence", params := fArgs (topAt 16), body := FuncBody.stmts (fBody (topAt 16)), scope := fScope (topAt 16), globals := 3, closure := [], defaults := Value.none, kwdefaults := Value.none, pyModule := Value.str (Str.ofString "law_rr0082_02") 505, code := Value.ref 300 } }),
   (302, { cls := Value.type "tuple", data := Data.seq #[] }),
   (305, { cls := Value.type "code", data := Data.fields #[Value.str (Str.ofString "_law_fields") 571, Value.str (Str.ofString "_law_fields") 572, Value.str (Str.ofString "/claim/cut.py") 573, Value.int 213 0, Value.int 1 0, Value.int 0 0, Value.int 0 0, Value.int 3 0, Value.ref 302, Value.bool true, Value.int 181 0, Value.ref 303, Value.none, Value.none, Value.none, Value.ref 304, Value.int 574 0, Value.int 213 0, Value.str (Str.ofString "/claim/cut.py") 575] }),
   (306, { cls := Value.type "function", data := Data.func { name := Str.ofString "_law_fields", qualname := Str.ofString "_law_fields", params := fArgs (topAt 17), body := FuncBody.stmts (fBody (topAt 17)), scope := fScope (topAt 17), globals := 3, closure := [], defaults := Value.none, kwdefaults := Value.none, pyModule := Value.str (Str.ofString "law_rr0082_02") 505, code := Value.ref 305 } }),
   (307, { cls := Value.type "tuple", data := Data.seq #[] }),
   (310, { cls := Value.type "code", data := Data.fields #[Value.str (Str.ofString "_law_is_told") 577, Value.str (Str.ofString "_law_is_told") 578, Value.str (Str.ofString "/claim/cut.py") 579, Value.int 220 0, Value.int 3 0, Value.int 0 0, Value.int 0 0, Value.int 3 0, Value.ref 307, Value.bool true, Value.int 181 0, Value.ref 308, Value.none, Value.none, Value.none, Value.ref 309, Value.int 580 0, Value.int 220 0, Value.str (Str.ofString "/claim/cut.py") 581] }),
   (311, { cls := Value.type "function", data := Data.func { name := Str.ofString "_law_is_told", qualname := Str.ofString "_law_is_told", params := fArgs (topAt 18), body := FuncBody.stmts (fBody (topAt 18)), scope := fScope (topAt 18), globals := 3, closure := [], defaults := Value.none, kwdefaults := Value.none, pyModule := Value.str (Str.ofString "law_rr0082_02") 505, code := Value.ref 310 } }),
   (312, { cls := Value.type "tuple", data := Data.seq #[] }),
   (315, { cls := Value.type "code", data := Data.fields #[Value.str (Str.ofString "law") 583, Value.str (Str.ofString "law") 584, Value.str (Str.ofString "/claim/cut.py") 585, Value.int 233 0, Value.int 1 0, Value.int 0 0, Value.int 0 0, Value.int 3 0, Value.ref 312, Value.bool true, Value.int 181 0, Value.ref 313, Value.none, Value.none, Value.none, Value.ref 314, Value.int 586 0, Value.int 233 0, Value.str (Str.ofString "/claim/cut.py") 587] }),
   (316, { cls := Value.type "function", data := Data.func { name := Str.ofString "law", qualname := Str.ofString "law", params := fArgs (topAt 19), body := FuncBody.stmts (fBody (topAt 19)), scope := fScope (topAt 19), globals := 3, closure := [], defaults := Value.none, kwdefaults := Value.none, pyModule := Value.str (Str.ofString "law_rr0082_02") 505, code := Value.ref 315 } })]
def vw : Program := PySem.W.view PySem.Challenge.rw_rr0082_02.prog [1, 2, 3, 5, 6, 8, 9, 10, 11, 12, 13, 14, 15, 16, 17, 18, 19]
noncomputable def HH : Hook := kHook heapK [2, 3, 15, 18, 23, 24, 26, 27, 29, 30, 31, 33, 34, 36, 37, 38, 39, 40, 41, 44, 47, 52, 53, 55, 56, 58, 59, 60, 62, 63, 65, 66, 67, 68, 69, 72, 79, 80, 81, 91, 93, 94, 96, 97, 98, 100, 101, 103, 104, 105, 107, 108, 110, 111, 112, 114, 115, 117, 118, 119, 122, 123, 124, 126, 127, 129, 130, 131, 133, 134, 136, 137, 138, 141, 142, 143, 145, 146, 148, 149, 150, 152, 153, 155, 156, 157, 159, 160, 162, 163, 164, 166, 167, 169, 170, 171, 173, 174, 176, 177, 178, 180, 181, 183, 184, 185, 188, 189, 190, 192, 193, 195, 196, 197, 199, 200, 202, 203, 204, 206, 207, 209, 210, 211, 213, 214, 216, 217, 218, 220, 221, 223, 224, 225, 227, 228, 230, 231, 232, 234, 235, 237, 238, 239, 241, 242, 244, 245, 246, 247, 248, 249, 250, 253, 254, 256, 257, 259, 260, 261, 264, 265, 266, 269, 270, 271, 274, 275, 276, 278, 279, 281, 282, 283, 285, 286, 288, 289, 290, 292, 293, 295, 296, 297, 300, 301, 302, 305, 306, 307, 310, 311, 312, 315, 316] (fun _ => by kernel_rfl)
noncomputable abbrev XX : Shared → Bool := fun s => xlAt vw [] s && recOk (RowW.records PySem.Challenge.rw_rr0082_02.row.toRowW) s
noncomputable def ob4 (P : Params) : Obj := { cls := Value.type "tuple", data := Data.seq #[] }
noncomputable def ob5 (P : Params) : Obj := { cls := Value.none, data := Data.fields #[] }
noncomputable def ob6 (P : Params) : Obj := { cls := Value.type "code", data := Data.fields #[Value.str (Str.ofString "<module>") 182, Value.str (Str.ofString "<module>") 183, Value.str (Str.ofString "/claim/cut.py") 184, Value.int 1 0, Value.int 0 0, Value.int 0 0, Value.int 0 0, Value.int 0 0, Value.ref 11, Value.bool false, Value.int 181 0, Value.ref 12, Value.none, Value.none, Value.none, Value.none, Value.int 185 0, Value.int 1 0, Value.str (Str.ofString "/claim/cut.py") 186] }
noncomputable def ob7 (P : Params) : Obj := { cls := Value.type "frame", slots := #[some (Value.ref 13), some (Value.ref 3), some (Value.ref 3), none, some (Value.str (Str.ofString "__main__") 164), none, some (Value.ref 0)] }
noncomputable def hp7 (P : Params) : Heap := { objs := { toList := [boot_o_0 P, boot_o_1 P, boot_o_2 P, boot_o_3 P, boot_o_4 P, boot_o_5 P, boot_o_6 P, boot_o_7 P, boot_o_8 P, boot_o_9 P, boot_o_10 P, ob4 P, ob5 P, ob6 P, ob7 P] } }
noncomputable def tr8 (P : Params) : BT := BT.node (boot_o_0 P) (BT.node (boot_o_1 P) (BT.node (boot_o_3 P) (BT.node (boot_o_7 P) BT.nil BT.nil) (BT.node (ob4 P) BT.nil BT.nil)) (BT.node (boot_o_5 P) (BT.node (boot_o_9 P) BT.nil BT.nil) (BT.node (ob6 P) BT.nil BT.nil))) (BT.node (boot_o_2 P) (BT.node (boot_o_4 P) (BT.node (boot_o_8 P) BT.nil BT.nil) (BT.node (ob5 P) BT.nil BT.nil)) (BT.node (boot_o_6 P) (BT.node (boot_o_10 P) BT.nil BT.nil) (BT.node (ob7 P) BT.nil BT.nil)))
noncomputable def ob73 (P : Params) : Obj := { cls := Value.type "dict", data := Data.dict #[{ hash := PyData.keyHash P (Str.ofString "__name__"), key := Value.str (Str.ofString "__name__") 165, val := Value.str (Str.ofString "relfinder.sigs") 278 }, { hash := PyData.keyHash P (Str.ofString "__doc__"), key := Value.str (Str.ofString "__doc__") 166, val := Value.none }, { hash := PyData.keyHash P (Str.ofString "__package__"), key := Value.str (Str.ofString "__package__") 167, val := Value.none }, { hash := PyData.keyHash P (Str.ofString "__loader__"), key := Value.str (Str.ofString "__loader__") 168, val := Value.builtin "__main__.__loader__#opaque" }, { hash := PyData.keyHash P (Str.ofString "__spec__"), key := Value.str (Str.ofString "__spec__") 169, val := Value.none }, { hash := PyData.keyHash P (Str.ofString "__annotations__"), key := Value.str (Str.ofString "__annotations__") 170, val := Value.ref 6 }, { hash := PyData.keyHash P (Str.ofString "__builtins__"), key := Value.str (Str.ofString "__builtins__") 171, val := Value.ref 4 }, { hash := PyData.keyHash P (Str.ofString "__file__"), key := Value.str (Str.ofString "__file__") 173, val := Value.str (Str.ofString "/claim/cut.py") 172 }, { hash := PyData.keyHash P (Str.ofString "__cached__"), key := Value.str (Str.ofString "__cached__") 174, val := Value.none }, { hash := PyData.keyHash P (Str.ofString "FinderError"), key := Value.str (Str.ofString "FinderError") 226, val := Value.ref 40 }, { hash := PyData.keyHash P (Str.ofString "SpotFault"), key := Value.str (Str.ofString "SpotFault") 261, val := Value.ref 69 }, { hash := PyData.keyHash P (Str.ofString "KindFault"), key := Value.str (Str.ofString "KindFault") 277, val := Value.ref 81 }, { hash := PyData.keyHash P (Str.ofString "ORDERING"), key := Value.str (Str.ofString "ORDERING") 281, val := Value.str (Str.ofString "util/ordering") 280 }] 13 }
noncomputable def ob13 (P : Params) : Obj := { cls := Value.type "tuple", data := Data.seq #[Value.type "Exception"] }
noncomputable def ob29 (P : Params) : Obj := { cls := Value.type "tuple", data := Data.seq #[] }
noncomputable def ob64 (P : Params) : Obj := { cls := Value.type "tuple", data := Data.seq #[] }
noncomputable def ob48 (P : Params) : Obj := { cls := Value.type "cell", data := Data.cell (some (Value.ref 69)) }
noncomputable def ob83 (P : Params) : Obj := { cls := Value.type "tuple", data := Data.seq #[] }
noncomputable def ob21 (P : Params) : Obj := { cls := Value.type "tuple", data := Data.seq #[Value.ref 18] }
noncomputable def ob37 (P : Params) : Obj := { cls := Value.type "dict", data := Data.dict #[{ hash := PyData.keyHash P (Str.ofString "__module__"), key := Value.str (Str.ofString "__module__") 196, val := Value.str (Str.ofString "relfinder.errors") 187 }, { hash := PyData.keyHash P (Str.ofString "__firstlineno__"), key := Value.str (Str.ofString "__firstlineno__") 200, val := Value.int 2 199 }, { hash := PyData.keyHash P (Str.ofString "__init__"), key := Value.str (Str.ofString "__init__") 209, val := Value.ref 30 }, { hash := PyData.keyHash P (Str.ofString "told"), key := Value.str (Str.ofString "told") 216, val := Value.ref 37 }, { hash := PyData.keyHash P (Str.ofString "__static_attributes__"), key := Value.str (Str.ofString "__static_attributes__") 218, val := Value.ref 38 }, { hash := PyData.keyHash P (Str.ofString "__weakref__"), key := Value.str (Str.ofString "__weakref__") 221, val := Value.ref 41 }, { hash := PyData.keyHash P (Str.ofString "__doc__"), key := Value.str (Str.ofString "__doc__") 222, val := Value.none }] 4 }
noncomputable def ob72 (P : Params) : Obj := { cls := Value.type "builtin_function_or_method", data := Data.fields #[Value.builtin "object.__init_subclass__", Value.ref 69] }
noncomputable def ob56 (P : Params) : Obj := { cls := Value.type "tuple", data := Data.seq #[Value.str (Str.ofString "self") 243, Value.str (Str.ofString "what") 244, Value.str (Str.ofString "spot") 245] }
noncomputable def ob17 (P : Params) : Obj := { cls := Value.type "tuple", data := Data.seq #[] }
noncomputable def ob33 (P : Params) : Obj := { cls := Value.none, data := Data.func { name := Str.ofString "told", qualname := Str.ofString "FinderError.told", params := fArgs (inAt 1 1), body := FuncBody.stmts (fBody (inAt 1 1)), scope := fScope (inAt 1 1), globals := 0, closure := [], defaults := Value.none, kwdefaults := Value.none } }
noncomputable def ob68 (P : Params) : Obj := { cls := Value.type "tuple", data := Data.seq #[Value.str (Str.ofString "spot") 256] }
noncomputable def ob52 (P : Params) : Obj := { cls := Value.type "frame", slots := #[some (Value.ref 50), some (Value.ref 3), some (Value.ref 46), none, some (Value.str (Str.ofString "relfinder.errors") 187), none, some (Value.ref 0)] }
noncomputable def ob87 (P : Params) : Obj := { cls := Value.type "builtin_function_or_method", data := Data.fields #[Value.builtin "object.__init_subclass__", Value.ref 81] }
noncomputable def ob25 (P : Params) : Obj := { cls := Value.type "tuple", data := Data.seq #[] }
noncomputable def ob41 (P : Params) : Obj := { cls := Value.type "builtin_function_or_method", data := Data.fields #[Value.builtin "object.__init_subclass__", Value.ref 40] }
noncomputable def ob79 (P : Params) : Obj := { cls := Value.type "tuple", data := Data.seq #[] }
noncomputable def ob60 (P : Params) : Obj := { cls := Value.type "function", data := Data.func { name := Str.ofString "__init__", qualname := Str.ofString "SpotFault.__init__", params := fArgs (inAt 2 0), body := FuncBody.stmts (fBody (inAt 2 0)), scope := fScope (inAt 2 0), globals := 3, closure := [(Str.ofString "__class__", 47)], defaults := Value.none, kwdefaults := Value.none, pyModule := Value.str (Str.ofString "relfinder.errors") 187, code := Value.ref 58, closureTuple := Value.ref 52 } }
noncomputable def ob15 (P : Params) : Obj := { cls := Value.type "dict", data := Data.dict #[{ hash := PyData.keyHash P (Str.ofString "__module__"), key := Value.str (Str.ofString "__module__") 196, val := Value.str (Str.ofString "relfinder.errors") 187 }, { hash := PyData.keyHash P (Str.ofString "__qualname__"), key := Value.str (Str.ofString "__qualname__") 198, val := Value.str (Str.ofString "FinderError") 197 }, { hash := PyData.keyHash P (Str.ofString "__firstlineno__"), key := Value.str (Str.ofString "__firstlineno__") 200, val := Value.int 2 199 }, { hash := PyData.keyHash P (Str.ofString "__init__"), key := Value.str (Str.ofString "__init__") 209, val := Value.ref 30 }, { hash := PyData.keyHash P (Str.ofString "told"), key := Value.str (Str.ofString "told") 216, val := Value.ref 37 }, { hash := PyData.keyHash P (Str.ofString "__static_attributes__"), key := Value.str (Str.ofString "__static_attributes__") 218, val := Value.ref 38 }, { hash := PyData.keyHash P (Str.ofString "__classcell__"), key := Value.str (Str.ofString "__classcell__") 219, val := Value.ref 18 }] 7 }
noncomputable def ob31 (P : Params) : Obj := { cls := Value.type "tuple", data := Data.seq #[Value.str (Str.ofString "self") 213] }
noncomputable def ob66 (P : Params) : Obj := { cls := Value.type "code", data := Data.fields #[Value.str (Str.ofString "told") 249, Value.str (Str.ofString "SpotFault.told") 250, Value.str (Str.ofString "/claim/cut.py") 251, Value.int 16 0, Value.int 1 0, Value.int 0 0, Value.int 0 0, Value.int 3 0, Value.ref 60, Value.bool true, Value.int 181 0, Value.ref 61, Value.none, Value.ref 62, Value.ref 63, Value.ref 64, Value.int 253 0, Value.int 16 0, Value.str (Str.ofString "/claim/cut.py") 254] }
noncomputable def ob50 (P : Params) : Obj := { cls := Value.none, data := Data.fields #[Value.int 12 0, Value.int 4 0, Value.ref 58, Value.int 16 0, Value.int 4 0, Value.ref 65] }
noncomputable def ob85 (P : Params) : Obj := { cls := Value.type "type", data := Data.cls { name := Str.ofString "KindFault", bases := [Value.ref 69], mro := [Value.ref 81, Value.ref 69, Value.ref 40, Value.type "Exception", Value.type "BaseException", Value.type "object"], ns := 80, qualname := Str.ofString "KindFault" }, slots := #[some (Value.ref 72), none, some (Value.str (Str.ofString "KindFault") 262), some (Value.str (Str.ofString "KindFault") 270), some (Value.builtin "Exception.__new__"), some (Value.bool true)] }
noncomputable def ob23 (P : Params) : Obj := { cls := Value.none, data := Data.fields #[] }
noncomputable def ob39 (P : Params) : Obj := { cls := Value.type "getset_descriptor", data := Data.fields #[Value.str (Str.ofString "__weakref__") 220, Value.ref 40, Value.builtin "ExceptionGroup.__weakref__", Value.none] }
noncomputable def ob77 (P : Params) : Obj := { cls := Value.type "builtin_function_or_method", data := Data.fields #[Value.builtin "type.__prepare__", Value.type "type"] }
noncomputable def ob58 (P : Params) : Obj := { cls := Value.none, data := Data.func { name := Str.ofString "__init__", qualname := Str.ofString "SpotFault.__init__", params := fArgs (inAt 2 0), body := FuncBody.stmts (fBody (inAt 2 0)), scope := fScope (inAt 2 0), globals := 0, closure := [], defaults := Value.none, kwdefaults := Value.none } }
noncomputable def ob19 (P : Params) : Obj := { cls := Value.type "code", data := Data.fields #[Value.str (Str.ofString "FinderError") 191, Value.str (Str.ofString "FinderError") 192, Value.str (Str.ofString "/claim/cut.py") 193, Value.int 2 0, Value.int 0 0, Value.int 0 0, Value.int 0 0, Value.int 0 0, Value.ref 19, Value.bool false, Value.int 181 0, Value.ref 20, Value.none, Value.none, Value.none, Value.none, Value.int 194 0, Value.int 2 0, Value.str (Str.ofString "/claim/cut.py") 195] }
noncomputable def ob35 (P : Params) : Obj := { cls := Value.type "function", data := Data.func { name := Str.ofString "told", qualname := Str.ofString "FinderError.told", params := fArgs (inAt 1 1), body := FuncBody.stmts (fBody (inAt 1 1)), scope := fScope (inAt 1 1), globals := 3, closure := [], defaults := Value.none, kwdefaults := Value.none, pyModule := Value.str (Str.ofString "relfinder.errors") 187, code := Value.ref 36 } }
noncomputable def ob75 (P : Params) : Obj := { cls := Value.type "type", data := Data.cls { name := Str.ofString "SpotFault", bases := [Value.ref 40], mro := [Value.ref 69, Value.ref 40, Value.type "Exception", Value.type "BaseException", Value.type "object"], ns := 68, qualname := Str.ofString "SpotFault", subclasses := [Value.ref 81] }, slots := #[some (Value.ref 44), none, some (Value.str (Str.ofString "SpotFault") 227), some (Value.str (Str.ofString "SpotFault") 235), some (Value.builtin "Exception.__new__"), some (Value.bool true)] }
noncomputable def ob54 (P : Params) : Obj := { cls := Value.type "tuple", data := Data.seq #[Value.str (Str.ofString "__class__") 242] }
noncomputable def ob27 (P : Params) : Obj := { cls := Value.type "code", data := Data.fields #[Value.str (Str.ofString "__init__") 201, Value.str (Str.ofString "FinderError.__init__") 202, Value.str (Str.ofString "/claim/cut.py") 203, Value.int 4 0, Value.int 2 0, Value.int 0 0, Value.int 0 0, Value.int 3 0, Value.ref 24, Value.bool true, Value.int 181 0, Value.ref 25, Value.none, Value.ref 26, Value.ref 27, Value.ref 28, Value.int 207 0, Value.int 4 0, Value.str (Str.ofString "/claim/cut.py") 208] }
noncomputable def ob46 (P : Params) : Obj := { cls := Value.type "builtin_function_or_method", data := Data.fields #[Value.builtin "type.__prepare__", Value.type "type"] }
noncomputable def ob81 (P : Params) : Obj := { cls := Value.type "code", data := Data.fields #[Value.str (Str.ofString "KindFault") 264, Value.str (Str.ofString "KindFault") 265, Value.str (Str.ofString "/claim/cut.py") 266, Value.int 18 0, Value.int 0 0, Value.int 0 0, Value.int 0 0, Value.int 0 0, Value.ref 75, Value.bool false, Value.int 181 0, Value.ref 76, Value.none, Value.none, Value.none, Value.none, Value.int 267 0, Value.int 18 0, Value.str (Str.ofString "/claim/cut.py") 268] }
noncomputable def ob62 (P : Params) : Obj := { cls := Value.none, data := Data.fields #[] }
noncomputable def ob10 (P : Params) : Obj := { cls := Value.none, data := Data.dict #[{ hash := PyData.keyHash P (Str.ofString "type.__subclasses__.Exception.0"), key := Value.str (Str.ofString "type.__subclasses__.Exception.0") 223, val := Value.int 40 0 }, { hash := PyData.keyHash P (Str.ofString "type.__subclasses__.Exception.n"), key := Value.str (Str.ofString "type.__subclasses__.Exception.n") 224, val := Value.int 1 0 }] 2 }
noncomputable def ob14 (P : Params) : Obj := { cls := Value.type "builtin_function_or_method", data := Data.fields #[Value.builtin "type.__prepare__", Value.type "type"] }
noncomputable def ob30 (P : Params) : Obj := { cls := Value.none, data := Data.fields #[] }
noncomputable def ob65 (P : Params) : Obj := { cls := Value.none, data := Data.func { name := Str.ofString "told", qualname := Str.ofString "SpotFault.told", params := fArgs (inAt 2 1), body := FuncBody.stmts (fBody (inAt 2 1)), scope := fScope (inAt 2 1), globals := 0, closure := [], defaults := Value.none, kwdefaults := Value.none } }
noncomputable def ob49 (P : Params) : Obj := { cls := Value.type "tuple", data := Data.seq #[] }
noncomputable def ob84 (P : Params) : Obj := { cls := Value.type "dict", data := Data.dict #[{ hash := PyData.keyHash P (Str.ofString "__module__"), key := Value.str (Str.ofString "__module__") 269, val := Value.str (Str.ofString "relfinder.errors") 187 }, { hash := PyData.keyHash P (Str.ofString "__firstlineno__"), key := Value.str (Str.ofString "__firstlineno__") 273, val := Value.int 18 272 }, { hash := PyData.keyHash P (Str.ofString "__static_attributes__"), key := Value.str (Str.ofString "__static_attributes__") 274, val := Value.ref 79 }, { hash := PyData.keyHash P (Str.ofString "__doc__"), key := Value.str (Str.ofString "__doc__") 275, val := Value.none }] 2 }
noncomputable def ob22 (P : Params) : Obj := { cls := Value.type "tuple", data := Data.seq #[Value.str (Str.ofString "__class__") 204] }
noncomputable def ob44 (P : Params) : Obj := { cls := Value.type "type", data := Data.cls { name := Str.ofString "FinderError", bases := [Value.type "Exception"], mro := [Value.ref 40, Value.type "Exception", Value.type "BaseException", Value.type "object"], ns := 39, qualname := Str.ofString "FinderError", subclasses := [Value.ref 69] }, slots := #[some (Value.ref 15), none, some (Value.str (Str.ofString "FinderError") 189), some (Value.str (Str.ofString "FinderError") 197), some (Value.builtin "Exception.__new__"), some (Value.bool true)] }
noncomputable def ob76 (P : Params) : Obj := { cls := Value.type "tuple", data := Data.seq #[Value.ref 69] }
noncomputable def ob57 (P : Params) : Obj := { cls := Value.type "tuple", data := Data.seq #[] }
noncomputable def ob74 (P : Params) : Obj := { cls := Value.none, data := Data.fields #[Value.int 2 0, Value.int 0 0, Value.ref 21, Value.int 10 0, Value.int 0 0, Value.ref 50, Value.int 18 0, Value.int 0 0, Value.ref 77] }
noncomputable def ob18 (P : Params) : Obj := { cls := Value.none, data := Data.fields #[Value.int 4 0, Value.int 4 0, Value.ref 29, Value.int 8 0, Value.int 4 0, Value.ref 36] }
noncomputable def ob34 (P : Params) : Obj := { cls := Value.type "code", data := Data.fields #[Value.str (Str.ofString "told") 210, Value.str (Str.ofString "FinderError.told") 211, Value.str (Str.ofString "/claim/cut.py") 212, Value.int 8 0, Value.int 1 0, Value.int 0 0, Value.int 0 0, Value.int 3 0, Value.ref 31, Value.bool true, Value.int 181 0, Value.ref 32, Value.none, Value.ref 33, Value.ref 34, Value.ref 35, Value.int 214 0, Value.int 8 0, Value.str (Str.ofString "/claim/cut.py") 215] }
noncomputable def ob69 (P : Params) : Obj := { cls := Value.type "dict", data := Data.dict #[{ hash := PyData.keyHash P (Str.ofString "__module__"), key := Value.str (Str.ofString "__module__") 234, val := Value.str (Str.ofString "relfinder.errors") 187 }, { hash := PyData.keyHash P (Str.ofString "__firstlineno__"), key := Value.str (Str.ofString "__firstlineno__") 238, val := Value.int 10 237 }, { hash := PyData.keyHash P (Str.ofString "__init__"), key := Value.str (Str.ofString "__init__") 248, val := Value.ref 59 }, { hash := PyData.keyHash P (Str.ofString "told"), key := Value.str (Str.ofString "told") 255, val := Value.ref 66 }, { hash := PyData.keyHash P (Str.ofString "__static_attributes__"), key := Value.str (Str.ofString "__static_attributes__") 257, val := Value.ref 67 }, { hash := PyData.keyHash P (Str.ofString "__doc__"), key := Value.str (Str.ofString "__doc__") 259, val := Value.none }] 3 }
noncomputable def ob53 (P : Params) : Obj := { cls := Value.type "tuple", data := Data.seq #[Value.ref 47] }
noncomputable def ob26 (P : Params) : Obj := { cls := Value.none, data := Data.func { name := Str.ofString "__init__", qualname := Str.ofString "FinderError.__init__", params := fArgs (inAt 1 0), body := FuncBody.stmts (fBody (inAt 1 0)), scope := fScope (inAt 1 0), globals := 0, closure := [], defaults := Value.none, kwdefaults := Value.none } }
noncomputable def ob45 (P : Params) : Obj := { cls := Value.type "tuple", data := Data.seq #[Value.ref 40] }
noncomputable def ob80 (P : Params) : Obj := { cls := Value.none, data := Data.fields #[] }
noncomputable def ob61 (P : Params) : Obj := { cls := Value.type "tuple", data := Data.seq #[] }
noncomputable def ob16 (P : Params) : Obj := { cls := Value.type "cell", data := Data.cell (some (Value.ref 40)) }
noncomputable def ob32 (P : Params) : Obj := { cls := Value.type "tuple", data := Data.seq #[] }
noncomputable def ob67 (P : Params) : Obj := { cls := Value.type "function", data := Data.func { name := Str.ofString "told", qualname := Str.ofString "SpotFault.told", params := fArgs (inAt 2 1), body := FuncBody.stmts (fBody (inAt 2 1)), scope := fScope (inAt 2 1), globals := 3, closure := [], defaults := Value.none, kwdefaults := Value.none, pyModule := Value.str (Str.ofString "relfinder.errors") 187, code := Value.ref 65 } }
noncomputable def ob51 (P : Params) : Obj := { cls := Value.type "code", data := Data.fields #[Value.str (Str.ofString "SpotFault") 229, Value.str (Str.ofString "SpotFault") 230, Value.str (Str.ofString "/claim/cut.py") 231, Value.int 10 0, Value.int 0 0, Value.int 0 0, Value.int 0 0, Value.int 0 0, Value.ref 48, Value.bool false, Value.int 181 0, Value.ref 49, Value.none, Value.none, Value.none, Value.none, Value.int 232 0, Value.int 10 0, Value.str (Str.ofString "/claim/cut.py") 233] }
noncomputable def ob86 (P : Params) : Obj := { cls := Value.type "super", data := Data.fields #[Value.ref 81, Value.ref 81, Value.ref 81] }
noncomputable def ob24 (P : Params) : Obj := { cls := Value.type "tuple", data := Data.seq #[Value.str (Str.ofString "self") 205, Value.str (Str.ofString "what") 206] }
noncomputable def ob40 (P : Params) : Obj := { cls := Value.type "super", data := Data.fields #[Value.ref 40, Value.ref 40, Value.ref 40] }
noncomputable def ob78 (P : Params) : Obj := { cls := Value.type "dict", data := Data.dict #[{ hash := PyData.keyHash P (Str.ofString "__module__"), key := Value.str (Str.ofString "__module__") 269, val := Value.str (Str.ofString "relfinder.errors") 187 }, { hash := PyData.keyHash P (Str.ofString "__qualname__"), key := Value.str (Str.ofString "__qualname__") 271, val := Value.str (Str.ofString "KindFault") 270 }, { hash := PyData.keyHash P (Str.ofString "__firstlineno__"), key := Value.str (Str.ofString "__firstlineno__") 273, val := Value.int 18 272 }, { hash := PyData.keyHash P (Str.ofString "__static_attributes__"), key := Value.str (Str.ofString "__static_attributes__") 274, val := Value.ref 79 }] 4 }
noncomputable def ob59 (P : Params) : Obj := { cls := Value.type "code", data := Data.fields #[Value.str (Str.ofString "__init__") 239, Value.str (Str.ofString "SpotFault.__init__") 240, Value.str (Str.ofString "/claim/cut.py") 241, Value.int 12 0, Value.int 3 0, Value.int 0 0, Value.int 0 0, Value.int 3 0, Value.ref 53, Value.bool true, Value.int 181 0, Value.ref 54, Value.none, Value.ref 55, Value.ref 56, Value.ref 57, Value.int 246 0, Value.int 12 0, Value.str (Str.ofString "/claim/cut.py") 247] }
noncomputable def ob20 (P : Params) : Obj := { cls := Value.type "frame", slots := #[some (Value.ref 21), some (Value.ref 3), some (Value.ref 17), none, some (Value.str (Str.ofString "relfinder.errors") 187), none, some (Value.ref 0)] }
noncomputable def ob36 (P : Params) : Obj := { cls := Value.type "tuple", data := Data.seq #[Value.str (Str.ofString "what") 217] }
noncomputable def ob71 (P : Params) : Obj := { cls := Value.type "super", data := Data.fields #[Value.ref 69, Value.ref 69, Value.ref 69] }
noncomputable def ob55 (P : Params) : Obj := { cls := Value.none, data := Data.fields #[] }
noncomputable def ob28 (P : Params) : Obj := { cls := Value.type "function", data := Data.func { name := Str.ofString "__init__", qualname := Str.ofString "FinderError.__init__", params := fArgs (inAt 1 0), body := FuncBody.stmts (fBody (inAt 1 0)), scope := fScope (inAt 1 0), globals := 3, closure := [(Str.ofString "__class__", 18)], defaults := Value.none, kwdefaults := Value.none, pyModule := Value.str (Str.ofString "relfinder.errors") 187, code := Value.ref 29, closureTuple := Value.ref 23 } }
noncomputable def ob47 (P : Params) : Obj := { cls := Value.type "dict", data := Data.dict #[{ hash := PyData.keyHash P (Str.ofString "__module__"), key := Value.str (Str.ofString "__module__") 234, val := Value.str (Str.ofString "relfinder.errors") 187 }, { hash := PyData.keyHash P (Str.ofString "__qualname__"), key := Value.str (Str.ofString "__qualname__") 236, val := Value.str (Str.ofString "SpotFault") 235 }, { hash := PyData.keyHash P (Str.ofString "__firstlineno__"), key := Value.str (Str.ofString "__firstlineno__") 238, val := Value.int 10 237 }, { hash := PyData.keyHash P (Str.ofString "__init__"), key := Value.str (Str.ofString "__init__") 248, val := Value.ref 59 }, { hash := PyData.keyHash P (Str.ofString "told"), key := Value.str (Str.ofString "told") 255, val := Value.ref 66 }, { hash := PyData.keyHash P (Str.ofString "__static_attributes__"), key := Value.str (Str.ofString "__static_attributes__") 257, val := Value.ref 67 }, { hash := PyData.keyHash P (Str.ofString "__classcell__"), key := Value.str (Str.ofString "__classcell__") 258, val := Value.ref 47 }] 7 }
noncomputable def ob82 (P : Params) : Obj := { cls := Value.type "frame", slots := #[some (Value.ref 77), some (Value.ref 3), some (Value.ref 74), none, some (Value.str (Str.ofString "relfinder.errors") 187), none, some (Value.ref 0)] }
noncomputable def ob63 (P : Params) : Obj := { cls := Value.type "tuple", data := Data.seq #[Value.str (Str.ofString "self") 252] }
noncomputable def tr87 (P : Params) : BT := BT.node (boot_o_0 P) (BT.node (boot_o_1 P) (BT.node (ob73 P) (BT.node (boot_o_7 P) (BT.node (ob13 P) (BT.node (ob29 P) (BT.node (ob64 P) BT.nil BT.nil) BT.nil) (BT.node (ob48 P) (BT.node (ob83 P) BT.nil BT.nil) BT.nil)) (BT.node (ob21 P) (BT.node (ob37 P) (BT.node (ob72 P) BT.nil BT.nil) BT.nil) (BT.node (ob56 P) BT.nil BT.nil))) (BT.node (ob4 P) (BT.node (ob17 P) (BT.node (ob33 P) (BT.node (ob68 P) BT.nil BT.nil) BT.nil) (BT.node (ob52 P) (BT.node (ob87 P) BT.nil BT.nil) BT.nil)) (BT.node (ob25 P) (BT.node (ob41 P) (BT.node (ob79 P) BT.nil BT.nil) BT.nil) (BT.node (ob60 P) BT.nil BT.nil)))) (BT.node (boot_o_5 P) (BT.node (boot_o_9 P) (BT.node (ob15 P) (BT.node (ob31 P) (BT.node (ob66 P) BT.nil BT.nil) BT.nil) (BT.node (ob50 P) (BT.node (ob85 P) BT.nil BT.nil) BT.nil)) (BT.node (ob23 P) (BT.node (ob39 P) (BT.node (ob77 P) BT.nil BT.nil) BT.nil) (BT.node (ob58 P) BT.nil BT.nil))) (BT.node (ob6 P) (BT.node (ob19 P) (BT.node (ob35 P) (BT.node (ob75 P) BT.nil BT.nil) BT.nil) (BT.node (ob54 P) BT.nil BT.nil)) (BT.node (ob27 P) (BT.node (ob46 P) (BT.node (ob81 P) BT.nil BT.nil) BT.nil) (BT.node (ob62 P) BT.nil BT.nil))))) (BT.node (ob10 P) (BT.node (boot_o_4 P) (BT.node (boot_o_8 P) (BT.node (ob14 P) (BT.node (ob30 P) (BT.node (ob65 P) BT.nil BT.nil) BT.nil) (BT.node (ob49 P) (BT.node (ob84 P) BT.nil BT.nil) BT.nil)) (BT.node (ob22 P) (BT.node (ob44 P) (BT.node (ob76 P) BT.nil BT.nil) BT.nil) (BT.node (ob57 P) BT.nil BT.nil))) (BT.node (ob74 P) (BT.node (ob18 P) (BT.node (ob34 P) (BT.node (ob69 P) BT.nil BT.nil) BT.nil) (BT.node (ob53 P) BT.nil BT.nil)) (BT.node (ob26 P) (BT.node (ob45 P) (BT.node (ob80 P) BT.nil BT.nil) BT.nil) (BT.node (ob61 P) BT.nil BT.nil)))) (BT.node (boot_o_6 P) (BT.node (boot_o_10 P) (BT.node (ob16 P) (BT.node (ob32 P) (BT.node (ob67 P) BT.nil BT.nil) BT.nil) (BT.node (ob51 P) (BT.node (ob86 P) BT.nil BT.nil) BT.nil)) (BT.node (ob24 P) (BT.node (ob40 P) (BT.node (ob78 P) BT.nil BT.nil) BT.nil) (BT.node (ob59 P) BT.nil BT.nil))) (BT.node (ob7 P) (BT.node (ob20 P) (BT.node (ob36 P) (BT.node (ob71 P) BT.nil BT.nil) BT.nil) (BT.node (ob55 P) BT.nil BT.nil)) (BT.node (ob28 P) (BT.node (ob47 P) (BT.node (ob82 P) BT.nil BT.nil) BT.nil) (BT.node (ob63 P) BT.nil BT.nil)))))
noncomputable def ob88 (P : Params) : Obj := { cls := Value.type "dict", data := Data.dict #[{ hash := PyData.keyHash P (Str.ofString "__name__"), key := Value.str (Str.ofString "__name__") 165, val := Value.str (Str.ofString "relfinder.sigs") 278 }, { hash := PyData.keyHash P (Str.ofString "__doc__"), key := Value.str (Str.ofString "__doc__") 166, val := Value.none }, { hash := PyData.keyHash P (Str.ofString "__package__"), key := Value.str (Str.ofString "__package__") 167, val := Value.none }, { hash := PyData.keyHash P (Str.ofString "__loader__"), key := Value.str (Str.ofString "__loader__") 168, val := Value.builtin "__main__.__loader__#opaque" }, { hash := PyData.keyHash P (Str.ofString "__spec__"), key := Value.str (Str.ofString "__spec__") 169, val := Value.none }, { hash := PyData.keyHash P (Str.ofString "__annotations__"), key := Value.str (Str.ofString "__annotations__") 170, val := Value.ref 6 }, { hash := PyData.keyHash P (Str.ofString "__builtins__"), key := Value.str (Str.ofString "__builtins__") 171, val := Value.ref 4 }, { hash := PyData.keyHash P (Str.ofString "__file__"), key := Value.str (Str.ofString "__file__") 173, val := Value.str (Str.ofString "/claim/cut.py") 172 }, { hash := PyData.keyHash P (Str.ofString "__cached__"), key := Value.str (Str.ofString "__cached__") 174, val := Value.none }, { hash := PyData.keyHash P (Str.ofString "FinderError"), key := Value.str (Str.ofString "FinderError") 226, val := Value.ref 40 }, { hash := PyData.keyHash P (Str.ofString "SpotFault"), key := Value.str (Str.ofString "SpotFault") 261, val := Value.ref 69 }, { hash := PyData.keyHash P (Str.ofString "KindFault"), key := Value.str (Str.ofString "KindFault") 277, val := Value.ref 81 }, { hash := PyData.keyHash P (Str.ofString "ORDERING"), key := Value.str (Str.ofString "ORDERING") 281, val := Value.str (Str.ofString "util/ordering") 280 }, { hash := PyData.keyHash P (Str.ofString "Signatures"), key := Value.str (Str.ofString "Signatures") 504, val := Value.ref 248 }] 14 }
noncomputable def ob133 (P : Params) : Obj := { cls := Value.type "tuple", data := Data.seq #[] }
noncomputable def ob197 (P : Params) : Obj := { cls := Value.none, data := Data.fields #[] }
noncomputable def ob101 (P : Params) : Obj := { cls := Value.none, data := Data.func { name := Str.ofString "__init__", qualname := Str.ofString "Signatures.__init__", params := fArgs (inAt 6 0), body := FuncBody.stmts (fBody (inAt 6 0)), scope := fScope (inAt 6 0), globals := 0, closure := [], defaults := Value.none, kwdefaults := Value.none } }
noncomputable def ob165 (P : Params) : Obj := { cls := Value.type "tuple", data := Data.seq #[Value.str (Str.ofString "self") 391, Value.str (Str.ofString "name") 392] }
noncomputable def ob229 (P : Params) : Obj := { cls := Value.type "code", data := Data.fields #[Value.str (Str.ofString "mult") 462, Value.str (Str.ofString "Signatures.mult") 463, Value.str (Str.ofString "/claim/cut.py") 464, Value.int 144 0, Value.int 2 0, Value.int 0 0, Value.int 0 0, Value.int 3 0, Value.ref 218, Value.bool true, Value.int 181 0, Value.ref 219, Value.none, Value.ref 220, Value.ref 221, Value.ref 222, Value.int 467 0, Value.int 144 0, Value.str (Str.ofString "/claim/cut.py") 468] }
noncomputable def ob149 (P : Params) : Obj := { cls := Value.type "tuple", data := Data.seq #[] }
noncomputable def ob213 (P : Params) : Obj := { cls := Value.type "tuple", data := Data.seq #[] }
noncomputable def ob117 (P : Params) : Obj := { cls := Value.type "function", data := Data.func { name := Str.ofString "look_above", qualname := Str.ofString "Signatures.look_above", params := fArgs (inAt 6 2), body := FuncBody.stmts (fBody (inAt 6 2)), scope := fScope (inAt 6 2), globals := 3, closure := [], defaults := Value.none, kwdefaults := Value.none, pyModule := Value.str (Str.ofString "relfinder.sigs") 278, code := Value.ref 110 } }
noncomputable def ob181 (P : Params) : Obj := { cls := Value.none, data := Data.func { name := Str.ofString "supers", qualname := Str.ofString "Signatures.supers", params := fArgs (inAt 6 12), body := FuncBody.stmts (fBody (inAt 6 12)), scope := fScope (inAt 6 12), globals := 0, closure := [], defaults := Value.none, kwdefaults := Value.none } }
noncomputable def ob245 (P : Params) : Obj := { cls := Value.type "tuple", data := Data.seq #[] }
noncomputable def ob141 (P : Params) : Obj := { cls := Value.none, data := Data.func { name := Str.ofString "look_fields", qualname := Str.ofString "Signatures.look_fields", params := fArgs (inAt 6 6), body := FuncBody.stmts (fBody (inAt 6 6)), scope := fScope (inAt 6 6), globals := 0, closure := [], defaults := Value.none, kwdefaults := Value.none } }
noncomputable def ob205 (P : Params) : Obj := { cls := Value.type "tuple", data := Data.seq #[Value.str (Str.ofString "self") 438, Value.str (Str.ofString "name") 439] }
noncomputable def ob109 (P : Params) : Obj := { cls := Value.type "code", data := Data.fields #[Value.str (Str.ofString "take_sig") 304, Value.str (Str.ofString "Signatures.take_sig") 305, Value.str (Str.ofString "/claim/cut.py") 306, Value.int 40 0, Value.int 2 0, Value.int 0 0, Value.int 0 0, Value.int 3 0, Value.ref 98, Value.bool true, Value.int 181 0, Value.ref 99, Value.none, Value.ref 100, Value.ref 101, Value.ref 102, Value.int 310 0, Value.int 40 0, Value.str (Str.ofString "/claim/cut.py") 311] }
noncomputable def ob173 (P : Params) : Obj := { cls := Value.type "tuple", data := Data.seq #[] }
noncomputable def ob237 (P : Params) : Obj := { cls := Value.type "function", data := Data.func { name := Str.ofString "fields", qualname := Str.ofString "Signatures.fields", params := fArgs (inAt 6 20), body := FuncBody.stmts (fBody (inAt 6 20)), scope := fScope (inAt 6 20), globals := 3, closure := [], defaults := Value.none, kwdefaults := Value.none, pyModule := Value.str (Str.ofString "relfinder.sigs") 278, code := Value.ref 230 } }
noncomputable def ob93 (P : Params) : Obj := { cls := Value.type "tuple", data := Data.seq #[] }
noncomputable def ob157 (P : Params) : Obj := { cls := Value.none, data := Data.fields #[] }
noncomputable def ob221 (P : Params) : Obj := { cls := Value.none, data := Data.func { name := Str.ofString "is_abstract", qualname := Str.ofString "Signatures.is_abstract", params := fArgs (inAt 6 18), body := FuncBody.stmts (fBody (inAt 6 18)), scope := fScope (inAt 6 18), globals := 0, closure := [], defaults := Value.none, kwdefaults := Value.none } }
noncomputable def ob125 (P : Params) : Obj := { cls := Value.type "tuple", data := Data.seq #[] }
noncomputable def ob189 (P : Params) : Obj := { cls := Value.type "code", data := Data.fields #[Value.str (Str.ofString "is_subset") 412, Value.str (Str.ofString "Signatures.is_subset") 413, Value.str (Str.ofString "/claim/cut.py") 414, Value.int 114 0, Value.int 2 0, Value.int 0 0, Value.int 0 0, Value.int 3 0, Value.ref 178, Value.bool true, Value.int 181 0, Value.ref 179, Value.none, Value.ref 180, Value.ref 181, Value.ref 182, Value.int 417 0, Value.int 114 0, Value.str (Str.ofString "/claim/cut.py") 418] }
noncomputable def ob253 (P : Params) : Obj := { cls := Value.type "dict", data := Data.dict #[{ hash := PyData.keyHash P (Str.ofString "__module__"), key := Value.str (Str.ofString "__module__") 289, val := Value.str (Str.ofString "relfinder.sigs") 278 }, { hash := PyData.keyHash P (Str.ofString "__firstlineno__"), key := Value.str (Str.ofString "__firstlineno__") 293, val := Value.int 22 292 }, { hash := PyData.keyHash P (Str.ofString "__init__"), key := Value.str (Str.ofString "__init__") 303, val := Value.ref 97 }, { hash := PyData.keyHash P (Str.ofString "take_sig"), key := Value.str (Str.ofString "take_sig") 312, val := Value.ref 104 }, { hash := PyData.keyHash P (Str.ofString "look_above"), key := Value.str (Str.ofString "look_above") 321, val := Value.ref 111 }, { hash := PyData.keyHash P (Str.ofString "direct"), key := Value.str (Str.ofString "direct") 329, val := Value.ref 118 }, { hash := PyData.keyHash P (Str.ofString "parents_first"), key := Value.str (Str.ofString "parents_first") 335, val := Value.ref 123 }, { hash := PyData.keyHash P (Str.ofString "all_fields"), key := Value.str (Str.ofString "all_fields") 351, val := Value.ref 130 }, { hash := PyData.keyHash P (Str.ofString "look_fields"), key := Value.str (Str.ofString "look_fields") 366, val := Value.ref 137 }, { hash := PyData.keyHash P (Str.ofString "take_order"), key := Value.str (Str.ofString "take_order") 372, val := Value.ref 142 }, { hash := PyData.keyHash P (Str.ofString "names"), key := Value.str (Str.ofString "names") 379, val := Value.ref 149 }, { hash := PyData.keyHash P (Str.ofString "has"), key := Value.str (Str.ofString "has") 387, val := Value.ref 156 }, { hash := PyData.keyHash P (Str.ofString "spot"), key := Value.str (Str.ofString "spot") 395, val := Value.ref 163 }, { hash := PyData.keyHash P (Str.ofString "parent"), key := Value.str (Str.ofString "parent") 403, val := Value.ref 170 }, { hash := PyData.keyHash P (Str.ofString "supers"), key := Value.str (Str.ofString "supers") 411, val := Value.ref 177 }, { hash := PyData.keyHash P (Str.ofString "is_subset"), key := Value.str (Str.ofString "is_subset") 419, val := Value.ref 184 }, { hash := PyData.keyHash P (Str.ofString "children"), key := Value.str (Str.ofString "children") 425, val := Value.ref 189 }, { hash := PyData.keyHash P (Str.ofString "above"), key := Value.str (Str.ofString "above") 434, val := Value.ref 196 }, { hash := PyData.keyHash P (Str.ofString "top"), key := Value.str (Str.ofString "top") 442, val := Value.ref 203 }, { hash := PyData.keyHash P (Str.ofString "all_above"), key := Value.str (Str.ofString "all_above") 453, val := Value.ref 210 }, { hash := PyData.keyHash P (Str.ofString "is_abstract"), key := Value.str (Str.ofString "is_abstract") 461, val := Value.ref 217 }, { hash := PyData.keyHash P (Str.ofString "mult"), key := Value.str (Str.ofString "mult") 469, val := Value.ref 224 }, { hash := PyData.keyHash P (Str.ofString "fields"), key := Value.str (Str.ofString "fields") 476, val := Value.ref 231 }, { hash := PyData.keyHash P (Str.ofString "facts"), key := Value.str (Str.ofString "facts") 484, val := Value.ref 238 }, { hash := PyData.keyHash P (Str.ofString "orders"), key := Value.str (Str.ofString "orders") 491, val := Value.ref 245 }, { hash := PyData.keyHash P (Str.ofString "__static_attributes__"), key := Value.str (Str.ofString "__static_attributes__") 497, val := Value.ref 246 }, { hash := PyData.keyHash P (Str.ofString "__dict__"), key := Value.str (Str.ofString "__dict__") 499, val := Value.ref 249 }, { hash := PyData.keyHash P (Str.ofString "__weakref__"), key := Value.str (Str.ofString "__weakref__") 501, val := Value.ref 250 }, { hash := PyData.keyHash P (Str.ofString "__doc__"), key := Value.str (Str.ofString "__doc__") 502, val := Value.none }] 4 }
noncomputable def ob137 (P : Params) : Obj := { cls := Value.type "tuple", data := Data.seq #[] }
noncomputable def ob201 (P : Params) : Obj := { cls := Value.type "code", data := Data.fields #[Value.str (Str.ofString "above") 426, Value.str (Str.ofString "Signatures.above") 427, Value.str (Str.ofString "/claim/cut.py") 428, Value.int 120 0, Value.int 2 0, Value.int 0 0, Value.int 0 0, Value.int 3 0, Value.ref 190, Value.bool true, Value.int 181 0, Value.ref 191, Value.none, Value.ref 192, Value.ref 193, Value.ref 194, Value.int 432 0, Value.int 120 0, Value.str (Str.ofString "/claim/cut.py") 433] }
noncomputable def ob105 (P : Params) : Obj := { cls := Value.none, data := Data.fields #[] }
noncomputable def ob169 (P : Params) : Obj := { cls := Value.type "function", data := Data.func { name := Str.ofString "spot", qualname := Str.ofString "Signatures.spot", params := fArgs (inAt 6 10), body := FuncBody.stmts (fBody (inAt 6 10)), scope := fScope (inAt 6 10), globals := 3, closure := [], defaults := Value.none, kwdefaults := Value.none, pyModule := Value.str (Str.ofString "relfinder.sigs") 278, code := Value.ref 162 } }
noncomputable def ob233 (P : Params) : Obj := { cls := Value.type "tuple", data := Data.seq #[Value.str (Str.ofString "self") 473] }
noncomputable def ob153 (P : Params) : Obj := { cls := Value.none, data := Data.func { name := Str.ofString "names", qualname := Str.ofString "Signatures.names", params := fArgs (inAt 6 8), body := FuncBody.stmts (fBody (inAt 6 8)), scope := fScope (inAt 6 8), globals := 0, closure := [], defaults := Value.none, kwdefaults := Value.none } }
noncomputable def ob217 (P : Params) : Obj := { cls := Value.type "tuple", data := Data.seq #[] }
noncomputable def ob121 (P : Params) : Obj := { cls := Value.type "tuple", data := Data.seq #[] }
noncomputable def ob185 (P : Params) : Obj := { cls := Value.none, data := Data.fields #[] }
noncomputable def ob249 (P : Params) : Obj := { cls := Value.none, data := Data.func { name := Str.ofString "orders", qualname := Str.ofString "Signatures.orders", params := fArgs (inAt 6 22), body := FuncBody.stmts (fBody (inAt 6 22)), scope := fScope (inAt 6 22), globals := 0, closure := [], defaults := Value.none, kwdefaults := Value.none } }
noncomputable def ob145 (P : Params) : Obj := { cls := Value.none, data := Data.fields #[] }
noncomputable def ob209 (P : Params) : Obj := { cls := Value.type "function", data := Data.func { name := Str.ofString "top", qualname := Str.ofString "Signatures.top", params := fArgs (inAt 6 16), body := FuncBody.stmts (fBody (inAt 6 16)), scope := fScope (inAt 6 16), globals := 3, closure := [], defaults := Value.none, kwdefaults := Value.none, pyModule := Value.str (Str.ofString "relfinder.sigs") 278, code := Value.ref 202 } }
noncomputable def ob113 (P : Params) : Obj := { cls := Value.type "tuple", data := Data.seq #[Value.str (Str.ofString "self") 316, Value.str (Str.ofString "name") 317, Value.str (Str.ofString "other") 318] }
noncomputable def ob177 (P : Params) : Obj := { cls := Value.type "tuple", data := Data.seq #[] }
noncomputable def ob241 (P : Params) : Obj := { cls := Value.type "tuple", data := Data.seq #[] }
noncomputable def ob97 (P : Params) : Obj := { cls := Value.type "tuple", data := Data.seq #[] }
noncomputable def ob161 (P : Params) : Obj := { cls := Value.type "code", data := Data.fields #[Value.str (Str.ofString "has") 380, Value.str (Str.ofString "Signatures.has") 381, Value.str (Str.ofString "/claim/cut.py") 382, Value.int 102 0, Value.int 2 0, Value.int 0 0, Value.int 0 0, Value.int 3 0, Value.ref 150, Value.bool true, Value.int 181 0, Value.ref 151, Value.none, Value.ref 152, Value.ref 153, Value.ref 154, Value.int 385 0, Value.int 102 0, Value.str (Str.ofString "/claim/cut.py") 386] }
noncomputable def ob225 (P : Params) : Obj := { cls := Value.none, data := Data.fields #[] }
noncomputable def ob129 (P : Params) : Obj := { cls := Value.type "function", data := Data.func { name := Str.ofString "parents_first", qualname := Str.ofString "Signatures.parents_first", params := fArgs (inAt 6 4), body := FuncBody.stmts (fBody (inAt 6 4)), scope := fScope (inAt 6 4), globals := 3, closure := [], defaults := Value.none, kwdefaults := Value.none, pyModule := Value.str (Str.ofString "relfinder.sigs") 278, code := Value.ref 122 } }
noncomputable def ob193 (P : Params) : Obj := { cls := Value.none, data := Data.func { name := Str.ofString "children", qualname := Str.ofString "Signatures.children", params := fArgs (inAt 6 14), body := FuncBody.stmts (fBody (inAt 6 14)), scope := fScope (inAt 6 14), globals := 0, closure := [], defaults := Value.none, kwdefaults := Value.none } }
noncomputable def ob257 (P : Params) : Obj := { cls := Value.type "super", data := Data.fields #[Value.ref 248, Value.ref 248, Value.ref 248] }
noncomputable def ob135 (P : Params) : Obj := { cls := Value.type "code", data := Data.fields #[Value.str (Str.ofString "all_fields") 336, Value.str (Str.ofString "Signatures.all_fields") 337, Value.str (Str.ofString "/claim/cut.py") 338, Value.int 69 0, Value.int 1 0, Value.int 0 0, Value.int 0 0, Value.int 3 0, Value.ref 124, Value.bool true, Value.int 181 0, Value.ref 125, Value.none, Value.ref 126, Value.ref 127, Value.ref 128, Value.int 349 0, Value.int 69 0, Value.str (Str.ofString "/claim/cut.py") 350] }
noncomputable def ob199 (P : Params) : Obj := { cls := Value.type "tuple", data := Data.seq #[] }
noncomputable def ob103 (P : Params) : Obj := { cls := Value.type "function", data := Data.func { name := Str.ofString "__init__", qualname := Str.ofString "Signatures.__init__", params := fArgs (inAt 6 0), body := FuncBody.stmts (fBody (inAt 6 0)), scope := fScope (inAt 6 0), globals := 3, closure := [], defaults := Value.none, kwdefaults := Value.none, pyModule := Value.str (Str.ofString "relfinder.sigs") 278, code := Value.ref 96 } }
noncomputable def ob167 (P : Params) : Obj := { cls := Value.none, data := Data.func { name := Str.ofString "spot", qualname := Str.ofString "Signatures.spot", params := fArgs (inAt 6 10), body := FuncBody.stmts (fBody (inAt 6 10)), scope := fScope (inAt 6 10), globals := 0, closure := [], defaults := Value.none, kwdefaults := Value.none } }
noncomputable def ob231 (P : Params) : Obj := { cls := Value.type "tuple", data := Data.seq #[] }
noncomputable def ob151 (P : Params) : Obj := { cls := Value.type "tuple", data := Data.seq #[Value.str (Str.ofString "self") 376] }
noncomputable def ob215 (P : Params) : Obj := { cls := Value.type "code", data := Data.fields #[Value.str (Str.ofString "all_above") 443, Value.str (Str.ofString "Signatures.all_above") 444, Value.str (Str.ofString "/claim/cut.py") 445, Value.int 132 0, Value.int 2 0, Value.int 0 0, Value.int 0 0, Value.int 3 0, Value.ref 204, Value.bool true, Value.int 181 0, Value.ref 205, Value.none, Value.ref 206, Value.ref 207, Value.ref 208, Value.int 451 0, Value.int 132 0, Value.str (Str.ofString "/claim/cut.py") 452] }
noncomputable def ob119 (P : Params) : Obj := { cls := Value.none, data := Data.fields #[] }
noncomputable def ob183 (P : Params) : Obj := { cls := Value.type "function", data := Data.func { name := Str.ofString "supers", qualname := Str.ofString "Signatures.supers", params := fArgs (inAt 6 12), body := FuncBody.stmts (fBody (inAt 6 12)), scope := fScope (inAt 6 12), globals := 3, closure := [], defaults := Value.none, kwdefaults := Value.none, pyModule := Value.str (Str.ofString "relfinder.sigs") 278, code := Value.ref 176 } }
noncomputable def ob247 (P : Params) : Obj := { cls := Value.type "tuple", data := Data.seq #[Value.str (Str.ofString "self") 488] }
noncomputable def ob143 (P : Params) : Obj := { cls := Value.type "function", data := Data.func { name := Str.ofString "look_fields", qualname := Str.ofString "Signatures.look_fields", params := fArgs (inAt 6 6), body := FuncBody.stmts (fBody (inAt 6 6)), scope := fScope (inAt 6 6), globals := 3, closure := [], defaults := Value.none, kwdefaults := Value.none, pyModule := Value.str (Str.ofString "relfinder.sigs") 278, code := Value.ref 136 } }
noncomputable def ob207 (P : Params) : Obj := { cls := Value.none, data := Data.func { name := Str.ofString "top", qualname := Str.ofString "Signatures.top", params := fArgs (inAt 6 16), body := FuncBody.stmts (fBody (inAt 6 16)), scope := fScope (inAt 6 16), globals := 0, closure := [], defaults := Value.none, kwdefaults := Value.none } }
noncomputable def ob111 (P : Params) : Obj := { cls := Value.type "tuple", data := Data.seq #[] }
noncomputable def ob175 (P : Params) : Obj := { cls := Value.type "code", data := Data.fields #[Value.str (Str.ofString "parent") 396, Value.str (Str.ofString "Signatures.parent") 397, Value.str (Str.ofString "/claim/cut.py") 398, Value.int 108 0, Value.int 2 0, Value.int 0 0, Value.int 0 0, Value.int 3 0, Value.ref 164, Value.bool true, Value.int 181 0, Value.ref 165, Value.none, Value.ref 166, Value.ref 167, Value.ref 168, Value.int 401 0, Value.int 108 0, Value.str (Str.ofString "/claim/cut.py") 402] }
noncomputable def ob239 (P : Params) : Obj := { cls := Value.none, data := Data.fields #[] }
noncomputable def ob95 (P : Params) : Obj := { cls := Value.type "code", data := Data.fields #[Value.str (Str.ofString "Signatures") 284, Value.str (Str.ofString "Signatures") 285, Value.str (Str.ofString "/claim/cut.py") 286, Value.int 22 0, Value.int 0 0, Value.int 0 0, Value.int 0 0, Value.int 0 0, Value.ref 87, Value.bool false, Value.int 181 0, Value.ref 88, Value.none, Value.none, Value.none, Value.none, Value.int 287 0, Value.int 22 0, Value.str (Str.ofString "/claim/cut.py") 288] }
noncomputable def ob159 (P : Params) : Obj := { cls := Value.type "tuple", data := Data.seq #[] }
noncomputable def ob223 (P : Params) : Obj := { cls := Value.type "function", data := Data.func { name := Str.ofString "is_abstract", qualname := Str.ofString "Signatures.is_abstract", params := fArgs (inAt 6 18), body := FuncBody.stmts (fBody (inAt 6 18)), scope := fScope (inAt 6 18), globals := 3, closure := [], defaults := Value.none, kwdefaults := Value.none, pyModule := Value.str (Str.ofString "relfinder.sigs") 278, code := Value.ref 216 } }
noncomputable def ob127 (P : Params) : Obj := { cls := Value.none, data := Data.func { name := Str.ofString "parents_first", qualname := Str.ofString "Signatures.parents_first", params := fArgs (inAt 6 4), body := FuncBody.stmts (fBody (inAt 6 4)), scope := fScope (inAt 6 4), globals := 0, closure := [], defaults := Value.none, kwdefaults := Value.none } }
noncomputable def ob191 (P : Params) : Obj := { cls := Value.type "tuple", data := Data.seq #[] }
noncomputable def ob255 (P : Params) : Obj := { cls := Value.type "getset_descriptor", data := Data.fields #[Value.str (Str.ofString "__dict__") 498, Value.ref 248, Value.builtin "function.__dict__", Value.builtin "function.__dict__#set"] }
noncomputable def ob139 (P : Params) : Obj := { cls := Value.type "tuple", data := Data.seq #[Value.str (Str.ofString "self") 355, Value.str (Str.ofString "seen") 356, Value.str (Str.ofString "field") 357, Value.str (Str.ofString "name") 358, Value.str (Str.ofString "mult") 359, Value.str (Str.ofString "node") 360, Value.str (Str.ofString "spot") 361, Value.str (Str.ofString "group") 362, Value.str (Str.ofString "other") 363] }
noncomputable def ob203 (P : Params) : Obj := { cls := Value.type "tuple", data := Data.seq #[] }
noncomputable def ob107 (P : Params) : Obj := { cls := Value.type "tuple", data := Data.seq #[] }
noncomputable def ob171 (P : Params) : Obj := { cls := Value.none, data := Data.fields #[] }
noncomputable def ob235 (P : Params) : Obj := { cls := Value.none, data := Data.func { name := Str.ofString "fields", qualname := Str.ofString "Signatures.fields", params := fArgs (inAt 6 20), body := FuncBody.stmts (fBody (inAt 6 20)), scope := fScope (inAt 6 20), globals := 0, closure := [], defaults := Value.none, kwdefaults := Value.none } }
noncomputable def ob91 (P : Params) : Obj := { cls := Value.type "builtin_function_or_method", data := Data.fields #[Value.builtin "type.__prepare__", Value.type "type"] }
noncomputable def ob155 (P : Params) : Obj := { cls := Value.type "function", data := Data.func { name := Str.ofString "names", qualname := Str.ofString "Signatures.names", params := fArgs (inAt 6 8), body := FuncBody.stmts (fBody (inAt 6 8)), scope := fScope (inAt 6 8), globals := 3, closure := [], defaults := Value.none, kwdefaults := Value.none, pyModule := Value.str (Str.ofString "relfinder.sigs") 278, code := Value.ref 148 } }
noncomputable def ob219 (P : Params) : Obj := { cls := Value.type "tuple", data := Data.seq #[Value.str (Str.ofString "self") 457, Value.str (Str.ofString "name") 458] }
noncomputable def ob123 (P : Params) : Obj := { cls := Value.type "code", data := Data.fields #[Value.str (Str.ofString "direct") 322, Value.str (Str.ofString "Signatures.direct") 323, Value.str (Str.ofString "/claim/cut.py") 324, Value.int 56 0, Value.int 2 0, Value.int 0 0, Value.int 0 0, Value.int 3 0, Value.ref 112, Value.bool true, Value.int 181 0, Value.ref 113, Value.none, Value.ref 114, Value.ref 115, Value.ref 116, Value.int 327 0, Value.int 56 0, Value.str (Str.ofString "/claim/cut.py") 328] }
noncomputable def ob187 (P : Params) : Obj := { cls := Value.type "tuple", data := Data.seq #[] }
noncomputable def ob251 (P : Params) : Obj := { cls := Value.type "function", data := Data.func { name := Str.ofString "orders", qualname := Str.ofString "Signatures.orders", params := fArgs (inAt 6 22), body := FuncBody.stmts (fBody (inAt 6 22)), scope := fScope (inAt 6 22), globals := 3, closure := [], defaults := Value.none, kwdefaults := Value.none, pyModule := Value.str (Str.ofString "relfinder.sigs") 278, code := Value.ref 244 } }
noncomputable def ob147 (P : Params) : Obj := { cls := Value.type "code", data := Data.fields #[Value.str (Str.ofString "take_order") 367, Value.str (Str.ofString "Signatures.take_order") 368, Value.str (Str.ofString "/claim/cut.py") 369, Value.int 88 0, Value.int 2 0, Value.int 0 0, Value.int 0 0, Value.int 3 0, Value.ref 138, Value.bool true, Value.int 181 0, Value.ref 139, Value.none, Value.none, Value.none, Value.ref 140, Value.int 370 0, Value.int 88 0, Value.str (Str.ofString "/claim/cut.py") 371] }
noncomputable def ob211 (P : Params) : Obj := { cls := Value.none, data := Data.fields #[] }
noncomputable def ob115 (P : Params) : Obj := { cls := Value.none, data := Data.func { name := Str.ofString "look_above", qualname := Str.ofString "Signatures.look_above", params := fArgs (inAt 6 2), body := FuncBody.stmts (fBody (inAt 6 2)), scope := fScope (inAt 6 2), globals := 0, closure := [], defaults := Value.none, kwdefaults := Value.none } }
noncomputable def ob179 (P : Params) : Obj := { cls := Value.type "tuple", data := Data.seq #[Value.str (Str.ofString "self") 407, Value.str (Str.ofString "name") 408] }
noncomputable def ob243 (P : Params) : Obj := { cls := Value.type "code", data := Data.fields #[Value.str (Str.ofString "facts") 477, Value.str (Str.ofString "Signatures.facts") 478, Value.str (Str.ofString "/claim/cut.py") 479, Value.int 150 0, Value.int 2 0, Value.int 0 0, Value.int 0 0, Value.int 3 0, Value.ref 232, Value.bool true, Value.int 181 0, Value.ref 233, Value.none, Value.ref 234, Value.ref 235, Value.ref 236, Value.int 482 0, Value.int 150 0, Value.str (Str.ofString "/claim/cut.py") 483] }
noncomputable def ob99 (P : Params) : Obj := { cls := Value.type "tuple", data := Data.seq #[Value.str (Str.ofString "self") 297, Value.str (Str.ofString "items") 298, Value.str (Str.ofString "item") 299, Value.str (Str.ofString "name") 300] }
noncomputable def ob163 (P : Params) : Obj := { cls := Value.type "tuple", data := Data.seq #[] }
noncomputable def ob227 (P : Params) : Obj := { cls := Value.type "tuple", data := Data.seq #[] }
noncomputable def ob131 (P : Params) : Obj := { cls := Value.none, data := Data.fields #[] }
noncomputable def ob195 (P : Params) : Obj := { cls := Value.type "function", data := Data.func { name := Str.ofString "children", qualname := Str.ofString "Signatures.children", params := fArgs (inAt 6 14), body := FuncBody.stmts (fBody (inAt 6 14)), scope := fScope (inAt 6 14), globals := 3, closure := [], defaults := Value.none, kwdefaults := Value.none, pyModule := Value.str (Str.ofString "relfinder.sigs") 278, code := Value.ref 188 } }
noncomputable def ob134 (P : Params) : Obj := { cls := Value.none, data := Data.func { name := Str.ofString "all_fields", qualname := Str.ofString "Signatures.all_fields", params := fArgs (inAt 6 5), body := FuncBody.stmts (fBody (inAt 6 5)), scope := fScope (inAt 6 5), globals := 0, closure := [], defaults := Value.none, kwdefaults := Value.none } }
noncomputable def ob198 (P : Params) : Obj := { cls := Value.type "tuple", data := Data.seq #[Value.str (Str.ofString "self") 429, Value.str (Str.ofString "name") 430, Value.str (Str.ofString "found") 431] }
noncomputable def ob102 (P : Params) : Obj := { cls := Value.type "code", data := Data.fields #[Value.str (Str.ofString "__init__") 294, Value.str (Str.ofString "Signatures.__init__") 295, Value.str (Str.ofString "/claim/cut.py") 296, Value.int 24 0, Value.int 2 0, Value.int 0 0, Value.int 0 0, Value.int 3 0, Value.ref 91, Value.bool true, Value.int 181 0, Value.ref 92, Value.none, Value.ref 93, Value.ref 94, Value.ref 95, Value.int 301 0, Value.int 24 0, Value.str (Str.ofString "/claim/cut.py") 302] }
noncomputable def ob166 (P : Params) : Obj := { cls := Value.type "tuple", data := Data.seq #[] }
noncomputable def ob230 (P : Params) : Obj := { cls := Value.type "function", data := Data.func { name := Str.ofString "mult", qualname := Str.ofString "Signatures.mult", params := fArgs (inAt 6 19), body := FuncBody.stmts (fBody (inAt 6 19)), scope := fScope (inAt 6 19), globals := 3, closure := [], defaults := Value.none, kwdefaults := Value.none, pyModule := Value.str (Str.ofString "relfinder.sigs") 278, code := Value.ref 223 } }
noncomputable def ob150 (P : Params) : Obj := { cls := Value.none, data := Data.fields #[] }
noncomputable def ob214 (P : Params) : Obj := { cls := Value.none, data := Data.func { name := Str.ofString "all_above", qualname := Str.ofString "Signatures.all_above", params := fArgs (inAt 6 17), body := FuncBody.stmts (fBody (inAt 6 17)), scope := fScope (inAt 6 17), globals := 0, closure := [], defaults := Value.none, kwdefaults := Value.none } }
noncomputable def ob118 (P : Params) : Obj := { cls := Value.type "tuple", data := Data.seq #[] }
noncomputable def ob182 (P : Params) : Obj := { cls := Value.type "code", data := Data.fields #[Value.str (Str.ofString "supers") 404, Value.str (Str.ofString "Signatures.supers") 405, Value.str (Str.ofString "/claim/cut.py") 406, Value.int 111 0, Value.int 2 0, Value.int 0 0, Value.int 0 0, Value.int 3 0, Value.ref 171, Value.bool true, Value.int 181 0, Value.ref 172, Value.none, Value.ref 173, Value.ref 174, Value.ref 175, Value.int 409 0, Value.int 111 0, Value.str (Str.ofString "/claim/cut.py") 410] }
noncomputable def ob246 (P : Params) : Obj := { cls := Value.none, data := Data.fields #[] }
noncomputable def ob142 (P : Params) : Obj := { cls := Value.type "code", data := Data.fields #[Value.str (Str.ofString "look_fields") 352, Value.str (Str.ofString "Signatures.look_fields") 353, Value.str (Str.ofString "/claim/cut.py") 354, Value.int 78 0, Value.int 1 0, Value.int 0 0, Value.int 0 0, Value.int 3 0, Value.ref 131, Value.bool true, Value.int 181 0, Value.ref 132, Value.none, Value.ref 133, Value.ref 134, Value.ref 135, Value.int 364 0, Value.int 78 0, Value.str (Str.ofString "/claim/cut.py") 365] }
noncomputable def ob206 (P : Params) : Obj := { cls := Value.type "tuple", data := Data.seq #[] }
noncomputable def ob110 (P : Params) : Obj := { cls := Value.type "function", data := Data.func { name := Str.ofString "take_sig", qualname := Str.ofString "Signatures.take_sig", params := fArgs (inAt 6 1), body := FuncBody.stmts (fBody (inAt 6 1)), scope := fScope (inAt 6 1), globals := 3, closure := [], defaults := Value.none, kwdefaults := Value.none, pyModule := Value.str (Str.ofString "relfinder.sigs") 278, code := Value.ref 103 } }
noncomputable def ob174 (P : Params) : Obj := { cls := Value.none, data := Data.func { name := Str.ofString "parent", qualname := Str.ofString "Signatures.parent", params := fArgs (inAt 6 11), body := FuncBody.stmts (fBody (inAt 6 11)), scope := fScope (inAt 6 11), globals := 0, closure := [], defaults := Value.none, kwdefaults := Value.none } }
noncomputable def ob238 (P : Params) : Obj := { cls := Value.type "tuple", data := Data.seq #[] }
noncomputable def ob94 (P : Params) : Obj := { cls := Value.none, data := Data.fields #[Value.int 24 0, Value.int 4 0, Value.ref 96, Value.int 40 0, Value.int 4 0, Value.ref 103, Value.int 49 0, Value.int 4 0, Value.ref 110, Value.int 56 0, Value.int 4 0, Value.ref 117, Value.int 59 0, Value.int 4 0, Value.ref 122, Value.int 69 0, Value.int 4 0, Value.ref 129, Value.int 78 0, Value.int 4 0, Value.ref 136, Value.int 88 0, Value.int 4 0, Value.ref 141, Value.int 99 0, Value.int 4 0, Value.ref 148, Value.int 102 0, Value.int 4 0, Value.ref 155, Value.int 105 0, Value.int 4 0, Value.ref 162, Value.int 108 0, Value.int 4 0, Value.ref 169, Value.int 111 0, Value.int 4 0, Value.ref 176, Value.int 114 0, Value.int 4 0, Value.ref 183, Value.int 117 0, Value.int 4 0, Value.ref 188, Value.int 120 0, Value.int 4 0, Value.ref 195, Value.int 127 0, Value.int 4 0, Value.ref 202, Value.int 132 0, Value.int 4 0, Value.ref 209, Value.int 141 0, Value.int 4 0, Value.ref 216, Value.int 144 0, Value.int 4 0, Value.ref 223, Value.int 147 0, Value.int 4 0, Value.ref 230, Value.int 150 0, Value.int 4 0, Value.ref 237, Value.int 153 0, Value.int 4 0, Value.ref 244] }
noncomputable def ob158 (P : Params) : Obj := { cls := Value.type "tuple", data := Data.seq #[Value.str (Str.ofString "self") 383, Value.str (Str.ofString "name") 384] }
noncomputable def ob222 (P : Params) : Obj := { cls := Value.type "code", data := Data.fields #[Value.str (Str.ofString "is_abstract") 454, Value.str (Str.ofString "Signatures.is_abstract") 455, Value.str (Str.ofString "/claim/cut.py") 456, Value.int 141 0, Value.int 2 0, Value.int 0 0, Value.int 0 0, Value.int 3 0, Value.ref 211, Value.bool true, Value.int 181 0, Value.ref 212, Value.none, Value.ref 213, Value.ref 214, Value.ref 215, Value.int 459 0, Value.int 141 0, Value.str (Str.ofString "/claim/cut.py") 460] }
noncomputable def ob126 (P : Params) : Obj := { cls := Value.none, data := Data.fields #[] }
noncomputable def ob190 (P : Params) : Obj := { cls := Value.type "function", data := Data.func { name := Str.ofString "is_subset", qualname := Str.ofString "Signatures.is_subset", params := fArgs (inAt 6 13), body := FuncBody.stmts (fBody (inAt 6 13)), scope := fScope (inAt 6 13), globals := 3, closure := [], defaults := Value.none, kwdefaults := Value.none, pyModule := Value.str (Str.ofString "relfinder.sigs") 278, code := Value.ref 183 } }
noncomputable def ob254 (P : Params) : Obj := { cls := Value.type "type", data := Data.cls { name := Str.ofString "Signatures", bases := [Value.type "object"], mro := [Value.ref 248, Value.type "object"], ns := 247, qualname := Str.ofString "Signatures" }, slots := #[none, none, some (Value.str (Str.ofString "Signatures") 282), some (Value.str (Str.ofString "Signatures") 290), some (Value.builtin "object.__new__"), some (Value.bool true)] }
noncomputable def ob89 (P : Params) : Obj := { cls := Value.none, data := Data.fields #[Value.int 2 0, Value.int 0 0, Value.ref 21, Value.int 10 0, Value.int 0 0, Value.ref 50, Value.int 18 0, Value.int 0 0, Value.ref 77, Value.int 22 0, Value.int 0 0, Value.ref 89] }
noncomputable def ob138 (P : Params) : Obj := { cls := Value.none, data := Data.fields #[] }
noncomputable def ob202 (P : Params) : Obj := { cls := Value.type "function", data := Data.func { name := Str.ofString "above", qualname := Str.ofString "Signatures.above", params := fArgs (inAt 6 15), body := FuncBody.stmts (fBody (inAt 6 15)), scope := fScope (inAt 6 15), globals := 3, closure := [], defaults := Value.none, kwdefaults := Value.none, pyModule := Value.str (Str.ofString "relfinder.sigs") 278, code := Value.ref 195 } }
noncomputable def ob106 (P : Params) : Obj := { cls := Value.type "tuple", data := Data.seq #[Value.str (Str.ofString "self") 307, Value.str (Str.ofString "item") 308, Value.str (Str.ofString "name") 309] }
noncomputable def ob170 (P : Params) : Obj := { cls := Value.type "tuple", data := Data.seq #[] }
noncomputable def ob234 (P : Params) : Obj := { cls := Value.type "tuple", data := Data.seq #[] }
noncomputable def ob90 (P : Params) : Obj := { cls := Value.type "tuple", data := Data.seq #[] }
noncomputable def ob154 (P : Params) : Obj := { cls := Value.type "code", data := Data.fields #[Value.str (Str.ofString "names") 373, Value.str (Str.ofString "Signatures.names") 374, Value.str (Str.ofString "/claim/cut.py") 375, Value.int 99 0, Value.int 1 0, Value.int 0 0, Value.int 0 0, Value.int 3 0, Value.ref 143, Value.bool true, Value.int 181 0, Value.ref 144, Value.none, Value.ref 145, Value.ref 146, Value.ref 147, Value.int 377 0, Value.int 99 0, Value.str (Str.ofString "/claim/cut.py") 378] }
noncomputable def ob218 (P : Params) : Obj := { cls := Value.none, data := Data.fields #[] }
noncomputable def ob122 (P : Params) : Obj := { cls := Value.none, data := Data.func { name := Str.ofString "direct", qualname := Str.ofString "Signatures.direct", params := fArgs (inAt 6 3), body := FuncBody.stmts (fBody (inAt 6 3)), scope := fScope (inAt 6 3), globals := 0, closure := [], defaults := Value.none, kwdefaults := Value.none } }
noncomputable def ob186 (P : Params) : Obj := { cls := Value.type "tuple", data := Data.seq #[Value.str (Str.ofString "self") 415, Value.str (Str.ofString "name") 416] }
noncomputable def ob250 (P : Params) : Obj := { cls := Value.type "code", data := Data.fields #[Value.str (Str.ofString "orders") 485, Value.str (Str.ofString "Signatures.orders") 486, Value.str (Str.ofString "/claim/cut.py") 487, Value.int 153 0, Value.int 1 0, Value.int 0 0, Value.int 0 0, Value.int 3 0, Value.ref 239, Value.bool true, Value.int 181 0, Value.ref 240, Value.none, Value.ref 241, Value.ref 242, Value.ref 243, Value.int 489 0, Value.int 153 0, Value.str (Str.ofString "/claim/cut.py") 490] }
noncomputable def ob146 (P : Params) : Obj := { cls := Value.none, data := Data.func { name := Str.ofString "take_order", qualname := Str.ofString "Signatures.take_order", params := fArgs (inAt 6 7), body := FuncBody.stmts (fBody (inAt 6 7)), scope := fScope (inAt 6 7), globals := 0, closure := [], defaults := Value.none, kwdefaults := Value.none } }
noncomputable def ob210 (P : Params) : Obj := { cls := Value.type "tuple", data := Data.seq #[] }
noncomputable def ob114 (P : Params) : Obj := { cls := Value.type "tuple", data := Data.seq #[] }
noncomputable def ob178 (P : Params) : Obj := { cls := Value.none, data := Data.fields #[] }
noncomputable def ob242 (P : Params) : Obj := { cls := Value.none, data := Data.func { name := Str.ofString "facts", qualname := Str.ofString "Signatures.facts", params := fArgs (inAt 6 21), body := FuncBody.stmts (fBody (inAt 6 21)), scope := fScope (inAt 6 21), globals := 0, closure := [], defaults := Value.none, kwdefaults := Value.none } }
noncomputable def ob98 (P : Params) : Obj := { cls := Value.none, data := Data.fields #[] }
noncomputable def ob162 (P : Params) : Obj := { cls := Value.type "function", data := Data.func { name := Str.ofString "has", qualname := Str.ofString "Signatures.has", params := fArgs (inAt 6 9), body := FuncBody.stmts (fBody (inAt 6 9)), scope := fScope (inAt 6 9), globals := 3, closure := [], defaults := Value.none, kwdefaults := Value.none, pyModule := Value.str (Str.ofString "relfinder.sigs") 278, code := Value.ref 155 } }
noncomputable def ob226 (P : Params) : Obj := { cls := Value.type "tuple", data := Data.seq #[Value.str (Str.ofString "self") 465, Value.str (Str.ofString "name") 466] }
noncomputable def ob130 (P : Params) : Obj := { cls := Value.type "tuple", data := Data.seq #[] }
noncomputable def ob194 (P : Params) : Obj := { cls := Value.type "code", data := Data.fields #[Value.str (Str.ofString "children") 420, Value.str (Str.ofString "Signatures.children") 421, Value.str (Str.ofString "/claim/cut.py") 422, Value.int 117 0, Value.int 2 0, Value.int 0 0, Value.int 0 0, Value.int 3 0, Value.ref 185, Value.bool true, Value.int 181 0, Value.ref 186, Value.none, Value.none, Value.none, Value.ref 187, Value.int 423 0, Value.int 117 0, Value.str (Str.ofString "/claim/cut.py") 424] }
noncomputable def ob258 (P : Params) : Obj := { cls := Value.type "builtin_function_or_method", data := Data.fields #[Value.builtin "object.__init_subclass__", Value.ref 248] }
noncomputable def ob136 (P : Params) : Obj := { cls := Value.type "function", data := Data.func { name := Str.ofString "all_fields", qualname := Str.ofString "Signatures.all_fields", params := fArgs (inAt 6 5), body := FuncBody.stmts (fBody (inAt 6 5)), scope := fScope (inAt 6 5), globals := 3, closure := [], defaults := Value.none, kwdefaults := Value.none, pyModule := Value.str (Str.ofString "relfinder.sigs") 278, code := Value.ref 129 } }
noncomputable def ob200 (P : Params) : Obj := { cls := Value.none, data := Data.func { name := Str.ofString "above", qualname := Str.ofString "Signatures.above", params := fArgs (inAt 6 15), body := FuncBody.stmts (fBody (inAt 6 15)), scope := fScope (inAt 6 15), globals := 0, closure := [], defaults := Value.none, kwdefaults := Value.none } }
noncomputable def ob104 (P : Params) : Obj := { cls := Value.type "tuple", data := Data.seq #[] }
noncomputable def ob168 (P : Params) : Obj := { cls := Value.type "code", data := Data.fields #[Value.str (Str.ofString "spot") 388, Value.str (Str.ofString "Signatures.spot") 389, Value.str (Str.ofString "/claim/cut.py") 390, Value.int 105 0, Value.int 2 0, Value.int 0 0, Value.int 0 0, Value.int 3 0, Value.ref 157, Value.bool true, Value.int 181 0, Value.ref 158, Value.none, Value.ref 159, Value.ref 160, Value.ref 161, Value.int 393 0, Value.int 105 0, Value.str (Str.ofString "/claim/cut.py") 394] }
noncomputable def ob232 (P : Params) : Obj := { cls := Value.none, data := Data.fields #[] }
noncomputable def ob152 (P : Params) : Obj := { cls := Value.type "tuple", data := Data.seq #[] }
noncomputable def ob216 (P : Params) : Obj := { cls := Value.type "function", data := Data.func { name := Str.ofString "all_above", qualname := Str.ofString "Signatures.all_above", params := fArgs (inAt 6 17), body := FuncBody.stmts (fBody (inAt 6 17)), scope := fScope (inAt 6 17), globals := 3, closure := [], defaults := Value.none, kwdefaults := Value.none, pyModule := Value.str (Str.ofString "relfinder.sigs") 278, code := Value.ref 209 } }
noncomputable def ob120 (P : Params) : Obj := { cls := Value.type "tuple", data := Data.seq #[Value.str (Str.ofString "self") 325, Value.str (Str.ofString "name") 326] }
noncomputable def ob184 (P : Params) : Obj := { cls := Value.type "tuple", data := Data.seq #[] }
noncomputable def ob248 (P : Params) : Obj := { cls := Value.type "tuple", data := Data.seq #[] }
noncomputable def ob144 (P : Params) : Obj := { cls := Value.type "tuple", data := Data.seq #[] }
noncomputable def ob208 (P : Params) : Obj := { cls := Value.type "code", data := Data.fields #[Value.str (Str.ofString "top") 435, Value.str (Str.ofString "Signatures.top") 436, Value.str (Str.ofString "/claim/cut.py") 437, Value.int 127 0, Value.int 2 0, Value.int 0 0, Value.int 0 0, Value.int 3 0, Value.ref 197, Value.bool true, Value.int 181 0, Value.ref 198, Value.none, Value.ref 199, Value.ref 200, Value.ref 201, Value.int 440 0, Value.int 127 0, Value.str (Str.ofString "/claim/cut.py") 441] }
noncomputable def ob112 (P : Params) : Obj := { cls := Value.none, data := Data.fields #[] }
noncomputable def ob176 (P : Params) : Obj := { cls := Value.type "function", data := Data.func { name := Str.ofString "parent", qualname := Str.ofString "Signatures.parent", params := fArgs (inAt 6 11), body := FuncBody.stmts (fBody (inAt 6 11)), scope := fScope (inAt 6 11), globals := 3, closure := [], defaults := Value.none, kwdefaults := Value.none, pyModule := Value.str (Str.ofString "relfinder.sigs") 278, code := Value.ref 169 } }
noncomputable def ob240 (P : Params) : Obj := { cls := Value.type "tuple", data := Data.seq #[Value.str (Str.ofString "self") 480, Value.str (Str.ofString "name") 481] }
noncomputable def ob96 (P : Params) : Obj := { cls := Value.type "frame", slots := #[some (Value.ref 89), some (Value.ref 3), some (Value.ref 86), none, some (Value.str (Str.ofString "relfinder.sigs") 278), none, some (Value.ref 0)] }
noncomputable def ob160 (P : Params) : Obj := { cls := Value.none, data := Data.func { name := Str.ofString "has", qualname := Str.ofString "Signatures.has", params := fArgs (inAt 6 9), body := FuncBody.stmts (fBody (inAt 6 9)), scope := fScope (inAt 6 9), globals := 0, closure := [], defaults := Value.none, kwdefaults := Value.none } }
noncomputable def ob224 (P : Params) : Obj := { cls := Value.type "tuple", data := Data.seq #[] }
noncomputable def ob128 (P : Params) : Obj := { cls := Value.type "code", data := Data.fields #[Value.str (Str.ofString "parents_first") 330, Value.str (Str.ofString "Signatures.parents_first") 331, Value.str (Str.ofString "/claim/cut.py") 332, Value.int 59 0, Value.int 1 0, Value.int 0 0, Value.int 0 0, Value.int 3 0, Value.ref 119, Value.bool true, Value.int 181 0, Value.ref 120, Value.none, Value.none, Value.none, Value.ref 121, Value.int 333 0, Value.int 59 0, Value.str (Str.ofString "/claim/cut.py") 334] }
noncomputable def ob192 (P : Params) : Obj := { cls := Value.none, data := Data.fields #[] }
noncomputable def ob256 (P : Params) : Obj := { cls := Value.type "getset_descriptor", data := Data.fields #[Value.str (Str.ofString "__weakref__") 500, Value.ref 248, Value.builtin "ExceptionGroup.__weakref__", Value.none] }
noncomputable def ob140 (P : Params) : Obj := { cls := Value.type "tuple", data := Data.seq #[] }
noncomputable def ob204 (P : Params) : Obj := { cls := Value.none, data := Data.fields #[] }
noncomputable def ob108 (P : Params) : Obj := { cls := Value.none, data := Data.func { name := Str.ofString "take_sig", qualname := Str.ofString "Signatures.take_sig", params := fArgs (inAt 6 1), body := FuncBody.stmts (fBody (inAt 6 1)), scope := fScope (inAt 6 1), globals := 0, closure := [], defaults := Value.none, kwdefaults := Value.none } }
noncomputable def ob172 (P : Params) : Obj := { cls := Value.type "tuple", data := Data.seq #[Value.str (Str.ofString "self") 399, Value.str (Str.ofString "name") 400] }
noncomputable def ob236 (P : Params) : Obj := { cls := Value.type "code", data := Data.fields #[Value.str (Str.ofString "fields") 470, Value.str (Str.ofString "Signatures.fields") 471, Value.str (Str.ofString "/claim/cut.py") 472, Value.int 147 0, Value.int 1 0, Value.int 0 0, Value.int 0 0, Value.int 3 0, Value.ref 225, Value.bool true, Value.int 181 0, Value.ref 226, Value.none, Value.ref 227, Value.ref 228, Value.ref 229, Value.int 474 0, Value.int 147 0, Value.str (Str.ofString "/claim/cut.py") 475] }
noncomputable def ob92 (P : Params) : Obj := { cls := Value.type "dict", data := Data.dict #[{ hash := PyData.keyHash P (Str.ofString "__module__"), key := Value.str (Str.ofString "__module__") 289, val := Value.str (Str.ofString "relfinder.sigs") 278 }, { hash := PyData.keyHash P (Str.ofString "__qualname__"), key := Value.str (Str.ofString "__qualname__") 291, val := Value.str (Str.ofString "Signatures") 290 }, { hash := PyData.keyHash P (Str.ofString "__firstlineno__"), key := Value.str (Str.ofString "__firstlineno__") 293, val := Value.int 22 292 }, { hash := PyData.keyHash P (Str.ofString "__init__"), key := Value.str (Str.ofString "__init__") 303, val := Value.ref 97 }, { hash := PyData.keyHash P (Str.ofString "take_sig"), key := Value.str (Str.ofString "take_sig") 312, val := Value.ref 104 }, { hash := PyData.keyHash P (Str.ofString "look_above"), key := Value.str (Str.ofString "look_above") 321, val := Value.ref 111 }, { hash := PyData.keyHash P (Str.ofString "direct"), key := Value.str (Str.ofString "direct") 329, val := Value.ref 118 }, { hash := PyData.keyHash P (Str.ofString "parents_first"), key := Value.str (Str.ofString "parents_first") 335, val := Value.ref 123 }, { hash := PyData.keyHash P (Str.ofString "all_fields"), key := Value.str (Str.ofString "all_fields") 351, val := Value.ref 130 }, { hash := PyData.keyHash P (Str.ofString "look_fields"), key := Value.str (Str.ofString "look_fields") 366, val := Value.ref 137 }, { hash := PyData.keyHash P (Str.ofString "take_order"), key := Value.str (Str.ofString "take_order") 372, val := Value.ref 142 }, { hash := PyData.keyHash P (Str.ofString "names"), key := Value.str (Str.ofString "names") 379, val := Value.ref 149 }, { hash := PyData.keyHash P (Str.ofString "has"), key := Value.str (Str.ofString "has") 387, val := Value.ref 156 }, { hash := PyData.keyHash P (Str.ofString "spot"), key := Value.str (Str.ofString "spot") 395, val := Value.ref 163 }, { hash := PyData.keyHash P (Str.ofString "parent"), key := Value.str (Str.ofString "parent") 403, val := Value.ref 170 }, { hash := PyData.keyHash P (Str.ofString "supers"), key := Value.str (Str.ofString "supers") 411, val := Value.ref 177 }, { hash := PyData.keyHash P (Str.ofString "is_subset"), key := Value.str (Str.ofString "is_subset") 419, val := Value.ref 184 }, { hash := PyData.keyHash P (Str.ofString "children"), key := Value.str (Str.ofString "children") 425, val := Value.ref 189 }, { hash := PyData.keyHash P (Str.ofString "above"), key := Value.str (Str.ofString "above") 434, val := Value.ref 196 }, { hash := PyData.keyHash P (Str.ofString "top"), key := Value.str (Str.ofString "top") 442, val := Value.ref 203 }, { hash := PyData.keyHash P (Str.ofString "all_above"), key := Value.str (Str.ofString "all_above") 453, val := Value.ref 210 }, { hash := PyData.keyHash P (Str.ofString "is_abstract"), key := Value.str (Str.ofString "is_abstract") 461, val := Value.ref 217 }, { hash := PyData.keyHash P (Str.ofString "mult"), key := Value.str (Str.ofString "mult") 469, val := Value.ref 224 }, { hash := PyData.keyHash P (Str.ofString "fields"), key := Value.str (Str.ofString "fields") 476, val := Value.ref 231 }, { hash := PyData.keyHash P (Str.ofString "facts"), key := Value.str (Str.ofString "facts") 484, val := Value.ref 238 }, { hash := PyData.keyHash P (Str.ofString "orders"), key := Value.str (Str.ofString "orders") 491, val := Value.ref 245 }, { hash := PyData.keyHash P (Str.ofString "__static_attributes__"), key := Value.str (Str.ofString "__static_attributes__") 497, val := Value.ref 246 }] 27 }
noncomputable def ob156 (P : Params) : Obj := { cls := Value.type "tuple", data := Data.seq #[] }
noncomputable def ob220 (P : Params) : Obj := { cls := Value.type "tuple", data := Data.seq #[] }
noncomputable def ob124 (P : Params) : Obj := { cls := Value.type "function", data := Data.func { name := Str.ofString "direct", qualname := Str.ofString "Signatures.direct", params := fArgs (inAt 6 3), body := FuncBody.stmts (fBody (inAt 6 3)), scope := fScope (inAt 6 3), globals := 3, closure := [], defaults := Value.none, kwdefaults := Value.none, pyModule := Value.str (Str.ofString "relfinder.sigs") 278, code := Value.ref 117 } }
noncomputable def ob188 (P : Params) : Obj := { cls := Value.none, data := Data.func { name := Str.ofString "is_subset", qualname := Str.ofString "Signatures.is_subset", params := fArgs (inAt 6 13), body := FuncBody.stmts (fBody (inAt 6 13)), scope := fScope (inAt 6 13), globals := 0, closure := [], defaults := Value.none, kwdefaults := Value.none } }
noncomputable def ob252 (P : Params) : Obj := { cls := Value.type "tuple", data := Data.seq #[Value.str (Str.ofString "entries") 492, Value.str (Str.ofString "opened") 493, Value.str (Str.ofString "ordered") 494, Value.str (Str.ofString "own_fields") 495, Value.str (Str.ofString "stands") 496] }
noncomputable def ob148 (P : Params) : Obj := { cls := Value.type "function", data := Data.func { name := Str.ofString "take_order", qualname := Str.ofString "Signatures.take_order", params := fArgs (inAt 6 7), body := FuncBody.stmts (fBody (inAt 6 7)), scope := fScope (inAt 6 7), globals := 3, closure := [], defaults := Value.none, kwdefaults := Value.none, pyModule := Value.str (Str.ofString "relfinder.sigs") 278, code := Value.ref 141 } }
noncomputable def ob212 (P : Params) : Obj := { cls := Value.type "tuple", data := Data.seq #[Value.str (Str.ofString "self") 446, Value.str (Str.ofString "name") 447, Value.str (Str.ofString "found") 448, Value.str (Str.ofString "waiting") 449, Value.str (Str.ofString "other") 450] }
noncomputable def ob116 (P : Params) : Obj := { cls := Value.type "code", data := Data.fields #[Value.str (Str.ofString "look_above") 313, Value.str (Str.ofString "Signatures.look_above") 314, Value.str (Str.ofString "/claim/cut.py") 315, Value.int 49 0, Value.int 2 0, Value.int 0 0, Value.int 0 0, Value.int 3 0, Value.ref 105, Value.bool true, Value.int 181 0, Value.ref 106, Value.none, Value.ref 107, Value.ref 108, Value.ref 109, Value.int 319 0, Value.int 49 0, Value.str (Str.ofString "/claim/cut.py") 320] }
noncomputable def ob180 (P : Params) : Obj := { cls := Value.type "tuple", data := Data.seq #[] }
noncomputable def ob244 (P : Params) : Obj := { cls := Value.type "function", data := Data.func { name := Str.ofString "facts", qualname := Str.ofString "Signatures.facts", params := fArgs (inAt 6 21), body := FuncBody.stmts (fBody (inAt 6 21)), scope := fScope (inAt 6 21), globals := 3, closure := [], defaults := Value.none, kwdefaults := Value.none, pyModule := Value.str (Str.ofString "relfinder.sigs") 278, code := Value.ref 237 } }
noncomputable def ob100 (P : Params) : Obj := { cls := Value.type "tuple", data := Data.seq #[] }
noncomputable def ob164 (P : Params) : Obj := { cls := Value.none, data := Data.fields #[] }
noncomputable def ob228 (P : Params) : Obj := { cls := Value.none, data := Data.func { name := Str.ofString "mult", qualname := Str.ofString "Signatures.mult", params := fArgs (inAt 6 19), body := FuncBody.stmts (fBody (inAt 6 19)), scope := fScope (inAt 6 19), globals := 0, closure := [], defaults := Value.none, kwdefaults := Value.none } }
noncomputable def ob132 (P : Params) : Obj := { cls := Value.type "tuple", data := Data.seq #[Value.str (Str.ofString "self") 339, Value.str (Str.ofString "found") 340, Value.str (Str.ofString "group") 341, Value.str (Str.ofString "name") 342, Value.str (Str.ofString "spot") 343, Value.str (Str.ofString "is_disj") 344, Value.str (Str.ofString "fields") 345, Value.str (Str.ofString "mult") 346, Value.str (Str.ofString "node") 347, Value.str (Str.ofString "field") 348] }
noncomputable def ob196 (P : Params) : Obj := { cls := Value.type "tuple", data := Data.seq #[] }
noncomputable def tr258 (P : Params) : BT := BT.node (boot_o_0 P) (BT.node (boot_o_1 P) (BT.node (ob88 P) (BT.node (boot_o_7 P) (BT.node (ob13 P) (BT.node (ob29 P) (BT.node (ob64 P) (BT.node (ob133 P) BT.nil BT.nil) (BT.node (ob197 P) BT.nil BT.nil)) (BT.node (ob101 P) (BT.node (ob165 P) BT.nil BT.nil) (BT.node (ob229 P) BT.nil BT.nil))) (BT.node (ob48 P) (BT.node (ob83 P) (BT.node (ob149 P) BT.nil BT.nil) (BT.node (ob213 P) BT.nil BT.nil)) (BT.node (ob117 P) (BT.node (ob181 P) BT.nil BT.nil) (BT.node (ob245 P) BT.nil BT.nil)))) (BT.node (ob21 P) (BT.node (ob37 P) (BT.node (ob72 P) (BT.node (ob141 P) BT.nil BT.nil) (BT.node (ob205 P) BT.nil BT.nil)) (BT.node (ob109 P) (BT.node (ob173 P) BT.nil BT.nil) (BT.node (ob237 P) BT.nil BT.nil))) (BT.node (ob56 P) (BT.node (ob93 P) (BT.node (ob157 P) BT.nil BT.nil) (BT.node (ob221 P) BT.nil BT.nil)) (BT.node (ob125 P) (BT.node (ob189 P) BT.nil BT.nil) (BT.node (ob253 P) BT.nil BT.nil))))) (BT.node (ob4 P) (BT.node (ob17 P) (BT.node (ob33 P) (BT.node (ob68 P) (BT.node (ob137 P) BT.nil BT.nil) (BT.node (ob201 P) BT.nil BT.nil)) (BT.node (ob105 P) (BT.node (ob169 P) BT.nil BT.nil) (BT.node (ob233 P) BT.nil BT.nil))) (BT.node (ob52 P) (BT.node (ob87 P) (BT.node (ob153 P) BT.nil BT.nil) (BT.node (ob217 P) BT.nil BT.nil)) (BT.node (ob121 P) (BT.node (ob185 P) BT.nil BT.nil) (BT.node (ob249 P) BT.nil BT.nil)))) (BT.node (ob25 P) (BT.node (ob41 P) (BT.node (ob79 P) (BT.node (ob145 P) BT.nil BT.nil) (BT.node (ob209 P) BT.nil BT.nil)) (BT.node (ob113 P) (BT.node (ob177 P) BT.nil BT.nil) (BT.node (ob241 P) BT.nil BT.nil))) (BT.node (ob60 P) (BT.node (ob97 P) (BT.node (ob161 P) BT.nil BT.nil) (BT.node (ob225 P) BT.nil BT.nil)) (BT.node (ob129 P) (BT.node (ob193 P) BT.nil BT.nil) (BT.node (ob257 P) BT.nil BT.nil)))))) (BT.node (boot_o_5 P) (BT.node (boot_o_9 P) (BT.node (ob15 P) (BT.node (ob31 P) (BT.node (ob66 P) (BT.node (ob135 P) BT.nil BT.nil) (BT.node (ob199 P) BT.nil BT.nil)) (BT.node (ob103 P) (BT.node (ob167 P) BT.nil BT.nil) (BT.node (ob231 P) BT.nil BT.nil))) (BT.node (ob50 P) (BT.node (ob85 P) (BT.node (ob151 P) BT.nil BT.nil) (BT.node (ob215 P) BT.nil BT.nil)) (BT.node (ob119 P) (BT.node (ob183 P) BT.nil BT.nil) (BT.node (ob247 P) BT.nil BT.nil)))) (BT.node (ob23 P) (BT.node (ob39 P) (BT.node (ob77 P) (BT.node (ob143 P) BT.nil BT.nil) (BT.node (ob207 P) BT.nil BT.nil)) (BT.node (ob111 P) (BT.node (ob175 P) BT.nil BT.nil) (BT.node (ob239 P) BT.nil BT.nil))) (BT.node (ob58 P) (BT.node (ob95 P) (BT.node (ob159 P) BT.nil BT.nil) (BT.node (ob223 P) BT.nil BT.nil)) (BT.node (ob127 P) (BT.node (ob191 P) BT.nil BT.nil) (BT.node (ob255 P) BT.nil BT.nil))))) (BT.node (ob6 P) (BT.node (ob19 P) (BT.node (ob35 P) (BT.node (ob75 P) (BT.node (ob139 P) BT.nil BT.nil) (BT.node (ob203 P) BT.nil BT.nil)) (BT.node (ob107 P) (BT.node (ob171 P) BT.nil BT.nil) (BT.node (ob235 P) BT.nil BT.nil))) (BT.node (ob54 P) (BT.node (ob91 P) (BT.node (ob155 P) BT.nil BT.nil) (BT.node (ob219 P) BT.nil BT.nil)) (BT.node (ob123 P) (BT.node (ob187 P) BT.nil BT.nil) (BT.node (ob251 P) BT.nil BT.nil)))) (BT.node (ob27 P) (BT.node (ob46 P) (BT.node (ob81 P) (BT.node (ob147 P) BT.nil BT.nil) (BT.node (ob211 P) BT.nil BT.nil)) (BT.node (ob115 P) (BT.node (ob179 P) BT.nil BT.nil) (BT.node (ob243 P) BT.nil BT.nil))) (BT.node (ob62 P) (BT.node (ob99 P) (BT.node (ob163 P) BT.nil BT.nil) (BT.node (ob227 P) BT.nil BT.nil)) (BT.node (ob131 P) (BT.node (ob195 P) BT.nil BT.nil) BT.nil)))))) (BT.node (ob10 P) (BT.node (boot_o_4 P) (BT.node (boot_o_8 P) (BT.node (ob14 P) (BT.node (ob30 P) (BT.node (ob65 P) (BT.node (ob134 P) BT.nil BT.nil) (BT.node (ob198 P) BT.nil BT.nil)) (BT.node (ob102 P) (BT.node (ob166 P) BT.nil BT.nil) (BT.node (ob230 P) BT.nil BT.nil))) (BT.node (ob49 P) (BT.node (ob84 P) (BT.node (ob150 P) BT.nil BT.nil) (BT.node (ob214 P) BT.nil BT.nil)) (BT.node (ob118 P) (BT.node (ob182 P) BT.nil BT.nil) (BT.node (ob246 P) BT.nil BT.nil)))) (BT.node (ob22 P) (BT.node (ob44 P) (BT.node (ob76 P) (BT.node (ob142 P) BT.nil BT.nil) (BT.node (ob206 P) BT.nil BT.nil)) (BT.node (ob110 P) (BT.node (ob174 P) BT.nil BT.nil) (BT.node (ob238 P) BT.nil BT.nil))) (BT.node (ob57 P) (BT.node (ob94 P) (BT.node (ob158 P) BT.nil BT.nil) (BT.node (ob222 P) BT.nil BT.nil)) (BT.node (ob126 P) (BT.node (ob190 P) BT.nil BT.nil) (BT.node (ob254 P) BT.nil BT.nil))))) (BT.node (ob89 P) (BT.node (ob18 P) (BT.node (ob34 P) (BT.node (ob69 P) (BT.node (ob138 P) BT.nil BT.nil) (BT.node (ob202 P) BT.nil BT.nil)) (BT.node (ob106 P) (BT.node (ob170 P) BT.nil BT.nil) (BT.node (ob234 P) BT.nil BT.nil))) (BT.node (ob53 P) (BT.node (ob90 P) (BT.node (ob154 P) BT.nil BT.nil) (BT.node (ob218 P) BT.nil BT.nil)) (BT.node (ob122 P) (BT.node (ob186 P) BT.nil BT.nil) (BT.node (ob250 P) BT.nil BT.nil)))) (BT.node (ob26 P) (BT.node (ob45 P) (BT.node (ob80 P) (BT.node (ob146 P) BT.nil BT.nil) (BT.node (ob210 P) BT.nil BT.nil)) (BT.node (ob114 P) (BT.node (ob178 P) BT.nil BT.nil) (BT.node (ob242 P) BT.nil BT.nil))) (BT.node (ob61 P) (BT.node (ob98 P) (BT.node (ob162 P) BT.nil BT.nil) (BT.node (ob226 P) BT.nil BT.nil)) (BT.node (ob130 P) (BT.node (ob194 P) BT.nil BT.nil) (BT.node (ob258 P) BT.nil BT.nil)))))) (BT.node (boot_o_6 P) (BT.node (boot_o_10 P) (BT.node (ob16 P) (BT.node (ob32 P) (BT.node (ob67 P) (BT.node (ob136 P) BT.nil BT.nil) (BT.node (ob200 P) BT.nil BT.nil)) (BT.node (ob104 P) (BT.node (ob168 P) BT.nil BT.nil) (BT.node (ob232 P) BT.nil BT.nil))) (BT.node (ob51 P) (BT.node (ob86 P) (BT.node (ob152 P) BT.nil BT.nil) (BT.node (ob216 P) BT.nil BT.nil)) (BT.node (ob120 P) (BT.node (ob184 P) BT.nil BT.nil) (BT.node (ob248 P) BT.nil BT.nil)))) (BT.node (ob24 P) (BT.node (ob40 P) (BT.node (ob78 P) (BT.node (ob144 P) BT.nil BT.nil) (BT.node (ob208 P) BT.nil BT.nil)) (BT.node (ob112 P) (BT.node (ob176 P) BT.nil BT.nil) (BT.node (ob240 P) BT.nil BT.nil))) (BT.node (ob59 P) (BT.node (ob96 P) (BT.node (ob160 P) BT.nil BT.nil) (BT.node (ob224 P) BT.nil BT.nil)) (BT.node (ob128 P) (BT.node (ob192 P) BT.nil BT.nil) (BT.node (ob256 P) BT.nil BT.nil))))) (BT.node (ob7 P) (BT.node (ob20 P) (BT.node (ob36 P) (BT.node (ob71 P) (BT.node (ob140 P) BT.nil BT.nil) (BT.node (ob204 P) BT.nil BT.nil)) (BT.node (ob108 P) (BT.node (ob172 P) BT.nil BT.nil) (BT.node (ob236 P) BT.nil BT.nil))) (BT.node (ob55 P) (BT.node (ob92 P) (BT.node (ob156 P) BT.nil BT.nil) (BT.node (ob220 P) BT.nil BT.nil)) (BT.node (ob124 P) (BT.node (ob188 P) BT.nil BT.nil) (BT.node (ob252 P) BT.nil BT.nil)))) (BT.node (ob28 P) (BT.node (ob47 P) (BT.node (ob82 P) (BT.node (ob148 P) BT.nil BT.nil) (BT.node (ob212 P) BT.nil BT.nil)) (BT.node (ob116 P) (BT.node (ob180 P) BT.nil BT.nil) (BT.node (ob244 P) BT.nil BT.nil))) (BT.node (ob63 P) (BT.node (ob100 P) (BT.node (ob164 P) BT.nil BT.nil) (BT.node (ob228 P) BT.nil BT.nil)) (BT.node (ob132 P) (BT.node (ob196 P) BT.nil BT.nil) BT.nil))))))
noncomputable def ob342 (P : Params) : Obj := { cls := Value.type "dict", data := Data.dict #[{ hash := PyData.keyHash P (Str.ofString "__name__"), key := Value.str (Str.ofString "__name__") 165, val := Value.str (Str.ofString "law_rr0082_02") 505 }, { hash := PyData.keyHash P (Str.ofString "__doc__"), key := Value.str (Str.ofString "__doc__") 166, val := Value.none }, { hash := PyData.keyHash P (Str.ofString "__package__"), key := Value.str (Str.ofString "__package__") 167, val := Value.none }, { hash := PyData.keyHash P (Str.ofString "__loader__"), key := Value.str (Str.ofString "__loader__") 168, val := Value.builtin "__main__.__loader__#opaque" }, { hash := PyData.keyHash P (Str.ofString "__spec__"), key := Value.str (Str.ofString "__spec__") 169, val := Value.none }, { hash := PyData.keyHash P (Str.ofString "__annotations__"), key := Value.str (Str.ofString "__annotations__") 170, val := Value.ref 6 }, { hash := PyData.keyHash P (Str.ofString "__builtins__"), key := Value.str (Str.ofString "__builtins__") 171, val := Value.ref 4 }, { hash := PyData.keyHash P (Str.ofString "__file__"), key := Value.str (Str.ofString "__file__") 173, val := Value.str (Str.ofString "/claim/cut.py") 172 }, { hash := PyData.keyHash P (Str.ofString "__cached__"), key := Value.str (Str.ofString "__cached__") 174, val := Value.none }, { hash := PyData.keyHash P (Str.ofString "FinderError"), key := Value.str (Str.ofString "FinderError") 226, val := Value.ref 40 }, { hash := PyData.keyHash P (Str.ofString "SpotFault"), key := Value.str (Str.ofString "SpotFault") 261, val := Value.ref 69 }, { hash := PyData.keyHash P (Str.ofString "KindFault"), key := Value.str (Str.ofString "KindFault") 277, val := Value.ref 81 }, { hash := PyData.keyHash P (Str.ofString "ORDERING"), key := Value.str (Str.ofString "ORDERING") 281, val := Value.str (Str.ofString "util/ordering") 280 }, { hash := PyData.keyHash P (Str.ofString "Signatures"), key := Value.str (Str.ofString "Signatures") 504, val := Value.ref 248 }, { hash := PyData.keyHash P (Str.ofString "_law_mults"), key := Value.str (Str.ofString "_law_mults") 511, val := Value.ref 253 }, { hash := PyData.keyHash P (Str.ofString "_law_draw"), key := Value.str (Str.ofString "_law_draw") 520, val := Value.ref 260 }, { hash := PyData.keyHash P (Str.ofString "_law_rows"), key := Value.str (Str.ofString "_law_rows") 526, val := Value.ref 265 }, { hash := PyData.keyHash P (Str.ofString "_law_item"), key := Value.str (Str.ofString "_law_item") 532, val := Value.ref 270 }, { hash := PyData.keyHash P (Str.ofString "_law_model"), key := Value.str (Str.ofString "_law_model") 538, val := Value.ref 275 }, { hash := PyData.keyHash P (Str.ofString "_law_right_above"), key := Value.str (Str.ofString "_law_right_above") 545, val := Value.ref 282 }, { hash := PyData.keyHash P (Str.ofString "_law_line"), key := Value.str (Str.ofString "_law_line") 554, val := Value.ref 289 }, { hash := PyData.keyHash P (Str.ofString "_law_over"), key := Value.str (Str.ofString "_law_over") 564, val := Value.ref 296 }, { hash := PyData.keyHash P (Str.ofString "_law_sequence"), key := Value.str (Str.ofString "_law_sequence") 570, val := Value.ref 301 }, { hash := PyData.keyHash P (Str.ofString "_law_fields"), key := Value.str (Str.ofString "_law_fields") 576, val := Value.ref 306 }, { hash := PyData.keyHash P (Str.ofString "_law_is_told"), key := Value.str (Str.ofString "_law_is_told") 582, val := Value.ref 311 }, { hash := PyData.keyHash P (Str.ofString "law"), key := Value.str (Str.ofString "law") 588, val := Value.ref 316 }] 26 }
noncomputable def ob346 (P : Params) : Obj := { cls := Value.none, data := Data.fields #[] }
noncomputable def ob378 (P : Params) : Obj := { cls := Value.none, data := Data.func { name := Str.ofString "_law_line", qualname := Str.ofString "_law_line", params := fArgs (topAt 14), body := FuncBody.stmts (fBody (topAt 14)), scope := fScope (topAt 14), globals := 0, closure := [], defaults := Value.none, kwdefaults := Value.none } }
noncomputable def ob362 (P : Params) : Obj := { cls := Value.type "tuple", data := Data.seq #[] }
noncomputable def ob394 (P : Params) : Obj := { cls := Value.none, data := Data.fields #[] }
noncomputable def ob354 (P : Params) : Obj := { cls := Value.none, data := Data.func { name := Str.ofString "_law_rows", qualname := Str.ofString "_law_rows", params := fArgs (topAt 10), body := FuncBody.stmts (fBody (topAt 10)), scope := fScope (topAt 10), globals := 0, closure := [], defaults := Value.none, kwdefaults := Value.none } }
noncomputable def ob386 (P : Params) : Obj := { cls := Value.type "code", data := Data.fields #[Value.str (Str.ofString "_law_over") 555, Value.str (Str.ofString "_law_over") 556, Value.str (Str.ofString "/claim/cut.py") 557, Value.int 201 0, Value.int 2 0, Value.int 0 0, Value.int 0 0, Value.int 3 0, Value.ref 290, Value.bool true, Value.int 181 0, Value.ref 291, Value.none, Value.ref 292, Value.ref 293, Value.ref 294, Value.int 562 0, Value.int 201 0, Value.str (Str.ofString "/claim/cut.py") 563] }
noncomputable def ob370 (P : Params) : Obj := { cls := Value.type "tuple", data := Data.seq #[] }
noncomputable def ob402 (P : Params) : Obj := { cls := Value.type "function", data := Data.func { name := Str.ofString "_law_is_told", qualname := Str.ofString "_law_is_told", params := fArgs (topAt 18), body := FuncBody.stmts (fBody (topAt 18)), scope := fScope (topAt 18), globals := 3, closure := [], defaults := Value.none, kwdefaults := Value.none, pyModule := Value.str (Str.ofString "law_rr0082_02") 505, code := Value.ref 310 } }
noncomputable def ob350 (P : Params) : Obj := { cls := Value.type "code", data := Data.fields #[Value.str (Str.ofString "_law_draw") 512, Value.str (Str.ofString "_law_draw") 513, Value.str (Str.ofString "/claim/cut.py") 514, Value.int 157 0, Value.int 2 0, Value.int 0 0, Value.int 0 0, Value.int 3 0, Value.ref 254, Value.bool true, Value.int 181 0, Value.ref 255, Value.none, Value.ref 256, Value.ref 257, Value.ref 258, Value.int 518 0, Value.int 157 0, Value.str (Str.ofString "/claim/cut.py") 519] }
noncomputable def ob382 (P : Params) : Obj := { cls := Value.none, data := Data.fields #[] }
noncomputable def ob366 (P : Params) : Obj := { cls := Value.type "function", data := Data.func { name := Str.ofString "_law_model", qualname := Str.ofString "_law_model", params := fArgs (topAt 12), body := FuncBody.stmts (fBody (topAt 12)), scope := fScope (topAt 12), globals := 3, closure := [], defaults := Value.none, kwdefaults := Value.none, pyModule := Value.str (Str.ofString "law_rr0082_02") 505, code := Value.ref 274 } }
noncomputable def ob398 (P : Params) : Obj := { cls := Value.type "tuple", data := Data.seq #[] }
noncomputable def ob358 (P : Params) : Obj := { cls := Value.none, data := Data.fields #[] }
noncomputable def ob390 (P : Params) : Obj := { cls := Value.none, data := Data.func { name := Str.ofString "_law_sequence", qualname := Str.ofString "_law_sequence", params := fArgs (topAt 16), body := FuncBody.stmts (fBody (topAt 16)), scope := fScope (topAt 16), globals := 0, closure := [], defaults := Value.none, kwdefaults := Value.none } }
noncomputable def ob374 (P : Params) : Obj := { cls := Value.type "tuple", data := Data.seq #[] }
noncomputable def ob406 (P : Params) : Obj := { cls := Value.type "code", data := Data.fields #[Value.str (Str.ofString "law") 583, Value.str (Str.ofString "law") 584, Value.str (Str.ofString "/claim/cut.py") 585, Value.int 233 0, Value.int 1 0, Value.int 0 0, Value.int 0 0, Value.int 3 0, Value.ref 312, Value.bool true, Value.int 181 0, Value.ref 313, Value.none, Value.none, Value.none, Value.ref 314, Value.int 586 0, Value.int 233 0, Value.str (Str.ofString "/claim/cut.py") 587] }
noncomputable def ob348 (P : Params) : Obj := { cls := Value.type "tuple", data := Data.seq #[] }
noncomputable def ob380 (P : Params) : Obj := { cls := Value.type "function", data := Data.func { name := Str.ofString "_law_line", qualname := Str.ofString "_law_line", params := fArgs (topAt 14), body := FuncBody.stmts (fBody (topAt 14)), scope := fScope (topAt 14), globals := 3, closure := [], defaults := Value.none, kwdefaults := Value.none, pyModule := Value.str (Str.ofString "law_rr0082_02") 505, code := Value.ref 288 } }
noncomputable def ob364 (P : Params) : Obj := { cls := Value.none, data := Data.func { name := Str.ofString "_law_model", qualname := Str.ofString "_law_model", params := fArgs (topAt 12), body := FuncBody.stmts (fBody (topAt 12)), scope := fScope (topAt 12), globals := 0, closure := [], defaults := Value.none, kwdefaults := Value.none } }
noncomputable def ob396 (P : Params) : Obj := { cls := Value.type "code", data := Data.fields #[Value.str (Str.ofString "_law_fields") 571, Value.str (Str.ofString "_law_fields") 572, Value.str (Str.ofString "/claim/cut.py") 573, Value.int 213 0, Value.int 1 0, Value.int 0 0, Value.int 0 0, Value.int 3 0, Value.ref 302, Value.bool true, Value.int 181 0, Value.ref 303, Value.none, Value.none, Value.none, Value.ref 304, Value.int 574 0, Value.int 213 0, Value.str (Str.ofString "/claim/cut.py") 575] }
noncomputable def ob356 (P : Params) : Obj := { cls := Value.type "function", data := Data.func { name := Str.ofString "_law_rows", qualname := Str.ofString "_law_rows", params := fArgs (topAt 10), body := FuncBody.stmts (fBody (topAt 10)), scope := fScope (topAt 10), globals := 3, closure := [], defaults := Value.none, kwdefaults := Value.none, pyModule := Value.str (Str.ofString "law_rr0082_02") 505, code := Value.ref 264 } }
noncomputable def ob388 (P : Params) : Obj := { cls := Value.type "tuple", data := Data.seq #[] }
noncomputable def ob372 (P : Params) : Obj := { cls := Value.type "code", data := Data.fields #[Value.str (Str.ofString "_law_right_above") 539, Value.str (Str.ofString "_law_right_above") 540, Value.str (Str.ofString "/claim/cut.py") 541, Value.int 196 0, Value.int 1 0, Value.int 0 0, Value.int 0 0, Value.int 3 0, Value.ref 276, Value.bool true, Value.int 181 0, Value.ref 277, Value.none, Value.ref 278, Value.ref 279, Value.ref 280, Value.int 543 0, Value.int 196 0, Value.str (Str.ofString "/claim/cut.py") 544] }
noncomputable def ob404 (P : Params) : Obj := { cls := Value.none, data := Data.fields #[] }
noncomputable def ob352 (P : Params) : Obj := { cls := Value.type "tuple", data := Data.seq #[] }
noncomputable def ob384 (P : Params) : Obj := { cls := Value.type "tuple", data := Data.seq #[] }
noncomputable def ob368 (P : Params) : Obj := { cls := Value.none, data := Data.fields #[] }
noncomputable def ob400 (P : Params) : Obj := { cls := Value.none, data := Data.func { name := Str.ofString "_law_is_told", qualname := Str.ofString "_law_is_told", params := fArgs (topAt 18), body := FuncBody.stmts (fBody (topAt 18)), scope := fScope (topAt 18), globals := 0, closure := [], defaults := Value.none, kwdefaults := Value.none } }
noncomputable def ob360 (P : Params) : Obj := { cls := Value.type "code", data := Data.fields #[Value.str (Str.ofString "_law_item") 527, Value.str (Str.ofString "_law_item") 528, Value.str (Str.ofString "/claim/cut.py") 529, Value.int 171 0, Value.int 3 0, Value.int 0 0, Value.int 0 0, Value.int 3 0, Value.ref 266, Value.bool true, Value.int 181 0, Value.ref 267, Value.none, Value.none, Value.none, Value.ref 268, Value.int 530 0, Value.int 171 0, Value.str (Str.ofString "/claim/cut.py") 531] }
noncomputable def ob392 (P : Params) : Obj := { cls := Value.type "function", data := Data.func { name := Str.ofString "_law_sequence", qualname := Str.ofString "_law_sequence", params := fArgs (topAt 16), body := FuncBody.stmts (fBody (topAt 16)), scope := fScope (topAt 16), globals := 3, closure := [], defaults := Value.none, kwdefaults := Value.none, pyModule := Value.str (Str.ofString "law_rr0082_02") 505, code := Value.ref 300 } }
noncomputable def ob376 (P : Params) : Obj := { cls := Value.type "tuple", data := Data.seq #[Value.str (Str.ofString "known") 549, Value.str (Str.ofString "name") 550, Value.str (Str.ofString "parent") 551] }
noncomputable def ob344 (P : Params) : Obj := { cls := Value.type "tuple", data := Data.seq #[Value.str (Str.ofString "") 507, Value.str (Str.ofString "one") 508, Value.str (Str.ofString "lone") 509, Value.str (Str.ofString "some") 510] }
noncomputable def ob347 (P : Params) : Obj := { cls := Value.type "tuple", data := Data.seq #[Value.str (Str.ofString "hand") 515, Value.str (Str.ofString "many") 516, Value.str (Str.ofString "at") 517] }
noncomputable def ob379 (P : Params) : Obj := { cls := Value.type "code", data := Data.fields #[Value.str (Str.ofString "_law_line") 546, Value.str (Str.ofString "_law_line") 547, Value.str (Str.ofString "/claim/cut.py") 548, Value.int 198 0, Value.int 2 0, Value.int 0 0, Value.int 0 0, Value.int 3 0, Value.ref 283, Value.bool true, Value.int 181 0, Value.ref 284, Value.none, Value.ref 285, Value.ref 286, Value.ref 287, Value.int 552 0, Value.int 198 0, Value.str (Str.ofString "/claim/cut.py") 553] }
noncomputable def ob363 (P : Params) : Obj := { cls := Value.none, data := Data.fields #[] }
noncomputable def ob395 (P : Params) : Obj := { cls := Value.none, data := Data.func { name := Str.ofString "_law_fields", qualname := Str.ofString "_law_fields", params := fArgs (topAt 17), body := FuncBody.stmts (fBody (topAt 17)), scope := fScope (topAt 17), globals := 0, closure := [], defaults := Value.none, kwdefaults := Value.none } }
noncomputable def ob355 (P : Params) : Obj := { cls := Value.type "code", data := Data.fields #[Value.str (Str.ofString "_law_rows") 521, Value.str (Str.ofString "_law_rows") 522, Value.str (Str.ofString "/claim/cut.py") 523, Value.int 163 0, Value.int 2 0, Value.int 0 0, Value.int 0 0, Value.int 3 0, Value.ref 261, Value.bool true, Value.int 181 0, Value.ref 262, Value.none, Value.none, Value.none, Value.ref 263, Value.int 524 0, Value.int 163 0, Value.str (Str.ofString "/claim/cut.py") 525] }
noncomputable def ob387 (P : Params) : Obj := { cls := Value.type "function", data := Data.func { name := Str.ofString "_law_over", qualname := Str.ofString "_law_over", params := fArgs (topAt 15), body := FuncBody.stmts (fBody (topAt 15)), scope := fScope (topAt 15), globals := 3, closure := [], defaults := Value.none, kwdefaults := Value.none, pyModule := Value.str (Str.ofString "law_rr0082_02") 505, code := Value.ref 295 } }
noncomputable def ob371 (P : Params) : Obj := { cls := Value.none, data := Data.func { name := Str.ofString "_law_right_above", qualname := Str.ofString "_law_right_above", params := fArgs (topAt 13), body := FuncBody.stmts (fBody (topAt 13)), scope := fScope (topAt 13), globals := 0, closure := [], defaults := Value.none, kwdefaults := Value.none } }
noncomputable def ob403 (P : Params) : Obj := { cls := Value.type "tuple", data := Data.seq #[] }
noncomputable def ob343 (P : Params) : Obj := { cls := Value.none, data := Data.fields #[Value.int 2 0, Value.int 0 0, Value.ref 21, Value.int 10 0, Value.int 0 0, Value.ref 50, Value.int 18 0, Value.int 0 0, Value.ref 77, Value.int 22 0, Value.int 0 0, Value.ref 89, Value.int 157 0, Value.int 0 0, Value.ref 259, Value.int 163 0, Value.int 0 0, Value.ref 264, Value.int 171 0, Value.int 0 0, Value.ref 269, Value.int 183 0, Value.int 0 0, Value.ref 274, Value.int 196 0, Value.int 0 0, Value.ref 281, Value.int 198 0, Value.int 0 0, Value.ref 288, Value.int 201 0, Value.int 0 0, Value.ref 295, Value.int 207 0, Value.int 0 0, Value.ref 300, Value.int 213 0, Value.int 0 0, Value.ref 305, Value.int 220 0, Value.int 0 0, Value.ref 310, Value.int 233 0, Value.int 0 0, Value.ref 315] }
noncomputable def ob351 (P : Params) : Obj := { cls := Value.type "function", data := Data.func { name := Str.ofString "_law_draw", qualname := Str.ofString "_law_draw", params := fArgs (topAt 9), body := FuncBody.stmts (fBody (topAt 9)), scope := fScope (topAt 9), globals := 3, closure := [], defaults := Value.none, kwdefaults := Value.none, pyModule := Value.str (Str.ofString "law_rr0082_02") 505, code := Value.ref 259 } }
noncomputable def ob383 (P : Params) : Obj := { cls := Value.type "tuple", data := Data.seq #[Value.str (Str.ofString "known") 558, Value.str (Str.ofString "name") 559, Value.str (Str.ofString "found") 560, Value.str (Str.ofString "other") 561] }
noncomputable def ob367 (P : Params) : Obj := { cls := Value.type "tuple", data := Data.seq #[] }
noncomputable def ob399 (P : Params) : Obj := { cls := Value.none, data := Data.fields #[] }
noncomputable def ob359 (P : Params) : Obj := { cls := Value.none, data := Data.func { name := Str.ofString "_law_item", qualname := Str.ofString "_law_item", params := fArgs (topAt 11), body := FuncBody.stmts (fBody (topAt 11)), scope := fScope (topAt 11), globals := 0, closure := [], defaults := Value.none, kwdefaults := Value.none } }
noncomputable def ob391 (P : Params) : Obj := { cls := Value.type "code", data := Data.fields #[Value.str (Str.ofString "_law_sequence") 565, Value.str (Str.ofString "_law_sequence") 566, Value.str (Str.ofString "/claim/cut.py") 567, Value.int 207 0, Value.int 1 0, Value.int 0 0, Value.int 0 0, Value.int 3 0, Value.ref 297, Value.bool true, Value.int 181 0, Value.ref 298, Value.none, Value.none, Value.none, Value.ref 299, Value.int 568 0, Value.int 207 0, Value.str (Str.ofString "/claim/cut.py") 569] }
noncomputable def ob375 (P : Params) : Obj := { cls := Value.none, data := Data.fields #[] }
noncomputable def ob407 (P : Params) : Obj := { cls := Value.type "function", data := Data.func { name := Str.ofString "law", qualname := Str.ofString "law", params := fArgs (topAt 19), body := FuncBody.stmts (fBody (topAt 19)), scope := fScope (topAt 19), globals := 3, closure := [], defaults := Value.none, kwdefaults := Value.none, pyModule := Value.str (Str.ofString "law_rr0082_02") 505, code := Value.ref 315 } }
noncomputable def ob349 (P : Params) : Obj := { cls := Value.none, data := Data.func { name := Str.ofString "_law_draw", qualname := Str.ofString "_law_draw", params := fArgs (topAt 9), body := FuncBody.stmts (fBody (topAt 9)), scope := fScope (topAt 9), globals := 0, closure := [], defaults := Value.none, kwdefaults := Value.none } }
noncomputable def ob381 (P : Params) : Obj := { cls := Value.type "tuple", data := Data.seq #[] }
noncomputable def ob365 (P : Params) : Obj := { cls := Value.type "code", data := Data.fields #[Value.str (Str.ofString "_law_model") 533, Value.str (Str.ofString "_law_model") 534, Value.str (Str.ofString "/claim/cut.py") 535, Value.int 183 0, Value.int 1 0, Value.int 0 0, Value.int 0 0, Value.int 3 0, Value.ref 271, Value.bool true, Value.int 181 0, Value.ref 272, Value.none, Value.none, Value.none, Value.ref 273, Value.int 536 0, Value.int 183 0, Value.str (Str.ofString "/claim/cut.py") 537] }
noncomputable def ob397 (P : Params) : Obj := { cls := Value.type "function", data := Data.func { name := Str.ofString "_law_fields", qualname := Str.ofString "_law_fields", params := fArgs (topAt 17), body := FuncBody.stmts (fBody (topAt 17)), scope := fScope (topAt 17), globals := 3, closure := [], defaults := Value.none, kwdefaults := Value.none, pyModule := Value.str (Str.ofString "law_rr0082_02") 505, code := Value.ref 305 } }
noncomputable def ob357 (P : Params) : Obj := { cls := Value.type "tuple", data := Data.seq #[] }
noncomputable def ob389 (P : Params) : Obj := { cls := Value.none, data := Data.fields #[] }
noncomputable def ob373 (P : Params) : Obj := { cls := Value.type "function", data := Data.func { name := Str.ofString "_law_right_above", qualname := Str.ofString "_law_right_above", params := fArgs (topAt 13), body := FuncBody.stmts (fBody (topAt 13)), scope := fScope (topAt 13), globals := 3, closure := [], defaults := Value.none, kwdefaults := Value.none, pyModule := Value.str (Str.ofString "law_rr0082_02") 505, code := Value.ref 281 } }
noncomputable def ob405 (P : Params) : Obj := { cls := Value.none, data := Data.func { name := Str.ofString "law", qualname := Str.ofString "law", params := fArgs (topAt 19), body := FuncBody.stmts (fBody (topAt 19)), scope := fScope (topAt 19), globals := 0, closure := [], defaults := Value.none, kwdefaults := Value.none } }
noncomputable def ob353 (P : Params) : Obj := { cls := Value.none, data := Data.fields #[] }
noncomputable def ob385 (P : Params) : Obj := { cls := Value.none, data := Data.func { name := Str.ofString "_law_over", qualname := Str.ofString "_law_over", params := fArgs (topAt 15), body := FuncBody.stmts (fBody (topAt 15)), scope := fScope (topAt 15), globals := 0, closure := [], defaults := Value.none, kwdefaults := Value.none } }
noncomputable def ob369 (P : Params) : Obj := { cls := Value.type "tuple", data := Data.seq #[Value.str (Str.ofString "item") 542] }
noncomputable def ob401 (P : Params) : Obj := { cls := Value.type "code", data := Data.fields #[Value.str (Str.ofString "_law_is_told") 577, Value.str (Str.ofString "_law_is_told") 578, Value.str (Str.ofString "/claim/cut.py") 579, Value.int 220 0, Value.int 3 0, Value.int 0 0, Value.int 0 0, Value.int 3 0, Value.ref 307, Value.bool true, Value.int 181 0, Value.ref 308, Value.none, Value.none, Value.none, Value.ref 309, Value.int 580 0, Value.int 220 0, Value.str (Str.ofString "/claim/cut.py") 581] }
noncomputable def ob361 (P : Params) : Obj := { cls := Value.type "function", data := Data.func { name := Str.ofString "_law_item", qualname := Str.ofString "_law_item", params := fArgs (topAt 11), body := FuncBody.stmts (fBody (topAt 11)), scope := fScope (topAt 11), globals := 3, closure := [], defaults := Value.none, kwdefaults := Value.none, pyModule := Value.str (Str.ofString "law_rr0082_02") 505, code := Value.ref 269 } }
noncomputable def ob393 (P : Params) : Obj := { cls := Value.type "tuple", data := Data.seq #[] }
noncomputable def ob377 (P : Params) : Obj := { cls := Value.type "tuple", data := Data.seq #[] }
noncomputable def ob345 (P : Params) : Obj := { cls := Value.type "tuple", data := Data.seq #[] }
noncomputable def tr407 (P : Params) : BT := BT.node (boot_o_0 P) (BT.node (boot_o_1 P) (BT.node (ob342 P) (BT.node (boot_o_7 P) (BT.node (ob13 P) (BT.node (ob29 P) (BT.node (ob64 P) (BT.node (ob133 P) (BT.node (ob346 P) BT.nil BT.nil) BT.nil) (BT.node (ob197 P) BT.nil BT.nil)) (BT.node (ob101 P) (BT.node (ob165 P) (BT.node (ob378 P) BT.nil BT.nil) BT.nil) (BT.node (ob229 P) BT.nil BT.nil))) (BT.node (ob48 P) (BT.node (ob83 P) (BT.node (ob149 P) (BT.node (ob362 P) BT.nil BT.nil) BT.nil) (BT.node (ob213 P) BT.nil BT.nil)) (BT.node (ob117 P) (BT.node (ob181 P) (BT.node (ob394 P) BT.nil BT.nil) BT.nil) (BT.node (ob245 P) BT.nil BT.nil)))) (BT.node (ob21 P) (BT.node (ob37 P) (BT.node (ob72 P) (BT.node (ob141 P) (BT.node (ob354 P) BT.nil BT.nil) BT.nil) (BT.node (ob205 P) BT.nil BT.nil)) (BT.node (ob109 P) (BT.node (ob173 P) (BT.node (ob386 P) BT.nil BT.nil) BT.nil) (BT.node (ob237 P) BT.nil BT.nil))) (BT.node (ob56 P) (BT.node (ob93 P) (BT.node (ob157 P) (BT.node (ob370 P) BT.nil BT.nil) BT.nil) (BT.node (ob221 P) BT.nil BT.nil)) (BT.node (ob125 P) (BT.node (ob189 P) (BT.node (ob402 P) BT.nil BT.nil) BT.nil) (BT.node (ob253 P) BT.nil BT.nil))))) (BT.node (ob4 P) (BT.node (ob17 P) (BT.node (ob33 P) (BT.node (ob68 P) (BT.node (ob137 P) (BT.node (ob350 P) BT.nil BT.nil) BT.nil) (BT.node (ob201 P) BT.nil BT.nil)) (BT.node (ob105 P) (BT.node (ob169 P) (BT.node (ob382 P) BT.nil BT.nil) BT.nil) (BT.node (ob233 P) BT.nil BT.nil))) (BT.node (ob52 P) (BT.node (ob87 P) (BT.node (ob153 P) (BT.node (ob366 P) BT.nil BT.nil) BT.nil) (BT.node (ob217 P) BT.nil BT.nil)) (BT.node (ob121 P) (BT.node (ob185 P) (BT.node (ob398 P) BT.nil BT.nil) BT.nil) (BT.node (ob249 P) BT.nil BT.nil)))) (BT.node (ob25 P) (BT.node (ob41 P) (BT.node (ob79 P) (BT.node (ob145 P) (BT.node (ob358 P) BT.nil BT.nil) BT.nil) (BT.node (ob209 P) BT.nil BT.nil)) (BT.node (ob113 P) (BT.node (ob177 P) (BT.node (ob390 P) BT.nil BT.nil) BT.nil) (BT.node (ob241 P) BT.nil BT.nil))) (BT.node (ob60 P) (BT.node (ob97 P) (BT.node (ob161 P) (BT.node (ob374 P) BT.nil BT.nil) BT.nil) (BT.node (ob225 P) BT.nil BT.nil)) (BT.node (ob129 P) (BT.node (ob193 P) (BT.node (ob406 P) BT.nil BT.nil) BT.nil) (BT.node (ob257 P) BT.nil BT.nil)))))) (BT.node (boot_o_5 P) (BT.node (boot_o_9 P) (BT.node (ob15 P) (BT.node (ob31 P) (BT.node (ob66 P) (BT.node (ob135 P) (BT.node (ob348 P) BT.nil BT.nil) BT.nil) (BT.node (ob199 P) BT.nil BT.nil)) (BT.node (ob103 P) (BT.node (ob167 P) (BT.node (ob380 P) BT.nil BT.nil) BT.nil) (BT.node (ob231 P) BT.nil BT.nil))) (BT.node (ob50 P) (BT.node (ob85 P) (BT.node (ob151 P) (BT.node (ob364 P) BT.nil BT.nil) BT.nil) (BT.node (ob215 P) BT.nil BT.nil)) (BT.node (ob119 P) (BT.node (ob183 P) (BT.node (ob396 P) BT.nil BT.nil) BT.nil) (BT.node (ob247 P) BT.nil BT.nil)))) (BT.node (ob23 P) (BT.node (ob39 P) (BT.node (ob77 P) (BT.node (ob143 P) (BT.node (ob356 P) BT.nil BT.nil) BT.nil) (BT.node (ob207 P) BT.nil BT.nil)) (BT.node (ob111 P) (BT.node (ob175 P) (BT.node (ob388 P) BT.nil BT.nil) BT.nil) (BT.node (ob239 P) BT.nil BT.nil))) (BT.node (ob58 P) (BT.node (ob95 P) (BT.node (ob159 P) (BT.node (ob372 P) BT.nil BT.nil) BT.nil) (BT.node (ob223 P) BT.nil BT.nil)) (BT.node (ob127 P) (BT.node (ob191 P) (BT.node (ob404 P) BT.nil BT.nil) BT.nil) (BT.node (ob255 P) BT.nil BT.nil))))) (BT.node (ob6 P) (BT.node (ob19 P) (BT.node (ob35 P) (BT.node (ob75 P) (BT.node (ob139 P) (BT.node (ob352 P) BT.nil BT.nil) BT.nil) (BT.node (ob203 P) BT.nil BT.nil)) (BT.node (ob107 P) (BT.node (ob171 P) (BT.node (ob384 P) BT.nil BT.nil) BT.nil) (BT.node (ob235 P) BT.nil BT.nil))) (BT.node (ob54 P) (BT.node (ob91 P) (BT.node (ob155 P) (BT.node (ob368 P) BT.nil BT.nil) BT.nil) (BT.node (ob219 P) BT.nil BT.nil)) (BT.node (ob123 P) (BT.node (ob187 P) (BT.node (ob400 P) BT.nil BT.nil) BT.nil) (BT.node (ob251 P) BT.nil BT.nil)))) (BT.node (ob27 P) (BT.node (ob46 P) (BT.node (ob81 P) (BT.node (ob147 P) (BT.node (ob360 P) BT.nil BT.nil) BT.nil) (BT.node (ob211 P) BT.nil BT.nil)) (BT.node (ob115 P) (BT.node (ob179 P) (BT.node (ob392 P) BT.nil BT.nil) BT.nil) (BT.node (ob243 P) BT.nil BT.nil))) (BT.node (ob62 P) (BT.node (ob99 P) (BT.node (ob163 P) (BT.node (ob376 P) BT.nil BT.nil) BT.nil) (BT.node (ob227 P) BT.nil BT.nil)) (BT.node (ob131 P) (BT.node (ob195 P) BT.nil BT.nil) (BT.node (ob344 P) BT.nil BT.nil))))))) (BT.node (ob10 P) (BT.node (boot_o_4 P) (BT.node (boot_o_8 P) (BT.node (ob14 P) (BT.node (ob30 P) (BT.node (ob65 P) (BT.node (ob134 P) (BT.node (ob347 P) BT.nil BT.nil) BT.nil) (BT.node (ob198 P) BT.nil BT.nil)) (BT.node (ob102 P) (BT.node (ob166 P) (BT.node (ob379 P) BT.nil BT.nil) BT.nil) (BT.node (ob230 P) BT.nil BT.nil))) (BT.node (ob49 P) (BT.node (ob84 P) (BT.node (ob150 P) (BT.node (ob363 P) BT.nil BT.nil) BT.nil) (BT.node (ob214 P) BT.nil BT.nil)) (BT.node (ob118 P) (BT.node (ob182 P) (BT.node (ob395 P) BT.nil BT.nil) BT.nil) (BT.node (ob246 P) BT.nil BT.nil)))) (BT.node (ob22 P) (BT.node (ob44 P) (BT.node (ob76 P) (BT.node (ob142 P) (BT.node (ob355 P) BT.nil BT.nil) BT.nil) (BT.node (ob206 P) BT.nil BT.nil)) (BT.node (ob110 P) (BT.node (ob174 P) (BT.node (ob387 P) BT.nil BT.nil) BT.nil) (BT.node (ob238 P) BT.nil BT.nil))) (BT.node (ob57 P) (BT.node (ob94 P) (BT.node (ob158 P) (BT.node (ob371 P) BT.nil BT.nil) BT.nil) (BT.node (ob222 P) BT.nil BT.nil)) (BT.node (ob126 P) (BT.node (ob190 P) (BT.node (ob403 P) BT.nil BT.nil) BT.nil) (BT.node (ob254 P) BT.nil BT.nil))))) (BT.node (ob343 P) (BT.node (ob18 P) (BT.node (ob34 P) (BT.node (ob69 P) (BT.node (ob138 P) (BT.node (ob351 P) BT.nil BT.nil) BT.nil) (BT.node (ob202 P) BT.nil BT.nil)) (BT.node (ob106 P) (BT.node (ob170 P) (BT.node (ob383 P) BT.nil BT.nil) BT.nil) (BT.node (ob234 P) BT.nil BT.nil))) (BT.node (ob53 P) (BT.node (ob90 P) (BT.node (ob154 P) (BT.node (ob367 P) BT.nil BT.nil) BT.nil) (BT.node (ob218 P) BT.nil BT.nil)) (BT.node (ob122 P) (BT.node (ob186 P) (BT.node (ob399 P) BT.nil BT.nil) BT.nil) (BT.node (ob250 P) BT.nil BT.nil)))) (BT.node (ob26 P) (BT.node (ob45 P) (BT.node (ob80 P) (BT.node (ob146 P) (BT.node (ob359 P) BT.nil BT.nil) BT.nil) (BT.node (ob210 P) BT.nil BT.nil)) (BT.node (ob114 P) (BT.node (ob178 P) (BT.node (ob391 P) BT.nil BT.nil) BT.nil) (BT.node (ob242 P) BT.nil BT.nil))) (BT.node (ob61 P) (BT.node (ob98 P) (BT.node (ob162 P) (BT.node (ob375 P) BT.nil BT.nil) BT.nil) (BT.node (ob226 P) BT.nil BT.nil)) (BT.node (ob130 P) (BT.node (ob194 P) (BT.node (ob407 P) BT.nil BT.nil) BT.nil) (BT.node (ob258 P) BT.nil BT.nil)))))) (BT.node (boot_o_6 P) (BT.node (boot_o_10 P) (BT.node (ob16 P) (BT.node (ob32 P) (BT.node (ob67 P) (BT.node (ob136 P) (BT.node (ob349 P) BT.nil BT.nil) BT.nil) (BT.node (ob200 P) BT.nil BT.nil)) (BT.node (ob104 P) (BT.node (ob168 P) (BT.node (ob381 P) BT.nil BT.nil) BT.nil) (BT.node (ob232 P) BT.nil BT.nil))) (BT.node (ob51 P) (BT.node (ob86 P) (BT.node (ob152 P) (BT.node (ob365 P) BT.nil BT.nil) BT.nil) (BT.node (ob216 P) BT.nil BT.nil)) (BT.node (ob120 P) (BT.node (ob184 P) (BT.node (ob397 P) BT.nil BT.nil) BT.nil) (BT.node (ob248 P) BT.nil BT.nil)))) (BT.node (ob24 P) (BT.node (ob40 P) (BT.node (ob78 P) (BT.node (ob144 P) (BT.node (ob357 P) BT.nil BT.nil) BT.nil) (BT.node (ob208 P) BT.nil BT.nil)) (BT.node (ob112 P) (BT.node (ob176 P) (BT.node (ob389 P) BT.nil BT.nil) BT.nil) (BT.node (ob240 P) BT.nil BT.nil))) (BT.node (ob59 P) (BT.node (ob96 P) (BT.node (ob160 P) (BT.node (ob373 P) BT.nil BT.nil) BT.nil) (BT.node (ob224 P) BT.nil BT.nil)) (BT.node (ob128 P) (BT.node (ob192 P) (BT.node (ob405 P) BT.nil BT.nil) BT.nil) (BT.node (ob256 P) BT.nil BT.nil))))) (BT.node (ob7 P) (BT.node (ob20 P) (BT.node (ob36 P) (BT.node (ob71 P) (BT.node (ob140 P) (BT.node (ob353 P) BT.nil BT.nil) BT.nil) (BT.node (ob204 P) BT.nil BT.nil)) (BT.node (ob108 P) (BT.node (ob172 P) (BT.node (ob385 P) BT.nil BT.nil) BT.nil) (BT.node (ob236 P) BT.nil BT.nil))) (BT.node (ob55 P) (BT.node (ob92 P) (BT.node (ob156 P) (BT.node (ob369 P) BT.nil BT.nil) BT.nil) (BT.node (ob220 P) BT.nil BT.nil)) (BT.node (ob124 P) (BT.node (ob188 P) (BT.node (ob401 P) BT.nil BT.nil) BT.nil) (BT.node (ob252 P) BT.nil BT.nil)))) (BT.node (ob28 P) (BT.node (ob47 P) (BT.node (ob82 P) (BT.node (ob148 P) (BT.node (ob361 P) BT.nil BT.nil) BT.nil) (BT.node (ob212 P) BT.nil BT.nil)) (BT.node (ob116 P) (BT.node (ob180 P) (BT.node (ob393 P) BT.nil BT.nil) BT.nil) (BT.node (ob244 P) BT.nil BT.nil))) (BT.node (ob63 P) (BT.node (ob100 P) (BT.node (ob164 P) (BT.node (ob377 P) BT.nil BT.nil) BT.nil) (BT.node (ob228 P) BT.nil BT.nil)) (BT.node (ob132 P) (BT.node (ob196 P) BT.nil BT.nil) (BT.node (ob345 P) BT.nil BT.nil)))))))
noncomputable def hp408 (P : Params) : Heap := { objs := { toList := [boot_o_0 P, boot_o_1 P, ob10 P, ob342 P, boot_o_4 P, boot_o_5 P, boot_o_6 P, boot_o_7 P, boot_o_8 P, boot_o_9 P, boot_o_10 P, ob4 P, ob343 P, ob6 P, ob7 P, ob13 P, ob14 P, ob15 P, ob16 P, ob17 P, ob18 P, ob19 P, ob20 P, ob21 P, ob22 P, ob23 P, ob24 P, ob25 P, ob26 P, ob27 P, ob28 P, ob29 P, ob30 P, ob31 P, ob32 P, ob33 P, ob34 P, ob35 P, ob36 P, ob37 P, ob44 P, ob39 P, ob40 P, ob41 P, ob45 P, ob46 P, ob47 P, ob48 P, ob49 P, ob50 P, ob51 P, ob52 P, ob53 P, ob54 P, ob55 P, ob56 P, ob57 P, ob58 P, ob59 P, ob60 P, ob61 P, ob62 P, ob63 P, ob64 P, ob65 P, ob66 P, ob67 P, ob68 P, ob69 P, ob75 P, ob71 P, ob72 P, ob76 P, ob77 P, ob78 P, ob79 P, ob80 P, ob81 P, ob82 P, ob83 P, ob84 P, ob85 P, ob86 P, ob87 P, ob90 P, ob91 P, ob92 P, ob93 P, ob94 P, ob95 P, ob96 P, ob97 P, ob98 P, ob99 P, ob100 P, ob101 P, ob102 P, ob103 P, ob104 P, ob105 P, ob106 P, ob107 P, ob108 P, ob109 P, ob110 P, ob111 P, ob112 P, ob113 P, ob114 P, ob115 P, ob116 P, ob117 P, ob118 P, ob119 P, ob120 P, ob121 P, ob122 P, ob123 P, ob124 P, ob125 P, ob126 P, ob127 P, ob128 P, ob129 P, ob130 P, ob131 P, ob132 P, ob133 P, ob134 P, ob135 P, ob136 P, ob137 P, ob138 P, ob139 P, ob140 P, ob141 P, ob142 P, ob143 P, ob144 P, ob145 P, ob146 P, ob147 P, ob148 P, ob149 P, ob150 P, ob151 P, ob152 P, ob153 P, ob154 P, ob155 P, ob156 P, ob157 P, ob158 P, ob159 P, ob160 P, ob161 P, ob162 P, ob163 P, ob164 P, ob165 P, ob166 P, ob167 P, ob168 P, ob169 P, ob170 P, ob171 P, ob172 P, ob173 P, ob174 P, ob175 P, ob176 P, ob177 P, ob178 P, ob179 P, ob180 P, ob181 P, ob182 P, ob183 P, ob184 P, ob185 P, ob186 P, ob187 P, ob188 P, ob189 P, ob190 P, ob191 P, ob192 P, ob193 P, ob194 P, ob195 P, ob196 P, ob197 P, ob198 P, ob199 P, ob200 P, ob201 P, ob202 P, ob203 P, ob204 P, ob205 P, ob206 P, ob207 P, ob208 P, ob209 P, ob210 P, ob211 P, ob212 P, ob213 P, ob214 P, ob215 P, ob216 P, ob217 P, ob218 P, ob219 P, ob220 P, ob221 P, ob222 P, ob223 P, ob224 P, ob225 P, ob226 P, ob227 P, ob228 P, ob229 P, ob230 P, ob231 P, ob232 P, ob233 P, ob234 P, ob235 P, ob236 P, ob237 P, ob238 P, ob239 P, ob240 P, ob241 P, ob242 P, ob243 P, ob244 P, ob245 P, ob246 P, ob247 P, ob248 P, ob249 P, ob250 P, ob251 P, ob252 P, ob253 P, ob254 P, ob255 P, ob256 P, ob257 P, ob258 P, ob344 P, ob345 P, ob346 P, ob347 P, ob348 P, ob349 P, ob350 P, ob351 P, ob352 P, ob353 P, ob354 P, ob355 P, ob356 P, ob357 P, ob358 P, ob359 P, ob360 P, ob361 P, ob362 P, ob363 P, ob364 P, ob365 P, ob366 P, ob367 P, ob368 P, ob369 P, ob370 P, ob371 P, ob372 P, ob373 P, ob374 P, ob375 P, ob376 P, ob377 P, ob378 P, ob379 P, ob380 P, ob381 P, ob382 P, ob383 P, ob384 P, ob385 P, ob386 P, ob387 P, ob388 P, ob389 P, ob390 P, ob391 P, ob392 P, ob393 P, ob394 P, ob395 P, ob396 P, ob397 P, ob398 P, ob399 P, ob400 P, ob401 P, ob402 P, ob403 P, ob404 P, ob405 P, ob406 P, ob407 P] } }
noncomputable def env2 : Env := { scope := Challenge.rw_rr0082_02.row.toRowW.1.main.scope, locals := mainNs, globals := mainNs, cells := [], code := Value.ref 13, frame := some 14 }
noncomputable abbrev PRG : Program := PySem.Challenge.rw_rr0082_02.row.prog
noncomputable abbrev BDY : List Stmt := behindTheImports PRG
noncomputable abbrev COD : Code := Code.body BDY env2
set_option maxRecDepth 100000 in
set_option maxHeartbeats 0 in
theorem hd_pre (w : World) (os : OsState) : topGo treeTable PRG w 11 (some (Value.ref 6)) 12 ⟨boot_heap w.params, #[], boot_drawn, boot_toks, os⟩ (topStub PRG) = some ((Shared.mk (hp7 w.params) #[] {} 187 os), ⟨denote treeTable COD, COD, { line := 0, col := 0, endLine := 0, endCol := 0 }, [topFrame { line := 0, col := 0, endLine := 0, endCol := 0 }]⟩) := by kernel_rfl
set_option maxRecDepth 100000 in
set_option maxHeartbeats 0 in
theorem hd_block (w : World) (os : OsState) : segRun treeTable PRG w 11 (some (Value.ref 6)) 1 1 (Shared.mk (hp7 w.params) #[] {} 187 os) (blockOf BDY env2 COD { line := 0, col := 0, endLine := 0, endCol := 0 } [topFrame { line := 0, col := 0, endLine := 0, endCol := 0 }]) = some (.next, (SharedT.mk (tr8 w.params) 15 {} #[] {} 187 os).abs, COD, { line := 0, col := 0, endLine := 0, endCol := 0 }) := by kernel_rfl
noncomputable abbrev STS0 : List Stmt := (BDY.drop 0).take 6
set_option maxRecDepth 100000 in
set_option maxHeartbeats 0 in
theorem hd_run0 (w : World) (os : OsState) : segRunT treeTable PRG w 11 (some (Value.ref 6)) 1 823 (SharedT.mk (tr8 w.params) 15 {} #[] {} 187 os) (piecesOf STS0 env2 COD { line := 0, col := 0, endLine := 0, endCol := 0 } [topFrame { line := 0, col := 0, endLine := 0, endCol := 0 }]) = some (.next, (SharedT.mk (tr87 w.params) 84 {} #[] {} 282 os), COD, { line := 21, col := 0, endLine := 21, endCol := 8 }) := by kernel_rfl
noncomputable abbrev STS1 : List Stmt := (BDY.drop 6).take 1
set_option maxRecDepth 100000 in
set_option maxHeartbeats 0 in
theorem hd_run1 (w : World) (os : OsState) : segRunT treeTable PRG w 11 (some (Value.ref 6)) 1 939 (SharedT.mk (tr87 w.params) 84 {} #[] {} 282 os) (piecesOf STS1 env2 COD { line := 21, col := 0, endLine := 21, endCol := 8 } [topFrame { line := 0, col := 0, endLine := 0, endCol := 0 }]) = some (.next, (SharedT.mk (tr258 w.params) 253 {} #[] {} 505 os), COD, { line := 22, col := 0, endLine := 154, endCol := 32 }) := by kernel_rfl
noncomputable abbrev STS2 : List Stmt := (BDY.drop 7).take 13
set_option maxRecDepth 100000 in
set_option maxHeartbeats 0 in
theorem hd_run2 (w : World) (os : OsState) : segRunT treeTable PRG w 11 (some (Value.ref 6)) 1 329 (SharedT.mk (tr258 w.params) 253 {} #[] {} 505 os) (piecesOf STS2 env2 COD { line := 22, col := 0, endLine := 154, endCol := 32 } [topFrame { line := 0, col := 0, endLine := 0, endCol := 0 }]) = some (.next, (SharedT.mk (tr407 w.params) 317 {} #[] {} 589 os), COD, { line := 233, col := 0, endLine := 250, endCol := 15 }) := by kernel_rfl
set_option maxRecDepth 100000 in
set_option maxHeartbeats 0 in
theorem hd_fin (w : World) (os : OsState) : topRun treeTable PRG w 11 (some (Value.ref 6)) 2 (SharedT.mk (tr407 w.params) 317 {} #[] {} 589 os).abs ⟨doneF .next, COD, { line := 233, col := 0, endLine := 250, endCol := 15 }, [topFrame { line := 0, col := 0, endLine := 0, endCol := 0 }]⟩ = some (Shared.mk (hp408 w.params) #[] {} 589 os) := by kernel_rfl
theorem hd_body : BDY = (STS0 ++ (STS1 ++ (STS2 ++ []))) := by rfl
set_option maxRecDepth 100000 in
set_option maxHeartbeats 0 in
theorem hd_run (w : World) (os : OsState) : topRun treeTable PRG w 11 (some (Value.ref 6)) (12 + (1 + (823 + (939 + (329 + 2))))) ⟨boot_heap w.params, #[], boot_drawn, boot_toks, os⟩ (topStub PRG) = some (Shared.mk (hp408 w.params) #[] {} 589 os) := by
  refine go_top (hd_pre w os) (piece_block (hd_block w os) ?_)
  rw [hd_body]
  exact piece_app (segRun_of (hd_run0 w os)) (piece_app (segRun_of (hd_run1 w os)) (piece_app (segRun_of (hd_run2 w os)) (hd_fin w os)))
set_option maxRecDepth 100000 in
set_option maxHeartbeats 0 in
theorem hd_size (w : World) : ((boot_heap w.params).isNs mainGlobals && (#[] : Array GenState).size == 0, (boot_heap w.params).objs.size, (boot_heap w.params).nsMap mainGlobals "__annotations__") = (true, 11, (some (Value.ref 6))) := by kernel_rfl
set_option maxRecDepth 100000 in
set_option maxHeartbeats 0 in
theorem hd_kept (w : World) (os : OsState) : (staticsOk (importedModules PRG.main.body) (boot_heap w.params) (hp408 w.params) && namesBound PRG (hp408 w.params) && gensDone (Shared.mk (hp408 w.params) #[] {} 589 os) && laidKept (boot_heap w.params) (hp408 w.params)) = true := by kernel_rfl
set_option maxRecDepth 100000 in
set_option maxHeartbeats 0 in
theorem hd_seen (w : World) (os : OsState) : openSeen vw [] (importedModules PRG.main.body) XX true (Shared.mk (hp408 w.params) #[] {} 589 os) = openGood vw [] := by kernel_rfl
set_option maxRecDepth 100000 in
set_option maxHeartbeats 0 in
theorem hd_val (w : World) (os : OsState) : HH.obs (Shared.mk (hp408 w.params) #[] {} 589 os) = HH.val w := by kernel_rfl
theorem hlOnce : LeftO PRG vw [] XX HH.obs HH.val 4302 := LeftO.of_pieces (H₁ := hp408) (boot_open (by rfl) (by decide) (fun _ => rfl)) hd_size hd_run (by decide) (fun w => funext fun os => Prod.ext (hd_kept w os) (Prod.ext (hd_seen w os) (hd_val w os)))
set_option maxRecDepth 100000 in
set_option maxHeartbeats 0 in
theorem wellOnce : PySem.Challenge.rw_rr0082_02.wellSaid = true := by kernel_rfl
end Mine
namespace Mine
inductive V where
  | none
  | bool (b : Bool)
  | int (i : Int)
  | str (x : Str)
  | ref (a : Addr)
  | tup (vs : List V)
  | glob (v : Value)
inductive AObj where
  | list (vs : List V)
  | sdict (ep : Nat) (es : List (Str × V))
  | tdict (ks : List (List Str))
  | inst (C dx : Addr)
  | attrs (es : List (Str × V))
  | cell (v : Option V)
  | range (a b : Int)
abbrev tupOf (xs : Array Value) (n : Nat) : Obj := { cls := .type "tuple", dict := none, data := .seq xs n, slots := #[] }
mutual
inductive Rep (h : Heap) : Value → V → Prop
  | none : Rep h .none .none
  | bool (b) : Rep h (.bool b) (.bool b)
  | int (i t) : Rep h (.int i t) (.int i)
  | str (x t) : Rep h (.str x t) (.str x)
  | ref (a) : Rep h (.ref a) (.ref a)
  | tup {a n vs ds} : h.get? a = some (tupOf vs n) → RepAll h vs.toList ds → Rep h (.ref a) (.tup ds)
  | glob (v) : handedIn v = true → Rep h v (.glob v)
inductive RepAll (h : Heap) : List Value → List V → Prop
  | nil : RepAll h [] []
  | cons {v vs d ds} : Rep h v d → RepAll h vs ds → RepAll h (v :: vs) (d :: ds)
end
def TupK (h h' : Heap) : Prop := ∀ a xs n, h.get? a = some (tupOf xs n) → h'.get? a = some (tupOf xs n)
theorem TupK.refl (h : Heap) : TupK h h := fun _ _ _ e => e
theorem TupK.trans {a b c : Heap} (x : TupK a b) (y : TupK b c) : TupK a c := fun p xs n e => y p xs n (x p xs n e)
theorem TupK.of_keeps {h h' : Heap} (k : ∀ b o, h.get? b = some o → h'.get? b = some o) : TupK h h' := fun a _ _ e => k a _ e
mutual
theorem Rep.mono {h h' : Heap} (k : TupK h h') : ∀ {v d}, Rep h v d → Rep h' v d
  | _, _, .none => .none
  | _, _, .bool b => .bool b
  | _, _, .int i t => .int i t
  | _, _, .str x t => .str x t
  | _, _, .ref a => .ref a
  | _, _, .tup e r => .tup (k _ _ _ e) (RepAll.mono k r)
  | _, _, .glob v e => .glob v e
theorem RepAll.mono {h h' : Heap} (k : TupK h h') : ∀ {vs ds}, RepAll h vs ds → RepAll h' vs ds
  | _, _, .nil => .nil
  | _, _, .cons a r => .cons (Rep.mono k a) (RepAll.mono k r)
end
def V.Inv (h : Heap) : V → (Value → Prop) → Prop
  | .none, C => C .none
  | .bool b, C => C (.bool b)
  | .int i, C => ∀ t, C (.int i t)
  | .str x, C => ∀ t, C (.str x t)
  | .ref a, C => C (.ref a)
  | .tup ds, C => ∀ a n vs, h.get? a = some (tupOf vs n) → RepAll h vs.toList ds → C (.ref a)
  | .glob w, C => handedIn w = true → C w
@[elab_as_elim] theorem Rep.elim {h : Heap} {v d} {C : Value → Prop} (r : Rep h v d) (k : d.Inv h C) : C v := by
  cases r
  · exact k
  · exact k
  · exact k _
  · exact k _
  · exact k
  · rename_i e r; exact k _ _ _ e r
  · rename_i e; exact k e
theorem Rep.handed {h : Heap} {v d} (r : Rep h v d) : handedIn v = true := by
  cases r <;> first | rfl | assumption
theorem RepAll.length {h : Heap} : ∀ {vs ds}, RepAll h vs ds → vs.length = ds.length
  | _, _, .nil => rfl
  | _, _, .cons _ r => by simp [RepAll.length r]
theorem RepAll.append {h : Heap} {ws es} (y : RepAll h ws es) : ∀ {vs ds}, RepAll h vs ds → RepAll h (vs ++ ws) (ds ++ es)
  | _, _, .nil => y
  | _, _, .cons a r => .cons a (RepAll.append y r)
theorem RepAll.get {h : Heap} : ∀ {vs : List Value} {ds : List V} (_ : RepAll h vs ds) (i : Nat) {d : V}, ds[i]? = some d → ∃ v, vs[i]? = some v ∧ Rep h v d
  | _, _, .nil, i, d, e => by simp at e
  | _, _, .cons a r, 0, d, e => by simp at e; subst e; exact ⟨_, rfl, a⟩
  | _, _, .cons a r, i + 1, d, e => RepAll.get r i (by simpa using e)
theorem RepAll.get' {h : Heap} : ∀ {vs : List Value} {ds : List V} (_ : RepAll h vs ds) (i : Nat) {v : Value}, vs[i]? = some v → ∃ d, ds[i]? = some d ∧ Rep h v d
  | _, _, .nil, i, d, e => by simp at e
  | _, _, .cons a r, 0, d, e => by simp at e; subst e; exact ⟨_, rfl, a⟩
  | _, _, .cons a r, i + 1, d, e => RepAll.get' r i (by simpa using e)
theorem RepAll.take {h : Heap} : ∀ {vs : List Value} {ds : List V} (_ : RepAll h vs ds) (i : Nat), RepAll h (vs.take i) (ds.take i)
  | _, _, .nil, i => by simp; exact .nil
  | _, _, .cons a r, 0 => by simp; exact .nil
  | _, _, .cons a r, i + 1 => by simpa using .cons a (RepAll.take r i)
theorem RepAll.snoc {h : Heap} {v d vs ds} (y : RepAll h vs ds) (x : Rep h v d) : RepAll h (vs ++ [v]) (ds ++ [d]) := RepAll.append (.cons x .nil) y
theorem RepAll.reverse {h : Heap} : ∀ {vs : List Value} {ds : List V} (_ : RepAll h vs ds), RepAll h vs.reverse ds.reverse
  | _, _, .nil => .nil
  | _, _, .cons a r => by simpa using (RepAll.reverse r).snoc a
abbrev St := Addr → Option AObj
def St.set (σ : St) (a : Addr) (o : AObj) : St := fun b => if b = a then some o else σ b
@[simp] theorem St.set_same (σ : St) (a : Addr) (o : AObj) : σ.set a o a = some o := by simp [St.set]
theorem St.set_ne (σ : St) {a b : Addr} (o : AObj) (h : b ≠ a) : σ.set a o b = σ b := by simp [St.set, h]
theorem St.keep {σ : St} {a b : Addr} {o : AObj} {x : Option AObj} (h : b ≠ a) (e : σ b = x) : σ.set a o b = x := (St.set_ne σ o h).trans e
theorem len_ok {n : Nat} (h : Nat.ble n 1000 = true) : n ≤ sizeLine := Nat.le_trans (Nat.le_of_ble_eq_true h) (by rw [sizeLine_eq]; decide)
abbrev Loc := List (Str × V)
def Loc.put : Loc → Str → V → Loc
  | [], x, d => [(x, d)]
  | (y, e) :: r, x, d => if x = y then (y, d) :: r else (y, e) :: Loc.put r x d
def Loc.get : Loc → Str → Option V
  | [], _ => Option.none
  | (y, e) :: r, x => if x = y then some e else Loc.get r x
theorem Loc.get_put (ρ : Loc) (x y : Str) (d : V) : (ρ.put x d).get y = if y = x then some d else ρ.get y := by
  induction ρ with
  | nil => simp [Loc.put, Loc.get]
  | cons p r ih =>
    obtain ⟨z, e⟩ := p
    unfold Loc.put
    by_cases h : x = z
    · subst h
      simp only [if_true, Loc.get]
      by_cases h2 : y = x <;> simp [h2]
    · simp only [if_neg h, Loc.get, ih]
      by_cases h2 : y = z
      · subst h2; simp [Ne.symm h]
      · simp [h2]
section
variable (prog : Program) (w : World)
structure AttrRep (h : Heap) (e : DictEntry) (p : Str × V) : Prop where
  key : ∃ t, e.key = .str p.1 t
  hash : e.hash = PyData.keyHash w.params p.1
  val : Rep h e.val p.2
inductive AttrsRep (h : Heap) : List DictEntry → List (Str × V) → Prop
  | nil : AttrsRep h [] []
  | cons {e p es ps} : AttrRep w h e p → AttrsRep h es ps → AttrsRep h (e :: es) (p :: ps)
def RepObj (h : Heap) (a : Addr) : AObj → Prop
  | .list ds => ∃ vs n, h.get? a = some (listOf vs n) ∧ RepAll h vs.toList ds
  | .sdict ep es => ∃ kvs, h.DictAt (strKind prog w) a kvs ep ∧ kvs.map (·.1) = es.map (·.1) ∧ RepAll h (kvs.map (·.2)) (es.map (·.2))
  | .tdict ks => ∃ xs, h.DictOfH (tupleKind (strKind prog w)) a xs ∧ xs.map (·.1) = ks ∧ ∀ x ∈ xs, ∃ vs n, h.get? x.2.1 = some (tupOf vs n)
  | .inst C dx => h.get? a = some (instObj C dx)
  | .attrs es => ∃ ds n, h.get? a = some (dictOf ds n) ∧ AttrsRep w h ds es
  | .range x y => ∃ t u v, h.get? a = some { cls := .type "range", dict := none, data := .fields #[.int x t, .int y u, .int 1 v], slots := #[] }
  | .cell d => ∃ o v, h.get? a = some o ∧ o.data = .cell v ∧ (match d with | some d => ∃ u, v = some u ∧ Rep h u d | Option.none => True)
end
end Mine
namespace Mine
structure Amb where
  prog : Program
  w : World
  h₀ : Heap
  K : Frag
  X : K.In h₀
  mg : Str → Option Value
  mb : Str → Option Value
  ng : h₀.Ns mainGlobals mg
  nb : h₀.Ns builtinsNs mb
  lim : h₀.NoLimit
structure FrameRep (h : Heap) (L : Addr) (ρ : Loc) : Prop where
  ns : ∃ m, h.Ns L m ∧ ∀ x d, ρ.get x = some d → ∃ v, m x = some v ∧ Rep h v d
structure S (G : Amb) (L : Addr) (ρ : Loc) (σ : St) (h : Heap) : Prop where
  base : G.h₀.StaysIn h
  obj : ∀ a o, σ a = some o → RepObj G.prog G.w h a o
  new : ∀ a, σ a ≠ none → G.h₀.objs.size ≤ a
  frame : FrameRep h L ρ
  off : σ L = none
  above : G.h₀.objs.size ≤ L
structure Ext (σ : St) (h h' : Heap) (σ' : St) : Prop where
  tup : TupK h h'
  keep : ∀ a o, σ a = none → h.get? a = some o → h'.get? a = some o
  dom : ∀ a, σ a = none → σ' a ≠ none → h.get? a = none
  alive : ∀ a o, h.get? a = some o → ∃ o', h'.get? a = some o'
theorem Ext.refl (σ : St) (h : Heap) : Ext σ h h σ := ⟨TupK.refl h, fun _ _ _ x => x, fun _ e n => absurd e n, fun _ o e => ⟨o, e⟩⟩
theorem Ext.ns {σ σ' : St} {h h' : Heap} (x : Ext σ h h' σ') (a : Addr) (m : Str → Option Value) (e : σ a = none) (n : h.Ns a m) : h'.Ns a m := n.at' fun o => x.keep a o e
theorem Ext.offO {σ σ' : St} {h h' : Heap} (x : Ext σ h h' σ') {a : Addr} {o : Obj} (e : σ a = none) (ho : h.get? a = some o) : σ' a = none := by
  cases q : σ' a with
  | none => rfl
  | some o =>
    have := x.dom a e (by rw [q]; simp)
    rw [this] at ho; cases ho
theorem Ext.off {σ σ' : St} {h h' : Heap} (x : Ext σ h h' σ') {a : Addr} {m : Str → Option Value} (e : σ a = none) (n : h.Ns a m) : σ' a = none :=
  let ⟨_, _, _, ho, _⟩ := n; x.offO e ho
theorem Ext.trans {σ σ₁ σ₂ : St} {h h₁ h₂ : Heap} (x : Ext σ h h₁ σ₁) (y : Ext σ₁ h₁ h₂ σ₂) : Ext σ h h₂ σ₂ where
  tup := x.tup.trans y.tup
  keep := fun a o e n => y.keep a o (x.offO e n) (x.keep a o e n)
  dom := fun a e n => by
    by_cases q : σ₁ a = none
    · have := y.dom a q n
      cases r : h.get? a with
      | none => rfl
      | some o => obtain ⟨o', e'⟩ := x.alive a o r; rw [this] at e'; cases e'
    · exact x.dom a e q
  alive := fun a o e => let ⟨o₁, e₁⟩ := x.alive a o e; y.alive a o₁ e₁
theorem FrameRep.lt {h : Heap} {L : Addr} {ρ : Loc} (x : FrameRep h L ρ) : L < h.objs.size := let ⟨_, n, _⟩ := x.ns; n.lt
theorem FrameRep.ext {σ σ' : St} {h h' : Heap} {L : Addr} {ρ : Loc} (x : FrameRep h L ρ) (e : σ L = none) (y : Ext σ h h' σ') : FrameRep h' L ρ :=
  let ⟨m, n, r⟩ := x.ns
  ⟨m, y.ns L m e n, fun z d q => let ⟨v, a, b⟩ := r z d q; ⟨v, a, b.mono y.tup⟩⟩
theorem S.big {G : Amb} {L ρ σ h} (s : S G L ρ σ h) : G.h₀.objs.size < h.objs.size := Nat.lt_of_le_of_lt s.above s.frame.lt
theorem S.fresh {G : Amb} {L ρ σ h} (s : S G L ρ σ h) {a : Addr} (e : σ a ≠ none) : G.h₀.get? a = none := by
  cases q : G.h₀.get? a with
  | none => rfl
  | some o => exact absurd (Heap.lt_size q) (Nat.not_lt.mpr (s.new a e))
theorem S.notMod {G : Amb} {L ρ σ h} (s : S G L ρ σ h) {a : Addr} (e : σ a ≠ none) : (a == sysModules) = false :=
  beq_eq_false_iff_ne.mpr (Nat.ne_of_gt (Nat.lt_of_lt_of_le (modules_low G.lim) (s.new a e)))
theorem S.In {G : Amb} {L ρ σ h} (s : S G L ρ σ h) : G.K.In h := G.X.keeps s.base
theorem S.step {G : Amb} {L ρ σ σ' h h'} (s : S G L ρ σ h) (x : Ext σ h h' σ') (base : G.h₀.StaysIn h') (obj : ∀ a o, σ' a = some o → RepObj G.prog G.w h' a o)
    (new : ∀ a, σ' a ≠ none → G.h₀.objs.size ≤ a) : S G L ρ σ' h' := by
  obtain ⟨m, n, r⟩ := s.frame.ns
  exact ⟨base, obj, new, s.frame.ext s.off x, x.off s.off n, s.above⟩
theorem AttrRep.mono {w : World} {h h' : Heap} (k : TupK h h') {e p} (x : AttrRep w h e p) : AttrRep w h' e p := ⟨x.key, x.hash, x.val.mono k⟩
theorem AttrsRep.mono {w : World} {h h' : Heap} (k : TupK h h') {es ps} (x : AttrsRep w h es ps) : AttrsRep w h' es ps := by
  induction x with
  | nil => exact .nil
  | cons a _ ih => exact .cons (a.mono k) ih
theorem isTupleKey_mono {prog : Program} {w : World} {h h' : Heap} (k : TupK h h') {ks : List Str} {a : Addr} {vs n} (e : h.get? a = some (tupOf vs n)) (x : (tupleKind (strKind prog w)).is h ks a) : (tupleKind (strKind prog w)).is h' ks a := by
  obtain ⟨o, items, m, ho, hc, hd, hi⟩ := x
  exact ⟨o, items, m, by rw [ho] at e; cases e; exact k _ _ _ ho, hc, hd, hi⟩
theorem RepObj.mono {prog : Program} {w : World} {h h' : Heap} {a : Addr} {o : AObj} (k : TupK h h') (e : ∀ ob, h.get? a = some ob → h'.get? a = some ob) (x : RepObj prog w h a o) : RepObj prog w h' a o := by
  cases o with
  | list ds => obtain ⟨vs, n, ho, r⟩ := x; exact ⟨vs, n, e _ ho, r.mono k⟩
  | sdict ep es =>
    obtain ⟨kvs, ⟨o, es', ho, r⟩, hk, hv⟩ := x
    exact ⟨kvs, ⟨o, es', e _ ho, r⟩, hk, hv.mono k⟩
  | tdict ks =>
    obtain ⟨xs, ⟨o, es, ep, ho, hc, hd, he, hi, hn⟩, hk, ht⟩ := x
    exact ⟨xs, ⟨o, es, ep, e _ ho, hc, hd, he, fun y hy => let ⟨_, _, q⟩ := ht y hy; isTupleKey_mono k q (hi y hy), hn⟩, hk, fun y hy => let ⟨vs, n, q⟩ := ht y hy; ⟨vs, n, k _ _ _ q⟩⟩
  | inst C dx => exact e _ x
  | attrs es => obtain ⟨ds, n, ho, r⟩ := x; exact ⟨ds, n, e _ ho, r.mono k⟩
  | range y z => obtain ⟨t, u, v, ho⟩ := x; exact ⟨t, u, v, e _ ho⟩
  | cell d =>
    obtain ⟨o, v, ho, hd, r⟩ := x
    refine ⟨o, v, e _ ho, hd, ?_⟩
    cases d with
    | none => trivial
    | some d => obtain ⟨u, hu, r⟩ := r; exact ⟨u, hu, r.mono k⟩
def Tuple? (o : Obj) : Prop := o.cls = .type "tuple" ∧ ∃ xs n, o.data = .seq xs n
theorem RepObj.alive {prog : Program} {w : World} {h : Heap} {a : Addr} {o : AObj} (x : RepObj prog w h a o) : ∃ ob, h.get? a = some ob ∧ ¬ Tuple? ob := by
  cases o with
  | list ds => obtain ⟨vs, n, ho, r⟩ := x; exact ⟨_, ho, fun t => by have := t.1; simp at this⟩
  | sdict ep es => obtain ⟨kvs, ⟨o, es', ho, hc, hd, r⟩, hk, hv⟩ := x; exact ⟨_, ho, fun ⟨_, xs, n, t⟩ => by rw [hd] at t; cases t⟩
  | tdict ks => obtain ⟨xs, ⟨o, es, ep, ho, hc, hd, r⟩, hk, _⟩ := x; exact ⟨_, ho, fun ⟨_, xs, n, t⟩ => by rw [hd] at t; cases t⟩
  | inst C dx => exact ⟨_, x, fun ⟨_, xs, n, t⟩ => by cases t⟩
  | attrs es => obtain ⟨ds, n, ho, r⟩ := x; exact ⟨_, ho, fun ⟨_, xs, n, t⟩ => by cases t⟩
  | range y z => obtain ⟨t, u, v, ho⟩ := x; exact ⟨_, ho, fun ⟨_, xs, n, t⟩ => by cases t⟩
  | cell d => obtain ⟨o, v, ho, hd, r⟩ := x; exact ⟨_, ho, fun ⟨_, xs, n, t⟩ => by rw [hd] at t; cases t⟩
theorem Ext.keeps {σ : St} {h h' : Heap} (k : ∀ b o, h.get? b = some o → h'.get? b = some o) : Ext σ h h' σ :=
  ⟨.of_keeps k, fun a o _ n => k a o n, fun _ e n => absurd e n, fun a o e => ⟨o, k a o e⟩⟩
theorem S.keeps {G : Amb} {L ρ σ h h'} (s : S G L ρ σ h) (k : ∀ b o, h.get? b = some o → h'.get? b = some o) : S G L ρ σ h' :=
  s.step (.keeps k) (fun b o e => k b o (s.base b o e)) (fun a o e => (s.obj a o e).mono (.of_keeps k) (k a)) s.new
theorem tupK_sameBut {h h' : Heap} {a : Addr} {ob : Obj} (hs : Heap.SameBut a h h') (ha : h.get? a = some ob) (hc : ¬ Tuple? ob) : TupK h h' := fun b _ _ e => by
  refine (hs.2 b fun q => ?_).trans e
  subst q; rw [ha] at e; cases e; exact hc ⟨rfl, _, _, rfl⟩
theorem Ext.upd {prog : Program} {w : World} {σ : St} {h h' : Heap} {a : Addr} {o o' : AObj} (e : σ a = some o) (x : RepObj prog w h a o) (hs : Heap.SameBut a h h') (x' : RepObj prog w h' a o') : Ext σ h h' (σ.set a o') := by
  obtain ⟨ob, ho, hc⟩ := x.alive
  refine ⟨tupK_sameBut hs ho hc, fun b o2 q n => (hs.2 b (fun z => by rw [z, e] at q; cases q)).trans n, fun b q n => ?_, fun b ob' eb => ?_⟩
  · by_cases z : b = a
    · rw [z, e] at q; cases q
    · rw [St.set_ne _ _ z] at n; exact absurd q n
  · by_cases z : b = a
    · subst z; obtain ⟨o2, h2, _⟩ := x'.alive; exact ⟨o2, h2⟩
    · exact ⟨ob', (hs.2 b z).trans eb⟩
theorem S.upd {G : Amb} {L ρ σ h h'} {a : Addr} {o o' : AObj} (s : S G L ρ σ h) (e : σ a = some o) (hs : Heap.SameBut a h h') (x' : RepObj G.prog G.w h' a o') : S G L ρ (σ.set a o') h' := by
  have x := s.obj a o e
  have E := Ext.upd e x hs x'
  refine s.step E (fun b ob eb => (hs.2 b fun z => ?_).trans (s.base b ob eb)) (fun b ob eb => ?_) (fun b n => ?_)
  · have := s.fresh (a := a) (by rw [e]; simp); rw [← z, eb] at this; cases this
  · by_cases z : b = a
    · subst z; rw [St.set_same] at eb; cases eb; exact x'
    · rw [St.set_ne _ _ z] at eb
      exact (s.obj b ob eb).mono E.tup fun o2 h2 => (hs.2 b z).trans h2
  · by_cases z : b = a
    · subst z; exact s.new b (by rw [e]; simp)
    · rw [St.set_ne _ _ z] at n; exact s.new b n
theorem none_at_size (h : Heap) : h.get? h.objs.size = none := by
  cases q : h.get? h.objs.size with
  | none => rfl
  | some o => exact absurd (Heap.lt_size q) (Nat.lt_irrefl _)
theorem S.unused {G : Amb} {L ρ σ h} (s : S G L ρ σ h) {a : Addr} (e : h.get? a = none) : σ a = none := by
  cases q : σ a with
  | none => rfl
  | some o => obtain ⟨ob, ho, _⟩ := (s.obj a o q).alive; rw [e] at ho; cases ho
theorem Ext.new {σ : St} {h h' : Heap} {a : Addr} {o : AObj} (e : h.get? a = none) (k : ∀ b o, h.get? b = some o → h'.get? b = some o) : Ext σ h h' (σ.set a o) :=
  ⟨.of_keeps k, fun a o _ n => k a o n, fun b q n => by
    by_cases z : b = a
    · rw [z]; exact e
    · rw [St.set_ne _ _ z] at n; exact absurd q n, fun a o e => ⟨o, k a o e⟩⟩
theorem S.newAt {G : Amb} {L ρ σ h h'} {a : Addr} {o : AObj} (s : S G L ρ σ h) (e : h.get? a = none) (ha : G.h₀.objs.size ≤ a) (k : ∀ b o, h.get? b = some o → h'.get? b = some o)
    (x' : RepObj G.prog G.w h' a o) : S G L ρ (σ.set a o) h' := by
  refine s.step (.new e k) (fun b o q => k b o (s.base b o q)) (fun b ob eb => ?_) (fun b n => ?_)
  · by_cases z : b = a
    · subst z; rw [St.set_same] at eb; cases eb; exact x'
    · rw [St.set_ne _ _ z] at eb
      exact (s.obj b ob eb).mono (.of_keeps k) (k b)
  · by_cases z : b = a
    · rw [z]; exact ha
    · rw [St.set_ne _ _ z] at n; exact s.new b n
def Post (G : Amb) (L : Addr) (ρ : Loc) (σ : St) (s : Shared) (k : V → St → Prop) (v : Value) (s' : Shared) : Prop :=
  ∃ h' tk d σ', s' = { s with heap := h', toks := tk } ∧ Ext σ s.heap h' σ' ∧ S G L ρ σ' h' ∧ Rep h' v d ∧ k d σ'
theorem Post.mono {G : Amb} {L ρ σ s} {k k' : V → St → Prop} (f : ∀ d σ', k d σ' → k' d σ') {v s'} (x : Post G L ρ σ s k v s') : Post G L ρ σ s k' v s' :=
  let ⟨h', tk, d, σ', a, b, c, e, r⟩ := x; ⟨h', tk, d, σ', a, b, c, e, f _ _ r⟩
@[elab_as_elim] theorem Post.elim {G : Amb} {L ρ σ s} {k : V → St → Prop} {v s'} {C : Shared → Prop} (x : Post G L ρ σ s k v s') (h : ∀ h' tk d σ', Ext σ s.heap h' σ' → S G L ρ σ' h' → Rep h' v d → k d σ' → C { s with heap := h', toks := tk }) : C s' :=
  let ⟨h', tk, d, σ', a, b, c, e, r⟩ := x; a ▸ h h' tk d σ' b c e r
theorem Post.here {G : Amb} {L ρ σ} {s : Shared} {k : V → St → Prop} {v : Value} {d : V} (x : S G L ρ σ s.heap) (r : Rep s.heap v d) (h : k d σ) : Post G L ρ σ s k v s := ⟨s.heap, s.toks, d, σ, rfl, .refl .., x, r, h⟩
theorem Post.tok {G : Amb} {L ρ σ} {s : Shared} {n : Nat} {k : V → St → Prop} {v : Value} {d : V} (x : S G L ρ σ s.heap) (r : Rep s.heap v d) (h : k d σ) : Post G L ρ σ s k v { s with toks := n } := ⟨s.heap, n, d, σ, rfl, .refl .., x, r, h⟩
theorem Post.trans {G : Amb} {L ρ σ σ₁} {s : Shared} {h₁ tk} {k : V → St → Prop} {v s'} (x : Ext σ s.heap h₁ σ₁) (y : Post G L ρ σ₁ { s with heap := h₁, toks := tk } k v s') : Post G L ρ σ s k v s' :=
  let ⟨h', tk', d, σ', a, b, c, e, r⟩ := y; ⟨h', tk', d, σ', a, x.trans b, c, e, r⟩
def Op (G : Amb) (A : Around) (L : Addr) (ρ : Loc) (σ : St) (t : List Value → Sem Value) (ds : List V) (k : V → St → Prop) (X : Value → Shared → Prop) : Prop :=
  ∀ s vs, S G L ρ σ s.heap → RepAll s.heap vs ds → wpAny (model G.prog G.w) A (t vs) (Post G L ρ σ s k) X s
def EV (G : Amb) (A : Around) (env : Env) (ρ : Loc) (σ : St) (e : Expr) (k : V → St → Prop) (X : Value → Shared → Prop) : Prop :=
  ∀ s, S G env.locals ρ σ s.heap → wpAny (model G.prog G.w) A (eval e env) (Post G env.locals ρ σ s k) X s
def TV (G : Amb) (A : Around) (L : Addr) (ρ : Loc) (σ : St) (t : Sem Value) (k : V → St → Prop) (X : Value → Shared → Prop) : Prop :=
  ∀ s, S G L ρ σ s.heap → wpAny (model G.prog G.w) A t (Post G L ρ σ s k) X s
end Mine
namespace Mine
inductive AF where
  | next | cont | brk
  | ret (d : V)
def FlowRep (h : Heap) : Flow → AF → Prop
  | .next, .next => True
  | .cont, .cont => True
  | .brk, .brk => True
  | .ret v, .ret d => Rep h v d
  | _, _ => False
structure ExtS (L : Addr) (σ : St) (h h' : Heap) (σ' : St) : Prop where
  tup : TupK h h'
  keep : ∀ a o, a ≠ L → σ a = none → h.get? a = some o → h'.get? a = some o
  dom : ∀ a, σ a = none → σ' a ≠ none → h.get? a = none
  alive : ∀ a o, h.get? a = some o → ∃ o', h'.get? a = some o'
theorem Ext.toS {L : Addr} {σ σ' : St} {h h' : Heap} (x : Ext σ h h' σ') : ExtS L σ h h' σ' := ⟨x.tup, fun a m _ => x.keep a m, x.dom, x.alive⟩
theorem ExtS.refl (L : Addr) (σ : St) (h : Heap) : ExtS L σ h h σ := (Ext.refl σ h).toS
theorem ExtS.offO {L : Addr} {σ σ' : St} {h h' : Heap} (x : ExtS L σ h h' σ') {a : Addr} {o : Obj} (e : σ a = none) (ho : h.get? a = some o) : σ' a = none := by
  cases q : σ' a with
  | none => rfl
  | some o =>
    have := x.dom a e (by rw [q]; simp)
    rw [this] at ho; cases ho
theorem ExtS.trans {L : Addr} {σ σ₁ σ₂ : St} {h h₁ h₂ : Heap} (x : ExtS L σ h h₁ σ₁) (y : ExtS L σ₁ h₁ h₂ σ₂) : ExtS L σ h h₂ σ₂ where
  tup := x.tup.trans y.tup
  keep := fun a o z e n => y.keep a o z (x.offO e n) (x.keep a o z e n)
  dom := fun a e n => by
    by_cases q : σ₁ a = none
    · have := y.dom a q n
      cases r : h.get? a with
      | none => rfl
      | some o => obtain ⟨o', e'⟩ := x.alive a o r; rw [this] at e'; cases e'
    · exact x.dom a e q
  alive := fun a o e => let ⟨o₁, e₁⟩ := x.alive a o e; y.alive a o₁ e₁
def PostS (G : Amb) (L : Addr) (σ : St) (s : Shared) (k : AF → Loc → St → Prop) (f : Flow) (s' : Shared) : Prop :=
  ∃ h' tk φ ρ' σ', s' = { s with heap := h', toks := tk } ∧ ExtS L σ s.heap h' σ' ∧ S G L ρ' σ' h' ∧ FlowRep h' f φ ∧ k φ ρ' σ'
@[elab_as_elim] theorem PostS.elim {G : Amb} {L σ s} {k : AF → Loc → St → Prop} {f s'} {C : Shared → Prop} (x : PostS G L σ s k f s') (h : ∀ h' tk φ ρ' σ', ExtS L σ s.heap h' σ' → S G L ρ' σ' h' → FlowRep h' f φ → k φ ρ' σ' → C { s with heap := h', toks := tk }) : C s' :=
  let ⟨h', tk, φ, ρ', σ', a, b, c, e, r⟩ := x; a ▸ h h' tk φ ρ' σ' b c e r
theorem PostS.trans {G : Amb} {L σ σ₁} {s : Shared} {h₁ tk} {k : AF → Loc → St → Prop} {f s'} (x : ExtS L σ s.heap h₁ σ₁) (y : PostS G L σ₁ { s with heap := h₁, toks := tk } k f s') : PostS G L σ s k f s' :=
  let ⟨h', tk', φ, ρ', σ', a, b, c, e, r⟩ := y; ⟨h', tk', φ, ρ', σ', a, x.trans b, c, e, r⟩
theorem PostS.mono {G : Amb} {L σ s} {k k' : AF → Loc → St → Prop} (f : ∀ φ ρ' σ', k φ ρ' σ' → k' φ ρ' σ') {v s'} (x : PostS G L σ s k v s') : PostS G L σ s k' v s' :=
  let ⟨h', tk, φ, ρ', σ', a, b, c, e, r⟩ := x; ⟨h', tk, φ, ρ', σ', a, b, c, e, f _ _ _ r⟩
def SV (G : Amb) (A : Around) (env : Env) (ρ : Loc) (σ : St) (t : Sem Flow) (k : AF → Loc → St → Prop) (X : Value → Shared → Prop) : Prop :=
  ∀ s, S G env.locals ρ σ s.heap → wpAny (model G.prog G.w) A t (PostS G env.locals σ s k) X s
def UV (G : Amb) (A : Around) (env : Env) (ρ : Loc) (σ : St) (t : Sem Unit) (k : Loc → St → Prop) (X : Value → Shared → Prop) : Prop :=
  ∀ s, S G env.locals ρ σ s.heap → wpAny (model G.prog G.w) A t (fun _ s' => PostS G env.locals σ s (fun φ ρ' σ' => φ = .next ∧ k ρ' σ') .next s') X s
section
variable {G : Amb} {A : Around} {env : Env} {ρ : Loc} {σ : St} {X : Value → Shared → Prop} {k : AF → Loc → St → Prop}
theorem EV.mono {e : Expr} {k k' : V → St → Prop} (h : EV G A env ρ σ e k X) (f : ∀ d σ', k d σ' → k' d σ') : EV G A env ρ σ e k' X :=
  fun s x => wpAny_mono (h s x) (fun _ _ p => p.mono f) fun _ _ e => e
theorem SV.mono {t} {k k' : AF → Loc → St → Prop} (h : SV G A env ρ σ t k X) (f : ∀ φ ρ' σ', k φ ρ' σ' → k' φ ρ' σ') : SV G A env ρ σ t k' X :=
  fun s x => wpAny_mono (h s x) (fun _ _ p => p.mono f) fun _ _ e => e
theorem sv_nil (h : k .next ρ σ) : SV G A env ρ σ (execs [] env) k X :=
  fun s x => wpAny_execs_nil ⟨s.heap, s.toks, .next, ρ, σ, rfl, .refl .., x, trivial, h⟩
theorem sv_cons {st : Stmt} {rest : List Stmt} (h : SV G A env ρ σ (exec st env) (fun φ ρ' σ' => match φ with | .next => SV G A env ρ' σ' (execs rest env) k X | φ => k φ ρ' σ') X) :
    SV G A env ρ σ (execs (st :: rest) env) k X := fun s x => by
  refine wpAny_execs_cons (wpAny_mono (h s x) (fun f s' p => ?_) fun _ _ e => e)
  refine p.elim fun h' tk φ ρ' σ' E x' r hk => ?_
  cases f <;> cases φ <;> first | exact r.elim | skip
  · exact wpAny_mono (hk _ x') (fun _ _ q => PostS.trans E q) fun _ _ e => e
  · exact ⟨h', tk, .brk, ρ', σ', rfl, E, x', r, hk⟩
  · exact ⟨h', tk, .cont, ρ', σ', rfl, E, x', r, hk⟩
  · exact ⟨h', tk, .ret _, ρ', σ', rfl, E, x', r, hk⟩
theorem sv_Return {e : Expr} {pos : Pos} (h : EV G A env ρ σ e (fun d σ' => k (.ret d) ρ σ') X) : SV G A env ρ σ (exec (.Return (some e) pos) env) k X := fun s x => by
  refine wpAny_Return_some (wpAny_mono (h s x) (fun v s' p => ?_) fun _ _ e => e)
  refine p.elim fun h' tk d σ' E x' r hk => ?_
  exact ⟨h', tk, .ret d, ρ, σ', rfl, E.toS, x', r, hk⟩
def BV (G : Amb) (A : Around) (env : Env) (ρ : Loc) (σ : St) (t : Sem Bool) (k : Bool → St → Prop) (X : Value → Shared → Prop) : Prop :=
  ∀ s, S G env.locals ρ σ s.heap → wpAny (model G.prog G.w) A t (fun b s' => Post G env.locals ρ σ s (fun d σ' => d = .bool b ∧ k b σ') (.bool b) s') X s
theorem BV.mono {t} {k k' : Bool → St → Prop} (h : BV G A env ρ σ t k X) (f : ∀ b σ', k b σ' → k' b σ') : BV G A env ρ σ t k' X :=
  fun s x => wpAny_mono (h s x) (fun _ _ p => p.mono fun _ _ q => ⟨q.1, f _ _ q.2⟩) fun _ _ e => e
theorem sv_If {test : Expr} {body orelse : List Stmt} {pos : Pos}
    (h : BV G A env ρ σ (isTrue test env (eval test env)) (fun b σ' => if b = true then SV G A env ρ σ' (execs body env) k X else SV G A env ρ σ' (execs orelse env) k X) X) :
    SV G A env ρ σ (exec (.If test body orelse pos) env) k X := fun s x => by
  refine wpAny_If (wpAny_mono (h s x) (fun b s' p => ?_) fun _ _ e => e)
  refine p.elim fun h' tk d σ' E x' r q₉ => ?_; obtain ⟨rfl, hk⟩ := q₉
  cases b with
  | true => exact wpAny_mono (hk _ x') (fun _ _ q => PostS.trans E.toS q) fun _ _ e => e
  | false => exact wpAny_mono (hk _ x') (fun _ _ q => PostS.trans E.toS q) fun _ _ e => e
theorem sv_Expr {e : Expr} {pos : Pos} (h : EV G A env ρ σ e (fun d σ' => d = .none ∧ k .next ρ σ') X)
    (hi : interactive env = false := by rfl) (hs : swapsWith e none pos.line env = pure false := by rfl) : SV G A env ρ σ (exec (.Expr e pos) env) k X := fun s x => by
  refine wpAny_Expr (wpAny_mono (h s x) (fun v s' p => ?_) fun _ _ e => e) hi hs
  refine p.elim fun h' tk d σ' E x' r q₉ => ?_; obtain ⟨rfl, hk⟩ := q₉
  cases r
  exact ⟨h', tk, .next, ρ, σ', rfl, E.toS, x', trivial, hk⟩
theorem store_local {x : Str} {v : Value} {d : V} {Q : Unit → Shared → Prop} {s : Shared} (hk : env.scope.kind = .function) (hl : env.kindOf x = some .local) (z : S G env.locals ρ σ s.heap) (r : Rep s.heap v d)
    (h : ∀ h', ExtS env.locals σ s.heap h' σ → S G env.locals (ρ.put x d) σ h' → TupK s.heap h' → Q () { s with heap := h', toks := s.toks + 1 }) :
    wpAny (model G.prog G.w) A (storeName env x v) Q X s := by
  obtain ⟨m, n, hm⟩ := z.frame.ns
  refine wpAny_storeName_local hl n (fun h' n' hs => ?_) (by rw [hk]; rfl)
  have tk : TupK s.heap h' := fun b _ _ e => by
    by_cases q : b = env.locals
    · subst q
      obtain ⟨oL, es, ep, hoL, hdL, r2⟩ := id n
      rw [hoL] at e; cases e
      cases hdL
    · exact (hs.2 b q).trans e
  refine h h' ⟨tk, fun a o2 na e n2 => (hs.2 a na).trans n2, fun a e q => absurd e q, fun a o e => ?_⟩ ⟨fun b o e => ?_, fun a o e => ?_, z.new, ⟨_, n', fun y d' q => ?_⟩, z.off, z.above⟩ tk
  · by_cases q : a = env.locals
    · subst q; obtain ⟨o', _, _, ho', _⟩ := id n'; exact ⟨o', ho'⟩
    · exact ⟨o, (hs.2 a q).trans e⟩
  · refine (hs.2 b fun q => ?_).trans (z.base b o e)
    subst q; exact absurd (Heap.lt_size e) (Nat.not_lt.mpr z.above)
  · have q : a ≠ env.locals := fun q => by rw [q, z.off] at e; cases e
    exact (z.obj a o e).mono tk fun o2 h2 => (hs.2 a q).trans h2
  · rw [Loc.get_put] at q
    by_cases e : y = x
    · subst e; rw [if_pos rfl] at q; cases q
      exact ⟨v, by simp, r.mono tk⟩
    · rw [if_neg e] at q
      obtain ⟨v', e1, r1⟩ := hm y d' q
      exact ⟨v', by simp [e, e1], r1.mono tk⟩
theorem store_cell {x : Str} {v : Value} {d : V} {c : Addr} {d₀ : Option V} {Q : Unit → Shared → Prop} {s : Shared} (hk : env.scope.kind = .function) (hl : env.kindOf x = some .cell) (hc : env.cells.lookup x = some c)
    (hσ : σ c = some (.cell d₀)) (z : S G env.locals ρ σ s.heap) (r : Rep s.heap v d)
    (h : ∀ h', Ext σ s.heap h' (σ.set c (.cell (some d))) → S G env.locals ρ (σ.set c (.cell (some d))) h' → TupK s.heap h' → Q () { s with heap := h' }) :
    wpAny (model G.prog G.w) A (storeName env x v) Q X s := by
  obtain ⟨o, v0, ho, hd, r0⟩ := z.obj c _ hσ
  refine wpAny_storeName_cell hk hl hc ⟨o, ho, hd⟩ fun h' ⟨o', ho', hd'⟩ hs => ?_
  have tk : TupK s.heap h' := tupK_sameBut hs ho fun ⟨_, xs, n, t⟩ => by rw [hd] at t; cases t
  have x' : RepObj G.prog G.w h' c (.cell (some d)) := ⟨o', _, ho', hd', v, rfl, r.mono tk⟩
  exact h h' (Ext.upd hσ (z.obj c _ hσ) hs x') (z.upd hσ hs x') tk
theorem sv_Assign {x : Str} {pos' pos : Pos} {value : Expr} (h : EV G A env ρ σ value (fun d σ' => k .next (ρ.put x d) σ') X)
    (hk : env.scope.kind = .function := by rfl) (hl : env.kindOf x = some .local := by rfl)
    (hs : swapsWith value (some (.Name x pos')) pos.line env = pure false := by rfl) :
    SV G A env ρ σ (exec (.Assign [.Name x pos'] value pos) env) k X := fun s z => by
  refine wpAny_Assign_Name (wpAny_mono (h s z) (fun v s' p => ?_) fun _ _ e => e) hs
  refine p.elim fun h' tk d σ' E x' r hk' => ?_
  exact store_local hk hl x' r fun h2 E2 x2 _ => ⟨h2, _, .next, _, σ', rfl, E.toS.trans E2, x2, trivial, hk'⟩
end
end Mine
namespace Mine
section
variable {G : Amb} {A : Around} {env : Env} {ρ : Loc} {σ : St} {X : Value → Shared → Prop} {k : V → St → Prop}
theorem ev_int {i : Int} {c : Nat} {pos : Pos} (h : k (.int i) σ) : EV G A env ρ σ (.Constant (.int i) c pos) k X := fun s x => wpAny_Constant_int (.tok x (.int _ _) h)
theorem ev_str {i : Str} {c : Nat} {pos : Pos} (h : k (.str i) σ) : EV G A env ρ σ (.Constant (.str i) c pos) k X := fun s x => PySem.wpAny_Constant_str (.tok x (.str _ _) h)
theorem ev_bool {i : Bool} {c : Nat} {pos : Pos} (h : k (.bool i) σ) : EV G A env ρ σ (.Constant (.bool i) c pos) k X := fun s x => Constant_bool (.here x (.bool _) h)
theorem ev_none {c : Nat} {pos : Pos} (h : k .none σ) : EV G A env ρ σ (.Constant .none c pos) k X := fun s x => Constant_none (.here x .none h)
theorem ev_local {x : Str} {pos : Pos} {d : V} (h : k d σ) (hv : ρ.get x = some d := by rfl) (hk : env.scope.kind = .function := by rfl) (hl : env.kindOf x = some .local := by rfl)
    (hd : (x == ("__debug__" : Str)) = false := by decide) : EV G A env ρ σ (.Name x pos) k X := fun s z => by
  obtain ⟨m, n, hm⟩ := z.frame.ns
  obtain ⟨v, e, r⟩ := hm x d hv
  exact wpAny_Name (wpAny_loadName_local hk hl n e (.here z r h)) hd
theorem ev_cell {x : Str} {pos : Pos} {d : V} {c : Addr} (hσ : σ c = some (.cell (some d))) (h : k d σ) (hc : env.cells.lookup x = some c := by rfl) (hk : env.scope.kind = .function := by rfl) (hl : env.kindOf x = some .cell := by rfl)
    (hd : (x == ("__debug__" : Str)) = false := by decide) : EV G A env ρ σ (.Name x pos) k X := fun s z => by
  obtain ⟨o, v, ho, e, u, rfl, r⟩ := z.obj c _ hσ
  exact wpAny_Name (wpAny_loadName_cell hk hl hc ⟨o, ho, e⟩ (.here z r h)) hd
theorem ev_global {x : Str} {pos : Pos} {v : Value} {d : V} (hv : G.mg x = some v) (hr : ∀ h, Rep h v d) (h : k d σ) (hg : env.globals = mainGlobals := by rfl) (hk : env.scope.kind = .function := by rfl) (hl : env.kindOf x = some .globalImplicit := by rfl)
    (hd : (x == ("__debug__" : Str)) = false := by decide) : EV G A env ρ σ (.Name x pos) k X := fun s z =>
  Name_function_global hk hl (loadGlobal_global (hg ▸ G.ng.keeps z.base) hv (.here z (hr _) h)) hd
theorem ev_builtin {x : Str} {pos : Pos} {v : Value} (hn : G.mg x = none) (hv : G.mb x = some v) (hh : handedIn v = true) (h : k (.glob v) σ) (hg : env.globals = mainGlobals := by rfl) (hb : env.builtins = builtinsNs := by rfl) (hk : env.scope.kind = .function := by rfl) (hl : env.kindOf x = some .globalImplicit := by rfl)
    (hd : (x == ("__debug__" : Str)) = false := by decide) : EV G A env ρ σ (.Name x pos) k X := fun s z =>
  Name_function_global hk hl (loadGlobal_builtin (hg ▸ G.ng.keeps z.base) hn (hb ▸ G.nb.keeps z.base) hv (.here z (.glob _ hh) h)) hd
def Op2 (G : Amb) (A : Around) (L : Addr) (ρ : Loc) (σ : St) (f : Value → Value → Sem Value) (a b : V) (k : V → St → Prop) (X : Value → Shared → Prop) : Prop :=
  ∀ s u v, S G L ρ σ s.heap → Rep s.heap u a → Rep s.heap v b → wpAny (model G.prog G.w) A (f u v) (Post G L ρ σ s k) X s
def Op1 (G : Amb) (A : Around) (L : Addr) (ρ : Loc) (σ : St) (f : Value → Sem Value) (a : V) (k : V → St → Prop) (X : Value → Shared → Prop) : Prop :=
  ∀ s u, S G L ρ σ s.heap → Rep s.heap u a → wpAny (model G.prog G.w) A (f u) (Post G L ρ σ s k) X s
def OpL (G : Amb) (A : Around) (L : Addr) (ρ : Loc) (σ : St) (f : List Value → Sem Value) (ds : List V) (k : V → St → Prop) (X : Value → Shared → Prop) : Prop :=
  ∀ s vs, S G L ρ σ s.heap → RepAll s.heap vs ds → wpAny (model G.prog G.w) A (f vs) (Post G L ρ σ s k) X s
theorem two {l r : Expr} {f : Value → Value → Sem Value} (h : EV G A env ρ σ l (fun a σ₁ => EV G A env ρ σ₁ r (fun b σ₂ => Op2 G A env.locals ρ σ₂ f a b k X) X) X) {s : Shared} (x : S G env.locals ρ σ s.heap) :
    wpAny (model G.prog G.w) A (eval l env) (fun u s₁ => wpAny (model G.prog G.w) A (eval r env) (fun v s₂ => wpAny (model G.prog G.w) A (f u v) (Post G env.locals ρ σ s k) X s₂) X s₁) X s := by
  refine wpAny_mono (h s x) (fun u s₁ p => ?_) fun _ _ e => e
  refine p.elim fun h₁ t₁ a σ₁ E₁ x₁ r₁ q₁ => ?_
  refine wpAny_mono (q₁ _ x₁) (fun v s₂ p => ?_) fun _ _ e => e
  refine p.elim fun h₂ t₂ b σ₂ E₂ x₂ r₂ q₂ => ?_
  exact wpAny_mono (q₂ _ u v x₂ (r₁.mono E₂.tup) r₂) (fun _ _ q => Post.trans (E₁.trans E₂) q) fun _ _ e => e
theorem ev_BinOp {l r : Expr} {op : Operator} {pos : Pos} (h : EV G A env ρ σ l (fun a σ₁ => EV G A env ρ σ₁ r (fun b σ₂ => Op2 G A env.locals ρ σ₂ (binaryOp op) a b k X) X) X) :
    EV G A env ρ σ (.BinOp l op r pos) k X := fun _ x => wpAny_BinOp (two h x)
theorem ev_Compare {l r : Expr} {op : CmpOp} {pos : Pos} (h : EV G A env ρ σ l (fun a σ₁ => EV G A env ρ σ₁ r (fun b σ₂ => Op2 G A env.locals ρ σ₂ (compareOp op) a b k X) X) X)
    (hm : behindInMarks op r = false := by with_unfolding_all rfl) : EV G A env ρ σ (.Compare l [op] [r] pos) k X := fun _ x => wpAny_Compare1 (two h x) hm
theorem ev_Subscript {l r : Expr} {pos : Pos} (h : EV G A env ρ σ l (fun a σ₁ => EV G A env ρ σ₁ r (fun b σ₂ => Op2 G A env.locals ρ σ₂ (subscriptTail l r) a b k X) X) X) :
    EV G A env ρ σ (.Subscript l r pos) k X := fun _ x => Subscript_ (two h x)
theorem bv_Compare {l r : Expr} {op : CmpOp} {pos : Pos} {whole : Sem Value} {kb : Bool → St → Prop}
    (h : EV G A env ρ σ l (fun a σ₁ => EV G A env ρ σ₁ r (fun b σ₂ => Op2 G A env.locals ρ σ₂ (compareOp op) a b (fun d σ₃ => ∃ c, d = .bool c ∧ kb c σ₃) X) X) X)
    (hm : behindInMarks op r = false := by with_unfolding_all rfl) : BV G A env ρ σ (isTrue (.Compare l [op] [r] pos) env whole) kb X := fun s x => by
  refine wpAny_isTrue_Compare1 ?_ hm
  refine wpAny_mono (h s x) (fun u s₁ p => ?_) fun _ _ e => e
  refine p.elim fun h₁ t₁ a σ₁ E₁ x₁ r₁ q₁ => ?_
  refine wpAny_mono (q₁ _ x₁) (fun v s₂ p => ?_) fun _ _ e => e
  refine p.elim fun h₂ t₂ b σ₂ E₂ x₂ r₂ q₂ => ?_
  refine wpAny_mono (q₂ _ u v x₂ (r₁.mono E₂.tup) r₂) (fun c s₃ p => ?_) fun _ _ e => e
  refine p.elim fun h₃ t₃ d σ₃ E₃ x₃ r₃ q₉ => ?_; obtain ⟨c', rfl, q₃⟩ := q₉
  cases r₃
  exact wpAny_truthy_bool ⟨h₃, t₃, _, σ₃, rfl, (E₁.trans E₂).trans E₃, x₃, .bool _, rfl, q₃⟩
theorem bv_plain {e : Expr} {kb : Bool → St → Prop} (h : EV G A env ρ σ e (fun d σ' => ∃ b, d = .bool b ∧ kb b σ') X)
    (he : isTrue e env (eval e env) = (do let v ← eval e env; standAt e.pos; holding [v] (truthy v)) := by rfl) : BV G A env ρ σ (isTrue e env (eval e env)) kb X := fun s x => by
  refine isTrue_plain (wpAny_mono (h s x) (fun u s₁ p => ?_) fun _ _ e => e) he
  refine p.elim fun h₁ t₁ a σ₁ E₁ x₁ r₁ q₉ => ?_; obtain ⟨b, rfl, q₁⟩ := q₉
  cases r₁
  exact wpAny_truthy_bool ⟨h₁, t₁, _, σ₁, rfl, E₁, x₁, .bool _, rfl, q₁⟩
theorem bv_Not {e : Expr} {pos : Pos} {whole : Sem Value} {kb : Bool → St → Prop} (h : BV G A env ρ σ (isTrue e env (eval e env)) (fun b σ' => kb (!b) σ') X) : BV G A env ρ σ (isTrue (.UnaryOp .Not e pos) env whole) kb X := fun s x => by
  refine isTrue_not (wpAny_mono (h s x) (fun b s₁ p => ?_) fun _ _ e => e)
  refine p.elim fun h₁ t₁ a σ₁ E₁ x₁ r₁ q₉ => ?_; obtain ⟨rfl, q₁⟩ := q₉
  exact ⟨h₁, t₁, _, σ₁, rfl, E₁, x₁, .bool _, rfl, q₁⟩
theorem bv_end {s : Shared} {h₁ t₁ σ₁} {b : Bool} {kb : Bool → St → Prop} (E₁ : Ext σ s.heap h₁ σ₁) (x₁ : S G env.locals ρ σ₁ h₁) (q : kb b σ₁) :
    Post G env.locals ρ σ s (fun d σ' => d = .bool b ∧ kb b σ') (.bool b) { s with heap := h₁, toks := t₁ } := ⟨h₁, t₁, _, σ₁, rfl, E₁, x₁, .bool _, rfl, q⟩
theorem bv_And_nil {pos : Pos} {whole : Sem Value} {kb : Bool → St → Prop} (h : kb true σ) : BV G A env ρ σ (isTrue (.BoolOp .And [] pos) env whole) kb X := fun s x => isTrue_and_nil (bv_end (.refl ..) x h)
theorem bv_Or_nil {pos : Pos} {whole : Sem Value} {kb : Bool → St → Prop} (h : kb false σ) : BV G A env ρ σ (isTrue (.BoolOp .Or [] pos) env whole) kb X := fun s x => isTrue_or_nil (bv_end (.refl ..) x h)
theorem bv_And {e : Expr} {rest : List Expr} {pos : Pos} {whole : Sem Value} {kb : Bool → St → Prop}
    (h : BV G A env ρ σ (isTrue e env (eval e env)) (fun b σ' => if b = true then BV G A env ρ σ' (isTrue (.BoolOp .And rest pos) env whole) kb X else kb false σ') X) : BV G A env ρ σ (isTrue (.BoolOp .And (e :: rest) pos) env whole) kb X := fun s x => by
  refine isTrue_and (wpAny_mono (h s x) (fun b s₁ p => ?_) fun _ _ e => e)
  refine p.elim fun h₁ t₁ a σ₁ E₁ x₁ r₁ q₉ => ?_; obtain ⟨rfl, q₁⟩ := q₉
  cases b with
  | true => exact wpAny_mono (q₁ _ x₁) (fun _ _ q => Post.trans E₁ q) fun _ _ e => e
  | false => exact bv_end E₁ x₁ q₁
theorem bv_Or {e : Expr} {rest : List Expr} {pos : Pos} {whole : Sem Value} {kb : Bool → St → Prop}
    (h : BV G A env ρ σ (isTrue e env (eval e env)) (fun b σ' => if b = true then kb true σ' else BV G A env ρ σ' (isTrue (.BoolOp .Or rest pos) env whole) kb X) X) : BV G A env ρ σ (isTrue (.BoolOp .Or (e :: rest) pos) env whole) kb X := fun s x => by
  refine isTrue_or (wpAny_mono (h s x) (fun b s₁ p => ?_) fun _ _ e => e)
  refine p.elim fun h₁ t₁ a σ₁ E₁ x₁ r₁ q₉ => ?_; obtain ⟨rfl, q₁⟩ := q₉
  cases b with
  | true => exact bv_end E₁ x₁ q₁
  | false => exact wpAny_mono (q₁ _ x₁) (fun _ _ q => Post.trans E₁ q) fun _ _ e => e
theorem ev_And {e₁ e₂ : Expr} {pos : Pos} (h : EV G A env ρ σ e₁ (fun d σ' => ∃ b, d = .bool b ∧ if b = true then EV G A env ρ σ' e₂ k X else k (.bool false) σ') X) : EV G A env ρ σ (.BoolOp .And [e₁, e₂] pos) k X := fun s x => by
  refine BoolOp_and (wpAny_mono (h s x) (fun u s₁ p => ?_) fun _ _ e => e)
  refine p.elim fun h₁ t₁ a σ₁ E₁ x₁ r₁ q₉ => ?_; obtain ⟨b, rfl, q₁⟩ := q₉
  cases r₁
  refine wpAny_truthy_bool ?_
  cases b with
  | true => exact BoolOp_one (wpAny_mono (q₁ _ x₁) (fun _ _ q => Post.trans E₁ q) fun _ _ e => e)
  | false => exact ⟨h₁, t₁, _, σ₁, rfl, E₁, x₁, .bool _, q₁⟩
theorem ev_IfExp {test body orelse : Expr} {pos : Pos} (h : BV G A env ρ σ (isTrue test env (eval test env)) (fun b σ' => if b = true then EV G A env ρ σ' body k X else EV G A env ρ σ' orelse k X) X) :
    EV G A env ρ σ (.IfExp test body orelse pos) k X := fun s x => by
  refine wpAny_IfExp (wpAny_mono (h s x) (fun b s₁ p => ?_) fun _ _ e => e)
  refine p.elim fun h₁ t₁ a σ₁ E₁ x₁ r₁ q₉ => ?_; obtain ⟨rfl, q₁⟩ := q₉
  cases b with
  | true => exact wpAny_mono (q₁ _ x₁) (fun _ _ q => Post.trans E₁ q) fun _ _ e => e
  | false => exact wpAny_mono (q₁ _ x₁) (fun _ _ q => Post.trans E₁ q) fun _ _ e => e
def PostL (G : Amb) (L : Addr) (ρ : Loc) (σ : St) (s : Shared) (k : List V → St → Prop) (vs : List Value) (s' : Shared) : Prop :=
  ∃ h' tk ds σ', s' = { s with heap := h', toks := tk } ∧ Ext σ s.heap h' σ' ∧ S G L ρ σ' h' ∧ RepAll h' vs ds ∧ k ds σ'
@[elab_as_elim] theorem PostL.elim {G : Amb} {L ρ σ s} {k : List V → St → Prop} {v s'} {C : Shared → Prop} (x : PostL G L ρ σ s k v s') (h : ∀ h' tk d σ', Ext σ s.heap h' σ' → S G L ρ σ' h' → RepAll h' v d → k d σ' → C { s with heap := h', toks := tk }) : C s' :=
  let ⟨h', tk, d, σ', a, b, c, e, r⟩ := x; a ▸ h h' tk d σ' b c e r
def LV (G : Amb) (A : Around) (env : Env) (ρ : Loc) (σ : St) (pos : Pos) (es : List Expr) (k : List V → St → Prop) (X : Value → Shared → Prop) : Prop :=
  ∀ s, S G env.locals ρ σ s.heap → wpAny (model G.prog G.w) A (spliced (backTo pos (starEach es env))) (PostL G env.locals ρ σ s k) X s
theorem lv_nil {pos : Pos} {k : List V → St → Prop} (h : k [] σ) : LV G A env ρ σ pos [] k X := fun s x => args_nil ⟨s.heap, s.toks, [], σ, rfl, .refl .., x, .nil, h⟩
theorem lv_cons {pos : Pos} {e : Expr} {es : List Expr} {k : List V → St → Prop} (h : EV G A env ρ σ e (fun d σ₁ => LV G A env ρ σ₁ pos es (fun ds σ₂ => k (d :: ds) σ₂) X) X)
    (he : starEach (e :: es) env = (false, eval e env) :: starEach es env := by rfl) : LV G A env ρ σ pos (e :: es) k X := fun s x => by
  refine args_cons (wpAny_mono (h s x) (fun u s₁ p => ?_) fun _ _ e => e) he
  refine p.elim fun h₁ t₁ a σ₁ E₁ x₁ r₁ q₁ => ?_
  refine wpAny_mono (q₁ _ x₁) (fun v s₂ p => ?_) fun _ _ e => e
  refine p.elim fun h₂ t₂ b σ₂ E₂ x₂ r₂ q₂ => ?_
  exact ⟨h₂, t₂, a :: b, σ₂, rfl, E₁.trans E₂, x₂, .cons (r₁.mono E₂.tup) r₂, q₂⟩
theorem lv_then {pos : Pos} {es : List Expr} {f : List Value → Sem Value} (h : LV G A env ρ σ pos es (fun ds σ' => OpL G A env.locals ρ σ' f ds k X) X) {s : Shared} (x : S G env.locals ρ σ s.heap) :
    wpAny (model G.prog G.w) A (spliced (backTo pos (starEach es env))) (fun vs s₁ => wpAny (model G.prog G.w) A (f vs) (Post G env.locals ρ σ s k) X s₁) X s := by
  refine wpAny_mono (h s x) (fun u s₁ p => ?_) fun _ _ e => e
  refine p.elim fun h₁ t₁ a σ₁ E₁ x₁ r₁ q₁ => ?_
  exact wpAny_mono (q₁ _ _ x₁ r₁) (fun _ _ q => Post.trans E₁ q) fun _ _ e => e
theorem new_tuple {ds : List V} (h : k (.tup ds) σ) (hsz : ds.length ≤ sizeLine := by exact len_ok rfl) : OpL G A env.locals ρ σ newTuple ds k X := fun s vs x r => by
  refine wpAny_newObj_type (T := "tuple") ?_ (by show vs.toArray.size ≤ sizeLine; rw [List.size_toArray, r.length]; exact hsz)
  have kp : ∀ b o, s.heap.get? b = some o → (s.heap.push { cls := .type "tuple", dict := none, data := .seq vs.toArray }).get? b = some o := fun b o e => Heap.get?_push_of_some _ e
  exact ⟨_, s.toks, .tup ds, σ, rfl, .keeps kp, x.keeps kp, .tup (vs := vs.toArray) (n := 0) (Heap.get?_push_size _ rfl) (r.mono (.of_keeps kp)), h⟩
theorem new_list {ds : List V} (h : ∀ a, σ a = none → k (.ref a) (σ.set a (.list ds))) (hsz : ds.length ≤ sizeLine := by exact len_ok rfl) : OpL G A env.locals ρ σ newList ds k X := fun s vs x r => by
  refine wpAny_newObj_type (T := "list") ?_ (by show vs.toArray.size ≤ sizeLine; rw [List.size_toArray, r.length]; exact hsz)
  have kp : ∀ b o, s.heap.get? b = some o → (s.heap.push { cls := .type "list", dict := none, data := .seq vs.toArray }).get? b = some o := fun b o e => Heap.get?_push_of_some _ e
  have hn := Mine.none_at_size s.heap
  exact ⟨_, s.toks, _, _, rfl, .new hn kp, x.newAt (o := .list ds) hn (Nat.le_of_lt x.big) kp ⟨vs.toArray, 0, Heap.get?_push_size _ rfl, r.mono (.of_keeps kp)⟩, .ref _, h _ (x.unused hn)⟩
theorem ev_Tuple {es : List Expr} {c : Nat} {pos : Pos} (h : LV G A env ρ σ pos es (fun ds σ' => ds.length ≤ sizeLine ∧ k (.tup ds) σ') X) : EV G A env ρ σ (.Tuple es c pos) k X := fun _ x => by
  refine Tuple_ (lv_then (fun s z => wpAny_mono (h s z) (fun vs s' p => ?_) fun _ _ e => e) x)
  obtain ⟨h₁, t₁, a, σ₁, e, E₁, x₁, r₁, q₁, q₂⟩ := p
  exact ⟨h₁, t₁, a, σ₁, e, E₁, x₁, r₁, new_tuple q₂ q₁⟩
theorem ev_List {es : List Expr} {pos : Pos} (h : LV G A env ρ σ pos es (fun ds σ' => ds.length ≤ sizeLine ∧ ∀ a, σ' a = none → k (.ref a) (σ'.set a (.list ds))) X) : EV G A env ρ σ (.List es pos) k X := fun _ x => by
  refine List_ (lv_then (fun s z => wpAny_mono (h s z) (fun vs s' p => ?_) fun _ _ e => e) x)
  obtain ⟨h₁, t₁, a, σ₁, e, E₁, x₁, r₁, q₁, q₂⟩ := p
  exact ⟨h₁, t₁, a, σ₁, e, E₁, x₁, r₁, new_list q₂ q₁⟩
end
end Mine
namespace Mine
mutual
def V.P : V → PyData
  | .none => .none | .bool b => .bool b | .int i => .int i | .str x => .str x
  | .tup vs => .tuple (V.Ps vs)
  | .ref _ => .none | .glob _ => .none
def V.Ps : List V → List PyData
  | [] => []
  | v :: vs => V.P v :: V.Ps vs
end
mutual
def V.data : V → Bool
  | .none => true | .bool _ => true | .int _ => true | .str _ => true
  | .tup vs => V.datas vs
  | .ref _ => false | .glob _ => false
def V.datas : List V → Bool
  | [] => true
  | v :: vs => V.data v && V.datas vs
end
mutual
theorem Rep.reads {h : Heap} : ∀ {v d}, Rep h v d → d.data = true → ∃ as, Reads h v d.P as
  | _, _, .none, _ => ⟨_, .none⟩
  | _, _, .bool b, _ => ⟨_, .bool b⟩
  | _, _, .int i t, _ => ⟨_, .int i t⟩
  | _, _, .str x t, _ => ⟨_, .str x t⟩
  | _, _, .ref a, e => by simp [V.data] at e
  | _, _, .tup ho r, e => by
    obtain ⟨as, q⟩ := RepAll.reads r (by simpa [V.data] using e)
    exact ⟨as, by rw [V.P]; exact .tuple ho rfl rfl q⟩
  | _, _, .glob v _, e => by simp [V.data] at e
theorem RepAll.reads {h : Heap} : ∀ {vs ds}, RepAll h vs ds → V.datas ds = true → ∃ as, ReadsAll h vs (V.Ps ds) as
  | _, _, .nil, _ => ⟨_, .nil⟩
  | _, _, .cons a r, e => by
    simp only [V.datas, Bool.and_eq_true] at e
    obtain ⟨as, q⟩ := Rep.reads a e.1
    obtain ⟨bs, q'⟩ := RepAll.reads r e.2
    exact ⟨_, by rw [V.Ps]; exact .cons q q'⟩
end
structure Room (A : Around) (n : Nat) : Prop where
  handled : A.handled = none
  depth : A.depth + n < recursionLimit
  units : A.units + 8 * n + 80 < cLine
section
variable {G : Amb} {A : Around} {L : Addr} {ρ : Loc} {σ : St} {X : Value → Shared → Prop} {k : V → St → Prop}
theorem op_add_int {a b : Int} (h : k (.int (a + b)) σ) : Op2 G A L ρ σ (binaryOp .Add) (.int a) (.int b) k X := fun s u v x r₁ r₂ => by
  refine r₁.elim fun _ => ?_; refine r₂.elim fun _ => ?_; exact add_int (.tok x (.int _ _) h)
theorem op_mul_int {a b : Int} (hm : IntMulOk a b) (h : k (.int (a * b)) σ) : Op2 G A L ρ σ (binaryOp .Mult) (.int a) (.int b) k X := fun s u v x r₁ r₂ => by
  refine r₁.elim fun _ => ?_; refine r₂.elim fun _ => ?_; exact mul_int (hm := hm) (.tok x (.int _ _) h)
theorem op_mod_int {a b : Int} (hb : 0 < b) (h : k (.int (a % b)) σ) : Op2 G A L ρ σ (binaryOp .Mod) (.int a) (.int b) k X := fun s u v x r₁ r₂ => by
  refine r₁.elim fun _ => ?_; refine r₂.elim fun _ => ?_
  refine mod_int' (by omega) (.tok x (.int _ _) ?_)
  rw [Int.fmod_eq_emod_of_nonneg a (by omega)]; exact h
theorem op_lt_int {a b : Int} (h : k (.bool (decide (a < b))) σ) : Op2 G A L ρ σ (compareOp .Lt) (.int a) (.int b) k X := fun s u v x r₁ r₂ => by
  refine r₁.elim fun _ => ?_; refine r₂.elim fun _ => ?_; exact PyProof.Rows.lt_int (.here x (.bool _) h)
theorem op_gt_int {a b : Int} (h : k (.bool (decide (b < a))) σ) : Op2 G A L ρ σ (compareOp .Gt) (.int a) (.int b) k X := fun s u v x r₁ r₂ => by
  refine r₁.elim fun _ => ?_; refine r₂.elim fun _ => ?_; exact PyProof.Rows.gt_int (.here x (.bool _) h)
theorem op_eq_int {a b : Int} (h : k (.bool (decide (a = b))) σ) : Op2 G A L ρ σ (compareOp .Eq) (.int a) (.int b) k X := fun s u v x r₁ r₂ => by
  refine r₁.elim fun _ => ?_; refine r₂.elim fun _ => ?_; exact eq_int (.here x (.bool _) (by rw [show (a == b) = decide (a = b) from rfl]; exact h))
theorem op_ne_int {a b : Int} (h : k (.bool (!decide (a = b))) σ) : Op2 G A L ρ σ (compareOp .NotEq) (.int a) (.int b) k X := fun s u v x r₁ r₂ => by
  refine r₁.elim fun _ => ?_; refine r₂.elim fun _ => ?_; exact ne_int (.here x (.bool _) (by rw [show (a != b) = !decide (a = b) from rfl]; exact h))
theorem op_eq_str {a b : Str} (h : k (.bool (decide (a = b))) σ) : Op2 G A L ρ σ (compareOp .Eq) (.str a) (.str b) k X := fun s u v x r₁ r₂ => by
  refine r₁.elim fun _ => ?_; refine r₂.elim fun _ => ?_; exact eq_str (.here x (.bool _) (by rw [show (a == b) = decide (a = b) from by by_cases q : a = b <;> simp [q]]; exact h))
theorem op_ne_str {a b : Str} (h : k (.bool (!decide (a = b))) σ) : Op2 G A L ρ σ (compareOp .NotEq) (.str a) (.str b) k X := fun s u v x r₁ r₂ => by
  refine r₁.elim fun _ => ?_; refine r₂.elim fun _ => ?_; exact ne_str (.here x (.bool _) (by rw [show (a != b) = !decide (a = b) from by by_cases q : a = b <;> simp [q]]; exact h))
theorem op_add_str {a b : Str} (hsz : a.length + b.length ≤ sizeLine) (h : k (.str (a ++ b)) σ) : Op2 G A L ρ σ (binaryOp .Add) (.str a) (.str b) k X := fun s u v x r₁ r₂ => by
  refine r₁.elim fun _ => ?_; refine r₂.elim fun _ => ?_; exact add_str (fun t' tk => .tok x (.str _ _) h) hsz
theorem op_eq_data {a b : V} {n : Nat} (R : Room A n) (ha : a.data = true) (hb : b.data = true) (sa : SeqAt.shaped a.P = true) (sb : SeqAt.shaped b.P = true) (h : k (.bool (PyData.eqv a.P b.P)) σ) : Op2 G A L ρ σ (compareOp .Eq) a b k X := fun s u v x r₁ r₂ => by
  obtain ⟨as, q₁⟩ := r₁.reads ha
  obtain ⟨bs, q₂⟩ := r₂.reads hb
  exact eq_dataH q₁ q₂ sa sb (by have := R.units; omega) (.here x (.bool _) h)
theorem op_ne_data {a b : V} {n : Nat} (R : Room A n) (ha : a.data = true) (hb : b.data = true) (sa : SeqAt.shaped a.P = true) (sb : SeqAt.shaped b.P = true) (h : k (.bool (!PyData.eqv a.P b.P)) σ) : Op2 G A L ρ σ (compareOp .NotEq) a b k X := fun s u v x r₁ r₂ => by
  obtain ⟨as, q₁⟩ := r₁.reads ha
  obtain ⟨bs, q₂⟩ := r₂.reads hb
  exact ne_dataH q₁ q₂ sa sb (by have := R.units; omega) (.here x (.bool _) h)
theorem S.list {h : Heap} {a : Addr} {ds : List V} (x : S G L ρ σ h) (e : σ a = some (.list ds)) : ∃ vs n, h.get? a = some (listOf vs n) ∧ RepAll h vs.toList ds := x.obj a _ e
theorem isList_of {h : Heap} {a : Addr} {vs : Array Value} {n : Nat} (e : h.get? a = some (listOf vs n)) : h.IsList a vs := ⟨_, e, rfl, n, rfl⟩
theorem list_reads {h : Heap} {a : Addr} {ds : List V} (x : S G L ρ σ h) (e : σ a = some (.list ds)) (hd : V.datas ds = true) : ∃ as, Reads h (.ref a) (.list (V.Ps ds)) as := by
  obtain ⟨vs, n, ho, r⟩ := x.list e
  obtain ⟨as, q⟩ := r.reads hd
  exact ⟨_, .list ho rfl rfl q⟩
theorem op_eq_list {a b : Addr} {xs ys : List V} {n : Nat} (R : Room A n) (ea : σ a = some (.list xs)) (eb : σ b = some (.list ys)) (ha : V.datas xs = true) (hb : V.datas ys = true)
    (sa : SeqAt.shaped (.list (V.Ps xs)) = true) (sb : SeqAt.shaped (.list (V.Ps ys)) = true) (h : k (.bool (PyData.eqv (.list (V.Ps xs)) (.list (V.Ps ys)))) σ) : Op2 G A L ρ σ (compareOp .Eq) (.ref a) (.ref b) k X := fun s u v x r₁ r₂ => by
  refine r₁.elim ?_; refine r₂.elim ?_
  obtain ⟨as, q₁⟩ := list_reads x ea ha
  obtain ⟨bs, q₂⟩ := list_reads x eb hb
  exact eq_dataH q₁ q₂ sa sb (by have := R.units; omega) (.here x (.bool _) h)
theorem op_ne_list {a b : Addr} {xs ys : List V} {n : Nat} (R : Room A n) (ea : σ a = some (.list xs)) (eb : σ b = some (.list ys)) (ha : V.datas xs = true) (hb : V.datas ys = true)
    (sa : SeqAt.shaped (.list (V.Ps xs)) = true) (sb : SeqAt.shaped (.list (V.Ps ys)) = true) (h : k (.bool (!PyData.eqv (.list (V.Ps xs)) (.list (V.Ps ys)))) σ) : Op2 G A L ρ σ (compareOp .NotEq) (.ref a) (.ref b) k X := fun s u v x r₁ r₂ => by
  refine r₁.elim ?_; refine r₂.elim ?_
  obtain ⟨as, q₁⟩ := list_reads x ea ha
  obtain ⟨bs, q₂⟩ := list_reads x eb hb
  exact ne_dataH q₁ q₂ sa sb (by have := R.units; omega) (.here x (.bool _) h)
theorem repAll_strs {h : Heap} : ∀ {vs : List Value} {xs : List Str}, RepAll h vs (xs.map .str) → ∀ y ∈ vs, ∃ z t, y = .str z t
  | _, [], .nil, _, hy => nomatch hy
  | _, _ :: _, .cons a r, y, hy => by
    rcases List.mem_cons.mp hy with rfl | hy
    · cases a; exact ⟨_, _, rfl⟩
    · exact repAll_strs r y hy
def isStr (x : Str) : Value → Bool
  | .str z _ => z.cps.toList == x.cps.toList
  | _ => false
theorem any_isStr {h : Heap} (x : Str) : ∀ {vs : List Value} {xs : List Str}, RepAll h vs (xs.map .str) → vs.any (isStr x) = decide (x ∈ xs)
  | _, [], .nil => by simp
  | _, z :: xs, .cons a r => by
    cases a with
    | str _ t =>
      rw [List.any_cons, any_isStr x r]
      have e : isStr x (.str z t) = decide (x = z) := by
        show (z.cps.toList == x.cps.toList) = _
        rw [toList_beq]
        by_cases q : x = z
        · subst q; simp
        · have : ¬ z = x := fun w => q w.symm
          simp [q, this]
      rw [e]
      by_cases q : x = z <;> simp [q]
theorem eqGives_str {x : Str} {t : Tok} {vs : List Value} {xs : List Str} {h : Heap} (r : RepAll h vs (xs.map .str)) : ∀ y, y ∈ vs.toArray → PySem.MeetsSeq.EqGives y (.str x t) (isStr x y) := fun y hy => by
  obtain ⟨z, u, rfl⟩ := repAll_strs r y (by simpa using hy)
  exact PySem.SeqRoads2.EqGives.str z x u t
theorem op_in_strs {a : Addr} {x : Str} {xs : List Str} (ea : σ a = some (.list (xs.map .str))) (h : k (.bool (decide (x ∈ xs))) σ) : Op2 G A L ρ σ (compareOp .In) (.str x) (.ref a) k X := fun s u v z r₁ r₂ => by
  refine r₁.elim fun _ => ?_; refine r₂.elim ?_
  obtain ⟨vs, n, ho, r⟩ := z.list ea
  refine PySem.SeqRoads2.in_list (isStr x) (fun y hy => eqGives_str r y (by simpa using hy)) ho (.here z (.bool _) ?_)
  rw [← Array.any_toList, any_isStr x r]; exact h
theorem op_notIn_strs {a : Addr} {x : Str} {xs : List Str} (ea : σ a = some (.list (xs.map .str))) (h : k (.bool (!decide (x ∈ xs))) σ) : Op2 G A L ρ σ (compareOp .NotIn) (.str x) (.ref a) k X := fun s u v z r₁ r₂ => by
  refine r₁.elim fun _ => ?_; refine r₂.elim ?_
  obtain ⟨vs, n, ho, r⟩ := z.list ea
  refine PySem.SeqRoads2.notIn_list (isStr x) (fun y hy => eqGives_str r y (by simpa using hy)) ho (.here z (.bool _) ?_)
  rw [← Array.any_toList, any_isStr x r]; exact h
theorem op_in_ints {x : Int} {xs : List Int} (h : k (.bool (decide (x ∈ xs))) σ) : Op2 G A L ρ σ (compareOp .In) (.int x) (.tup (xs.map .int)) k X := fun s u v z r₁ r₂ => by
  refine r₁.elim fun _ => ?_
  refine r₂.elim fun a n vs ho r => ?_
  ·
    have hi : ∀ {l : List Value} {ys : List Int}, RepAll s.heap l (ys.map .int) → IntsAre l ys := by
      intro l ys q
      induction ys generalizing l with
      | nil => cases q; exact .nil
      | cons y ys ih => cases q with | cons a r => cases a; exact .cons _ _ (ih r)
    refine in_tuple_ints ⟨_, ho, rfl, n, rfl⟩ (hi r) (.here z (.bool _) ?_)
    have e : (xs.any fun y => y == x) = decide (x ∈ xs) := by
      rw [Bool.eq_iff_iff]; simp only [List.any_eq_true, beq_iff_eq, decide_eq_true_eq]
      exact ⟨fun ⟨y, a, b⟩ => b ▸ a, fun q => ⟨x, q, rfl⟩⟩
    rw [e]; exact h
theorem op_item_list {e₁ e₂ : Expr} {a : Addr} {ds : List V} {i : Int} {d : V} (ea : σ a = some (.list ds)) (h0 : 0 ≤ i) (hi : i < 2 ^ 63) (hd : ds[i.toNat]? = some d) (h : k d σ)
    (hs : ∀ t, subscripted e₂ false (.ref a) (.int i t) = operate [.ref a, .int i t] (getItem (.ref a) (.int i t)) := by intro _; with_unfolding_all rfl) : Op2 G A L ρ σ (subscriptTail e₁ e₂) (.ref a) (.int i) k X := fun s u v z r₁ r₂ => by
  refine r₁.elim ?_; refine r₂.elim fun _ => ?_
  obtain ⟨vs, n, ho, r⟩ := z.list ea
  obtain ⟨w, hw, rw'⟩ := r.get i.toNat hd
  exact tail_any (isList_of ho).typeIs slot_list_getitem.lookup (wpAny_getItem_list (isList_of ho) h0 hi (by simpa using hw) (.here z rw' h)) (hs _)
theorem op_item_list_neg {e₁ e₂ : Expr} {a : Addr} {ds : List V} {i : Int} {d : V} (ea : σ a = some (.list ds)) (h0 : i < 0) (hi : 0 ≤ i + ds.length) (hd : ds[(i + ds.length).toNat]? = some d) (h : k d σ) (hlo : -(2 ^ 63) ≤ i)
    (hs : ∀ t, subscripted e₂ false (.ref a) (.int i t) = operate [.ref a, .int i t] (getItem (.ref a) (.int i t)) := by intro _; with_unfolding_all rfl) : Op2 G A L ρ σ (subscriptTail e₁ e₂) (.ref a) (.int i) k X := fun s u v z r₁ r₂ => by
  refine r₁.elim ?_; refine r₂.elim fun _ => ?_
  obtain ⟨vs, n, ho, r⟩ := z.list ea
  obtain ⟨w, hw, rw'⟩ := r.get _ hd
  have hl : vs.size = ds.length := by simpa using r.length
  refine tail_any (isList_of ho).typeIs slot_list_getitem.lookup (wpAny_getItem_list_neg (x := w) (isList_of ho) h0 (by omega) hlo (by rw [hl]; simpa using hw) (.here z rw' h)) (hs _)
theorem op_item_tup {e₁ e₂ : Expr} {ds : List V} {i : Int} {d : V} (h0 : 0 ≤ i) (hi : i < 2 ^ 63) (hd : ds[i.toNat]? = some d) (h : k d σ)
    (hs : ∀ a t, subscripted e₂ false (.ref a) (.int i t) = operate [.ref a, .int i t] (getItem (.ref a) (.int i t)) := by intro _ _; with_unfolding_all rfl) : Op2 G A L ρ σ (subscriptTail e₁ e₂) (.tup ds) (.int i) k X := fun s u v z r₁ r₂ => by
  refine r₂.elim fun _ => ?_
  refine r₁.elim fun a n vs ho r => ?_
  ·
    obtain ⟨w, hw, rw'⟩ := r.get i.toNat hd
    have hl : vs.size = ds.length := by simpa using r.length
    have ht : IsTup s.heap a vs := ⟨_, ho, rfl, n, rfl⟩
    have hlt : i.toNat < ds.length := (List.getElem?_eq_some_iff.mp hd).1
    refine tail_any ht.typeIs slot_tuple_getitem.lookup (getItem_tuple (j := i.toNat) ht (by omega) hi ?_ (by simpa using hw) (.here z rw' h)) (hs _ _)
    unfold seqIndex?
    have e1 : ¬ i < 0 := by omega
    have e2 : i < (vs.size : Int) := by rw [hl]; omega
    simp [e1, h0, e2]
end
end Mine
namespace Mine
def OpC (G : Amb) (A : Around) (L : Addr) (ρ : Loc) (σ : St) (f : Value) (ds : List V) (k : V → St → Prop) (X : Value → Shared → Prop) : Prop :=
  ∀ s vs, S G L ρ σ s.heap → RepAll s.heap vs ds → wpAny (model G.prog G.w) A (call f vs) (Post G L ρ σ s k) X s
def CK (G : Amb) (f : Value) : Prop := (∀ a, f ≠ .ref a) ∨ keepIn G.K f = true
theorem CK.looks {G : Amb} {M : Model} {f : Value} (x : CK G f) (h : Heap) (X : G.K.In h) : ∃ k, (k = Keeper.frame ∨ k = Keeper.machine ∨ k = Keeper.boundFrame) ∧ Looks M h (keeperOf f) k := by
  rcases x with x | x
  · refine ⟨.machine, .inr (.inl rfl), Looks.of_pure ?_⟩
    cases f <;> first | rfl | exact absurd rfl (x _)
  · exact keeps_K x h X
theorem CK.builtin {G : Amb} (id : String) : CK G (.builtin id) := .inl fun _ e => by cases e
theorem CK.type {G : Amb} (id : String) : CK G (.type id) := .inl fun _ e => by cases e
section
variable {G : Amb} {A : Around} {env : Env} {L : Addr} {ρ : Loc} {σ : St} {X : Value → Shared → Prop} {k : V → St → Prop}
theorem callWith0 {pos : Pos} {f : Value} {fv : List Value} {fd : List V} (hf : CK G f) (h : OpC G A env.locals ρ σ f fd k X) {s : Shared} (x : S G env.locals ρ σ s.heap) (r : RepAll s.heap fv fd) :
    wpAny (model G.prog G.w) A (callWith pos f fv (backTo pos (starEach [] env)) []) (Post G env.locals ρ σ s k) X s :=
  callWith_of (P := G.K.In) rfl (hf.looks) (evalArgs_nil3 ⟨x.In, by simpa using h s fv x r⟩)
theorem callWith1 {pos : Pos} {f : Value} {fv : List Value} {fd : List V} {e : Expr} {rest : List Expr} (hf : CK G f) (h : LV G A env ρ σ pos (e :: rest) (fun ds σ' => OpC G A env.locals ρ σ' f (fd ++ ds) k X) X)
    (he : starEach (e :: rest) env = (false, eval e env) :: starEach rest env := by rfl) (hplain : (backTo pos (starEach rest env)).any (·.1) = false := by rfl)
    {s : Shared} (x : S G env.locals ρ σ s.heap) (r : RepAll s.heap fv fd) :
    wpAny (model G.prog G.w) A (callWith pos f fv (backTo pos (starEach (e :: rest) env)) []) (Post G env.locals ρ σ s k) X s := by
  have h' := h s x
  rw [he] at h' ⊢
  refine callWith_of (P := G.K.In) (by show ((false || (backTo pos (starEach rest env)).any (·.1)) || false) = false; rw [hplain]; rfl) (hf.looks) (evalArgs_plain (wpAny_mono h' (fun vs s₁ p => ?_) fun _ _ e => e))
  refine p.elim fun h₁ t₁ ds σ₁ E₁ x₁ r₁ q₁ => ?_
  exact ⟨x₁.In, wpAny_mono (q₁ _ (fv ++ vs) x₁ (RepAll.append r₁ (r.mono E₁.tup))) (fun _ _ q => Post.trans E₁ q) fun _ _ e => e⟩
theorem ev_Call {func : Expr} {e : Expr} {rest : List Expr} {pos : Pos} (h : EV G A env ρ σ func (fun d σ₁ => ∃ f, d = .glob f ∧ CK G f ∧ LV G A env ρ σ₁ pos (e :: rest) (fun ds σ₂ => OpC G A env.locals ρ σ₂ f ds k X) X) X)
    (he : eval (.Call func (e :: rest) [] pos) env = (do callWith pos (← eval func env) [] (backTo pos (starEach (e :: rest) env)) (backToKw pos (keywordEach [] env))) := by rfl)
    (hs : starEach (e :: rest) env = (false, eval e env) :: starEach rest env := by rfl) (hplain : (backTo pos (starEach rest env)).any (·.1) = false := by rfl) :
    EV G A env ρ σ (.Call func (e :: rest) [] pos) k X := fun s x => by
  refine Call_ (wpAny_mono (h s x) (fun v s₁ p => ?_) fun _ _ e => e) he
  refine p.elim fun h₁ t₁ d σ₁ E₁ x₁ r₁ q₉ => ?_; obtain ⟨f, rfl, hf, q⟩ := q₉
  cases r₁
  exact wpAny_mono (callWith1 (fd := []) hf q hs hplain x₁ .nil) (fun _ _ q => Post.trans E₁ q) fun _ _ e => e
def GM (G : Amb) (A : Around) (L : Addr) (ρ : Loc) (σ : St) (name : Str) (d : V) (k : Value → List V → Prop) (X : Value → Shared → Prop) : Prop :=
  ∀ s v (pl : Sem Bool), S G L ρ σ s.heap → Rep s.heap v d → wpAny (model G.prog G.w) A (getMethod v name pl) (fun fx s' => s' = s ∧ ∃ fd, RepAll s.heap fx.2 fd ∧ k fx.1 fd) X s
theorem ev_MCall0 {o : Expr} {name : Str} {apos pos : Pos} {pl : Sem Bool} (h : EV G A env ρ σ o (fun d σ₁ => GM G A env.locals ρ σ₁ name d (fun f fd => CK G f ∧ OpC G A env.locals ρ σ₁ f fd k X) X) X)
    (he : eval (.Call (.Attribute o name apos) [] [] pos) env = (do
      let ov ← eval o env
      standAt apos.atName
      let (f, first) ← holding [ov] (getMethod ov name pl)
      callWith pos f first (backTo pos (starEach [] env)) []) := by rfl) : EV G A env ρ σ (.Call (.Attribute o name apos) [] [] pos) k X := fun s x => by
  refine MethodCall_ (pl := pl) (wpAny_mono (h s x) (fun v s₁ p => ?_) fun _ _ e => e) he
  refine p.elim fun h₁ t₁ d σ₁ E₁ x₁ r₁ q => ?_
  refine wpAny_mono (q _ v pl x₁ r₁) (fun fx s₂ p => ?_) fun _ _ e => e
  obtain ⟨rfl, fd, rf, hf, q⟩ := p
  exact wpAny_mono (callWith0 hf q x₁ rf) (fun _ _ q => Post.trans E₁ q) fun _ _ e => e
theorem ev_MCall {o : Expr} {name : Str} {apos pos : Pos} {e : Expr} {rest : List Expr} {pl : Sem Bool}
    (h : EV G A env ρ σ o (fun d σ₁ => GM G A env.locals ρ σ₁ name d (fun f fd => CK G f ∧ LV G A env ρ σ₁ pos (e :: rest) (fun ds σ₂ => OpC G A env.locals ρ σ₂ f (fd ++ ds) k X) X) X) X)
    (he : eval (.Call (.Attribute o name apos) (e :: rest) [] pos) env = (do
      let ov ← eval o env
      standAt apos.atName
      let (f, first) ← holding [ov] (getMethod ov name pl)
      callWith pos f first (backTo pos (starEach (e :: rest) env)) []) := by rfl)
    (hs : starEach (e :: rest) env = (false, eval e env) :: starEach rest env := by rfl) (hplain : (backTo pos (starEach rest env)).any (·.1) = false := by rfl) :
    EV G A env ρ σ (.Call (.Attribute o name apos) (e :: rest) [] pos) k X := fun s x => by
  refine MethodCall_ (pl := pl) (wpAny_mono (h s x) (fun v s₁ p => ?_) fun _ _ e => e) he
  refine p.elim fun h₁ t₁ d σ₁ E₁ x₁ r₁ q => ?_
  refine wpAny_mono (q _ v pl x₁ r₁) (fun fx s₂ p => ?_) fun _ _ e => e
  obtain ⟨rfl, fd, rf, hf, q⟩ := p
  exact wpAny_mono (callWith1 hf q hs hplain x₁ rf) (fun _ _ q => Post.trans E₁ q) fun _ _ e => e
theorem gm_list {name : Str} {id : String} {a : Addr} {ds : List V} {k : Value → List V → Prop} (slot : Slot "list" name id) (hty : typeOf (.builtin id) = pure (.type "method_descriptor")) (ea : σ a = some (.list ds))
    (h : k (.builtin id) [.ref a]) : GM G A L ρ σ name (.ref a) k X := fun s v pl x r => by
  cases r
  obtain ⟨vs, n, ho, _⟩ := x.list ea
  exact getMethod_builtin (isList_of ho).typeIs PySem.F.plainAttrs_list slot hty (fun b e => by cases e; exact ⟨_, ho, rfl⟩) ⟨rfl, _, .cons (.ref a) .nil, h⟩
theorem gm_dict {name : Str} {id : String} {a : Addr} {ep : Nat} {es : List (Str × V)} {k : Value → List V → Prop} (slot : Slot "dict" name id) (hty : typeOf (.builtin id) = pure (.type "method_descriptor")) (ea : σ a = some (.sdict ep es))
    (h : k (.builtin id) [.ref a]) : GM G A L ρ σ name (.ref a) k X := fun s v pl x r => by
  cases r
  obtain ⟨kvs, hd, _, _⟩ := x.obj a _ ea
  exact getMethod_builtin hd.dictOf.typeIs PySem.F.plainAttrs_dict slot hty hd.dictOf.mapOf.noDict ⟨rfl, _, .cons (.ref a) .nil, h⟩
theorem attrs_get {w : World} {h : Heap} {name : Str} : ∀ {es : List DictEntry} {ps : List (Str × V)}, AttrsRep w h es ps → (match ps.find? (fun p => p.1 == name) with
    | some p => ∃ v, getL name es = some (some v) ∧ Rep h v p.2
    | none => getL name es = some none)
  | _, _, .nil => rfl
  | _, _, .cons (e := e) (p := p) (es := es) (ps := ps) a r => by
    obtain ⟨t, ht⟩ := a.key
    have ih := attrs_get (name := name) r
    have hk : e.key.isStr name = (p.1 == name) := by rw [ht]; rfl
    rw [List.find?_cons]
    unfold getL at ih ⊢
    rw [List.find?_cons, hk]
    cases q : p.1 == name with
    | true => exact ⟨_, rfl, a.val⟩
    | false =>
      have hr : e.refKey = false := by unfold DictEntry.refKey; rw [ht]
      rw [List.any_cons, hr, Bool.false_or]
      exact ih
theorem S.instAt {h : Heap} {a dx C : Addr} {ps : List (Str × V)} (x : S G L ρ σ h) (ea : σ a = some (.inst C dx)) (ed : σ dx = some (.attrs ps)) : ∃ es n, InstAt h a (instObj C dx) C (some (dictOf es n)) ∧ AttrsRep G.w h es ps ∧ h.get? dx = some (dictOf es n) := by
  obtain ⟨es, n, ho, r⟩ := x.obj dx _ ed
  exact ⟨es, n, ⟨x.obj a _ ea, rfl, rfl, ho⟩, r, ho⟩
theorem gm_inst {name : Str} {a dx C f : Addr} {ps : List (Str × V)} {k : Value → List V → Prop} (ea : σ a = some (.inst C dx)) (ed : σ dx = some (.attrs ps)) (hno : ps.find? (fun p => p.1 == name) = none)
    (hg : plainGet G.K C name = true) (hf : findIn G.K (.ref C) name = some (some (.ref f))) (ht : isFn G.K (.ref f) = true) (h : k (.ref f) [.ref a]) : GM G A L ρ σ name (.ref a) k X := fun s v pl x r => by
  cases r
  obtain ⟨es, n, I, r, ho⟩ := x.instAt ea ed
  have q := attrs_get (name := name) r
  rw [hno] at q
  exact method_fn x.In I (plainGet_of hg).1 (plainGet_of hg).2 hf (beq_iff_eq.mp ht) (by show (lookIn name (dictOf es n)).map _ = _; rw [lookIn_dict, q]; rfl) ⟨rfl, _, .cons (.ref a) .nil, h⟩
theorem ev_Attr {e : Expr} {name : Str} {pos : Pos} (h : EV G A env ρ σ e (fun d σ₁ => ∃ a C dx ps p attr, d = .ref a ∧ σ₁ a = some (.inst C dx) ∧ σ₁ dx = some (.attrs ps) ∧ ps.find? (fun p => p.1 == name) = some p ∧
      plainGet G.K C name = true ∧ hasDictIn G.K C = true ∧ findIn G.K (.ref C) name = some attr ∧ noGet G.K attr = true ∧ k p.2 σ₁) X)
    (he : eval (.Attribute e name pos) env = (do
      let o ← eval e env
      standAt pos.atName
      let r ← holding [o] (getAttr o name true)
      letTemporaryGo e o r
      pure r) := by with_unfolding_all rfl) : EV G A env ρ σ (.Attribute e name pos) k X := fun s x => by
  refine Attribute_any_ (wpAny_mono (h s x) (fun v s₁ p => ?_) fun _ _ e => e) he
  refine p.elim fun h₁ t₁ d σ₁ E₁ x₁ r₁ q₉ => ?_; obtain ⟨a, C, dx, ps, p, attr, rfl, ea, ed, hp, hg, hh, ha, hn, q⟩ := q₉
  cases r₁
  obtain ⟨es, n, I, r, ho⟩ := x₁.instAt ea ed
  have z := attrs_get (name := name) r
  rw [hp] at z
  obtain ⟨w, hw, rw'⟩ := z
  exact get_value x₁.In I (plainGet_of hg).1 (findObj_own hh ha hn (by rw [lookIn_dict]; exact hw)) rw'.handed (Post.trans E₁ (.tok x₁ rw' q))
end
end Mine
namespace Mine
section
variable {G : Amb} {A : Around} {env : Env} {L : Addr} {ρ : Loc} {σ : St} {X : Value → Shared → Prop} {k : V → St → Prop}
theorem repAll_one {h : Heap} {vs : List Value} {d : V} (r : RepAll h vs [d]) : ∃ v, vs = [v] ∧ Rep h v d := by
  cases r with | cons a r => cases r; exact ⟨_, rfl, a⟩
theorem repAll_two {h : Heap} {vs : List Value} {d e : V} (r : RepAll h vs [d, e]) : ∃ u v, vs = [u, v] ∧ Rep h u d ∧ Rep h v e := by
  cases r with | cons a r => obtain ⟨v, rfl, b⟩ := repAll_one r; exact ⟨_, _, rfl, a, b⟩
theorem mapSeq_push (xs : Array Value) (n : Nat) (f : Array Value → Array Value) : Obj.mapSeq f (listOf xs n) = listOf (f xs) (if (f xs).size == xs.size then n else n + 1) := rfl
theorem list_changed {s : Shared} {a : Addr} {ds ds' : List V} {vs : Array Value} {n : Nat} {f : Array Value → Array Value} (x : S G L ρ σ s.heap) (ea : σ a = some (.list ds)) (ho : s.heap.get? a = some (listOf vs n))
    (r : ∀ h, TupK s.heap h → RepAll h (f vs).toList ds') {v : Value} {d : V} {tk : Nat} (hv : ∀ h, TupK s.heap h → Rep h v d) (h : k d (σ.set a (.list ds'))) :
    Post G L ρ σ s k v { s with heap := s.heap.update a (Obj.mapSeq f), toks := tk } := by
  have hs : Heap.SameBut a s.heap (s.heap.update a (Obj.mapSeq f)) := Heap.SameBut.update ..
  have tkp : TupK s.heap (s.heap.update a (Obj.mapSeq f)) := tupK_sameBut hs ho fun ⟨c, _⟩ => by simp at c
  have hn : (s.heap.update a (Obj.mapSeq f)).get? a = some (listOf (f vs) (if (f vs).size == vs.size then n else n + 1)) := by
    rw [Heap.get?_update_self _ ho (by rw [mapSeq_push]; rfl), mapSeq_push]
  have x' : RepObj G.prog G.w (s.heap.update a (Obj.mapSeq f)) a (.list ds') := ⟨_, _, hn, r _ tkp⟩
  exact ⟨_, tk, d, _, rfl, Ext.upd ea (x.obj a _ ea) hs x', x.upd ea hs x', hv _ tkp, h⟩
theorem opc_append {a : Addr} {ds : List V} {d : V} (ea : σ a = some (.list ds)) (hsz : ds.length ≤ sizeLine) (h : k .none (σ.set a (.list (ds ++ [d])))) : OpC G A L ρ σ (.builtin "list.append") [.ref a, d] k X := fun s vs x r => by
  obtain ⟨u, v, rfl, r₁, r₂⟩ := repAll_two r
  refine r₁.elim ?_
  obtain ⟨ws, n, ho, rl⟩ := x.list ea
  have hl : ws.size = ds.length := by simpa using rl.length
  refine call_meets PySem.F.slot_list_append ⟨_, ho, rfl⟩ PySem.F.entry_list_append (PySem.F.args_list_append_2 _ _) (PySem.AutoListH.list_append_list_val_0 a ws n v (by omega)) ⟨ho, ?_⟩
  exact list_changed x ea ho (f := fun x => x.push v) (fun h t => by simpa using (rl.mono t).snoc (r₂.mono t)) (fun _ _ => .none) h
theorem opc_extend_tup {a : Addr} {ds es : List V} (ea : σ a = some (.list ds)) (hsz : ds.length + es.length ≤ sizeLine) (h : k .none (σ.set a (.list (ds ++ es)))) : OpC G A L ρ σ (.builtin "list.extend") [.ref a, .tup es] k X := fun s vs x r => by
  obtain ⟨u, v, rfl, r₁, r₂⟩ := repAll_two r
  refine r₁.elim ?_
  refine r₂.elim fun b m ys hb rb => ?_
  ·
    obtain ⟨ws, n, ho, rl⟩ := x.list ea
    have hl : ws.size = ds.length := by simpa using rl.length
    have hl2 : ys.size = es.length := by simpa using rb.length
    have door : ¬(!ws.isEmpty && Builtin.List.listTooLong (ws.size + ys.size)) = true := extend_door (by omega)
    exact call_meets PySem.F.slot_list_extend ⟨_, ho, rfl⟩ PySem.F.entry_list_extend (PySem.F.args_list_extend_2 _ _) (AutoSeq1.list_extend_list_tuple_0 a ws n b ys m door (by omega) (by omega))
      ⟨ho, hb, list_changed x ea ho (f := fun x => x ++ ys) (fun h t => by simpa using RepAll.append (rb.mono t) (rl.mono t)) (fun _ _ => .none) h⟩
theorem opc_extend_list {a b : Addr} {ds es : List V} (ea : σ a = some (.list ds)) (eb : σ b = some (.list es)) (hsz : ds.length + es.length ≤ sizeLine) (h : k .none (σ.set a (.list (ds ++ es)))) : OpC G A L ρ σ (.builtin "list.extend") [.ref a, .ref b] k X := fun s vs x r => by
  obtain ⟨u, v, rfl, r₁, r₂⟩ := repAll_two r
  refine r₁.elim ?_; refine r₂.elim ?_
  obtain ⟨ys, m, hb, rb⟩ := x.list eb
  obtain ⟨ws, n, ho, rl⟩ := x.list ea
  have hl : ws.size = ds.length := by simpa using rl.length
  have hl2 : ys.size = es.length := by simpa using rb.length
  have door : ¬(!ws.isEmpty && Builtin.List.listTooLong (ws.size + ys.size)) = true := extend_door (by omega)
  exact call_meets PySem.F.slot_list_extend ⟨_, ho, rfl⟩ PySem.F.entry_list_extend (PySem.F.args_list_extend_2 _ _) (AutoSeq1.list_extend_list_list_0 a ws n b ys m door (by omega) (by omega))
    ⟨ho, hb, list_changed x ea ho (f := fun x => x ++ ys) (fun h t => by simpa using RepAll.append (rb.mono t) (rl.mono t)) (fun _ _ => .none) h⟩
theorem repAll_erase {h : Heap} : ∀ {vs : List Value} {ds : List V} (_ : RepAll h vs ds) (i : Nat), RepAll h (vs.eraseIdx i) (ds.eraseIdx i)
  | _, _, .nil, i => by simpa using RepAll.nil
  | _, _, .cons a r, 0 => by simpa using r
  | _, _, .cons a r, i + 1 => by simpa using RepAll.cons a (repAll_erase r i)
theorem toList_erase (xs : Array Value) (i : Nat) : (xs.eraseIdxIfInBounds i).toList = xs.toList.eraseIdx i := by
  unfold Array.eraseIdxIfInBounds
  split
  · simp
  · rename_i h
    rw [List.eraseIdx_of_length_le]
    simpa using h
theorem opc_pop_at {a : Addr} {ds : List V} {i : Int} {d : V} (ea : σ a = some (.list ds)) (hsz : ds.length ≤ sizeLine) (h0 : 0 ≤ i) (hd : ds[i.toNat]? = some d) (h : k d (σ.set a (.list (ds.eraseIdx i.toNat)))) :
    OpC G A L ρ σ (.builtin "list.pop") [.ref a, .int i] k X := fun s vs x r => by
  obtain ⟨u, v, rfl, r₁, r₂⟩ := repAll_two r
  refine r₁.elim ?_; refine r₂.elim fun _ => ?_
  obtain ⟨ws, n, ho, rl⟩ := x.list ea
  have hl : ws.size = ds.length := by simpa using rl.length
  obtain ⟨w, hw, rw'⟩ := rl.get _ hd
  have hlt : i.toNat < ds.length := (List.getElem?_eq_some_iff.mp hd).1
  have hk : seqIndex? i ws.size = some i.toNat := by
    unfold seqIndex?
    have e1 : ¬ i < 0 := by omega
    have e2 : i < (ws.size : Int) := by rw [hl]; omega
    simp [e1, h0, e2]
  have hfit : Builtin.List.listFitsIndex i = true := by
    unfold Builtin.List.listFitsIndex
    rw [sizeLine_eq] at hsz
    simp; omega
  exact call_meets PySem.F.slot_list_pop ⟨_, ho, rfl⟩ PySem.F.entry_list_pop (PySem.F.args_list_pop_2 _ _) (PySem.MeetsSeq.list_pop_at a ws n i _ i.toNat w hfit hk (by simpa using hw) (by omega))
    ⟨ho, list_changed x ea ho (f := fun xs => xs.eraseIdxIfInBounds i.toNat) (fun h t => by rw [toList_erase]; exact repAll_erase (rl.mono t) _) (fun _ t => rw'.mono t) h⟩
theorem map_eraseIdx' {α β : Type} (f : α → β) : ∀ (l : List α) (i : Nat), (l.eraseIdx i).map f = (l.map f).eraseIdx i
  | [], _ => by simp
  | _ :: _, 0 => by simp
  | a :: l, i + 1 => by simp [map_eraseIdx' f l i]
theorem isStr_at {h : Heap} {x : Str} {vs : List Value} {xs : List Str} (r : RepAll h vs (xs.map .str)) {m : Nat} {v : Value} (hv : vs[m]? = some v) : isStr x v = (xs[m]? == some x) := by
  obtain ⟨d, hd, rd⟩ := r.get' m hv
  rw [List.getElem?_map] at hd
  cases q : xs[m]? with
  | none => rw [q] at hd; cases hd
  | some z =>
    rw [q] at hd; cases hd; cases rd
    show (z.cps.toList == x.cps.toList) = _
    rw [toList_beq]; rfl
theorem opc_remove {a : Addr} {xs : List Str} {x : Str} (ea : σ a = some (.list (xs.map .str))) (hsz : xs.length ≤ sizeLine) (hx : x ∈ xs) (h : k .none (σ.set a (.list ((xs.erase x).map .str)))) :
    OpC G A L ρ σ (.builtin "list.remove") [.ref a, .str x] k X := fun s vs z r => by
  obtain ⟨u, v, rfl, r₁, r₂⟩ := repAll_two r
  refine r₁.elim ?_; refine r₂.elim fun _ => ?_
  obtain ⟨ws, n, ho, rl⟩ := z.list ea
  have hl : ws.size = xs.length := by simpa using rl.length
  have hj : xs.idxOf x < xs.length := List.idxOf_lt_length_of_mem hx
  refine call_meets PySem.F.slot_list_remove ⟨_, ho, rfl⟩ PySem.F.entry_list_remove (PySem.F.args_list_remove_2 _ _)
    (PySem.MeetsSeq.list_remove a ws n (.str x _) (isStr x) (fun y hy => eqGives_str rl y (by simpa using hy)) (xs.idxOf x) (by omega) ?_ ?_ (by omega))
    ⟨ho, list_changed z ea ho (f := fun xs' => xs'.eraseIdxIfInBounds (xs.idxOf x)) (fun h t => ?_) (fun _ _ => .none) h⟩
  · have e := isStr_at (x := x) rl (m := xs.idxOf x) (v := ws[xs.idxOf x]'(by omega)) (by simp [hl, hj])
    rw [e]
    simp [hj]
  · intro m hm hlt
    have e := isStr_at (x := x) rl (m := m) (v := ws[m]) (by simp [hm])
    rw [e]
    have : m < xs.length := by omega
    simp only [List.getElem?_eq_getElem this]
    have := List.not_of_lt_findIdx hlt
    simpa using this
  · rw [toList_erase]
    have e : (xs.erase x).map V.str = (xs.map V.str).eraseIdx (xs.idxOf x) := by
      rw [List.erase_eq_eraseIdx_of_idxOf (i := xs.idxOf x) rfl, map_eraseIdx']
    rw [e]; exact repAll_erase (rl.mono t) _
theorem op_add_list {a b : Addr} {xs ys : List V} (ea : σ a = some (.list xs)) (eb : σ b = some (.list ys)) (hsz : xs.length + ys.length ≤ sizeLine) (h : ∀ c, σ c = none → k (.ref c) (σ.set c (.list (xs ++ ys)))) :
    Op2 G A L ρ σ (binaryOp .Add) (.ref a) (.ref b) k X := fun s u v x r₁ r₂ => by
  refine r₁.elim ?_; refine r₂.elim ?_
  obtain ⟨vs, n, ho, ra⟩ := x.list ea
  obtain ⟨ws, m, ho2, rb⟩ := x.list eb
  have hl : vs.size = xs.length := by simpa using ra.length
  have hl2 : ws.size = ys.length := by simpa using rb.length
  refine concat_meets ⟨_, ho, rfl⟩ ⟨_, ho2, rfl⟩ noFill_list_add seq_list_add PySem.F.slot_list_add PySem.F.entry_list_add (PySem.F.args_list_add_2 _ _) (list_addW a b vs ws n m none none #[] #[] (by omega)) ⟨ho, ho2, ?_⟩
  have kp : ∀ b o, s.heap.get? b = some o → (s.heap.push { cls := .type "list", data := .seq (vs ++ ws) }).get? b = some o := fun b o e => Heap.get?_push_of_some _ e
  have hn := Mine.none_at_size s.heap
  exact ⟨_, s.toks, _, _, rfl, .new hn kp, x.newAt (o := .list (xs ++ ys)) hn (Nat.le_of_lt x.big) kp ⟨vs ++ ws, 0, Heap.get?_push_size _ rfl, by simpa using RepAll.append (rb.mono (.of_keeps kp)) (ra.mono (.of_keeps kp))⟩, .ref _, h _ (x.unused hn)⟩
theorem op_add_tup {xs ys : List V} (hsz : xs.length + ys.length ≤ sizeLine) (h : k (.tup (xs ++ ys)) σ) : Op2 G A L ρ σ (binaryOp .Add) (.tup xs) (.tup ys) k X := fun s u v x r₁ r₂ => by
  refine r₁.elim fun a n vs ho ra => ?_
  refine r₂.elim fun b m ws ho2 rb => ?_
  ·
    have hl : vs.size = xs.length := by simpa using ra.length
    have hl2 : ws.size = ys.length := by simpa using rb.length
    by_cases h1 : vs.isEmpty = true
    · have : xs = [] := by have : vs.size = 0 := by simpa using h1
                           rw [hl] at this; exact List.eq_nil_of_length_eq_zero this
      subst this
      exact concat_meets ⟨_, ho, rfl⟩ ⟨_, ho2, rfl⟩ noFill_tuple_add seq_tuple_add PySem.F.slot_tuple_add PySem.F.entry_tuple_add (PySem.F.args_tuple_add_2 _ _) (tuple_addW0 a b vs ws n m none none #[] #[] h1)
        ⟨ho, ho2, .here x (.tup ho2 rb) h⟩
    · by_cases h2 : ws.isEmpty = true
      · have : ys = [] := by have : ws.size = 0 := by simpa using h2
                             rw [hl2] at this; exact List.eq_nil_of_length_eq_zero this
        subst this
        exact concat_meets ⟨_, ho, rfl⟩ ⟨_, ho2, rfl⟩ noFill_tuple_add seq_tuple_add PySem.F.slot_tuple_add PySem.F.entry_tuple_add (PySem.F.args_tuple_add_2 _ _) (tuple_addW1 a b vs ws n m none none #[] #[] h1 h2)
          ⟨ho, ho2, .here x (.tup ho ra) (by simpa using h)⟩
      · refine concat_meets ⟨_, ho, rfl⟩ ⟨_, ho2, rfl⟩ noFill_tuple_add seq_tuple_add PySem.F.slot_tuple_add PySem.F.entry_tuple_add (PySem.F.args_tuple_add_2 _ _) (tuple_addW2 a b vs ws n m none none #[] #[] h1 h2 (by omega))
          ⟨ho, ho2, ?_⟩
        have kp : ∀ b o, s.heap.get? b = some o → (s.heap.push { cls := .type "tuple", data := .seq (vs ++ ws) }).get? b = some o := fun b o e => Heap.get?_push_of_some _ e
        exact ⟨_, s.toks, _, σ, rfl, .keeps kp, x.keeps kp, .tup (vs := vs ++ ws) (n := 0) (Heap.get?_push_size _ rfl) (by simpa using RepAll.append (rb.mono (.of_keeps kp)) (ra.mono (.of_keeps kp))), h⟩
theorem opc_list_of {s : Shared} {l : Addr} {T : String} {o : Obj} {items : Array Value} {n : Nat} {ds : List V} (x : S G L ρ σ s.heap) (hT : T = "list" ∨ T = "tuple") (ho : s.heap.get? l = some o) (hc : o.cls = .type T) (hd : o.data = .seq items n)
    (r : RepAll s.heap items.toList ds) (hsz : ds.length ≤ sizeLine) (h : ∀ c, σ c = none → k (.ref c) (σ.set c (.list ds))) : wpAny (model G.prog G.w) A (call (.type "list") [.ref l]) (Post G L ρ σ s k) X s := by
  have hl : items.size = ds.length := by simpa using r.length
  refine call_list_seq l hT ho hc hd (fun h' c' kp hD => ?_) (by omega)
  have hn := Mine.none_at_size s.heap
  exact ⟨h', s.toks, _, _, rfl, .new hn kp, x.newAt (o := .list ds) hn (Nat.le_of_lt x.big) kp ⟨items, c', hD, r.mono (.of_keeps kp)⟩, .ref _, h _ (x.unused hn)⟩
theorem opc_list_list {a : Addr} {ds : List V} (ea : σ a = some (.list ds)) (hsz : ds.length ≤ sizeLine) (h : ∀ c, σ c = none → k (.ref c) (σ.set c (.list ds))) : OpC G A L ρ σ (.type "list") [.ref a] k X := fun s vs x r => by
  obtain ⟨v, rfl, r₁⟩ := repAll_one r
  refine r₁.elim ?_
  obtain ⟨ws, n, ho, rl⟩ := x.list ea
  exact opc_list_of x (.inl rfl) ho rfl rfl rl hsz h
theorem opc_list_tup {ds : List V} (hsz : ds.length ≤ sizeLine) (h : ∀ c, σ c = none → k (.ref c) (σ.set c (.list ds))) : OpC G A L ρ σ (.type "list") [.tup ds] k X := fun s vs x r => by
  obtain ⟨v, rfl, r₁⟩ := repAll_one r
  refine r₁.elim fun a n ws ho rl => ?_
  exact opc_list_of x (.inr rfl) ho rfl rfl rl hsz h
theorem opc_tuple_list {a : Addr} {ds : List V} (ea : σ a = some (.list ds)) (hsz : ds.length ≤ sizeLine) (h : k (.tup ds) σ) : OpC G A L ρ σ (.type "tuple") [.ref a] k X := fun s vs x r => by
  obtain ⟨v, rfl, r₁⟩ := repAll_one r
  refine r₁.elim ?_
  obtain ⟨ws, n, ho, rl⟩ := x.list ea
  have hl : ws.size = ds.length := by simpa using rl.length
  refine call_tuple_list (isList_of ho) (fun h' kp => ?_) (by omega)
  have kp' : ∀ b o, s.heap.get? b = some o → (h'.push { cls := .type "tuple", data := .seq ws }).get? b = some o := fun b o e => Heap.get?_push_of_some _ (kp b o e)
  exact ⟨_, s.toks, _, σ, rfl, .keeps kp', x.keeps kp', .tup (vs := ws) (n := 0) (Heap.get?_push_size _ rfl) (rl.mono (.of_keeps kp')), h⟩
theorem opc_tuple_tup {ds : List V} (h : k (.tup ds) σ) : OpC G A L ρ σ (.type "tuple") [.tup ds] k X := fun s vs x r => by
  obtain ⟨v, rfl, r₁⟩ := repAll_one r
  refine r₁.elim fun a n ws ho rl => ?_
  exact call_tuple_same ⟨_, ho, rfl, n, rfl⟩ (.here x (.tup ho rl) h)
theorem opc_len_list {a : Addr} {ds : List V} (ea : σ a = some (.list ds)) (hsz : ds.length ≤ sizeLine) (h : k (.int ds.length) σ) : OpC G A L ρ σ (.builtin "len") [.ref a] k X := fun s vs x r => by
  obtain ⟨v, rfl, r₁⟩ := repAll_one r
  refine r₁.elim ?_
  obtain ⟨ws, n, ho, rl⟩ := x.list ea
  have hl : ws.size = ds.length := by simpa using rl.length
  refine call_len_list (isList_of ho) (by rw [sizeLine_eq] at hsz; omega) ?_
  rw [hl]; exact .tok x (.int _ _) h
theorem opc_len_tup {ds : List V} (hsz : ds.length ≤ sizeLine) (h : k (.int ds.length) σ) : OpC G A L ρ σ (.builtin "len") [.tup ds] k X := fun s vs x r => by
  obtain ⟨v, rfl, r₁⟩ := repAll_one r
  refine r₁.elim fun a n ws ho rl => ?_
  ·
    have hl : ws.size = ds.length := by simpa using rl.length
    refine len_tuple (t := a) (items := ws) ⟨_, ho, rfl, n, rfl⟩ (by rw [sizeLine_eq] at hsz; omega) ?_
    rw [hl]; exact .tok x (.int _ _) h
theorem opc_int_int {i : Int} (h : k (.int i) σ) : OpC G A L ρ σ (.type "int") [.int i] k X := fun s vs x r => by
  obtain ⟨v, rfl, r₁⟩ := repAll_one r
  refine r₁.elim fun _ => ?_
  exact call_int_int (.here x (.int _ _) h)
theorem opc_int_bool {b : Bool} (h : k (.int (if b then 1 else 0)) σ) : OpC G A L ρ σ (.type "int") [.bool b] k X := fun s vs x r => by
  obtain ⟨v, rfl, r₁⟩ := repAll_one r
  refine r₁.elim ?_
  exact call_int_bool (.tok x (.int _ _) h)
theorem opc_str_int {i : Int} (hi : i.natAbs.log2 < 1920) (h : k (.str (toString i)) σ) : OpC G A L ρ σ (.type "str") [.int i] k X := fun s vs x r => by
  obtain ⟨v, rfl, r₁⟩ := repAll_one r
  refine r₁.elim fun _ => ?_
  exact PySem.P.str_of_int hi (.tok x (.str _ _) h)
end
end Mine
namespace Mine
inductive SD (h : Heap) : List (Str × Value) → List (Str × V) → Prop
  | nil : SD h [] []
  | cons {k v d xs es} : Rep h v d → SD h xs es → SD h ((k, v) :: xs) ((k, d) :: es)
theorem SD.of {h : Heap} : ∀ {kvs : List (Str × Value)} {es : List (Str × V)}, kvs.map (·.1) = es.map (·.1) → RepAll h (kvs.map (·.2)) (es.map (·.2)) → SD h kvs es
  | [], [], _, _ => .nil
  | [], _ :: _, e, _ => by simp at e
  | _ :: _, [], e, _ => by simp at e
  | (k, v) :: xs, (k', d) :: es, e, r => by
    simp only [List.map_cons, List.cons.injEq] at e
    obtain ⟨rfl, e⟩ := e
    cases r with | cons a r => exact .cons a (SD.of e r)
theorem SD.to {h : Heap} {kvs : List (Str × Value)} {es : List (Str × V)} (x : SD h kvs es) : kvs.map (·.1) = es.map (·.1) ∧ RepAll h (kvs.map (·.2)) (es.map (·.2)) := by
  induction x with
  | nil => exact ⟨rfl, .nil⟩
  | cons a _ ih => exact ⟨by simp [ih.1], .cons a ih.2⟩
theorem SD.length {h : Heap} {kvs : List (Str × Value)} {es : List (Str × V)} (x : SD h kvs es) : kvs.length = es.length := by
  induction x with | nil => rfl | cons _ _ ih => simp [ih]
theorem SD.mono {h h' : Heap} (t : TupK h h') {kvs : List (Str × Value)} {es : List (Str × V)} (x : SD h kvs es) : SD h' kvs es := by
  induction x with | nil => exact .nil | cons a _ ih => exact .cons (a.mono t) ih
theorem SD.get {h : Heap} {kvs : List (Str × Value)} {es : List (Str × V)} (x : SD h kvs es) (k : Str) : match Loc.get es k with
    | some d => ∃ v, valueAt kvs k = some v ∧ Rep h v d
    | none => valueAt kvs k = none := by
  induction x with
  | nil => rfl
  | @cons k' v d xs es a _ ih =>
    unfold Loc.get valueAt
    rw [List.find?_cons]
    by_cases q : k' = k
    · subst q; simp; exact a
    · have q' : ¬ k = k' := fun e => q e.symm
      simp only [q, q', if_false, decide_false]
      exact ih
def vput (es : List (Str × V)) (k : Str) (d : V) : List (Str × V) :=
  if es.any (fun kv => kv.1 = k) then es.map (fun kv => if kv.1 = k then (kv.1, d) else kv) else es ++ [(k, d)]
theorem SD.any {h : Heap} {kvs : List (Str × Value)} {es : List (Str × V)} (x : SD h kvs es) (k : Str) : kvs.any (fun kv => kv.1 = k) = es.any (fun kv => kv.1 = k) := by
  induction x with | nil => rfl | cons _ _ ih => simp only [List.any_cons, ih]
theorem SD.snoc {h : Heap} {kvs : List (Str × Value)} {es : List (Str × V)} (x : SD h kvs es) {k : Str} {v d} (r : Rep h v d) : SD h (kvs ++ [(k, v)]) (es ++ [(k, d)]) := by
  induction x with | nil => exact .cons r .nil | cons a _ ih => exact .cons a ih
theorem SD.replace {h : Heap} {kvs : List (Str × Value)} {es : List (Str × V)} (x : SD h kvs es) {k : Str} {v d} (r : Rep h v d) : SD h (kvs.map (fun kv => if kv.1 = k then (kv.1, v) else kv)) (es.map (fun kv => if kv.1 = k then (kv.1, d) else kv)) := by
  induction x with
  | nil => exact .nil
  | @cons k' v' d' xs es a _ ih =>
    simp only [List.map_cons]
    by_cases q : k' = k
    · simp only [q, if_true]; exact .cons r ih
    · simp only [q, if_false]; exact .cons a ih
theorem SD.stored {h : Heap} {kvs : List (Str × Value)} {es : List (Str × V)} (x : SD h kvs es) {k : Str} {v d} (r : Rep h v d) : SD h (PySem.stored kvs k v) (vput es k d) := by
  unfold PySem.stored vput
  rw [x.any k]
  split
  · exact x.replace r
  · exact x.snoc r
def vmerge (es more : List (Str × V)) : List (Str × V) := more.foldl (fun acc kv => vput acc kv.1 kv.2) es
theorem SD.merged {h : Heap} {more : List (Str × Value)} {ms : List (Str × V)} (y : SD h more ms) : ∀ {kvs : List (Str × Value)} {es : List (Str × V)}, SD h kvs es → SD h (PySem.merged kvs more) (vmerge es ms) := by
  induction y with
  | nil => exact fun x => x
  | cons a _ ih => exact fun x => ih (x.stored a)
theorem vput_length (es : List (Str × V)) (k : Str) (d : V) : (vput es k d).length ≤ es.length + 1 := by
  unfold vput; split <;> simp
section
variable {G : Amb} {A : Around} {env : Env} {L : Addr} {ρ : Loc} {σ : St} {X : Value → Shared → Prop} {k : V → St → Prop}
theorem S.sdict {h : Heap} {a : Addr} {es : List (Str × V)} (x : S G L ρ σ h) {ep : Nat} (e : σ a = some (.sdict ep es)) : ∃ kvs, h.DictOf (PySem.strKind G.prog G.w) a kvs ∧ SD h kvs es :=
  let ⟨kvs, hd, hk, hv⟩ := x.obj a _ e; ⟨kvs, hd.dictOf, .of hk hv⟩
theorem sdict_rep {prog : Program} {w : World} {h : Heap} {a : Addr} {kvs es} {ep : Nat} (hd : h.DictAt (PySem.strKind prog w) a kvs ep) (x : SD h kvs es) : RepObj prog w h a (.sdict ep es) := ⟨kvs, hd, x.to.1, x.to.2⟩
theorem key_str (prog : Program) (w : World) (x : Str) (t : Tok) : (PySem.strKind prog w).is x (.str x t) = true := by simp [PySem.strKind, Value.isStrOf]
theorem dict_no_tuple {prog : Program} {w : World} {h : Heap} {a : Addr} {kvs} (hd : h.DictOf (PySem.strKind prog w) a kvs) : ∃ o, h.get? a = some o ∧ ¬ Tuple? o := by
  obtain ⟨o, es, ep, ho, _, hdt, _⟩ := hd
  exact ⟨o, ho, fun ⟨_, xs, n, t⟩ => by rw [hdt] at t; cases t⟩
theorem sdict_changed {s : Shared} {a : Addr} {es es' : List (Str × V)} {kvs' : List (Str × Value)} {h' : Heap} {ep : Nat} (x : S G L ρ σ s.heap) (ea : σ a = some (.sdict ep es)) (hs : Heap.SameBut a s.heap h')
    (hd : h'.DictOf (PySem.strKind G.prog G.w) a kvs') (r : SD s.heap kvs' es') {v : Value} {d : V} {tk : Nat} (hv : Rep s.heap v d) (h : ∀ ep', k d (σ.set a (.sdict ep' es'))) :
    Post G L ρ σ s k v { s with heap := h', toks := tk } := by
  obtain ⟨kvs, hd0, _⟩ := x.sdict ea
  obtain ⟨o, ho, nt⟩ := dict_no_tuple hd0
  have tkp : TupK s.heap h' := tupK_sameBut hs ho nt
  obtain ⟨ep', hd'⟩ := hd.dictAt
  have x' : RepObj G.prog G.w h' a (.sdict ep' es') := sdict_rep hd' (r.mono tkp)
  exact ⟨_, tk, d, _, rfl, Ext.upd ea (x.obj a _ ea) hs x', x.upd ea hs x', hv.mono tkp, h _⟩
theorem op_in_sdict {a : Addr} {x : Str} {ep : Nat} {es : List (Str × V)} (ea : σ a = some (.sdict ep es)) (h : k (.bool (Loc.get es x).isSome) σ) : Op2 G A L ρ σ (compareOp .In) (.str x) (.ref a) k X := fun s u v z r₁ r₂ => by
  refine r₁.elim fun _ => ?_; refine r₂.elim ?_
  obtain ⟨kvs, hd, q⟩ := z.sdict ea
  refine wpAny_in_of (key_str ..) (z.notMod (by rw [ea]; simp)) hd.mapOf ?_
  have g := q.get x
  cases e : Loc.get es x with
  | none => rw [e] at g h; rw [g]; exact .tok z (.bool _) h
  | some d => rw [e] at g h; obtain ⟨v, e2, _⟩ := g; rw [e2]; exact .tok z (.bool _) h
theorem op_notIn_sdict {a : Addr} {x : Str} {ep : Nat} {es : List (Str × V)} (ea : σ a = some (.sdict ep es)) (h : k (.bool (!(Loc.get es x).isSome)) σ) : Op2 G A L ρ σ (compareOp .NotIn) (.str x) (.ref a) k X := fun s u v z r₁ r₂ => by
  refine r₁.elim fun _ => ?_; refine r₂.elim ?_
  obtain ⟨kvs, hd, q⟩ := z.sdict ea
  refine wpAny_notIn_of (key_str ..) (z.notMod (by rw [ea]; simp)) hd.mapOf ?_
  have g := q.get x
  cases e : Loc.get es x with
  | none => rw [e] at g h; rw [g]; exact .tok z (.bool _) h
  | some d => rw [e] at g h; obtain ⟨v, e2, _⟩ := g; rw [e2]; exact .tok z (.bool _) h
theorem op_item_sdict {e₁ e₂ : Expr} {a : Addr} {x : Str} {ep : Nat} {es : List (Str × V)} {d : V} (ea : σ a = some (.sdict ep es)) (hd : Loc.get es x = some d) (h : k d σ)
    (hs : ∀ t, subscripted e₂ false (.ref a) (.str x t) = operate [.ref a, .str x t] (getItem (.ref a) (.str x t)) := by intro _; with_unfolding_all rfl) : Op2 G A L ρ σ (subscriptTail e₁ e₂) (.ref a) (.str x) k X := fun s u v z r₁ r₂ => by
  refine r₁.elim ?_; refine r₂.elim fun _ => ?_
  obtain ⟨kvs, hm, q⟩ := z.sdict ea
  have g := q.get x
  rw [hd] at g
  obtain ⟨v, e2, r⟩ := g
  exact tail_any hm.typeIs slot_dict_getitem.lookup (wpAny_getItem_of (key_str ..) hm.mapOf e2 (.tok z r h)) (hs _)
def Op3 (G : Amb) (A : Around) (L : Addr) (ρ : Loc) (σ : St) (f : Value → Value → Value → Sem Unit) (a b c : V) (k : St → Prop) (X : Value → Shared → Prop) : Prop :=
  ∀ s u v w, S G L ρ σ s.heap → Rep s.heap u a → Rep s.heap v b → Rep s.heap w c → wpAny (model G.prog G.w) A (f u v w) (fun _ => Post G L ρ σ s (fun d σ' => d = .none ∧ k σ') .none) X s
theorem set_sdict {a : Addr} {x : Str} {ep : Nat} {es : List (Str × V)} {d : V} {k : St → Prop} (ea : σ a = some (.sdict ep es)) (hsz : es.length ≤ sizeLine) (h : ∀ ep', k (σ.set a (.sdict ep' (vput es x d)))) : Op3 G A L ρ σ setItem (.ref a) (.str x) d k X := fun s u v w z r₁ r₂ r₃ => by
  refine r₁.elim ?_; refine r₂.elim fun _ => ?_
  obtain ⟨kvs, hm, q⟩ := z.sdict ea
  exact wpAny_setItem_pairs (key_str ..) hm (fun h' hd hs => sdict_changed (tk := s.toks + 1) z ea hs hd (q.stored r₃) .none (fun ep' => ⟨rfl, h ep'⟩)) (by rw [q.length]; exact hsz)
theorem sv_AssignSub {o i value : Expr} {pos' pos : Pos} {k : AF → Loc → St → Prop}
    (h : EV G A env ρ σ value (fun d σ₁ => EV G A env ρ σ₁ o (fun a σ₂ => EV G A env ρ σ₂ i (fun b σ₃ => Op3 G A env.locals ρ σ₃ setItem a b d (fun σ₄ => k .next ρ σ₄) X) X) X) X)
    (hs : swapsWith value (some (.Subscript o i pos')) pos.line env = pure false := by rfl) : SV G A env ρ σ (exec (.Assign [.Subscript o i pos'] value pos) env) k X := fun s x => by
  refine wpAny_Assign_Subscript (wpAny_mono (h s x) (fun v s₁ p => ?_) fun _ _ e => e) hs
  refine p.elim fun h₁ t₁ d σ₁ E₁ x₁ r₁ q₁ => ?_
  refine wpAny_mono (q₁ _ x₁) (fun ov s₂ p => ?_) fun _ _ e => e
  refine p.elim fun h₂ t₂ a σ₂ E₂ x₂ r₂ q₂ => ?_
  refine wpAny_mono (q₂ _ x₂) (fun iv s₃ p => ?_) fun _ _ e => e
  refine p.elim fun h₃ t₃ b σ₃ E₃ x₃ r₃ q₃ => ?_
  refine wpAny_mono (q₃ _ ov iv v x₃ (r₂.mono E₃.tup) r₃ ((r₁.mono E₂.tup).mono E₃.tup)) (fun _ s₄ p => ?_) fun _ _ e => e
  refine p.elim fun h₄ t₄ _ σ₄ E₄ x₄ _ q₉ => ?_; obtain ⟨rfl, q₄⟩ := q₉
  exact ⟨h₄, t₄, .next, ρ, σ₄, rfl, (((E₁.trans E₂).trans E₃).trans E₄).toS, x₄, trivial, q₄⟩
theorem opc_update {a b : Addr} {ep eq : Nat} {es ms : List (Str × V)} (ea : σ a = some (.sdict ep es)) (eb : σ b = some (.sdict eq ms)) (hab : a ≠ b) (hsz : es.length + ms.length ≤ sizeLine) (h : ∀ ep', k .none (σ.set a (.sdict ep' (vmerge es ms)))) :
    OpC G A L ρ σ (.builtin "dict.update") [.ref a, .ref b] k X := fun s vs x r => by
  obtain ⟨u, v, rfl, r₁, r₂⟩ := repAll_two r
  refine r₁.elim ?_; refine r₂.elim ?_
  obtain ⟨kvs, hd, q⟩ := x.sdict ea
  obtain ⟨more, hd2, q2⟩ := x.sdict eb
  exact call_meetsIn PySem.F.slot_dict_update hd.typeIs PySem.F.entry_dict_update (PySem.F.args_dict_update_2 _ _) (meets_dict_update (PySem.strKind G.prog G.w) a b hab (x.notMod (by rw [eb]; simp)))
    ⟨kvs, more, hd, hd2, by rw [q.length, q2.length]; exact hsz, fun h' hd' _ hs => sdict_changed (tk := s.toks) x ea hs hd' (q2.merged q) .none h⟩
theorem ev_Dict0 {pos : Pos} (h : ∀ a ep, σ a = none → k (.ref a) (σ.set a (.sdict ep []))) : EV G A env ρ σ (.Dict [] [] pos) k X := fun s x => by
  refine wpAny_Dict_empty ?_
  have kp : ∀ b o, s.heap.get? b = some o → (s.heap.push { cls := .type "dict", data := .dict #[] }).get? b = some o := fun b o e => Heap.get?_push_of_some _ e
  have hn := Mine.none_at_size s.heap
  obtain ⟨ep, hd⟩ := (Heap.DictOf.new (knd := PySem.strKind G.prog G.w) s.heap).dictAt
  exact ⟨_, s.toks, _, _, rfl, .new hn kp, x.newAt (o := .sdict ep []) hn (Nat.le_of_lt x.big) kp (sdict_rep hd .nil), .ref _, h _ _ (x.unused hn)⟩
theorem ev_Dict0t {pos : Pos} (h : ∀ a, σ a = none → k (.ref a) (σ.set a (.tdict []))) : EV G A env ρ σ (.Dict [] [] pos) k X := fun s x => by
  refine wpAny_Dict_empty ?_
  have kp : ∀ b o, s.heap.get? b = some o → (s.heap.push { cls := .type "dict", data := .dict #[] }).get? b = some o := fun b o e => Heap.get?_push_of_some _ e
  have hn := Mine.none_at_size s.heap
  exact ⟨_, s.toks, _, _, rfl, .new hn kp, x.newAt (o := .tdict []) hn (Nat.le_of_lt x.big) kp ⟨[], Heap.DictOfH.new _, rfl, fun x hx => by simp at hx⟩, .ref _, h _ (x.unused hn)⟩
inductive KV (h : Heap) : List (Value × Value) → List (Str × V) → Prop
  | nil : KV h [] []
  | cons {k t v d xs es} : Rep h v d → KV h xs es → KV h ((.str k t, v) :: xs) ((k, d) :: es)
theorem KV.carries {prog : Program} {w : World} {h : Heap} {vs : List (Value × Value)} {es : List (Str × V)} (x : KV h vs es) : ∃ kvs, Carries (PySem.strKind prog w) vs kvs ∧ SD h kvs es := by
  induction x with
  | nil => exact ⟨[], trivial, .nil⟩
  | @cons k t v d xs es r _ ih => obtain ⟨kvs, c, q⟩ := ih; exact ⟨(k, v) :: kvs, ⟨key_str .., rfl, c⟩, .cons r q⟩
def PV (G : Amb) (A : Around) (env : Env) (ρ : Loc) (σ : St) (ks : List (Option Expr)) (vs : List Expr) (pos : Pos) (k : List (Str × V) → St → Prop) (X : Value → Shared → Prop) : Prop :=
  ∀ s, S G env.locals ρ σ s.heap → wpAny (model G.prog G.w) A (evalPairs (pairTrees ks vs env pos)) (fun xs s' => ∃ h' tk ds σ', s' = { s with heap := h', toks := tk } ∧ Ext σ s.heap h' σ' ∧ S G env.locals ρ σ' h' ∧ KV h' xs ds ∧ k ds σ') X s
theorem pv_nil {pos : Pos} {k : List (Str × V) → St → Prop} (h : k [] σ) : PV G A env ρ σ [] [] pos k X := fun s x => pairTrees_nil_walk ⟨s.heap, s.toks, [], σ, rfl, .refl .., x, .nil, h⟩
theorem pv_cons {e v : Expr} {ks : List (Option Expr)} {vs : List Expr} {pos : Pos} {k : List (Str × V) → St → Prop}
    (h : EV G A env ρ σ e (fun d σ₁ => ∃ x, d = .str x ∧ EV G A env ρ σ₁ v (fun c σ₂ => PV G A env ρ σ₂ ks vs pos (fun es σ₃ => k ((x, c) :: es) σ₃) X) X) X) : PV G A env ρ σ (some e :: ks) (v :: vs) pos k X := fun s x => by
  refine pairTrees_cons_walk (wpAny_mono (h s x) (fun kv s₁ p => ?_) fun _ _ e => e)
  refine p.elim fun h₁ t₁ d σ₁ E₁ x₁ r₁ q₉ => ?_; obtain ⟨y, rfl, q₁⟩ := q₉
  refine wpAny_mono (q₁ _ x₁) (fun vv s₂ p => ?_) fun _ _ e => e
  refine p.elim fun h₂ t₂ c σ₂ E₂ x₂ r₂ q₂ => ?_
  refine wpAny_mono (q₂ _ x₂) (fun xs s₃ p => ?_) fun _ _ e => e
  obtain ⟨h₃, t₃, ds, σ₃, rfl, E₃, x₃, r₃, q₃⟩ := p
  cases r₁
  exact ⟨h₃, t₃, _, σ₃, rfl, (E₁.trans E₂).trans E₃, x₃, .cons (r₂.mono E₃.tup) r₃, q₃⟩
theorem ev_Dict {ks : List (Option Expr)} {vs : List Expr} {pos : Pos} (h : ∀ a ep, σ a = none → PV G A env ρ (σ.set a (.sdict ep [])) ks vs pos (fun es σ' => σ' a = some (.sdict ep []) ∧ ∀ ep', k (.ref a) (σ'.set a (.sdict ep' (vmerge [] es)))) X)
    (hall : ks.all (·.isSome) = true := by rfl) (hl : ks.length = vs.length := by rfl) (h0 : ks ≠ [] := by simp) (hlen : ks.length ≤ 15 := by simp) : EV G A env ρ σ (.Dict ks vs pos) k X := fun s x => by
  have kp : ∀ b o, s.heap.get? b = some o → (s.heap.push { cls := .type "dict", data := .dict #[] }).get? b = some o := fun b o e => Heap.get?_push_of_some _ e
  have hn := Mine.none_at_size s.heap
  obtain ⟨ep, hd⟩ := (Heap.DictOf.new (knd := PySem.strKind G.prog G.w) s.heap).dictAt
  have x' : S G env.locals ρ (σ.set s.heap.objs.size (.sdict ep [])) _ := x.newAt (o := .sdict ep []) hn (Nat.le_of_lt x.big) kp (sdict_rep hd .nil)
  refine wpAny_Dict_walk (knd := PySem.strKind G.prog G.w) hall hl h0 hlen (wpAny_mono (h _ _ (x.unused hn) { s with heap := s.heap.push { cls := .type "dict", data := .dict #[] } } x') (fun xs s₁ p => ?_) fun _ _ e => e)
  obtain ⟨h₁, t₁, ds, σ₁, rfl, E₁, x₁, r₁, ea, q₁⟩ := p
  obtain ⟨kvs, hc, hq⟩ := r₁.carries (prog := G.prog) (w := G.w)
  obtain ⟨kv0, hd0, q0⟩ := x₁.sdict ea
  cases q0
  refine ⟨kvs, hc, hd0, fun h' hd hs => ?_⟩
  exact Post.trans (tk := t₁) ((Ext.new hn kp).trans E₁) (sdict_changed (s := { s with heap := h₁, toks := t₁ }) (tk := t₁ + xs.length) x₁ ea hs hd (hq.merged .nil) (.ref _) q₁)
theorem rep_strs_items {prog : Program} {w : World} {h : Heap} : ∀ {vs : List Value} {xs : List Str}, RepAll h vs (xs.map .str) → ItemsAre (PySem.strKind prog w) xs vs
  | _, [], .nil => .nil
  | _, _ :: _, .cons a r => by cases a; exact .cons (key_str ..) (rep_strs_items r)
theorem tup_key {prog : Program} {w : World} {h : Heap} {u : Value} {xs : List Str} (r : Rep h u (.tup (xs.map .str))) : ∃ b, u = .ref b ∧ (tupleKind (PySem.strKind prog w)).is h xs b ∧ ∃ vs n, h.get? b = some (tupOf vs n) := by
  cases r with
  | @tup b n vs _ ho ra => exact ⟨b, rfl, ⟨_, vs, n, ho, rfl, rfl, rep_strs_items ra⟩, vs, n, ho⟩
theorem atKey_isSome {K : Type} [DecidableEq K] (xs : List (K × Addr × Value)) (k : K) [Decidable (k ∈ xs.map (·.1))] : (atKey xs k).isSome = decide (k ∈ xs.map (·.1)) := by
  unfold atKey
  rw [Option.isSome_map, Bool.eq_iff_iff]
  simp [List.find?_isSome]
theorem op_in_tdict {a : Addr} {xs : List Str} {ks : List (List Str)} {n : Nat} (R : Room A n) (ea : σ a = some (.tdict ks)) (h : k (.bool (decide (xs ∈ ks))) σ) : Op2 G A L ρ σ (compareOp .In) (.tup (xs.map .str)) (.ref a) k X := fun s u v z r₁ r₂ => by
  refine r₂.elim ?_
  obtain ⟨b, rfl, hk, _⟩ := tup_key (prog := G.prog) (w := G.w) r₁
  obtain ⟨ys, hm, rfl, _⟩ := z.obj a _ ea
  refine wpAny_in_heap (tupleKind_room_in1 (by have := R.units; omega)) hk (z.notMod (by rw [ea]; simp)) hm ?_
  rw [atKey_isSome]; exact .tok z (.bool _) h
theorem set_tdict {a : Addr} {xs : List Str} {ks : List (List Str)} {n : Nat} {d : V} {k : St → Prop} (R : Room A n) (ea : σ a = some (.tdict ks)) (hsz : ks.length ≤ sizeLine) (h : k (σ.set a (.tdict (if xs ∈ ks then ks else ks ++ [xs])))) :
    Op3 G A L ρ σ setItem (.ref a) (.tup (xs.map .str)) d k X := fun s u v w z r₁ r₂ r₃ => by
  refine r₁.elim ?_
  obtain ⟨b, rfl, hk, hb⟩ := tup_key (prog := G.prog) (w := G.w) r₂
  obtain ⟨ys, hm, hky, hall⟩ := z.obj a _ ea
  refine wpAny_setItem_heap (tupleKind_room_in1 (by have := R.units; omega)) hk hm (fun h' hd hs => ?_) (by rw [← hky] at hsz; simpa using hsz)
  obtain ⟨o, es, ep, ho, _, hdt, _⟩ := id hm
  have tkp : TupK s.heap h' := tupK_sameBut hs ho fun ⟨_, xs, n, t⟩ => by rw [hdt] at t; cases t
  have x' : RepObj G.prog G.w h' a (.tdict (if xs ∈ ks then ks else ks ++ [xs])) := by
    refine ⟨_, hd, ?_, ?_⟩
    · have e := atKey_isSome ys xs
      rw [hky] at e
      unfold storedH
      by_cases q : xs ∈ ks
      · rw [if_pos q, e, if_pos (by simpa using q), ← hky, List.map_map]
        refine List.map_congr_left fun y _ => ?_
        simp only [Function.comp, putAt]; split <;> rfl
      · rw [if_neg q, e, if_neg (by simpa using q), ← hky]; simp
    · intro y hy
      unfold storedH at hy
      have go : (∃ vs n, s.heap.get? y.2.1 = some (tupOf vs n)) → ∃ vs n, h'.get? y.2.1 = some (tupOf vs n) := fun ⟨vs, n, q⟩ => ⟨vs, n, tkp _ _ _ q⟩
      split at hy
      · obtain ⟨y', hy', rfl⟩ := List.mem_map.mp hy
        refine go ?_
        have := hall y' hy'
        unfold putAt; split <;> exact this
      · rcases List.mem_append.mp hy with hy | hy
        · exact go (hall y hy)
        · rw [List.mem_singleton] at hy; subst hy; exact go hb
  exact ⟨_, _, _, _, rfl, Ext.upd ea (z.obj a _ ea) hs x', z.upd ea hs x', .none, rfl, h⟩
end
end Mine
namespace Mine
section
variable {G : Amb} {A : Around} {env : Env} {L : Addr} {ρ : Loc} {σ : St} {X : Value → Shared → Prop}
theorem osa_here {prog : Program} {w : World} {K : Frag} {s : Shared} {x C dx : Addr} {R : Result → Shared → Prop} {name : Str} {tk : Tok} {v : Value} {es : List DictEntry} {n : Nat} (X : K.In s.heap)
    (I : InstAt s.heap x (instObj C dx) C (some (dictOf es n))) (D : s.heap.get? dx = some (dictOf es n)) (hp : plainOver K C = true) (ht : takerIn K C name = some none) (hh : hasDictIn K C = true)
    (hl : (lookIn name (dictOf es n)).isSome = true) (hz : es.length < 1000)
    (h : ∀ h', Heap.SameBut dx s.heap h' → h'.get? dx = some (dictOf (putL name (PyData.keyHash w.params name) (.str name s.toks) v es) (putN name es n)) → R (.ok (.ret .none)) { s with heap := h', toks := s.toks + 1 }) :
    codeAny (model prog w) A (.call (.builtin "object.__setattr__") ⟨[.ref x, .str name tk, v], []⟩) R s := by
  refine osa_open X I hp ht fun b => ?_
  obtain ⟨cd, hc, hd'⟩ := any_some hh
  have D' : (s.heap.update dx (Obj.putName name (PyData.keyHash w.params name) (.str name s.toks) v)).get? dx = some (dictOf (putL name (PyData.keyHash w.params name) (.str name s.toks) v es) (putN name es n)) := by
    rw [Heap.get?_update_self _ D (by rw [putName_dict]; rfl), putName_dict]
  have hx := I.1
  have hlen : (putL name (PyData.keyHash w.params name) (.str name s.toks) v es).length ≤ es.length + 1 := by
    generalize PyData.keyHash w.params name = hsh
    clear h D D' hz hl I
    induction es with
    | nil => simp [putL]
    | cons e r ih => unfold putL; split <;> simp <;> omega
  refine wpAny_bind (wpAny_pure (wpAny_bind (wpAny_bind (wpAny_loadPart hx (wpAny_bind ((looks_clsIn X hc).here ?_))))))
  rw [hd']
  refine wpAny_pure (a := some dx) (wpAny_bind (wpAny_pure (wpAny_bind ?_)))
  unfold nsSet
  refine wpAny_bind (wpAny_bind (wpAny_askSetting (wpAny_pure (wpAny_bind (wpAny_mkText (wpAny_bind (wpAny_loadPart D ?_)))))))
  rw [lookIn_dict] at hl
  unfold getL at hl
  dsimp only
  have c : (!es.toArray.any (·.key.isStr name) && es.toArray.any (·.refKey)) = false := by
    rw [← Array.any_toList, ← Array.any_toList]
    split at hl
    · rename_i en he
      rw [List.any_eq_true.mpr ⟨en, List.mem_of_find?_eq_some he, List.find?_some he⟩]; rfl
    · split at hl
      · cases hl
      · rename_i z; rw [Bool.not_eq_true] at z; show (_ && es.any (·.refKey)) = false; rw [z, Bool.and_false]
  rw [aRefKeyMayBeTheName_at, c]
  refine wpAny_updatePart D ?_
  refine wpAny_bind (wpAny_lookBehind D' (pastItsLine_dict (by rw [List.size_toArray, sizeLine_eq]; omega)) ?_)
  exact wpAny_pure (h _ (Heap.SameBut.update ..) D')
theorem attrs_put {w : World} {h : Heap} {name : Str} {tk : Tok} {v : Value} {d : V} (r : Rep h v d) : ∀ {es : List DictEntry} {ps : List (Str × V)}, AttrsRep w h es ps → AttrsRep w h (putL name (PyData.keyHash w.params name) (.str name tk) v es) (Loc.put ps name d)
  | _, _, .nil => .cons ⟨⟨tk, rfl⟩, rfl, r⟩ .nil
  | _, _, .cons (e := e) (p := p) (es := es) (ps := ps) a q => by
    obtain ⟨y, e0⟩ := p
    obtain ⟨t, ht⟩ := a.key
    have hk : e.key.isStr name = decide (name = y) := by
      rw [ht]
      show (y == name) = _
      by_cases z : name = y
      · subst z; simp
      · simp [z]; exact fun w => z w.symm
    unfold putL Loc.put
    rw [hk]
    by_cases z : name = y
    · simp only [z, decide_true, if_true]; exact .cons ⟨⟨t, ht⟩, a.hash, r⟩ q
    · simp only [z, decide_false, if_false]; exact .cons a (attrs_put r q)
theorem attrs_length {w : World} {h : Heap} {es : List DictEntry} {ps : List (Str × V)} (x : AttrsRep w h es ps) : es.length = ps.length := by
  induction x with | nil => rfl | cons _ _ ih => simp [ih]
structure SetAt (K : Frag) (C : Addr) (name : Str) : Prop where
  set : findIn K (.ref C) "__setattr__" = some (some (.builtin "object.__setattr__"))
  over : plainOver K C = true
  taker : takerIn K C name = some none
  dict : hasDictIn K C = true
theorem set_attr {a C dx : Addr} {ps : List (Str × V)} {name : Str} {d : V} {k : St → Prop} {s : Shared} {v : Value} (x : S G L ρ σ s.heap) (ea : σ a = some (.inst C dx)) (ed : σ dx = some (.attrs ps)) (H : SetAt G.K C name) (hz : ps.length < 1000)
    (r : Rep s.heap v d) (h : k (σ.set dx (.attrs (Loc.put ps name d)))) :
    wpAny (model G.prog G.w) A (setAttr (.ref a) name v) (fun _ => Post G L ρ σ s (fun d σ' => d = .none ∧ k σ') .none) X s := by
  obtain ⟨es, n, I, q, ho⟩ := x.instAt ea ed
  refine set_plain x.In I H.set (osa_here (s := { s with toks := s.toks + 1 }) x.In I ho H.over H.taker H.dict ?_ (by rw [attrs_length q]; exact hz) fun h' hs D => ?_)
  · rw [lookIn_dict]
    have g := attrs_get (name := name) q
    split at g
    · obtain ⟨v, e, _⟩ := g; rw [e]; rfl
    · rw [g]; rfl
  · have tkp : TupK s.heap h' := tupK_sameBut hs ho fun ⟨_, xs, n, t⟩ => by cases t
    have x' : RepObj G.prog G.w h' dx (.attrs (Loc.put ps name d)) := ⟨_, _, D, attrs_put (r.mono tkp) (q.mono tkp)⟩
    exact ⟨h', _, .none, _, rfl, Ext.upd ed (x.obj dx _ ed) hs x', x.upd ed hs x', .none, rfl, h⟩
theorem sv_AssignAttr {o value : Expr} {name : Str} {pos' pos : Pos} {k : AF → Loc → St → Prop}
    (h : EV G A env ρ σ value (fun d σ₁ => EV G A env ρ σ₁ o (fun c σ₂ => ∃ a C dx ps, c = .ref a ∧ σ₂ a = some (.inst C dx) ∧ σ₂ dx = some (.attrs ps) ∧ SetAt G.K C name ∧ ps.length < 1000 ∧ k .next ρ (σ₂.set dx (.attrs (Loc.put ps name d)))) X) X)
    (hs : swapsWith value (some (.Attribute o name pos')) pos.line env = pure false := by rfl) : SV G A env ρ σ (exec (.Assign [.Attribute o name pos'] value pos) env) k X := fun s x => by
  refine plainObj_wpAny_Assign_Attribute (wpAny_mono (h s x) (fun v s₁ p => ?_) fun _ _ e => e) hs
  refine p.elim fun h₁ t₁ d σ₁ E₁ x₁ r₁ q₁ => ?_
  refine wpAny_mono (q₁ _ x₁) (fun ov s₂ p => ?_) fun _ _ e => e
  refine p.elim fun h₂ t₂ c σ₂ E₂ x₂ r₂ q₉ => ?_; obtain ⟨a, C, dx, ps, rfl, ea, ed, H, hz, q₂⟩ := q₉
  cases r₂
  refine wpAny_mono (set_attr (k := fun σ₃ => k .next ρ σ₃) x₂ ea ed H hz (r₁.mono E₂.tup) q₂) (fun _ s₄ p => ?_) fun _ _ e => e
  refine p.elim fun h₄ t₄ _ σ₄ E₄ x₄ _ q₉ => ?_; obtain ⟨rfl, q₄⟩ := q₉
  exact ⟨h₄, t₄, .next, ρ, σ₄, rfl, ((E₁.trans E₂).trans E₄).toS, x₄, trivial, q₄⟩
theorem sv_AssignCell {x : Str} {pos' pos : Pos} {value : Expr} {c : Addr} {k : AF → Loc → St → Prop} (h : EV G A env ρ σ value (fun d σ' => (∃ d₀, σ' c = some (.cell d₀)) ∧ k .next ρ (σ'.set c (.cell (some d)))) X)
    (hc : env.cells.lookup x = some c := by rfl) (hk : env.scope.kind = .function := by rfl) (hl : env.kindOf x = some .cell := by rfl)
    (hs : swapsWith value (some (.Name x pos')) pos.line env = pure false := by rfl) :
    SV G A env ρ σ (exec (.Assign [.Name x pos'] value pos) env) k X := fun s z => by
  refine wpAny_Assign_Name (wpAny_mono (h s z) (fun v s' p => ?_) fun _ _ e => e) hs
  refine p.elim fun h' tk d σ' E x' r q₉ => ?_; obtain ⟨⟨d₀, hσ⟩, hk'⟩ := q₉
  exact store_cell hk hl hc hσ x' r fun h2 E2 x2 _ => ⟨h2, tk, .next, _, _, rfl, (E.trans E2).toS, x2, trivial, hk'⟩
end
end Mine
namespace Mine
def TS (G : Amb) (A : Around) (env : Env) (ρ : Loc) (σ : St) (t : Value → Sem Unit) (d : V) (k : Loc → St → Prop) (X : Value → Shared → Prop) : Prop :=
  ∀ s v, S G env.locals ρ σ s.heap → Rep s.heap v d → wpAny (model G.prog G.w) A (t v) (fun _ => PostS G env.locals σ s (fun φ ρ' σ' => φ = .next ∧ k ρ' σ') .next) X s
def TL (G : Amb) (A : Around) (env : Env) (ρ : Loc) (σ : St) (ts : List (Value → Sem Unit)) (ds : List V) (k : Loc → St → Prop) (X : Value → Shared → Prop) : Prop :=
  ∀ s vs, S G env.locals ρ σ s.heap → RepAll s.heap vs ds → wpAny (model G.prog G.w) A (assignInOrder ts vs) (fun _ => PostS G env.locals σ s (fun φ ρ' σ' => φ = .next ∧ k ρ' σ') .next) X s
section
variable {G : Amb} {A : Around} {env : Env} {ρ : Loc} {σ : St} {X : Value → Shared → Prop} {k : Loc → St → Prop}
theorem tl_nil (h : k ρ σ) : TL G A env ρ σ [] [] k X := fun s vs x r => by
  cases r; exact assignInOrder_nil ⟨s.heap, s.toks, .next, ρ, σ, rfl, .refl .., x, trivial, rfl, h⟩
theorem tl_cons {t : Value → Sem Unit} {ts : List (Value → Sem Unit)} {d : V} {ds : List V} (h : TS G A env ρ σ t d (fun ρ' σ' => TL G A env ρ' σ' ts ds k X) X) : TL G A env ρ σ (t :: ts) (d :: ds) k X := fun s vs x r => by
  cases r with
  | cons a r =>
    refine assignInOrder_cons (wpAny_mono (h s _ x a) (fun _ s₁ p => ?_) fun _ _ e => e)
    refine p.elim fun h₁ t₁ φ ρ₁ σ₁ E₁ x₁ _ q₉ => ?_; obtain ⟨rfl, q₁⟩ := q₉
    exact wpAny_mono (q₁ _ _ x₁ (r.mono E₁.tup)) (fun _ _ q => PostS.trans E₁ q) fun _ _ e => e
theorem ts_local {x : Str} {d : V} (h : k (ρ.put x d) σ) (hk : env.scope.kind = .function := by rfl) (hl : env.kindOf x = some .local := by rfl) : TS G A env ρ σ (storeName env x) d k X := fun s v z r =>
  store_local hk hl z r fun h2 E2 x2 _ => ⟨h2, _, .next, _, σ, rfl, E2, x2, trivial, rfl, h⟩
theorem ts_cell {x : Str} {d : V} {c : Addr} {d₀ : Option V} (hσ : σ c = some (.cell d₀)) (h : k ρ (σ.set c (.cell (some d)))) (hc : env.cells.lookup x = some c := by rfl) (hk : env.scope.kind = .function := by rfl) (hl : env.kindOf x = some .cell := by rfl) :
    TS G A env ρ σ (storeName env x) d k X := fun s v z r =>
  store_cell hk hl hc hσ z r fun h2 E2 x2 _ => ⟨h2, s.toks, .next, _, _, rfl, E2.toS, x2, trivial, rfl, h⟩
theorem ts_bind {x : Str} {d : V} (h : TS G A env ρ σ (storeName env x) d k X) : TS G A env ρ σ (fun v => bindName env x v) d k X := fun s v z r => bindName_ (h s v z r)
theorem ts_Name {x : Str} {pos : Pos} {d : V} (h : TS G A env ρ σ (storeName env x) d k X) : TS G A env ρ σ (assign (.Name x pos) env) d k X := fun s v z r => assign_Name (h s v z r)
theorem S.extBut {L : Addr} {h h' : Heap} (x : S G L ρ σ h) (e : Heap.ExtBut h.objs.size h h') : (∀ b o, h.get? b = some o → h'.get? b = some o) := fun b o q => e b o (Nat.ne_of_lt (Heap.lt_size q)) q
theorem ts_Tuple {elts : List Expr} {c} {pos : Pos} {ds : List V} (hh : A.handled = none) (h : TL G A env ρ σ ((assignEach elts env).map (·.2)) ds k X) (hn : (assignEach elts env).length = ds.length := by rfl) (hstar : (assignEach elts env).findIdx? (·.1) = none := by rfl) :
    TS G A env ρ σ (assign (.Tuple elts c pos) env) (.tup ds) k X := fun s v z r => by
  refine r.elim fun a n vs ho r => ?_
  ·
    have hl : vs.size = ds.length := by simpa using r.length
    refine assign_Tuple_tuple hh (t := a) (items := vs) ⟨_, ho, rfl, n, rfl⟩ (by rw [hn, hl]) hstar fun h' e => ?_
    have kp := z.extBut e
    exact wpAny_mono (h _ _ (z.keeps kp) (r.mono (.of_keeps kp))) (fun _ _ q => PostS.trans (tk := s.toks) (Ext.keeps kp).toS q) fun _ _ e => e
theorem sv_AssignTup {elts : List Expr} {c} {tpos pos : Pos} {value : Expr} {k : AF → Loc → St → Prop} (h : EV G A env ρ σ value (fun d σ' => TS G A env ρ σ' (assign (.Tuple elts c tpos) env) d (fun ρ₂ σ₂ => k .next ρ₂ σ₂) X) X)
    (hs : swapsWithSole [.Tuple elts c tpos] value pos.line env = pure false := by rfl)
    (hw : swappedStores [.Tuple elts c tpos] value env = pure none := by rfl) : SV G A env ρ σ (exec (.Assign [.Tuple elts c tpos] value pos) env) k X := fun s x => by
  refine Assign_Tuple (wpAny_mono (h s x) (fun v s₁ p => ?_) fun _ _ e => e) hs hw
  refine p.elim fun h₁ t₁ d σ₁ E₁ x₁ r₁ q₁ => ?_
  refine wpAny_mono (q₁ _ v x₁ r₁) (fun _ s₂ p => ?_) fun _ _ e => e
  refine p.elim fun h₂ t₂ φ ρ₂ σ₂ E₂ x₂ _ q₉ => ?_; obtain ⟨rfl, q₂⟩ := q₉
  exact ⟨h₂, t₂, .next, ρ₂, σ₂, rfl, E₁.toS.trans E₂, x₂, trivial, q₂⟩
theorem sv_AssignSwap {elts : List Expr} {c} {tpos pos : Pos} {value : Expr} {names : List Str} {k : AF → Loc → St → Prop} (hh : A.handled = none)
    (h : EV G A env ρ σ value (fun d σ' => ∃ ds, d = .tup ds ∧ ds.length = names.length ∧ TL G A env ρ σ' (names.reverse.map fun n => bindName env n) ds.reverse (fun ρ₂ σ₂ => k .next ρ₂ σ₂) X) X)
    (hs : swapsWithSole [.Tuple elts c tpos] value pos.line env = pure false := by rfl)
    (hw : swappedStores [.Tuple elts c tpos] value env = pure (some names) := by rfl) : SV G A env ρ σ (exec (.Assign [.Tuple elts c tpos] value pos) env) k X := fun s x => by
  refine Assign_Tuple_swapped (wpAny_mono (h s x) (fun v s₁ p => ?_) fun _ _ e => e) hs hw
  refine p.elim fun h₁ t₁ d σ₁ E₁ x₁ r₁ q₉ => ?_; obtain ⟨ds, rfl, hl, q₁⟩ := q₉
  refine r₁.elim fun a n vs ho r => ?_
  ·
    have hl2 : vs.size = ds.length := by simpa using r.length
    rw [← hl, ← hl2]
    refine unpackItems_tuple hh (t := a) (items := vs) ⟨_, ho, rfl, n, rfl⟩ fun h' e => ?_
    have kp := x₁.extBut e
    refine wpAny_mono (q₁ _ _ (x₁.keeps kp) ((r.mono (.of_keeps kp)).reverse)) (fun _ s₂ p => ?_) fun _ _ e => e
    refine p.elim fun h₂ t₂ φ ρ₂ σ₂ E₂ x₂ _ q₉ => ?_; obtain ⟨rfl, q₂⟩ := q₉
    exact ⟨h₂, t₂, .next, ρ₂, σ₂, rfl, (E₁.toS.trans (Ext.keeps kp).toS).trans E₂, x₂, trivial, q₂⟩
end
end Mine
namespace Mine
structure Wk (G : Amb) (A : Around) (I : Addr) (W : List Addr) (n : Nat) (item : Nat → V) (need : St → Prop) (at_ : Nat → Heap → Prop) (target : Expr) : Prop where
  frame : ∀ i h h', at_ i h → TupK h h' → (∀ b ∈ W, ∀ o, h.get? b = some o → h'.get? b = some o) → at_ i h'
  live : ∀ i h, at_ i h → ∀ b ∈ W, ∃ o, h.get? b = some o ∧ ¬ Tuple? o
  next : ∀ i (s : Shared) L ρ σ (Q : Option Value → Shared → Prop) (E : Value → Shared → Prop), i < n → S G L ρ σ s.heap → need σ → at_ i s.heap → (∀ b ∈ W, σ b = none) →
    (∀ v s₁, (∀ (Q' : Shared → Prop) (E' : Value → Shared → Prop), (∀ h' tk, Rep h' v (item i) → at_ (i + 1) h' → (∀ b o, b ∉ W → s.heap.get? b = some o → h'.get? b = some o) → Q' { s with heap := h', toks := tk }) →
        wpAny (model G.prog G.w) A (letOwnedTupleGo target (.ref I) v) (fun _ => Q') E' s₁) → Q (some v) s₁) →
    wpAny (model G.prog G.w) A (pyNext (.ref I)) Q E s
  done : ∀ (s : Shared) L ρ σ (Q : Option Value → Shared → Prop) (E : Value → Shared → Prop), S G L ρ σ s.heap → need σ → at_ n s.heap → (∀ b ∈ W, σ b = none) →
    (∀ h' tk, (∀ b o, b ∉ W → s.heap.get? b = some o → h'.get? b = some o) → Q none { s with heap := h', toks := tk }) → wpAny (model G.prog G.w) A (pyNext (.ref I)) Q E s
  self : ∀ i (s : Shared) (Q : Value → Shared → Prop) (E : Value → Shared → Prop), at_ i s.heap → Q (.ref I) s → wpAny (model G.prog G.w) A (pyIter (.ref I)) Q E s
def ItP (G : Amb) (A : Around) (L : Addr) (ρ : Loc) (σ : St) (s : Shared) (target : Expr) (kk : Nat → (Nat → V) → (St → Prop) → St → Prop) (it : Value) (s₂ : Shared) : Prop :=
  ∃ h₂ tk σ₁ I W at_ n item need, it = .ref I ∧ s₂ = { s with heap := h₂, toks := tk } ∧ Ext σ s.heap h₂ σ₁ ∧ S G L ρ σ₁ h₂ ∧ Wk G A I W n item need at_ target ∧ (∀ b ∈ W, s.heap.get? b = none) ∧ (∀ b ∈ W, σ₁ b = none) ∧ at_ 0 h₂ ∧ kk n item need σ₁
@[elab_as_elim] theorem ItP.elim {G A L ρ σ s target kk it s₂} {C : Value → Shared → Prop} (x : ItP G A L ρ σ s target kk it s₂)
    (h : ∀ h₂ tk σ₁ I W at_ n item need, Ext σ s.heap h₂ σ₁ → S G L ρ σ₁ h₂ → Wk G A I W n item need at_ target → (∀ b ∈ W, s.heap.get? b = none) → (∀ b ∈ W, σ₁ b = none) → at_ 0 h₂ → kk n item need σ₁ → C (.ref I) { s with heap := h₂, toks := tk }) : C it s₂ :=
  let ⟨h₂, tk, σ₁, I, W, at_, n, item, need, e1, e2, a, b, c, d, e, f, g⟩ := x; e1 ▸ e2 ▸ h h₂ tk σ₁ I W at_ n item need a b c d e f g
theorem ItP.mono {G A L ρ σ s target kk kk' it s₂} (x : ItP G A L ρ σ s target kk it s₂) (h : ∀ n item need σ₁, kk n item need σ₁ → kk' n item need σ₁) : ItP G A L ρ σ s target kk' it s₂ :=
  let ⟨h₂, tk, σ₁, I, W, at_, n, item, need, e1, e2, a, b, c, d, e, f, g⟩ := x; ⟨h₂, tk, σ₁, I, W, at_, n, item, need, e1, e2, a, b, c, d, e, f, h _ _ _ _ g⟩
def IE (G : Amb) (A : Around) (env : Env) (ρ : Loc) (σ : St) (iter target : Expr) (kk : Nat → (Nat → V) → (St → Prop) → St → Prop) (X : Value → Shared → Prop) : Prop :=
  ∀ s, S G env.locals ρ σ s.heap → wpAny (model G.prog G.w) A (eval iter env) (fun x s₁ => wpAny (model G.prog G.w) A (pyIter x) (ItP G A env.locals ρ σ s target kk) X s₁) X s
theorem IE.mono {G A env ρ σ iter target kk kk' X} (x : IE G A env ρ σ iter target kk X) (h : ∀ n item need σ₁, kk n item need σ₁ → kk' n item need σ₁) : IE G A env ρ σ iter target kk' X := fun s y =>
  wpAny_mono (x s y) (fun _ _ p => wpAny_mono p (fun _ _ p => p.mono h) fun _ _ e => e) fun _ _ e => e
theorem tupK_but {h h' : Heap} {W : List Addr} (k : ∀ b o, b ∉ W → h.get? b = some o → h'.get? b = some o) (nt : ∀ b ∈ W, ∃ o, h.get? b = some o ∧ ¬ Tuple? o) : TupK h h' := fun a xs n e =>
  k a _ (fun m => by obtain ⟨o, ho, t⟩ := nt a m; rw [ho] at e; cases e; exact t ⟨rfl, _, _, rfl⟩) e
theorem S.keepBut {G : Amb} {L ρ σ h h'} {W : List Addr} (x : S G L ρ σ h) (k : ∀ b o, b ∉ W → h.get? b = some o → h'.get? b = some o) (t : TupK h h') (hσ : ∀ b ∈ W, σ b = none) (hL : L ∉ W) (h0 : ∀ b ∈ W, G.h₀.get? b = none) : S G L ρ σ h' := by
  obtain ⟨m, n, r⟩ := x.frame.ns
  refine ⟨fun b o e => k b o (fun q => by rw [h0 b q] at e; cases e) (x.base b o e), fun a o e => (x.obj a o e).mono t fun ob => k a ob (fun q => by rw [hσ a q] at e; cases e), x.new,
    ⟨m, n.at' fun o => k L o hL, fun z d q => let ⟨v, a, b⟩ := r z d q; ⟨v, a, b.mono t⟩⟩, x.off, x.above⟩
theorem ExtS.keepBut {L σ σ' h h' h₁} {W : List Addr} (x : ExtS L σ h h' σ') (k : ∀ b o, b ∉ W → h'.get? b = some o → h₁.get? b = some o) (t : TupK h' h₁) (hW : ∀ b ∈ W, h.get? b = none) : ExtS L σ h h₁ σ' :=
  have off : ∀ b o, h.get? b = some o → b ∉ W := fun b o e q => by rw [hW b q] at e; cases e
  ⟨x.tup.trans t, fun a o ne e q => k a o (off a o q) (x.keep a o ne e q), x.dom, fun a o e => let ⟨o', e'⟩ := x.alive a o e; ⟨o', k a o' (off a o e) e'⟩⟩
theorem ExtS.at {G : Amb} {A I W n item need at_ target} {L σ h h' σ'} (w : Wk G A I W n item need at_ target) {i : Nat} (x : ExtS L σ h h' σ') (st : at_ i h) (hσ : ∀ b ∈ W, σ b = none) (hL : L ∉ W) : at_ i h' ∧ ∀ b ∈ W, σ' b = none :=
  ⟨w.frame i h h' st x.tup fun b m o => x.keep b o (fun q => hL (q ▸ m)) (hσ b m), fun b m => let ⟨o, ho, _⟩ := w.live i h st b m; x.offO (hσ b m) ho⟩
section
variable {G : Amb} {A : Around} {env : Env} {L : Addr} {ρ : Loc} {σ : St} {X : Value → Shared → Prop} {k : AF → Loc → St → Prop}
theorem S.offW {h : Heap} {W : List Addr} (x : S G L ρ σ h) (hW : ∀ b ∈ W, h.get? b = none) : L ∉ W ∧ ∀ b ∈ W, G.h₀.get? b = none :=
  ⟨fun m => (by
    obtain ⟨_, n, _⟩ := x.frame.ns
    obtain ⟨o, _, _, ho, _⟩ := n
    rw [hW _ m] at ho; cases ho), fun b m => (by
    cases q : G.h₀.get? b with
    | none => rfl
    | some o => have := x.base b o q; rw [hW b m] at this; cases this)⟩
theorem sv_For {target iter : Expr} {body : List Stmt} {pos : Pos} (hX : PassesOwn (model G.prog G.w) A env X)
    (h : IE G A env ρ σ iter target (fun n item need σ₁ => ∃ Inv : Nat → Loc → St → Prop, Inv 0 ρ σ₁ ∧ (∀ i ρ σ, Inv i ρ σ → need σ) ∧
      (∀ i ρ₁ σ₁, i < n → Inv i ρ₁ σ₁ → TS G A env ρ₁ σ₁ (assign target env) (item i) (fun ρ₂ σ₂ => SV G A env ρ₂ σ₂ (execs body env) (fun φ ρ₃ σ₃ => match φ with
        | .next => Inv (i + 1) ρ₃ σ₃ | .cont => Inv (i + 1) ρ₃ σ₃ | .brk => k .next ρ₃ σ₃ | .ret d => k (.ret d) ρ₃ σ₃) X) X) ∧
      (∀ ρ₁ σ₁, Inv n ρ₁ σ₁ → k .next ρ₁ σ₁)) X)
    (hs : ∀ x, foldedSetIterable iter env x = pure x := by intro _; rfl) :
    SV G A env ρ σ (exec (.For target iter body [] pos) env) k X := fun s x => by
  refine wpAny_For (wpAny_mono (h s x) (fun v s₁ p => wpAny_mono p (fun it s₂ p => ?_) fun _ _ e => e) fun _ _ e => e) hs
  refine p.elim fun h₂ t₂ σ₁ I W at_ n item need E₁ x₁ w hW hσW st q₉ => ?_; obtain ⟨Inv, h0, hneed, step, done⟩ := q₉
  obtain ⟨hL, hG⟩ := x.offW hW
  refine codeAny_forLoop_any (fun c s' => ∃ h' tk ρ' σ' i, s' = { s with heap := h', toks := tk } ∧ ExtS env.locals σ s.heap h' σ' ∧ S G env.locals ρ' σ' h' ∧ (∀ b ∈ W, σ' b = none) ∧ at_ i h' ∧ Inv i ρ' σ' ∧ i ≤ n ∧ c = n - i) ?_ n
    ⟨h₂, t₂, ρ, σ₁, 0, rfl, E₁.toS, x₁, hσW, st, h0, Nat.zero_le _, rfl⟩
  rintro c s' ⟨h', tk, ρ', σ', i, rfl, E', x', hσ', st', hI, hi, rfl⟩
  by_cases hlt : i < n
  · refine w.next i _ _ _ _ _ _ hlt x' (hneed _ _ _ hI) st' hσ' fun v s₁ hgo => hgo _ _ fun h₃ tk₃ r st₃ kb => ?_
    · have t : TupK h' h₃ := tupK_but kb (w.live _ _ st')
      have x₃ := x'.keepBut kb t hσ' hL hG
      have E₃ := E'.keepBut kb t hW
      refine wpAny_mono (step i _ _ hlt hI _ v x₃ r) (fun _ s₄ p => ?_) fun _ _ e => hX _ _ e
      refine p.elim fun h₄ tk₄ φ ρ₄ σ₄ E₄ x₄ _ q₉ => ?_; obtain ⟨rfl, q₄⟩ := q₉
      obtain ⟨st₄, hσ₄⟩ := E₄.at w st₃ hσ' hL
      refine wpAny_mono (q₄ _ x₄) (fun f s₅ p => ?_) fun _ _ e => hX _ _ e
      refine p.elim fun h₅ tk₅ φ ρ₅ σ₅ E₅ x₅ rf q₅ => ?_
      obtain ⟨st₅, hσ₅⟩ := E₅.at w st₄ hσ₄ hL
      have E := (E₃.trans E₄).trans E₅
      cases f <;> cases φ <;> first | exact rf.elim | skip
      · exact ⟨n - (i + 1), by omega, h₅, tk₅, ρ₅, σ₅, i + 1, rfl, E, x₅, hσ₅, st₅, q₅, hlt, rfl⟩
      · exact ⟨h₅, tk₅, .next, ρ₅, σ₅, rfl, E, x₅, trivial, q₅⟩
      · exact ⟨n - (i + 1), by omega, h₅, tk₅, ρ₅, σ₅, i + 1, rfl, E, x₅, hσ₅, st₅, q₅, hlt, rfl⟩
      · exact ⟨h₅, tk₅, .ret _, ρ₅, σ₅, rfl, E, x₅, rf, q₅⟩
  · obtain rfl : i = n := by omega
    refine w.done _ _ _ _ _ _ x' (hneed _ _ _ hI) st' hσ' fun h₃ tk₃ kb => ?_
    have t : TupK h' h₃ := tupK_but kb (w.live _ _ st')
    exact wpAny_execs_nil ⟨h₃, tk₃, .next, ρ', σ', rfl, (E'.keepBut kb t hW), x'.keepBut kb t hσ' hL hG, trivial, done _ _ hI⟩
def Sub : Loc → Loc → Prop
  | [], _ => True
  | (y, d) :: r, ρ => ρ.get y = some d ∧ Sub r ρ
theorem Sub.get {ρ : Loc} {y : Str} {d : V} : ∀ {ρ₀ : Loc}, Sub ρ₀ ρ → ρ₀.get y = some d → ρ.get y = some d
  | [], _, e => by simp [Loc.get] at e
  | (z, c) :: r, h, e => by
    unfold Loc.get at e
    by_cases q : y = z
    · subst q; rw [if_pos rfl] at e; cases e; exact h.1
    · rw [if_neg q] at e; exact Sub.get h.2 e
theorem S.weak {ρ₀ : Loc} {h : Heap} (x : S G L ρ σ h) (hs : Sub ρ₀ ρ) : S G L ρ₀ σ h :=
  ⟨x.base, x.obj, x.new, ⟨let ⟨m, n, r⟩ := x.frame.ns; ⟨m, n, fun y d q => r y d (hs.get q)⟩⟩, x.off, x.above⟩
theorem SV.sub {ρ₀ : Loc} {t : Sem Flow} (h : SV G A env ρ₀ σ t k X) (hs : Sub ρ₀ ρ) : SV G A env ρ σ t k X := fun s x => h s (x.weak hs)
theorem TS.sub {ρ₀ : Loc} {t : Value → Sem Unit} {d : V} {k : Loc → St → Prop} (h : TS G A env ρ₀ σ t d k X) (hs : Sub ρ₀ ρ) : TS G A env ρ σ t d k X := fun s v x r => h s v (x.weak hs) r
theorem sv_While {test : Expr} {body : List Stmt} {pos : Pos} (hX : PassesOwn (model G.prog G.w) A env X) (Inv : Nat → Loc → St → Prop) (n : Nat) (h0 : Inv n ρ σ)
    (step : ∀ n ρ₁ σ₁, Inv n ρ₁ σ₁ → ∃ ρ₀, Sub ρ₀ ρ₁ ∧ BV G A env ρ₀ σ₁ (isTrue test env (eval test env)) (fun b σ₂ => if b = true then SV G A env ρ₀ σ₂ (execs body env) (fun φ ρ₃ σ₃ => match φ with
        | .next => ∃ m, m < n ∧ Inv m ρ₃ σ₃ | .cont => ∃ m, m < n ∧ Inv m ρ₃ σ₃ | .brk => k .next ρ₃ σ₃ | .ret d => k (.ret d) ρ₃ σ₃) X else k .next ρ₀ σ₂) X) :
    SV G A env ρ σ (exec (.While test body [] pos) env) k X := fun s x => by
  refine wpAny_While (codeAny_whileLoop (fun c s' => ∃ h' tk ρ' σ', s' = { s with heap := h', toks := tk } ∧ ExtS env.locals σ s.heap h' σ' ∧ S G env.locals ρ' σ' h' ∧ Inv c ρ' σ') ?_ n ⟨s.heap, s.toks, ρ, σ, rfl, .refl .., x, h0⟩)
  rintro c s' ⟨h', tk, ρ', σ', rfl, E', x', hI⟩
  obtain ⟨ρ₀, hs, st⟩ := step c _ _ hI
  refine wpAny_mono (st _ (x'.weak hs)) (fun b s₁ p => ?_) fun _ _ e => hX _ _ e
  refine p.elim fun h₁ tk₁ d σ₁ E₁ x₁ _ q₉ => ?_; obtain ⟨rfl, q⟩ := q₉
  cases b with
  | true =>
    refine wpAny_mono (q _ x₁) (fun f s₅ p => ?_) fun _ _ e => hX _ _ e
    refine p.elim fun h₅ tk₅ φ ρ₅ σ₅ E₅ x₅ rf q₅ => ?_
    have E := (E'.trans E₁.toS).trans E₅
    cases f <;> cases φ <;> first | exact rf.elim | skip
    · obtain ⟨m, hm, q₅⟩ := q₅; exact ⟨m, hm, h₅, tk₅, ρ₅, σ₅, rfl, E, x₅, q₅⟩
    · exact ⟨h₅, tk₅, .next, ρ₅, σ₅, rfl, E, x₅, trivial, q₅⟩
    · obtain ⟨m, hm, q₅⟩ := q₅; exact ⟨m, hm, h₅, tk₅, ρ₅, σ₅, rfl, E, x₅, q₅⟩
    · exact ⟨h₅, tk₅, .ret _, ρ₅, σ₅, rfl, E, x₅, rf, q₅⟩
  | false => exact wpAny_execs_nil ⟨h₁, tk₁, .next, ρ₀, σ₁, rfl, E'.trans E₁.toS, x₁, trivial, q⟩
theorem gen_k {t : Sem Flow} (h : ∀ k' : AF → Loc → St → Prop, (∀ φ ρ σ, k φ ρ σ → k' φ ρ σ) → SV G A env ρ σ t k' X) : SV G A env ρ σ t k X := h k fun _ _ _ x => x
theorem sv_nilK {k' : AF → Loc → St → Prop} (hk : ∀ φ ρ σ, k φ ρ σ → k' φ ρ σ) (h : k .next ρ σ) : SV G A env ρ σ (execs [] env) k' X := sv_nil (hk _ _ _ h)
end
end Mine
namespace Mine
theorem go_quiet {M : Model} {A : Around} {E : Value → Shared → Prop} {s : Shared} {target : Expr} {I : Addr} {o : Obj} {N : String} {vs : Array Value} {v : Value} {Q : Unit → Shared → Prop} (ho : s.heap.get? I = some o) (hc : o.cls = .type N) (hd : o.data = .fields vs)
    (hN : (["enumerate", "zip", "dict_itemiterator", "dict_reverseitemiterator", "odict_iterator", "itertools.zip_longest", "itertools.pairwise"] : List String).contains N = false) (h : Q () s) :
    wpAny M A (letOwnedTupleGo target (.ref I) v) Q E s := by
  have main : ∀ a, v = .ref a → wpAny M A (do
      let o ← load I
      match o.cls, o.data with
      | .type n, .fields vs =>
        if ["enumerate", "zip", "dict_itemiterator", "dict_reverseitemiterator", "odict_iterator", "itertools.zip_longest", "itertools.pairwise"].contains n && vs[0]? == some (rawInt a) then
          rule "for.unpacks-the-owned-tuple"
          updateField I 0 .none
      | _, _ => pure ()) Q E s := fun a _ => by
    refine wpAny_bind (wpAny_load ho ?_)
    rw [hc, hd]
    dsimp only
    rw [hN, Bool.false_and]
    exact wpAny_pure h
  unfold letOwnedTupleGo
  cases target <;> first
    | exact wpAny_pure h
    | (cases v <;> first
        | exact wpAny_pure h
        | exact main _ rfl)
section
variable {G : Amb} {A : Around} {env : Env} {L : Addr} {ρ : Loc} {σ : St} {X : Value → Shared → Prop}
theorem wk_list (hh : A.handled = none) (I a : Addr) (ds : List V) (target : Expr) : Wk G A I [I] ds.length (fun i => ds.getD i .none) (fun σ => σ a = some (.list ds)) (fun i h => h.IsListIter I a i) target where
  frame := fun i h h' st _ k => st.at fun o => k I (by simp) o
  live := fun i h st b m => by
    rw [List.mem_singleton] at m; subst m
    obtain ⟨o, ho, hc, hd⟩ := st
    exact ⟨o, ho, fun ⟨_, xs, n, t⟩ => by rw [hd] at t; cases t⟩
  next := fun i s L ρ σ Q E hi x need st hσ hQ => by
    obtain ⟨vs, n, ho, r⟩ := x.list need
    have hl : vs.size = ds.length := by simpa using r.length
    have hIa : a ≠ I := fun e => by have := hσ I (by simp); rw [← e, need] at this; cases this
    obtain ⟨v, hv, rv⟩ := r.get i (d := ds.getD i .none) (by rw [List.getD_eq_getElem?_getD, List.getElem?_eq_getElem hi]; rfl)
    refine wpAny_pyNext_list_item st (isList_of ho) (x := v) (by simpa using hv) fun h' hit' hs' => hQ _ _ fun Q' E' hq => ?_
    obtain ⟨o, hoI, hcI, hdI⟩ := id hit'
    have kb : ∀ b o, b ∉ [I] → s.heap.get? b = some o → h'.get? b = some o := fun b o hb e => hs'.extBut b o (fun h => hb (by simp [h])) e
    have t : TupK s.heap h' := tupK_but kb fun b m => by
      rw [List.mem_singleton] at m; subst m
      obtain ⟨o, ho, hc, hd⟩ := st
      exact ⟨o, ho, fun ⟨_, xs, n, t⟩ => by rw [hd] at t; cases t⟩
    exact go_quiet hoI hcI hdI (by decide) (hq h' s.toks (rv.mono t) hit' kb)
  done := fun s L ρ σ Q E x need st hσ hQ => by
    obtain ⟨vs, n, ho, r⟩ := x.list need
    have hl : vs.size = ds.length := by simpa using r.length
    exact wpAny_pyNext_list_end hh st (isList_of ho) (by rw [← hl]; simp) fun h' he' => hQ h' s.toks fun b o hb e => he' b o (fun h => hb (by simp [h])) e
  self := fun i s Q E st hQ => wpAny_pyIter_listiter st hQ
theorem ie_list {iter target : Expr} {kk : Nat → (Nat → V) → (St → Prop) → St → Prop} (hh : A.handled = none)
    (h : EV G A env ρ σ iter (fun d σ₁ => ∃ a ds, d = .ref a ∧ σ₁ a = some (.list ds) ∧ kk ds.length (fun i => ds.getD i .none) (fun σ => σ a = some (.list ds)) σ₁) X) : IE G A env ρ σ iter target kk X := fun s x => by
  refine wpAny_mono (h s x) (fun v s₁ p => ?_) fun _ _ e => e
  refine p.elim fun h₁ t₁ d σ₁ E₁ x₁ r₁ q₉ => ?_; obtain ⟨a, ds, rfl, ea, hk⟩ := q₉
  cases r₁
  obtain ⟨vs, n, ho, r⟩ := x₁.list ea
  refine wpAny_pyIter_list (isList_of ho) ?_
  have kp : ∀ b o, h₁.get? b = some o → (h₁.push { cls := .type "list_iterator", data := .fields #[.ref a, .int 0 0] }).get? b = some o := fun b o e => Heap.get?_push_of_some _ e
  have hn := Mine.none_at_size h₁
  refine ⟨_, t₁, σ₁, _, [h₁.objs.size], _, _, _, _, rfl, rfl, E₁.trans (.keeps kp), x₁.keeps kp, wk_list hh _ a ds target, ?_, ?_, ⟨_, Heap.get?_push_size _ rfl, rfl, rfl⟩, hk⟩
  · intro b m; rw [List.mem_singleton] at m; subst m
    cases q : s.heap.get? h₁.objs.size with
    | none => rfl
    | some o => obtain ⟨o', e'⟩ := E₁.alive _ o q; rw [hn] at e'; cases e'
  · intro b m; rw [List.mem_singleton] at m; subst m; exact x₁.unused hn
theorem wk_tup (hh : A.handled = none) (I a : Addr) (vs : Array Value) (n : Nat) (ds : List V) (target : Expr) : Wk G A I [I] ds.length (fun i => ds.getD i .none) (fun _ => True) (fun i h => IsTupIter h I a i ∧ h.get? a = some (tupOf vs n) ∧ RepAll h vs.toList ds) target where
  frame := fun i h h' st t k => ⟨let ⟨o, ho, r⟩ := st.1; ⟨o, k I (by simp) o ho, r⟩, t _ _ _ st.2.1, st.2.2.mono t⟩
  live := fun i h st b m => by
    rw [List.mem_singleton] at m; subst m
    obtain ⟨⟨o, ho, hc, hd⟩, _⟩ := st
    exact ⟨o, ho, fun ⟨_, xs, n, t⟩ => by rw [hd] at t; cases t⟩
  next := fun i s L ρ σ Q E hi x need st hσ hQ => by
    obtain ⟨hit, ho, r⟩ := st
    have hl : vs.size = ds.length := by simpa using r.length
    obtain ⟨v, hv, rv⟩ := r.get i (d := ds.getD i .none) (by rw [List.getD_eq_getElem?_getD, List.getElem?_eq_getElem hi]; rfl)
    have ht : IsTup s.heap a vs := ⟨_, ho, rfl, n, rfl⟩
    refine next_tuple_item hit ht (x := v) (by simpa using hv) fun h' hit' hs' => hQ _ _ fun Q' E' hq => ?_
    obtain ⟨o, hoI, hcI, hdI⟩ := id hit'
    have kb : ∀ b o, b ∉ [I] → s.heap.get? b = some o → h'.get? b = some o := fun b o hb e => hs'.extBut b o (fun h => hb (by simp [h])) e
    have t : TupK s.heap h' := tupK_but kb fun b m => by
      rw [List.mem_singleton] at m; subst m
      obtain ⟨o, ho, hc, hd⟩ := hit
      exact ⟨o, ho, fun ⟨_, xs, n, t⟩ => by rw [hd] at t; cases t⟩
    exact go_quiet hoI hcI hdI (by decide) (hq h' s.toks (rv.mono t) ⟨hit', t _ _ _ ho, r.mono t⟩ kb)
  done := fun s L ρ σ Q E x need st hσ hQ => by
    obtain ⟨hit, ho, r⟩ := st
    have hl : vs.size = ds.length := by simpa using r.length
    exact next_tuple_end hh hit ⟨_, ho, rfl, n, rfl⟩ (by rw [← hl]; simp) fun h' he' => hQ h' s.toks fun b o hb e => he' b o (fun h => hb (by simp [h])) e
  self := fun i s Q E st hQ => wpAny_pyIter_tupleiter (let ⟨o, ho, r⟩ := st.1; ⟨o, ho, r⟩) hQ
theorem ie_tup {iter target : Expr} {kk : Nat → (Nat → V) → (St → Prop) → St → Prop} (hh : A.handled = none)
    (h : EV G A env ρ σ iter (fun d σ₁ => ∃ ds, d = .tup ds ∧ kk ds.length (fun i => ds.getD i .none) (fun _ => True) σ₁) X) : IE G A env ρ σ iter target kk X := fun s x => by
  refine wpAny_mono (h s x) (fun v s₁ p => ?_) fun _ _ e => e
  refine p.elim fun h₁ t₁ d σ₁ E₁ x₁ r₁ q₉ => ?_; obtain ⟨ds, rfl, hk⟩ := q₉
  refine r₁.elim fun a n vs ho r => ?_
  ·
    refine iter_tuple (t := a) (items := vs) ⟨_, ho, rfl, n, rfl⟩ ?_
    have kp : ∀ b o, h₁.get? b = some o → (h₁.push { cls := .type "tuple_iterator", data := .fields #[.ref a, .int 0 0] }).get? b = some o := fun b o e => Heap.get?_push_of_some _ e
    have hn := Mine.none_at_size h₁
    refine ⟨_, t₁, σ₁, _, [h₁.objs.size], _, _, _, _, rfl, rfl, E₁.trans (.keeps kp), x₁.keeps kp, wk_tup hh _ a vs n ds target, ?_, ?_, ⟨⟨_, Heap.get?_push_size _ rfl, rfl, rfl⟩, kp _ _ ho, r.mono (.of_keeps kp)⟩, hk⟩
    · intro b m; rw [List.mem_singleton] at m; subst m
      cases q : s.heap.get? h₁.objs.size with
      | none => rfl
      | some o => obtain ⟨o', e'⟩ := E₁.alive _ o q; rw [hn] at e'; cases e'
    · intro b m; rw [List.mem_singleton] at m; subst m; exact x₁.unused hn
theorem opc_range {n : Int} {k : V → St → Prop} (h : ∀ a, σ a = none → k (.ref a) (σ.set a (.range 0 n))) : OpC G A L ρ σ (.type "range") [.int n] k X := fun s vs x r => by
  obtain ⟨v, rfl, r₁⟩ := repAll_one r
  cases r₁ with
  | int _ t =>
  refine call_range_1 ?_
  have kp : ∀ b o, s.heap.get? b = some o → (s.heap.push { cls := .type "range", data := .fields #[.int 0 s.toks, .int n t, .int 1 (s.toks + 1)] }).get? b = some o := fun b o e => Heap.get?_push_of_some _ e
  have hn := Mine.none_at_size s.heap
  exact ⟨_, _, _, _, rfl, .new hn kp, x.newAt (o := .range 0 n) hn (Nat.le_of_lt x.big) kp ⟨_, _, _, Heap.get?_push_size _ rfl⟩, .ref _, h _ (x.unused hn)⟩
theorem wk_range (hh : A.handled = none) (I : Addr) (n : Nat) (target : Expr) : Wk G A I [I] n (fun i => .int i) (fun _ => True) (fun i h => IsRangeIter h I (0 + (i : Nat) * 1) ((n : Int) - (i : Nat)) 1) target where
  frame := fun i h h' st t k => k I (by simp) _ st
  live := fun i h st b m => by
    rw [List.mem_singleton] at m; subst m
    exact ⟨_, st, fun ⟨_, xs, n, t⟩ => by cases t⟩
  next := fun i s L ρ σ Q E hi x need st hσ hQ => by
    refine wpAny_pyNext_range_item st (by omega) fun h' hit' hs' => hQ _ _ fun Q' E' hq => ?_
    have kb : ∀ b o, b ∉ [I] → s.heap.get? b = some o → h'.get? b = some o := fun b o hb e => hs'.extBut b o (fun h => hb (by simp [h])) e
    refine go_quiet hit' rfl rfl (by decide) (hq h' _ ?_ ?_ kb)
    · rw [show (0 : Int) + (i : Nat) * 1 = i by omega]; exact .int _ _
    · have e1 : (0 : Int) + ((i + 1 : Nat) : Int) * 1 = 0 + (i : Int) * 1 + 1 := by omega
      have e2 : (n : Int) - ((i + 1 : Nat) : Int) = (n : Int) - (i : Int) - 1 := by omega
      rw [e1, e2]; exact hit'
  done := fun s L ρ σ Q E x need st hσ hQ => wpAny_pyNext_range_end hh st (by omega) fun h' he' => hQ h' s.toks fun b o hb e => he' b o (fun h => hb (by simp [h])) e
  self := fun i s Q E st hQ => wpAny_pyIter_rangeiter st hQ
theorem ie_range {iter target : Expr} {kk : Nat → (Nat → V) → (St → Prop) → St → Prop} (hh : A.handled = none)
    (h : EV G A env ρ σ iter (fun d σ₁ => ∃ a, ∃ n : Nat, d = .ref a ∧ σ₁ a = some (.range 0 n) ∧ (n : Int) < 2 ^ 62 ∧ kk n (fun i => .int i) (fun _ => True) σ₁) X) : IE G A env ρ σ iter target kk X := fun s x => by
  refine wpAny_mono (h s x) (fun v s₁ p => ?_) fun _ _ e => e
  refine p.elim fun h₁ t₁ d σ₁ E₁ x₁ r₁ q₉ => ?_; obtain ⟨a, n, rfl, ea, hsz, hk⟩ := q₉
  cases r₁
  obtain ⟨t, u, v, ho⟩ := x₁.obj a _ ea
  refine wpAny_pyIter_range ho (small_one (by omega) (by omega) (by omega) hsz) ?_
  have hs : Builtin.Range.rangeSize 0 (n : Int) 1 = n := by rw [rangeSize_one]; split <;> omega
  rw [hs]
  have kp : ∀ b o, h₁.get? b = some o → (h₁.push { cls := .type "range_iterator", data := .fields #[rawInt 0, rawInt (n : Int), rawInt 1] }).get? b = some o := fun b o e => Heap.get?_push_of_some _ e
  have hn := Mine.none_at_size h₁
  refine ⟨_, t₁, σ₁, _, [h₁.objs.size], _, _, _, _, rfl, rfl, E₁.trans (.keeps kp), x₁.keeps kp, wk_range hh _ n target, ?_, ?_, ?_, hk⟩
  · intro b m; rw [List.mem_singleton] at m; subst m
    cases q : s.heap.get? h₁.objs.size with
    | none => rfl
    | some o => obtain ⟨o', e'⟩ := E₁.alive _ o q; rw [hn] at e'; cases e'
  · intro b m; rw [List.mem_singleton] at m; subst m; exact x₁.unused hn
  · have := Heap.get?_push_size h₁ (o := { cls := .type "range_iterator", data := .fields #[rawInt 0, rawInt (n : Int), rawInt 1] }) rfl
    show IsRangeIter _ _ (0 + ((0 : Nat) : Int) * 1) ((n : Int) - ((0 : Nat) : Int)) 1
    rw [show (0 : Int) + ((0 : Nat) : Int) * 1 = 0 by omega, show (n : Int) - ((0 : Nat) : Int) = n by omega]
    exact this
theorem wk_keys (hh : A.handled = none) (I a : Addr) (ep : Nat) (es : List (Str × V)) (target : Expr) : Wk G A I [I] es.length (fun i => .str ((es.map (·.1)).getD i default)) (fun σ => σ a = some (.sdict ep es)) (fun i h => h.IsKeyIter I a i es.length ep) target where
  frame := fun i h h' st t k => st.at fun o => k I (by simp) o
  live := fun i h st b m => by
    rw [List.mem_singleton] at m; subst m
    obtain ⟨o, ho, hc, hd⟩ := st
    exact ⟨o, ho, fun ⟨_, xs, n, t⟩ => by rw [hd] at t; cases t⟩
  next := fun i s L ρ σ Q E hi x need st hσ hQ => by
    obtain ⟨kvs, hd, hk, hv⟩ := x.obj a _ need
    have hl : kvs.length = es.length := by have := congrArg List.length hk; simpa using this
    have hx : kvs[i]? = some ((es.map (·.1)).getD i default, (kvs[i]'(by omega)).2) := by
      have e := congrArg (·[i]?) hk
      simp only [List.getElem?_map] at e
      rw [List.getElem?_eq_getElem (by omega), List.getElem?_eq_getElem hi] at e
      simp at e
      rw [List.getElem?_eq_getElem (by omega), List.getD_eq_getElem?_getD, List.getElem?_map, List.getElem?_eq_getElem hi]
      simp [← e]
    rw [← hl] at st
    refine wpAny_pyNext_dict_item st hd hx fun key h' hkey hit' hs' => hQ _ _ fun Q' E' hq => ?_
    have kb : ∀ b o, b ∉ [I] → s.heap.get? b = some o → h'.get? b = some o := fun b o hb e => hs'.extBut b o (fun h => hb (by simp [h])) e
    rw [hl] at hit'
    obtain ⟨o, hoI, hcI, hdI⟩ := id hit'
    refine go_quiet hoI hcI hdI (by decide) (hq h' s.toks ?_ hit' kb)
    obtain ⟨t, rfl⟩ := Value.isStrOf_shape hkey
    exact .str _ _
  done := fun s L ρ σ Q E x need st hσ hQ => by
    obtain ⟨kvs, hd, hk, hv⟩ := x.obj a _ need
    have hl : kvs.length = es.length := by have := congrArg List.length hk; simpa using this
    rw [← hl] at st
    exact wpAny_pyNext_dict_end hh st hd (by simp) fun h' he' => hQ h' s.toks fun b o hb e => he' b o (fun h => hb (by simp [h])) e
  self := fun i s Q E st hQ => wpAny_pyIter_keyiter st hQ
theorem ie_keys {iter target : Expr} {kk : Nat → (Nat → V) → (St → Prop) → St → Prop} (hh : A.handled = none)
    (h : EV G A env ρ σ iter (fun d σ₁ => ∃ a ep es, d = .ref a ∧ σ₁ a = some (.sdict ep es) ∧ kk es.length (fun i => .str ((es.map (·.1)).getD i default)) (fun σ => σ a = some (.sdict ep es)) σ₁) X) : IE G A env ρ σ iter target kk X := fun s x => by
  refine wpAny_mono (h s x) (fun v s₁ p => ?_) fun _ _ e => e
  refine p.elim fun h₁ t₁ d σ₁ E₁ x₁ r₁ q₉ => ?_; obtain ⟨a, ep, es, rfl, ea, hk⟩ := q₉
  cases r₁
  obtain ⟨kvs, hd, hkk, hv⟩ := x₁.obj a _ ea
  have hl : kvs.length = es.length := by have := congrArg List.length hkk; simpa using this
  refine wpAny_pyIter_dict (x₁.notMod (by rw [ea]; simp)) hd ?_
  have kp : ∀ b o, h₁.get? b = some o → (h₁.push { cls := .type "dict_keyiterator", data := .fields #[.ref a, .int 0 0, .int kvs.length 0, .int ep 0] }).get? b = some o := fun b o e => Heap.get?_push_of_some _ e
  have hn := Mine.none_at_size h₁
  refine ⟨_, t₁, σ₁, _, [h₁.objs.size], _, _, _, _, rfl, rfl, E₁.trans (.keeps kp), x₁.keeps kp, wk_keys hh _ a ep es target, ?_, ?_, ?_, hk⟩
  · intro b m; rw [List.mem_singleton] at m; subst m
    cases q : s.heap.get? h₁.objs.size with
    | none => rfl
    | some o => obtain ⟨o', e'⟩ := E₁.alive _ o q; rw [hn] at e'; cases e'
  · intro b m; rw [List.mem_singleton] at m; subst m; exact x₁.unused hn
  · rw [← hl]; exact ⟨_, Heap.get?_push_size _ rfl, rfl, rfl⟩
end
end Mine
namespace Mine
def Le (σ σ' : St) : Prop := ∀ a o, σ a = some o → σ' a = some o
theorem Le.refl (σ : St) : Le σ σ := fun _ _ e => e
theorem Le.trans {a b c : St} (x : Le a b) (y : Le b c) : Le a c := fun p o e => y p o (x p o e)
theorem Le.set {σ : St} {a : Addr} {o : AObj} (e : σ a = none) : Le σ (σ.set a o) := fun b o' h => by
  rw [St.set_ne _ _ (fun q => by rw [q, e] at h; cases h)]; exact h
theorem Le.setL {σ σ' : St} {a : Addr} {o : AObj} (x : Le σ σ') (e : σ a = none) : Le σ (σ'.set a o) := fun b o' h => by
  rw [St.set_ne _ _ (fun q => by rw [q, e] at h; cases h)]; exact x b o' h
def QV (G : Amb) (A : Around) (env : Env) (ρ : Loc) (σ : St) (ifs : List Expr) (kb : Bool → St → Prop) (X : Value → Shared → Prop) : Prop :=
  ∀ s, S G env.locals ρ σ s.heap → wpAny (model G.prog G.w) A (forIn ifs true fun c r => if r = true then do let ok ← isTrue c env (eval c env); pure (ForInStep.yield ok) else pure (ForInStep.yield r))
    (fun b s' => Post G env.locals ρ σ s (fun d σ' => d = .bool b ∧ kb b σ') (.bool b) s') X s
section
variable {G : Amb} {A : Around} {env : Env} {L : Addr} {ρ : Loc} {σ : St} {X : Value → Shared → Prop}
theorem qv_nil {kb : Bool → St → Prop} (h : kb true σ) : QV G A env ρ σ [] kb X := fun s x => wpAny_tests_nil (.here x (.bool _) ⟨rfl, h⟩)
theorem qv_one {c : Expr} {kb : Bool → St → Prop} (h : BV G A env ρ σ (isTrue c env (eval c env)) kb X) : QV G A env ρ σ [c] kb X := fun s x => wpAny_tests_one (h s x)
theorem compLoop_any {R : Result → Shared → Prop} {s : Shared} {prog : Program} {w : World} {elt target iter : Expr} {ifs : List Expr} {scope : Scope} {pos : Pos} {it acc : Value} {env : Env} (I : Nat → Shared → Prop)
    (turn : ∀ n s, I n s → wpAny (model prog w) A (pyNext it) (fun r s₁ => match r with
      | none => R (.ok .next) s₁
      | some v => wpAny (model prog w) A (letOwnedTupleGo target it v) (fun _ s₁' => wpAny (model prog w) A (assign target env v) (fun _ s₂ =>
          wpAny (model prog w) A (forIn ifs true fun c r => if r = true then do let ok ← isTrue c env (eval c env); pure (ForInStep.yield ok) else pure (ForInStep.yield r)) (fun ok s₃ =>
            if ok = true then wpAny (model prog w) A (eval elt env) (fun x s₄ =>
              wpAny (model prog w) A (call (.builtin "list.append") [acc, x]) (fun _ s₅ => ∃ m, m < n ∧ I m s₅) (notedBy (model prog w) A env fun e s' => R (.error e) s') s₄) (notedBy (model prog w) A env fun e s' => R (.error e) s') s₃
            else ∃ m, m < n ∧ I m s₃) (notedBy (model prog w) A env fun e s' => R (.error e) s') s₂) (notedBy (model prog w) A env fun e s' => R (.error e) s') s₁') (notedBy (model prog w) A env fun e s' => R (.error e) s') s₁) (notedBy (model prog w) A env fun e s' => R (.error e) s') s)
    (n : Nat) (h : I n s) :
    codeAny (model prog w) A (.compLoop (.ListComp elt [⟨target, iter, ifs, 0⟩] scope pos) 0 it acc env) R s := by
  refine codeAny_loop rfl I (fun n s hI => ?_) n h
  show wpAny _ A ((compTurn (.ListComp elt [⟨target, iter, ifs, 0⟩] scope pos) 0 it acc env).onRaise (fun x => do noteFrame x env; theTreesLotGoes x)) _ _ s
  refine wpAny_noted ?_
  rw [compTurn_list]
  refine wpAny_bind (wpAny_standAt (wpAny_bind (wpAny_mono (turn n s hI) (fun r s₁ h₁ => ?_) fun _ _ h' => h')))
  cases r with
  | none => exact wpAny_pure h₁
  | some v =>
    refine wpAny_bind (wpAny_mono h₁ (fun _ s₁' h₁' => ?_) fun _ _ h' => h')
    refine wpAny_bind (wpAny_mono h₁' (fun _ s₂ h₂ => wpAny_bind (wpAny_mono h₂ (fun ok s₃ h₃ => ?_) fun _ _ h' => h')) fun _ _ h' => h')
    cases ok with
    | false => exact wpAny_pure ⟨rfl, h₃⟩
    | true =>
      exact wpAny_bind (wpAny_bind (wpAny_mono h₃ (fun x s₄ h₄ => wpAny_bind (wpAny_mono h₄ (fun _ s₅ h₅ => wpAny_pure (wpAny_pure ⟨rfl, h₅⟩)) fun _ _ h' => h')) fun _ _ h' => h'))
theorem S.ofExtS {C : Addr} {ρ' : Loc} {σ' : St} {h h' : Heap} (x : S G L ρ σ h) (E : ExtS C σ h h' σ') (ne : L ≠ C) (y : S G C ρ' σ' h') : S G L ρ σ' h' := by
  obtain ⟨m, n, r⟩ := x.frame.ns
  obtain ⟨o, _, _, ho, _⟩ := id n
  exact ⟨y.base, y.obj, y.new, ⟨m, n.at' fun o => E.keep L o ne x.off, fun z d q => let ⟨v, a, b⟩ := r z d q; ⟨v, a, b.mono E.tup⟩⟩, E.offO x.off ho, x.above⟩
theorem Ext.thenS {C : Addr} {σ σ₁ σ₂ : St} {h h₁ h₂ : Heap} (x : Ext σ h h₁ σ₁) (y : ExtS C σ₁ h₁ h₂ σ₂) (hC : h.get? C = none) : Ext σ h h₂ σ₂ where
  tup := x.tup.trans y.tup
  keep := fun a o e n => y.keep a o (fun q => by rw [q, hC] at n; cases n) (x.offO e n) (x.keep a o e n)
  dom := fun a e n => by
    by_cases q : σ₁ a = none
    · have := y.dom a q n
      cases r : h.get? a with
      | none => rfl
      | some o => obtain ⟨o', e'⟩ := x.alive a o r; rw [this] at e'; cases e'
    · exact x.dom a e q
  alive := fun a o e => let ⟨o₁, e₁⟩ := x.alive a o e; y.alive a o₁ e₁
theorem Ext.keepBut {σ σ' h h' h₁} {W : List Addr} (x : Ext σ h h' σ') (k : ∀ b o, b ∉ W → h'.get? b = some o → h₁.get? b = some o) (t : TupK h' h₁) (hW : ∀ b ∈ W, h.get? b = none) : Ext σ h h₁ σ' :=
  have off : ∀ b o, h.get? b = some o → b ∉ W := fun b o e q => by rw [hW b q] at e; cases e
  ⟨x.tup.trans t, fun a o e q => k a o (off a o q) (x.keep a o e q), x.dom, fun a o e => let ⟨o', e'⟩ := x.alive a o e; ⟨o', k a o' (off a o e) e'⟩⟩
theorem S.sub {ρ' : Loc} {h : Heap} (x : S G L ρ σ h) (hs : ∀ y d, ρ'.get y = some d → ρ.get y = some d) : S G L ρ' σ h :=
  ⟨x.base, x.obj, x.new, ⟨let ⟨m, n, r⟩ := x.frame.ns; ⟨m, n, fun y d q => r y d (hs y d q)⟩⟩, x.off, x.above⟩
def never : Value → Shared → Prop := fun _ _ => False
theorem comp_core {elt target iter : Expr} {ifs : List Expr} {scope : Scope} {pos ipos : Pos} {cl : List (Str × Addr)} {use : Option (Value → Sem Unit)} {Q : Value → Shared → Prop} {s : Shared}
    (hclos : closureFor scope env = pure cl) (hcell : ∀ y ∈ scope.names, y.2 ≠ .cell) (hkind : scope.kind = .function) (hnames : ∀ y ∈ scope.names, y.2 = .local → scope.names.lookup y.1 = some .local)
    (hs : ∀ x, foldedSetIterable iter env x = pure x) (x : S G env.locals ρ σ s.heap)
    (h : IE G A env ρ σ iter target (fun n item need σ₁ => ∃ (ft : Nat → Bool) (fe : Nat → V), (∀ σ', Le σ₁ σ' → need σ') ∧ n ≤ sizeLine ∧
      (∀ C i σ₂, Le σ₁ σ₂ → i < n → TS G A (compEnvC scope cl C env) [] σ₂ (assign target (compEnvC scope cl C env)) (item i) (fun ρ₂ σ₃ => QV G A (compEnvC scope cl C env) ρ₂ σ₃ ifs (fun b σ₄ => b = ft i ∧
        if b = true then EV G A (compEnvC scope cl C env) ρ₂ σ₄ elt (fun d σ₅ => d = fe i ∧ Le σ₂ σ₅) never else Le σ₂ σ₄) never) never) ∧
      (∀ D C h' tk σ', S G env.locals ρ σ' h' → Ext σ s.heap h' σ' → (∃ m, h'.Ns C m) → σ' C = none → C ≠ env.locals → s.heap.get? C = none → G.h₀.objs.size ≤ C → Le σ₁ σ' → σ₁ D = none → σ' D = some (.list (((List.range n).filter ft).map fe)) →
        compPost (model G.prog G.w) A X use Q (.ref D) C (.ok .next) { s with heap := h', toks := tk })) X) :
    wpAny (model G.prog G.w) A (comprehension (.ListComp elt [⟨target, iter, ifs, 0⟩] scope pos) scope env ipos (newList []) false (eval iter env) use) Q X s := by
  refine wpAny_comprehension_free rfl hs hclos hkind hnames (wpAny_mono (h s x) (fun v s₁ p => wpAny_mono p (fun it s₂ p => ?_) fun _ _ e => e) fun _ _ e => e)
  refine p.elim fun h₂ t₂ σ₁ I W at_ n item need E₁ x₁ w hW hσW st q₉ => ?_; obtain ⟨ft, fe, hneed, hsz, step, fin⟩ := q₉
  obtain ⟨hL, hG⟩ := x.offW hW
  refine wpAny_newObj_type (wpAny_newFunctionEnv hcell (by intro y hy; simp at hy) (fun h₄ hns₄ hsb₄ => ?_) hkind)
  dsimp only at hns₄ hsb₄ ⊢
  have kp₃ : ∀ b o, h₂.get? b = some o → (h₂.push { cls := .type "list", dict := none, data := .seq ([] : List Value).toArray }).get? b = some o := fun b o e => Heap.get?_push_of_some _ e
  have hn₂ := Mine.none_at_size h₂
  have hD₃ := Heap.get?_push_size h₂ (o := { cls := .type "list", dict := none, data := .seq ([] : List Value).toArray }) rfl
  have E₃ := Ext.new (σ := σ₁) (o := .list []) hn₂ kp₃
  have x₃ : S G env.locals ρ (σ₁.set h₂.objs.size (.list [])) _ := x₁.newAt (o := .list []) hn₂ (Nat.le_of_lt x₁.big) kp₃ ⟨_, _, hD₃, .nil⟩
  generalize hD : h₂.objs.size = D at *
  generalize hH₃ : h₂.push { cls := .type "list", dict := none, data := .seq ([] : List Value).toArray } = h₃ at *
  have hn₃ := Mine.none_at_size h₃
  have kp₄ : ∀ b o, h₃.get? b = some o → h₄.get? b = some o := fun b o e => hsb₄.extBut b o (Nat.ne_of_lt (Heap.lt_size e)) (Heap.get?_push_of_some _ e)
  have hC₀ : s.heap.get? h₃.objs.size = none := by
    cases q : s.heap.get? h₃.objs.size with
    | none => rfl
    | some o => obtain ⟨o', e'⟩ := (E₁.trans E₃).alive _ o q; rw [hn₃] at e'; cases e'
  have hCG : G.h₀.objs.size ≤ h₃.objs.size := Nat.le_of_lt x₃.big
  have hLC : env.locals ≠ h₃.objs.size := Nat.ne_of_lt x₃.frame.lt
  have hCW : h₃.objs.size ∉ W := fun m => by
    obtain ⟨o, ho, _⟩ := w.live 0 h₂ st _ m
    have := kp₃ _ _ ho
    rw [hn₃] at this; cases this
  generalize h₃.objs.size = C at *
  have x₄ : S G env.locals ρ (σ₁.set D (.list [])) h₄ := x₃.keeps kp₄
  have σC : (σ₁.set D (.list [])) C = none := x₃.unused hn₃
  have y₄ : S G C [] (σ₁.set D (.list [])) h₄ := ⟨x₄.base, x₄.obj, x₄.new, ⟨⟨_, hns₄, fun y d q => by cases q⟩⟩, σC, hCG⟩
  have E₄ : Ext σ s.heap h₄ (σ₁.set D (.list [])) := (E₁.trans E₃).trans (.keeps kp₄)
  have σD : σ₁ D = none := x₁.unused hn₂
  have hWD : D ∉ W := fun m => by
    obtain ⟨o, ho, _⟩ := w.live 0 h₂ st _ m
    rw [hn₂] at ho; cases ho
  have st₄ : at_ 0 h₄ := w.frame _ _ _ st (fun b xs k e => kp₄ _ _ (kp₃ _ _ e)) (fun b m o e => kp₄ _ _ (kp₃ _ _ e))
  have hσW₄ : ∀ b ∈ W, (σ₁.set D (.list [])) b = none := fun b m => by
    have hb : b ≠ D := fun q => hWD (q ▸ m)
    rw [St.set_ne _ _ hb]; exact hσW b m
  have loop : ∀ s₃ : Shared, s₃ = { s with heap := h₄, toks := t₂ + ([] : List (Str × Value)).length } →
      codeAny (model G.prog G.w) A (.compLoop (.ListComp elt [⟨target, iter, ifs, 0⟩] scope pos) 0 (.ref I) (.ref D) (compEnvC scope cl C env)) (compPost (model G.prog G.w) A X use Q (.ref D) C) s₃ := by
    rintro s₃ rfl
    refine compLoop_any (fun c s' => ∃ h' tk σ' i, s' = { s with heap := h', toks := tk } ∧ Ext σ s.heap h' σ' ∧ S G env.locals ρ σ' h' ∧ S G C [] σ' h' ∧ (∀ b ∈ W, σ' b = none) ∧ at_ i h' ∧ Le σ₁ σ' ∧
      σ' D = some (.list (((List.range i).filter ft).map fe)) ∧ i ≤ n ∧ c = n - i) ?_ n
      ⟨h₄, _, _, 0, rfl, E₄, x₄, y₄, hσW₄, st₄, Le.set σD, by simp, Nat.zero_le _, rfl⟩
    rintro c s' ⟨h', tk, σ', i, rfl, E', x', y', hσ', st', le', hl', hi, rfl⟩
    by_cases hlt : i < n
    · refine w.next i _ _ _ _ _ _ hlt x' (hneed _ le') st' hσ' fun v s₁ hgo => hgo _ _ fun h₅ tk₅ r st₅ kb => ?_
      have t : TupK h' h₅ := tupK_but kb (w.live _ _ st')
      have x₅ := x'.keepBut kb t hσ' hL hG
      have y₅ := y'.keepBut kb t hσ' hCW hG
      have E₅ := E'.keepBut kb t hW
      refine wpAny_mono (step C i _ le' hlt _ v y₅ r) (fun _ s₆ p => ?_) fun _ _ e => e.elim
      refine p.elim fun h₆ tk₆ φ ρ₆ σ₆ F₆ y₆ _ q₉ => ?_; obtain ⟨rfl, q₆⟩ := q₉
      refine wpAny_mono (q₆ _ y₆) (fun b s₇ p => ?_) fun _ _ e => e.elim
      refine p.elim fun h₇ tk₇ d σ₇ F₇ y₇ _ q₉ => ?_; obtain ⟨rfl, hb, q₇⟩ := q₉
      cases b with
      | false =>
        have F := F₆.trans F₇.toS
        obtain ⟨st₇, hσ₇⟩ := F.at w st₅ hσ' hCW
        rw [if_neg (by decide)] at q₇
        rw [if_neg (by decide)]
        refine ⟨n - (i + 1), by omega, h₇, tk₇, σ₇, i + 1, rfl, E₅.thenS F hC₀, x₅.ofExtS F hLC y₇, y₇.sub (fun y d q => by cases q), hσ₇, st₇, le'.trans q₇, ?_, hlt, rfl⟩
        rw [q₇ _ _ hl', List.range_succ, List.filter_append]
        simp [← hb]
      | true =>
        rw [if_pos rfl] at q₇
        rw [if_pos rfl]
        refine wpAny_mono (q₇ _ y₇) (fun v s₈ p => ?_) fun _ _ e => e.elim
        refine p.elim fun h₈ tk₈ d σ₈ F₈ y₈ r₈ q₉ => ?_; obtain ⟨rfl, le₈⟩ := q₉
        have hl₈ := le₈ _ _ hl'
        have hlen : (((List.range i).filter ft).map fe).length ≤ sizeLine := by
          have := List.length_filter_le ft (List.range i)
          rw [List.length_map]; rw [List.length_range] at this; omega
        refine wpAny_mono (opc_append (A := A) (k := fun _ σ' => σ' = σ₈.set D (.list (((List.range i).filter ft).map fe ++ [fe i]))) (X := never) hl₈ hlen rfl { s with heap := h₈, toks := tk₈ } [.ref D, v] y₈ (.cons (.ref _) (.cons r₈ .nil))) (fun _ s₉ p => ?_) fun _ _ e => e.elim
        refine p.elim fun h₉ tk₉ d σ₉ F₉ y₉ _ q₉ => ?_; cases q₉
        have F := ((F₆.trans F₇.toS).trans F₈.toS).trans F₉.toS
        obtain ⟨st₉, hσ₉⟩ := F.at w st₅ hσ' hCW
        refine ⟨n - (i + 1), by omega, h₉, tk₉, _, i + 1, rfl, E₅.thenS F hC₀, x₅.ofExtS F hLC y₉, y₉.sub (fun y d q => by cases q), hσ₉, st₉, (le'.trans le₈).setL σD, ?_, hlt, rfl⟩
        rw [St.set_same, List.range_succ, List.filter_append]
        simp [← hb]
    · obtain rfl : i = n := by omega
      refine w.done _ _ _ _ _ _ x' (hneed _ le') st' hσ' fun h₅ tk₅ kb => ?_
      have t : TupK h' h₅ := tupK_but kb (w.live _ _ st')
      have y₅ := y'.keepBut kb t hσ' hCW hG
      obtain ⟨m, hm, _⟩ := y₅.frame.ns
      exact fin D C h₅ tk₅ σ' (x'.keepBut kb t hσ' hL hG) (E'.keepBut kb t hW) ⟨m, hm⟩ y₅.off (Ne.symm hLC) hC₀ hCG le' σD hl'
  exact codeAny_compStart_list (loop _ rfl) (w.self 0 _ _ _ st₄ (loop _ rfl))
end
end Mine
namespace Mine
section
variable {G : Amb} {A : Around} {env : Env} {L : Addr} {ρ : Loc} {σ : St} {X : Value → Shared → Prop}
theorem ns_no_tuple {h : Heap} {C : Addr} {m : Str → Option Value} (n : h.Ns C m) : ∃ o, h.get? C = some o ∧ ¬ Tuple? o := by
  obtain ⟨o, es, ep, ho, hd, _⟩ := n
  exact ⟨o, ho, fun ⟨_, xs, n, t⟩ => by rw [hd] at t; cases t⟩
theorem sameBut_kb {C : Addr} {h h' : Heap} (hs : Heap.SameBut C h h') : ∀ b o, b ∉ [C] → h.get? b = some o → h'.get? b = some o := fun b o m e => (hs.2 b (fun q => m (by simp [q]))).trans e
theorem ev_ListComp {elt target iter : Expr} {ifs : List Expr} {scope : Scope} {pos : Pos} {cl : List (Str × Addr)} {k : V → St → Prop}
    (h : IE G A env ρ σ iter target (fun n item need σ₁ => ∃ (ft : Nat → Bool) (fe : Nat → V), (∀ σ', Le σ₁ σ' → need σ') ∧ n ≤ sizeLine ∧
      (∀ C i σ₂, Le σ₁ σ₂ → i < n → TS G A (compEnvC scope cl C env) [] σ₂ (assign target (compEnvC scope cl C env)) (item i) (fun ρ₂ σ₃ => QV G A (compEnvC scope cl C env) ρ₂ σ₃ ifs (fun b σ₄ => b = ft i ∧
        if b = true then EV G A (compEnvC scope cl C env) ρ₂ σ₄ elt (fun d σ₅ => d = fe i ∧ Le σ₂ σ₅) never else Le σ₂ σ₄) never) never) ∧
      (∀ D σ', Le σ₁ σ' → σ₁ D = none → σ' D = some (.list (((List.range n).filter ft).map fe)) → k (.ref D) σ')) X)
    (hclos : closureFor scope env = pure cl := by rfl) (hcell : ∀ y ∈ scope.names, y.2 ≠ .cell := by decide) (hkind : scope.kind = .function := by rfl) (hnames : ∀ y ∈ scope.names, y.2 = .local → scope.names.lookup y.1 = some .local := by decide)
    (hs : ∀ x, foldedSetIterable iter env x = pure x := by intro _; rfl) : EV G A env ρ σ (.ListComp elt [⟨target, iter, ifs, 0⟩] scope pos) k X := fun s x => by
  rw [eval_ListComp]
  refine comp_core (use := none) hclos hcell hkind hnames hs x (fun s' x' => ?_)
  refine IE.mono h (fun n item need σ₁ q₉ => ?_) s' x'
  obtain ⟨ft, fe, hn, hsz, step, fin⟩ := q₉
  refine ⟨ft, fe, hn, hsz, step, ?_⟩
  intro D C h' tk σ' y E' ⟨m, hm⟩ hC hne hCs hCG le hD hl
  refine ⟨m, hm, fun h'' hs => ?_⟩
  have kb := sameBut_kb hs
  have t : TupK h' h'' := tupK_but kb fun b m' => by rw [List.mem_singleton] at m'; subst m'; exact ns_no_tuple hm
  have hG0 : ∀ b ∈ [C], G.h₀.get? b = none := fun b m' => by
    rw [List.mem_singleton] at m'; subst m'
    cases q : G.h₀.get? b with
    | none => rfl
    | some o => have := x.base b o q; rw [hCs] at this; cases this
  exact ⟨h'', tk, _, σ', rfl, E'.keepBut kb t (fun b m' => by rw [List.mem_singleton] at m'; subst m'; exact hCs),
    y.keepBut kb t (fun b m' => by rw [List.mem_singleton] at m'; subst m'; exact hC) (by simp; exact Ne.symm hne) hG0, .ref _, fin D σ' le hD hl⟩
theorem sv_AssignComp {x : Str} {pos' pos₂ : Pos} {elt target iter : Expr} {ifs : List Expr} {scope : Scope} {pos : Pos} {cl : List (Str × Addr)} {k : AF → Loc → St → Prop}
    (h : IE G A env ρ σ iter target (fun n item need σ₁ => ∃ (ft : Nat → Bool) (fe : Nat → V), (∀ σ', Le σ₁ σ' → need σ') ∧ n ≤ sizeLine ∧
      (∀ C i σ₂, Le σ₁ σ₂ → i < n → TS G A (compEnvC scope cl C env) [] σ₂ (assign target (compEnvC scope cl C env)) (item i) (fun ρ₂ σ₃ => QV G A (compEnvC scope cl C env) ρ₂ σ₃ ifs (fun b σ₄ => b = ft i ∧
        if b = true then EV G A (compEnvC scope cl C env) ρ₂ σ₄ elt (fun d σ₅ => d = fe i ∧ Le σ₂ σ₅) never else Le σ₂ σ₄) never) never) ∧
      (∀ D σ', Le σ₁ σ' → σ₁ D = none → σ' D = some (.list (((List.range n).filter ft).map fe)) → k .next (ρ.put x (.ref D)) σ')) X)
    (hsw : swapsWith (.ListComp elt [⟨target, iter, ifs, 0⟩] scope pos) (some (.Name x pos')) pos₂.line env = pure true := by rfl)
    (hk : env.scope.kind = .function := by rfl) (hl : env.kindOf x = some .local := by rfl)
    (hclos : closureFor scope env = pure cl := by rfl) (hcell : ∀ y ∈ scope.names, y.2 ≠ .cell := by decide) (hkind : scope.kind = .function := by rfl) (hnames : ∀ y ∈ scope.names, y.2 = .local → scope.names.lookup y.1 = some .local := by decide)
    (hs : ∀ x, foldedSetIterable iter env x = pure x := by intro _; rfl) : SV G A env ρ σ (exec (.Assign [.Name x pos'] (.ListComp elt [⟨target, iter, ifs, 0⟩] scope pos) pos₂) env) k X := fun s z => by
  rw [exec_Assign_Name_used _ _ _ _ hsw]
  refine wpAny_bind (wpAny_standAt (wpAny_bind ?_))
  show wpAny _ A (do let _ ← comprehension (.ListComp elt [⟨target, iter, ifs, 0⟩] scope pos) scope env _ (newList []) false (eval iter env) (some (assign (.Name x pos') env))) _ _ s
  refine wpAny_bind (wpAny_mono (comp_core (use := some (assign (.Name x pos') env)) (Q := fun _ s' => PostS G env.locals σ s k .next s') hclos hcell hkind hnames hs z (fun s' x' => ?_)) (fun _ s' hq => wpAny_pure (wpAny_pure hq)) fun _ _ e => e)
  refine IE.mono h (fun n item need σ₁ q₉ => ?_) s' x'
  obtain ⟨ft, fe, hn, hsz, step, fin⟩ := q₉
  refine ⟨ft, fe, hn, hsz, step, ?_⟩
  intro D C h' tk σ' y E' ⟨m, hm⟩ hC hne hCs hCG le hD hl'
  have hG0 : ∀ b ∈ [C], G.h₀.get? b = none := fun b m' => by
    rw [List.mem_singleton] at m'; subst m'
    cases q : G.h₀.get? b with
    | none => rfl
    | some o => have := z.base b o q; rw [hCs] at this; cases this
  show wpAny _ A (assign (.Name x pos') env (.ref D)) _ _ _
  refine PyProof.Rows.assign_Name (store_local hk hl (s := { s with heap := h', toks := tk }) y (.ref D) fun h₂ E₂ y₂ t₂ => ?_)
  have hm₂ : h₂.Ns C m := hm.at' fun o e => E₂.keep C o hne hC e
  refine ⟨m, hm₂, fun h'' hs => ?_⟩
  have kb := sameBut_kb hs
  have t : TupK h₂ h'' := tupK_but kb fun b m' => by rw [List.mem_singleton] at m'; subst m'; exact ns_no_tuple hm₂
  exact ⟨h'', _, .next, _, σ', rfl, (E'.toS.trans E₂).keepBut kb t (fun b m' => by rw [List.mem_singleton] at m'; subst m'; exact hCs),
    y₂.keepBut kb t (fun b m' => by rw [List.mem_singleton] at m'; subst m'; exact hC) (by simp; exact Ne.symm hne) hG0, trivial, fin D σ' le hD hl'⟩
end
end Mine
namespace Mine
def AF.val : AF → V
  | .ret d => d
  | _ => .none
def addCells (vals : Loc) : List (Str × Addr) → St → St
  | [], σ => σ
  | (n, c) :: r, σ => (addCells vals r σ).set c (.cell (Loc.get vals n))
theorem addCells_off (vals : Loc) : ∀ (cs : List (Str × Addr)) (σ : St) (a : Addr), σ a = none → (∀ n c, (n, c) ∈ cs → c ≠ a) → addCells vals cs σ a = none
  | [], σ, a, e, _ => e
  | (n, c) :: r, σ, a, e, h => by
    unfold addCells
    rw [St.set_ne _ _ (Ne.symm (h n c (by simp)))]
    exact addCells_off vals r σ a e fun n c m => h n c (by simp [m])
theorem addCells_le (vals : Loc) : ∀ (cs : List (Str × Addr)) (σ : St), (∀ n c, (n, c) ∈ cs → σ c = none) → Le σ (addCells vals cs σ)
  | [], σ, _ => Le.refl σ
  | (n, c) :: r, σ, h => by
    unfold addCells
    exact (addCells_le vals r σ fun n c m => h n c (by simp [m])).setL (h n c (by simp))
theorem addCells_in (vals : Loc) : ∀ (cs : List (Str × Addr)) (σ : St) (a : Addr), σ a = none → addCells vals cs σ a ≠ none → ∃ n, (n, a) ∈ cs
  | [], σ, a, e, h => absurd e h
  | (n, c) :: r, σ, a, e, h => by
    unfold addCells at h
    by_cases q : a = c
    · subst q; exact ⟨n, by simp⟩
    · rw [St.set_ne _ _ q] at h
      obtain ⟨n, m⟩ := addCells_in vals r σ a e h
      exact ⟨n, by simp [m]⟩
theorem S.adopt {G : Amb} {L : Addr} {ρ : Loc} {σ : St} {h : Heap} {a : Addr} {o : AObj} (x : S G L ρ σ h) (r : RepObj G.prog G.w h a o) (hG : G.h₀.objs.size ≤ a) (ne : a ≠ L) : S G L ρ (σ.set a o) h :=
  ⟨x.base, fun b ob e => (by
    by_cases z : b = a
    · subst z; rw [St.set_same] at e; cases e; exact r
    · rw [St.set_ne _ _ z] at e; exact x.obj b ob e), fun b n => (by
    by_cases z : b = a
    · rw [z]; exact hG
    · rw [St.set_ne _ _ z] at n; exact x.new b n), x.frame, ((St.keep ((Ne.symm ne)) x.off)), x.above⟩
theorem bindL_miss (kindOf : Str → Option NameKind) (y : Str) : ∀ (bs : List (Str × Value)) (m : Str → Option Value), y ∉ bs.map (·.1) → bindL kindOf bs m y = m y
  | [], m, _ => rfl
  | (n, v) :: r, m, h => by
    simp only [List.map_cons, List.mem_cons, not_or] at h
    unfold bindL
    rw [bindL_miss kindOf y r _ h.2]
    split <;> simp [h.1]
theorem bindC_miss (kindOf : Str → Option NameKind) (y : Str) : ∀ (bs : List (Str × Value)) (m : Str → Option Value), y ∉ bs.map (·.1) → bindC kindOf bs m y = m y
  | [], m, _ => rfl
  | (n, v) :: r, m, h => by
    simp only [List.map_cons, List.mem_cons, not_or] at h
    unfold bindC
    rw [bindC_miss kindOf y r _ h.2]
    split <;> simp [h.1]
theorem zip_keys : ∀ (xs : List Str) (vs : List Value), vs.length = xs.length → (xs.zip vs).map (·.1) = xs
  | [], _, _ => rfl
  | x :: xs, [], h => by simp at h
  | x :: xs, v :: vs, h => by simp at h; simp [zip_keys xs vs h]
theorem bindL_get {h : Heap} {kindOf : Str → Option NameKind} {y : Str} {d : V} (hy : kindOf y = some .local) : ∀ {xs : List Str} {vs : List Value} {ds : List V} (m : Str → Option Value), xs.Nodup → vs.length = xs.length → RepAll h vs ds → Loc.get (xs.zip ds) y = some d →
    ∃ v, bindL kindOf (xs.zip vs) m y = some v ∧ Rep h v d
  | [], _, _, m, _, _, _, e => by simp [Loc.get] at e
  | x :: xs, [], _, m, _, hl, _, _ => by simp at hl
  | x :: xs, v :: vs, _, m, hn, hl, .cons (d := d') (ds := ds) a r, e => by
    simp only [List.nodup_cons] at hn
    simp only [List.length_cons, Nat.add_right_cancel_iff] at hl
    simp only [List.zip_cons_cons, Loc.get] at e
    simp only [List.zip_cons_cons, bindL]
    by_cases q : y = x
    · subst q
      simp only [if_true, Option.some.injEq] at e
      subst e
      refine ⟨v, ?_, a⟩
      rw [bindL_miss _ _ _ _ (by rw [zip_keys xs vs hl]; exact hn.1), if_pos hy]; simp
    · rw [if_neg q] at e
      exact bindL_get hy _ hn.2 hl r e
theorem bindC_get {h : Heap} {kindOf : Str → Option NameKind} {y : Str} {d : V} (hy : kindOf y ≠ some .local) : ∀ {xs : List Str} {vs : List Value} {ds : List V} (m : Str → Option Value), xs.Nodup → vs.length = xs.length → RepAll h vs ds → Loc.get (xs.zip ds) y = some d →
    ∃ v, bindC kindOf (xs.zip vs) m y = some v ∧ Rep h v d
  | [], _, _, m, _, _, _, e => by simp [Loc.get] at e
  | x :: xs, [], _, m, _, hl, _, _ => by simp at hl
  | x :: xs, v :: vs, _, m, hn, hl, .cons (d := d') (ds := ds) a r, e => by
    simp only [List.nodup_cons] at hn
    simp only [List.length_cons, Nat.add_right_cancel_iff] at hl
    simp only [List.zip_cons_cons, Loc.get] at e
    simp only [List.zip_cons_cons, bindC]
    by_cases q : y = x
    · subst q
      simp only [if_true, Option.some.injEq] at e
      subst e
      refine ⟨v, ?_, a⟩
      rw [bindC_miss _ _ _ _ (by rw [zip_keys xs vs hl]; exact hn.1), if_neg hy]; simp
    · rw [if_neg q] at e
      exact bindC_get hy _ hn.2 hl r e
theorem S.addCells {G : Amb} {L : Addr} {ρ : Loc} {h : Heap} {vals : Loc} : ∀ {cs : List (Str × Addr)} {σ : St} (x : S G L ρ σ h), (∀ n c, (n, c) ∈ cs → RepObj G.prog G.w h c (.cell (Loc.get vals n)) ∧ G.h₀.objs.size ≤ c ∧ c ≠ L) → S G L ρ (addCells vals cs σ) h
  | [], _, x, _ => x
  | (n, c) :: r, σ, x, hc => by
    unfold Mine.addCells
    obtain ⟨a, b, d⟩ := hc n c (by simp)
    exact (S.addCells x fun n c m => hc n c (by simp [m])).adopt a b d
def OpK (G : Amb) (A : Around) (L : Addr) (ρ : Loc) (σ : St) (f : Value) (ds : List V) (k : V → St → Prop) : Prop :=
  ∀ s vs (R : Result → Shared → Prop), S G L ρ σ s.heap → RepAll s.heap vs ds → (∀ v s', Post G L ρ σ s k v s' → R (.ok (.ret v)) s') → codeAny (model G.prog G.w) A (.call f ⟨vs, []⟩) R s
theorem OpK.toC {G : Amb} {A : Around} {L : Addr} {ρ : Loc} {σ : St} {f : Value} {ds : List V} {k : V → St → Prop} {X : Value → Shared → Prop} (h : OpK G A L ρ σ f ds k) : OpC G A L ρ σ f ds k X := fun s vs x r =>
  wpAny_call (h s vs _ x r fun _ _ p => p)
abbrev envF (qual : Str) (scope : Scope) (L a : Addr) (cd : Value) : Env := envOfC qual scope L a cd
section
variable {G : Amb} {A : Around} {L : Addr} {ρ : Loc} {σ : St} {X : Value → Shared → Prop} {k : V → St → Prop}
def locs (scope : Scope) : List Str → List V → Loc
  | x :: xs, d :: ds => if scope.names.lookup x = some .local then (x, d) :: locs scope xs ds else locs scope xs ds
  | _, _ => []
theorem locs_mem (scope : Scope) {y : Str} {d : V} : ∀ {xs : List Str} {ds : List V}, (locs scope xs ds).get y = some d → y ∈ xs
  | [], _, e => by simp [locs, Loc.get] at e
  | x :: xs, [], e => by simp [locs, Loc.get] at e
  | x :: xs, d' :: ds, e => by
    unfold locs at e
    split at e
    · unfold Loc.get at e
      split at e
      · rename_i h; simp [h]
      · exact List.mem_cons_of_mem _ (locs_mem scope e)
    · exact List.mem_cons_of_mem _ (locs_mem scope e)
theorem locs_get (scope : Scope) {y : Str} {d : V} : ∀ {xs : List Str} {ds : List V}, xs.Nodup → (locs scope xs ds).get y = some d → Loc.get (xs.zip ds) y = some d ∧ scope.names.lookup y = some .local
  | [], _, _, e => by simp [locs, Loc.get] at e
  | x :: xs, [], _, e => by simp [locs, Loc.get] at e
  | x :: xs, d' :: ds, hn, e => by
    simp only [List.nodup_cons] at hn
    unfold locs at e
    simp only [List.zip_cons_cons, Loc.get]
    split at e
    · rename_i hl
      unfold Loc.get at e
      by_cases q : y = x
      · subst q; rw [if_pos rfl] at e ⊢; exact ⟨e, hl⟩
      · rw [if_neg q] at e ⊢; exact locs_get scope hn.2 e
    · have hm := locs_mem scope e
      have q : y ≠ x := fun q => hn.1 (q ▸ hm)
      rw [if_neg q]; exact locs_get scope hn.2 e
theorem cells_some : ∀ (names : List (Str × NameKind)) (n m : Nat) (x : Str), x ∈ (cellsFrom n names []).map (·.1) → ((cellsFrom m names []).lookup x).isSome = true := fun names n m x h => by
  rw [cellsFrom_names names n m [] [] rfl] at h
  generalize cellsFrom m names [] = l at h
  induction l with
  | nil => simp at h
  | cons p r ih =>
    obtain ⟨y, c⟩ := p
    simp only [List.lookup_cons]
    cases q : x == y with
    | true => rfl
    | false =>
      simp only [List.map_cons, List.mem_cons] at h
      rcases h with h | h
      · rw [h] at q; simp at q
      · exact ih h
theorem Room.in_ {n : Nat} (R : Room A (n + 1)) (env : Env) : Room (A.deeper env) n := ⟨R.handled, by have := R.depth; rw [show (A.deeper env).depth = A.depth + 1 from rfl]; omega, by have := R.units; rw [show (A.deeper env).units = A.units + 3 from rfl]; omega⟩
theorem Room.le {n m : Nat} (R : Room A n) (h : m ≤ n) : Room A m := ⟨R.handled, by have := R.depth; omega, by have := R.units; omega⟩
theorem opk_fn {f : Addr} {oc : Value} {od : Option Addr} {osl : Array (Option Value)} {name qual : Str} {params : Arguments} {body : List Stmt} {scope : Scope} {dV kV doc pm cdv ct : Value} {an : Option Addr} {n : Nat} {xs : List Str} {ds : List V} {ρ₀ : Loc}
    (ho : G.K.lookup f = some ⟨oc, od, .func (fnOf name qual params body scope dV kV doc pm an cdv ct), osl⟩) (hcd : codeIn G.K cdv qual = true) (R : Room A (n + 1))
    (h : ∀ L', σ L' = none → (∀ n c, (n, c) ∈ cellsFrom (L' + 1) scope.names [] → σ c = none) → SV G (A.deeper (envF qual scope L' f cdv)) (envF qual scope L' f cdv) ρ₀ (addCells (xs.zip ds) (cellsFrom (L' + 1) scope.names []) σ)
      (execs body (envF qual scope L' f cdv)) (fun φ _ σ' => k φ.val σ') never)
    (hlen : ds.length = xs.length := by rfl) (hnd : xs.Nodup := by decide)
    (hbind : ∀ vs : List Value, vs.length = xs.length → bindArgs (fnOf name qual params body scope dV kV doc pm an cdv ct) ⟨vs, []⟩ = pure (xs.zip vs) := by
      intro vs hv; rcases vs with _ | ⟨a, _ | ⟨b, _ | ⟨c, _ | ⟨d, _⟩⟩⟩⟩ <;> first | rfl | (simp at hv))
    (hkind' : ∀ x ∈ xs, scope.names.lookup x = some .local ∨ (scope.names.lookup x = some .cell ∧ x ∈ (cellsFrom 0 scope.names []).map (·.1)) := by decide)
    (hcn : ((cellsFrom 0 scope.names []).map (·.1)).Nodup := by decide)
    (hρ' : ρ₀ = locs scope xs ds := by rfl)
    (hcl : ∀ x ∈ (cellsFrom 0 scope.names []).map (·.1), scope.names.lookup x ≠ some .local := by decide)
    (hco : scope.isCoroutine = false := by rfl) (hgen : scope.isGenerator = false := by rfl) (hk : scope.kind = .function := by rfl) : OpK G A L ρ σ (.ref f) ds k := fun s vs RR x r hR => by
  have hkind : ∀ N, ∀ x ∈ xs, scope.names.lookup x = some .local ∨ (scope.names.lookup x = some .cell ∧ ((cellsFrom N scope.names []).lookup x).isSome = true) := fun N x hx => (hkind' x hx).imp id fun ⟨a, b⟩ => ⟨a, cells_some _ _ _ _ b⟩
  have hρ : ∀ y d, ρ₀.get y = some d → (Loc.get (xs.zip ds) y = some d ∧ scope.names.lookup y = some .local) := fun y d e => locs_get scope hnd (hρ' ▸ e)
  have hl : vs.length = xs.length := r.length.trans hlen
  have XI := x.In
  refine codeAny_call_cells (fd := fnOf name qual params body scope dV kV doc pm an cdv ct) (body := body) (binds := xs.zip vs) (by have := R.depth; omega) (XI _ _ ho) rfl (G.lim.keeps x.base) (codeRec_of XI hcd) rfl (hbind vs hl) rfl ?_ ?_ hco hgen hk
  · intro y hy
    refine hkind _ y.1 ?_
    have : y.1 ∈ (xs.zip vs).map (·.1) := List.mem_map.mpr ⟨y, hy, rfl⟩
    rwa [zip_keys xs vs hl] at this
  · intro s₁ y
    obtain ⟨h₁, tk, rfl, kp⟩ := y.done
    have hL' : s.heap.get? s.heap.objs.size = none := Mine.none_at_size s.heap
    have σL : σ s.heap.objs.size = none := x.unused hL'
    have fresh : ∀ n c, (n, c) ∈ cellsFrom (s.heap.objs.size + 1) scope.names [] → s.heap.get? c = none := fun n c m => by
      cases q : s.heap.get? c with
      | none => rfl
      | some o => have h1 := Heap.lt_size q; have h2 := y.above n c m; exact absurd h1 (Nat.not_lt.mpr (Nat.le_of_lt h2))
    have σc : ∀ n c, (n, c) ∈ cellsFrom (s.heap.objs.size + 1) scope.names [] → σ c = none := fun n c m => x.unused (fresh n c m)
    have x₁ : S G L ρ σ h₁ := x.keeps kp
    have tkp : TupK s.heap h₁ := .of_keeps kp
    have hbig : G.h₀.objs.size ≤ s.heap.objs.size := Nat.le_of_lt x.big
    have y₁ : S G s.heap.objs.size ρ₀ σ h₁ := ⟨x₁.base, x₁.obj, x₁.new, ⟨⟨_, y.toInCall.ns, fun z d q => by
      obtain ⟨q1, q2⟩ := hρ z d q
      obtain ⟨v, e, rv⟩ := bindL_get (kindOf := (callEnvC (fnOf name qual params body scope dV kV doc pm an cdv ct) s.heap.objs.size f).kindOf) (y := z) q2 (fun _ => none) hnd hl r q1
      exact ⟨v, e, rv.mono tkp⟩⟩⟩, σL, hbig⟩
    have hcells : ∀ n c, (n, c) ∈ cellsFrom (s.heap.objs.size + 1) scope.names [] → RepObj G.prog G.w h₁ c (.cell (Loc.get (xs.zip ds) n)) ∧ G.h₀.objs.size ≤ c ∧ c ≠ s.heap.objs.size := fun n c m => by
      have hnames := cellsFrom_names scope.names 0 (s.heap.objs.size + 1) [] [] rfl
      have hmn : n ∈ (cellsFrom 0 scope.names []).map (·.1) := by rw [hnames]; exact List.mem_map.mpr ⟨(n, c), m, rfl⟩
      obtain ⟨o, hoc, hdc⟩ := y.cell n c (lookup_of_mem_nodup (hnames ▸ hcn) m)
      have hac := y.above n c m
      have hac' : s.heap.objs.size < c := hac
      refine ⟨⟨o, _, hoc, hdc, ?_⟩, Nat.le_of_lt (Nat.lt_of_le_of_lt hbig hac'), Nat.ne_of_gt hac'⟩
      cases q : Loc.get (xs.zip ds) n with
      | none => trivial
      | some d =>
        obtain ⟨v, e, rv⟩ := bindC_get (kindOf := (callEnvC (fnOf name qual params body scope dV kV doc pm an cdv ct) s.heap.objs.size f).kindOf) (y := n) (hcl n hmn) (fun _ => none) hnd hl r q
        exact ⟨v, e, rv.mono tkp⟩
    have y₂ := y₁.addCells (vals := xs.zip ds) hcells
    have E₂ : Ext σ s.heap h₁ (addCells (xs.zip ds) (cellsFrom (s.heap.objs.size + 1) scope.names []) σ) :=
      ⟨tkp, fun a o _ e => kp a o e, fun a e n => let ⟨m, hm⟩ := addCells_in _ _ _ _ e n; fresh m a hm, fun a o e => ⟨o, kp a o e⟩⟩
    have hLne : L ≠ s.heap.objs.size := Nat.ne_of_lt x.frame.lt
    have x₂ : S G L ρ (addCells (xs.zip ds) (cellsFrom (s.heap.objs.size + 1) scope.names []) σ) h₁ := by
      obtain ⟨m, nn, rr⟩ := x₁.frame.ns
      exact ⟨y₂.base, y₂.obj, y₂.new, ⟨m, nn, rr⟩, addCells_off _ _ _ _ x.off fun n c hm q => by
        have h1 := x.frame.lt
        have h2 := y.above n c hm
        have h2' : s.heap.objs.size < c := h2
        rw [q] at h2'
        exact absurd h1 (Nat.not_lt.mpr (Nat.le_of_lt h2')), x.above⟩
    refine wpAny_mono (h s.heap.objs.size σL σc { s with heap := h₁, toks := tk } y₂) (fun fl s' p => ?_) fun _ _ e => e.elim
    refine p.elim fun h' tk' φ ρ' σ' E z rf hk' => ?_
    refine hR _ _ ⟨h', tk', φ.val, σ', rfl, E₂.thenS E hL', x₂.ofExtS E hLne z, ?_, hk'⟩
    cases fl <;> cases φ <;> first | exact rf.elim | exact .none | exact rf
theorem opk_fn0 {f : Addr} {oc : Value} {od : Option Addr} {osl : Array (Option Value)} {name qual : Str} {params : Arguments} {body : List Stmt} {scope : Scope} {dV kV doc pm cdv ct : Value} {an : Option Addr} {n : Nat} (xs : List Str) {ds : List V} {ρ₀ : Loc}
    (ho : G.K.lookup f = some ⟨oc, od, .func (fnOf name qual params body scope dV kV doc pm an cdv ct), osl⟩) (hcd : codeIn G.K cdv qual = true) (R : Room A (n + 1))
    (h : ∀ L' A' env, env = envX qual scope L' f cdv [] → Room A' n → SV G A' env ρ₀ σ (execs body env) (fun φ _ σ' => k φ.val σ') never)
    (hlen : ds.length = xs.length := by rfl) (hnd : xs.Nodup := by decide)
    (hbind : ∀ vs : List Value, vs.length = xs.length → bindArgs (fnOf name qual params body scope dV kV doc pm an cdv ct) ⟨vs, []⟩ = pure (xs.zip vs) := by
      intro vs hv; rcases vs with _ | ⟨a, _ | ⟨b, _ | ⟨c, _ | ⟨d, _⟩⟩⟩⟩ <;> first | rfl | (simp at hv))
    (hkind' : ∀ x ∈ xs, scope.names.lookup x = some .local := by decide)
    (hcn : cellsFrom 0 scope.names [] = [] := by rfl)
    (hρ' : ρ₀ = locs scope xs ds := by rfl)
    (hco : scope.isCoroutine = false := by rfl) (hgen : scope.isGenerator = false := by rfl) (hk : scope.kind = .function := by rfl) : OpK G A L ρ σ (.ref f) ds k := by
  have hc : ∀ m, cellsFrom m scope.names [] = [] := fun m => by
    have e := cellsFrom_names scope.names m 0 [] [] rfl
    rw [hcn] at e
    exact List.map_eq_nil_iff.mp e
  refine opk_fn ho hcd R (fun L' hL _ => ?_) hlen hnd hbind (fun x hx => .inl (hkind' x hx)) (by rw [hcn]; exact .nil) hρ' (by rw [hcn]; simp) hco hgen hk
  have := h L' (A.deeper (envF qual scope L' f cdv)) (envF qual scope L' f cdv) (by show envOfC .. = _; unfold envOfC; rw [hc]) (R.in_ _)
  rw [hc]
  exact this
theorem opc_fn0 {f : Addr} {oc : Value} {od : Option Addr} {osl : Array (Option Value)} {name qual : Str} {params : Arguments} {body : List Stmt} {scope : Scope} {dV kV doc pm cdv ct : Value} {an : Option Addr} {n : Nat} (xs : List Str) {ds : List V} {ρ₀ : Loc}
    (ho : G.K.lookup f = some ⟨oc, od, .func (fnOf name qual params body scope dV kV doc pm an cdv ct), osl⟩) (hcd : codeIn G.K cdv qual = true) (R : Room A (n + 1))
    (h : ∀ L' A' env, env = envX qual scope L' f cdv [] → Room A' n → SV G A' env ρ₀ σ (execs body env) (fun φ _ σ' => k φ.val σ') never)
    (hlen : ds.length = xs.length := by rfl) (hnd : xs.Nodup := by decide)
    (hbind : ∀ vs : List Value, vs.length = xs.length → bindArgs (fnOf name qual params body scope dV kV doc pm an cdv ct) ⟨vs, []⟩ = pure (xs.zip vs) := by
      intro vs hv; rcases vs with _ | ⟨a, _ | ⟨b, _ | ⟨c, _ | ⟨d, _⟩⟩⟩⟩ <;> first | rfl | (simp at hv))
    (hkind' : ∀ x ∈ xs, scope.names.lookup x = some .local := by decide)
    (hcn : cellsFrom 0 scope.names [] = [] := by rfl)
    (hρ' : ρ₀ = locs scope xs ds := by rfl)
    (hco : scope.isCoroutine = false := by rfl) (hgen : scope.isGenerator = false := by rfl) (hk : scope.kind = .function := by rfl) : OpC G A L ρ σ (.ref f) ds k X :=
  (opk_fn0 xs ho hcd R h hlen hnd hbind hkind' hcn hρ' hco hgen hk).toC
theorem cells_apart : ∀ (names : List (Str × NameKind)) (n : Nat) (acc : List (Str × Addr)), (∀ p ∈ acc, p.2 < n) → (acc.Pairwise fun x y => x.2 ≠ y.2) → (cellsFrom n names acc).Pairwise fun x y => x.2 ≠ y.2
  | [], _, _, _, h => h
  | (name, kind) :: r, n, acc, hb, h => by
    unfold cellsFrom
    split
    · refine cells_apart r (n + 1) _ (fun p hp => ?_) (List.pairwise_cons.mpr ⟨fun p hp => ?_, h⟩)
      · rcases List.mem_cons.mp hp with rfl | hp
        · exact Nat.lt_succ_self n
        · exact Nat.lt_succ_of_lt (hb p hp)
      · exact Nat.ne_of_gt (hb p hp)
    · exact cells_apart r n acc hb h
theorem addCells_get (vals : Loc) : ∀ (cs : List (Str × Addr)) (σ : St), (cs.Pairwise fun x y => x.2 ≠ y.2) → ∀ n c, (n, c) ∈ cs → addCells vals cs σ c = some (.cell (Loc.get vals n))
  | [], _, _, _, _, h => by cases h
  | (m, d) :: r, σ, hp, n, c, h => by
    unfold addCells
    rw [List.pairwise_cons] at hp
    rcases List.mem_cons.mp h with e | h
    · cases e; rw [St.set_same]
    · rw [St.set_ne _ _ (Ne.symm (hp.1 _ h))]
      exact addCells_get vals r σ hp.2 n c h
theorem opc_fnC {f : Addr} {oc : Value} {od : Option Addr} {osl : Array (Option Value)} {name qual : Str} {params : Arguments} {body : List Stmt} {scope : Scope} {dV kV doc pm cdv ct : Value} {an : Option Addr} {n : Nat} (xs : List Str) {ds : List V} {ρ₀ : Loc}
    (ho : G.K.lookup f = some ⟨oc, od, .func (fnOf name qual params body scope dV kV doc pm an cdv ct), osl⟩) (hcd : codeIn G.K cdv qual = true) (R : Room A (n + 1))
    (h : ∀ L' A' env σC, env = envX qual scope L' f cdv (cellsFrom (L' + 1) scope.names []) → Room A' n → Le σ σC → (∀ n c, (n, c) ∈ cellsFrom (L' + 1) scope.names [] → σC c = some (.cell (Loc.get (xs.zip ds) n)) ∧ σ c = none) →
      SV G A' env ρ₀ σC (execs body env) (fun φ _ σ' => k φ.val σ') never)
    (hlen : ds.length = xs.length := by rfl) (hnd : xs.Nodup := by decide)
    (hbind : ∀ vs : List Value, vs.length = xs.length → bindArgs (fnOf name qual params body scope dV kV doc pm an cdv ct) ⟨vs, []⟩ = pure (xs.zip vs) := by
      intro vs hv; rcases vs with _ | ⟨a, _ | ⟨b, _ | ⟨c, _ | ⟨d, _⟩⟩⟩⟩ <;> first | rfl | (simp at hv))
    (hkind' : ∀ x ∈ xs, scope.names.lookup x = some .local ∨ (scope.names.lookup x = some .cell ∧ x ∈ (cellsFrom 0 scope.names []).map (·.1)) := by decide)
    (hcn : ((cellsFrom 0 scope.names []).map (·.1)).Nodup := by decide)
    (hρ' : ρ₀ = locs scope xs ds := by rfl)
    (hcl : ∀ x ∈ (cellsFrom 0 scope.names []).map (·.1), scope.names.lookup x ≠ some .local := by decide)
    (hco : scope.isCoroutine = false := by rfl) (hgen : scope.isGenerator = false := by rfl) (hk : scope.kind = .function := by rfl) : OpC G A L ρ σ (.ref f) ds k X := by
  refine (opk_fn ho hcd R (fun L' hL hc => ?_) hlen hnd hbind hkind' hcn hρ' hcl hco hgen hk).toC
  exact h L' (A.deeper (envF qual scope L' f cdv)) (envF qual scope L' f cdv) _ rfl (R.in_ _) (addCells_le _ _ _ hc) fun n c m =>
    ⟨addCells_get _ _ _ (cells_apart _ _ [] (fun p hp => by cases hp) .nil) n c m, hc n c m⟩
end
end Mine
namespace Mine
section
variable {G : Amb} {A : Around} {env : Env} {L : Addr} {ρ : Loc} {σ : St} {X : Value → Shared → Prop} {k : V → St → Prop}
theorem ev_neg {e : Expr} {pos : Pos} (h : EV G A env ρ σ e (fun d σ' => ∃ i, d = .int i ∧ k (.int (-i)) σ') X) : EV G A env ρ σ (.UnaryOp .USub e pos) k X := fun s x => by
  refine UnaryOp_ (wpAny_mono (h s x) (fun v s₁ p => ?_) fun _ _ e => e)
  obtain ⟨h₁, t₁, d, σ₁, rfl, E₁, x₁, r₁, i, rfl, q₁⟩ := p
  cases r₁
  exact PySem.P.neg_int (Post.trans E₁ (.tok x₁ (.int _ _) q₁))
theorem op_item_str {e₁ e₂ : Expr} {x : Str} {i : Int} {c : Nat} (h0 : 0 ≤ i) (hi : i < 2 ^ 63) (hc : x.cps[i.toNat]? = some c) (h : k (.str ⟨#[c]⟩) σ)
    (hs : ∀ t u, subscripted e₂ false (.str x t) (.int i u) = operate [.str x t, .int i u] (getItem (.str x t) (.int i u)) := by intro _ _; with_unfolding_all rfl) : Op2 G A L ρ σ (subscriptTail e₁ e₂) (.str x) (.int i) k X := fun s u v z r₁ r₂ => by
  cases r₁; cases r₂
  rename_i t u
  have hlt : i.toNat < x.cps.size := (Array.getElem?_eq_some_iff.mp hc).1
  refine tail_any (typeIs_str s x t) PySem.F.slot_str_getitem.lookup (PySem.P.getItem_str (c := c) ?_ ?_ (.tok z (.str _ _) h)) (hs _ _)
  · rw [Bool.or_eq_false_iff, decide_eq_false_iff_not, decide_eq_false_iff_not]; constructor <;> omega
  · have e : seqIndex? i x.length = some i.toNat := by
      unfold seqIndex?
      have e1 : ¬ i < 0 := by omega
      have e2 : i < (x.length : Int) := by show i < ((x.cps.size : Nat) : Int); omega
      simp [e1, h0, e2]
    rw [e]; exact hc
theorem ev_upto {value u : Expr} {p pos : Pos} (h : EV G A env ρ σ value (fun d σ₁ => EV G A env ρ σ₁ u (fun c σ₂ => ∃ a ds, ∃ n : Nat, d = .ref a ∧ c = .int n ∧ σ₂ a = some (.list ds) ∧ ds.length ≤ sizeLine ∧ ∀ b, σ₂ b = none → k (.ref b) (σ₂.set b (.list (ds.take n)))) X) X)
    (ht : ∀ o r, letTemporaryGo value o r = pure () := by intro _ _; rfl) : EV G A env ρ σ (.Subscript value (.Slice none (some u) none p) pos) k X := fun s x => by
  refine wpAny_Subscript_list_slice (wpAny_mono (h s x) (fun v s₁ p => ?_) fun _ _ e => e) ht
  obtain ⟨h₁, t₁, d, σ₁, rfl, E₁, x₁, r₁, q₁⟩ := p
  rw [evalPart_none, evalPart_some]
  refine wpAny_pure (wpAny_mono (q₁ _ x₁) (fun w s₂ p => ?_) fun _ _ e => e)
  obtain ⟨h₂, t₂, c, σ₂, rfl, E₂, x₂, r₂, a, ds, n, rfl, rfl, ea, hsz, q₂⟩ := p
  cases r₁; cases r₂
  rename_i tn
  obtain ⟨vs, m, ho, r⟩ := x₂.list ea
  have hl : vs.size = ds.length := by simpa using r.length
  refine ⟨a, vs, none, some n, rfl, isList_of ho, by rw [hl]; exact hsz, .none, .int _ _, ?_⟩
  rw [slicePick_upto']
  have kp₁ : ∀ b o, h₂.get? b = some o → (h₂.push { cls := .type "slice", data := .fields #[.none, .int n tn, .none] }).get? b = some o := fun b o e => Heap.get?_push_of_some _ e
  have x₃ := x₂.keeps kp₁
  have hsz3 := Heap.size_push h₂ { cls := .type "slice", data := .fields #[.none, .int n tn, .none] }
  generalize hH : h₂.push { cls := .type "slice", data := .fields #[.none, .int n tn, .none] } = h₃ at *
  have kp₂ : ∀ b o, h₃.get? b = some o → (h₃.push { cls := .type "list", data := .seq (vs.toList.take n).toArray }).get? b = some o := fun b o e => Heap.get?_push_of_some _ e
  have hn := Mine.none_at_size h₃
  have hD := Heap.get?_push_size h₃ (o := { cls := .type "list", data := .seq (vs.toList.take n).toArray }) rfl
  dsimp only at hsz3 ⊢
  rw [← hsz3]
  have kp : ∀ b o, h₂.get? b = some o → (h₃.push { cls := .type "list", data := .seq (vs.toList.take n).toArray }).get? b = some o := fun b o e => kp₂ b o (kp₁ b o e)
  exact ⟨_, t₂, _, _, rfl, ((E₁.trans E₂).trans (.keeps kp₁)).trans (.new hn kp₂), x₃.newAt (o := .list (ds.take n)) hn (Nat.le_of_lt x₃.big) kp₂ ⟨_, 0, hD, by simpa using (r.take n).mono (.of_keeps kp)⟩, .ref _, q₂ _ (x₃.unused hn)⟩
theorem sliceApplied_15 {prog : Program} {w : World} {E : Value → Shared → Prop} {s : Shared} {sl : Addr} {t u : Tok} {Q : Int × Int × Nat → Shared → Prop} (hs : s.heap.IsSliceOf sl (.int 1 t) (.int 5 u) .none) (h : Q (1, 1, 4) s) :
    wpAny (model prog w) A (Builtin.Slice.sliceApplied (.ref sl) (pure (5 : Int))) Q E s := by
  obtain ⟨os, hos, hcs, hds⟩ := id hs
  unfold Builtin.Slice.sliceApplied Builtin.Slice.sliceFields
  refine wpAny_bind (wpAny_bind (wpAny_field hos hds (x := .int 1 t) rfl (wpAny_bind (wpAny_field hos hds (x := .int 5 u) rfl (wpAny_bind (wpAny_field hos hds (x := .none) rfl (wpAny_pure ?_)))))))
  refine wpAny_bind (slicePart_none ?_)
  show wpAny _ _ (if ((1 : Int) == 0) = true then _ else _) _ _ s
  rw [if_neg (by decide)]
  refine wpAny_bind (slicePart_int (wpAny_bind (slicePart_int (wpAny_bind (wpAny_pure ?_)))))
  show wpAny _ _ (match Builtin.Slice.sliceAdjust (some (1 : Int)) (some (5 : Int)) 1 (5 : Int) with | (lo, hi) => pure (lo, (1 : Int), Builtin.Slice.slicePlaces lo hi 1)) _ _ s
  rw [show Builtin.Slice.sliceAdjust (some (1 : Int)) (some (5 : Int)) 1 (5 : Int) = (1, 5) from by decide]
  exact wpAny_pure h
theorem getItem_tuple_15 {prog : Program} {w : World} {E : Value → Shared → Prop} {s : Shared} {t sl : Addr} {a b c d e : Value} {u v : Tok} {Q : Value → Shared → Prop} (ht : IsTup s.heap t #[a, b, c, d, e]) (hs : s.heap.IsSliceOf sl (.int 1 u) (.int 5 v) .none)
    (h : Q (.ref s.heap.objs.size) { s with heap := s.heap.push { cls := .type "tuple", data := .seq #[b, c, d, e] } }) : wpAny (model prog w) A (getItem (.ref t) (.ref sl)) Q E s := by
  obtain ⟨os, hos, hcs, hds⟩ := id hs
  have hTs : s.TypeIs (.ref sl) "slice" := ⟨os, hos, hcs⟩
  unfold getItem
  try with_reducible refine wpAny_holding ?_
  first | refine wpAny_bind (wpAny_pure ?_) | skip
  refine wpAny_bind (wpAny_sequenceKey ht.typeIs (by decide) ?_)
  refine wpAny_bind (wpAny_callSpecial?_slot (name := Str.ofString "__getitem__") ht.typeIs slot_tuple_getitem
    (wpAny_call_entry slot_tuple_getitem ht.typeIs entry_tuple_getitem ?_ (args_tuple_getitem _ _)))
  show wpAny _ _ (Builtin.Tuple.tupleItemsOf (.ref t) >>= _) _ _ s
  refine wpAny_bind (tupleItemsOf_ ht ?_)
  refine wpAny_bind (wpAny_typeOf hTs ?_)
  rw [if_pos (by decide)]
  refine wpAny_bind (sliceApplied_15 hs ?_)
  show wpAny _ _ (if ((1 : Int) == 0 && (1 : Int) == 1 && (4 : Nat) == 5) = true then _ else _) _ _ s
  rw [if_neg (by decide)]
  have hp : ((List.range 4).filterMap fun (k : Nat) => (#[a, b, c, d, e] : Array Value)[((1 : Int) + (k : Int) * 1).toNat]?).toArray = #[b, c, d, e] := rfl
  rw [hp]
  have hdrop : sizeOk (.seq #[b, c, d, e]) := by show 4 ≤ sizeLine; decide
  first
    | exact wpAny_bind (m := Builtin.Tuple.tupleExact _) (wpAny_newObj_type (wpAny_pure ⟨_, rfl, wpAny_pure h⟩) hdrop)
    | exact wpAny_bind (m := Builtin.Tuple.tupleExact _) (wpAny_newObj_type (wpAny_bind (wpAny_pure (wpAny_pure ⟨_, rfl, wpAny_pure h⟩))) hdrop)
    | exact wpAny_bind (wpAny_bind (m := Builtin.Tuple.tupleExact _) (wpAny_newObj_type (wpAny_pure (wpAny_pure ⟨_, rfl, wpAny_pure h⟩)) hdrop))
    | exact wpAny_bind (wpAny_bind (m := Builtin.Tuple.tupleExact _) (wpAny_newObj_type (wpAny_pure ⟨_, rfl, wpAny_pure h⟩) hdrop))
theorem ev_15 {value l u : Expr} {p pos : Pos} (h : EV G A env ρ σ value (fun d₀ σ₁ => EV G A env ρ σ₁ l (fun c₁ σ₂ => EV G A env ρ σ₂ u (fun c₂ σ₃ => ∃ a b c d e, d₀ = .tup [a, b, c, d, e] ∧ c₁ = .int 1 ∧ c₂ = .int 5 ∧ k (.tup [b, c, d, e]) σ₃) X) X) X)
    (ht : ∀ o r, letTemporaryGo value o r = pure () := by intro _ _; rfl) : EV G A env ρ σ (.Subscript value (.Slice (some l) (some u) none p) pos) k X := fun s x => by
  refine wpAny_Subscript_Slice (T := "tuple") slot_tuple_getitem.lookup (wpAny_mono (h s x) (fun v s₁ p => wpAny_Slice ?_) fun _ _ e => e) ht
  obtain ⟨h₁, t₁, d, σ₁, rfl, E₁, x₁, r₁, q₁⟩ := p
  rw [evalPart_some, evalPart_some, evalPart_none]
  refine wpAny_mono (q₁ _ x₁) (fun w s₂ p => ?_) fun _ _ e => e
  obtain ⟨h₂, t₂, c₁, σ₂, rfl, E₂, x₂, r₂, q₂⟩ := p
  refine wpAny_mono (q₂ _ x₂) (fun w' s₃ p => wpAny_pure ?_) fun _ _ e => e
  obtain ⟨h₃, t₃, c₂, σ₃, rfl, E₃, x₃, r₃, a, b, c, d', e, rfl, rfl, rfl, q₃⟩ := p
  cases r₂; cases r₃
  rename_i tu tv
  have r₁' := (r₁.mono E₂.tup).mono E₃.tup
  cases r₁' with
  | @tup tt n vs _ ho r =>
    obtain ⟨ls⟩ := vs
    cases r with | @cons v1 w1 _ _ a1 r =>
    cases r with | @cons v2 w2 _ _ a2 r =>
    cases r with | @cons v3 w3 _ _ a3 r =>
    cases r with | @cons v4 w4 _ _ a4 r =>
    cases r with | @cons v5 w5 _ _ a5 r =>
    cases r
    have kp₁ : ∀ b o, h₃.get? b = some o → (h₃.push { cls := .type "slice", data := .fields #[.int 1 tu, .int 5 tv, .none] }).get? b = some o := fun b o e => Heap.get?_push_of_some _ e
    have x₄ := x₃.keeps kp₁
    have hio := Heap.IsSliceOf.new h₃ (.int 1 tu) (.int 5 tv) .none
    refine ⟨⟨_, kp₁ _ _ ho, rfl⟩, getItem_tuple_15 (t := tt) (a := v1) (b := v2) (c := v3) (d := v4) (e := v5) ⟨_, kp₁ _ _ ho, rfl, n, rfl⟩ hio ?_⟩
    dsimp only
    generalize h₃.push { cls := .type "slice", data := .fields #[.int 1 tu, .int 5 tv, .none] } = h₄ at *
    have kp₂ : ∀ b o, h₄.get? b = some o → (h₄.push { cls := .type "tuple", data := .seq #[v2, v3, v4, v5] }).get? b = some o := fun b o e => Heap.get?_push_of_some _ e
    have t : TupK h₃ (h₄.push { cls := .type "tuple", data := .seq #[v2, v3, v4, v5] }) := .of_keeps fun b o e => kp₂ b o (kp₁ b o e)
    exact ⟨_, t₃, _, σ₃, rfl, (((E₁.trans E₂).trans E₃).trans (.keeps kp₁)).trans (.keeps kp₂), x₄.keeps kp₂, .tup (vs := #[v2, v3, v4, v5]) (n := 0) (Heap.get?_push_size _ rfl) (.cons (a2.mono t) (.cons (a3.mono t) (.cons (a4.mono t) (.cons (a5.mono t) .nil)))), q₃⟩
end
end Mine
namespace Mine
theorem range_get {α : Type} (d : α) (xs : List α) : (List.range xs.length).map (fun i => xs.getD i d) = xs := by
  apply List.ext_getElem
  · simp
  · intro i h1 h2
    simp only [List.getElem_map, List.getElem_range]
    rw [List.getD_eq_getElem?_getD, List.getElem?_eq_getElem h2]; rfl
theorem comp_list {α β : Type} (d : α) (xs : List α) (f : α → Bool) (g : α → β) : ((List.range xs.length).filter (fun i => f (xs.getD i d))).map (fun i => g (xs.getD i d)) = (xs.filter f).map g := by
  conv => rhs; rw [← range_get d xs]
  rw [List.filter_map, List.map_map]
  rfl
theorem getD_map {α : Type} (d : α) (e : V) (enc : α → V) (xs : List α) {i : Nat} (h : i < xs.length) : (xs.map enc).getD i e = enc (xs.getD i d) := by
  rw [List.getD_eq_getElem?_getD, List.getD_eq_getElem?_getD, List.getElem?_map, List.getElem?_eq_getElem h]; rfl
theorem getD_mem {α : Type} (d : α) (xs : List α) {i : Nat} (h : i < xs.length) : xs.getD i d ∈ xs := by
  rw [List.getD_eq_getElem?_getD, List.getElem?_eq_getElem h]; exact List.getElem_mem h
section
variable {G : Amb} {A : Around} {env : Env} {L : Addr} {ρ : Loc} {σ : St} {X : Value → Shared → Prop}
structure Over (G : Amb) (A : Around) (env : Env) (scope : Scope) (cl : List (Str × Addr)) (target elt : Expr) (ifs : List Expr) {α : Type} (xs : List α) (enc : α → V) (f : α → Bool) (g : α → V) (n : Nat) (item : Nat → V) (need : St → Prop) (σ₁ : St) : Prop where
  len : n = xs.length
  item : ∀ i d, i < n → item i = enc (xs.getD i d)
  need : ∀ σ', Le σ₁ σ' → need σ'
  size : xs.length ≤ sizeLine
  turn : ∀ C x σ₂, x ∈ xs → Le σ₁ σ₂ → TS G A (compEnvC scope cl C env) [] σ₂ (assign target (compEnvC scope cl C env)) (enc x) (fun ρ₂ σ₃ => QV G A (compEnvC scope cl C env) ρ₂ σ₃ ifs (fun b σ₄ => b = f x ∧
        if b = true then EV G A (compEnvC scope cl C env) ρ₂ σ₄ elt (fun d σ₅ => d = g x ∧ Le σ₂ σ₅) never else Le σ₂ σ₄) never) never
theorem ev_Over {elt target iter : Expr} {ifs : List Expr} {scope : Scope} {pos : Pos} {cl : List (Str × Addr)} {k : V → St → Prop} {α : Type} (d₀ : α)
    (h : IE G A env ρ σ iter target (fun n item need σ₁ => ∃ (xs : List α) (enc : α → V) (f : α → Bool) (g : α → V), Over G A env scope cl target elt ifs xs enc f g n item need σ₁ ∧
      (∀ D σ', Le σ₁ σ' → σ₁ D = none → σ' D = some (.list ((xs.filter f).map g)) → k (.ref D) σ')) X)
    (hclos : closureFor scope env = pure cl := by rfl) (hcell : ∀ y ∈ scope.names, y.2 ≠ .cell := by decide) (hkind : scope.kind = .function := by rfl) (hnames : ∀ y ∈ scope.names, y.2 = .local → scope.names.lookup y.1 = some .local := by decide)
    (hs : ∀ x, foldedSetIterable iter env x = pure x := by intro _; rfl) : EV G A env ρ σ (.ListComp elt [⟨target, iter, ifs, 0⟩] scope pos) k X := by
  refine ev_ListComp (fun s x => ?_) hclos hcell hkind hnames hs
  refine IE.mono h (fun n item need σ₁ q₉ => ?_) s x
  obtain ⟨xs, enc, f, g, O, fin⟩ := q₉
  refine ⟨(fun i => f (xs.getD i d₀)), (fun i => g (xs.getD i d₀)), O.need, by rw [O.len]; exact O.size, fun C i σ₂ le hi => ?_, fun D σ' le hD hl => fin D σ' le hD ?_⟩
  · rw [O.item i d₀ hi]
    exact O.turn C _ σ₂ (getD_mem d₀ xs (by rw [← O.len]; exact hi)) le
  · rw [O.len, comp_list] at hl; exact hl
theorem sv_Over {x : Str} {pos' pos₂ : Pos} {elt target iter : Expr} {ifs : List Expr} {scope : Scope} {pos : Pos} {cl : List (Str × Addr)} {k : AF → Loc → St → Prop} {α : Type} (d₀ : α)
    (h : IE G A env ρ σ iter target (fun n item need σ₁ => ∃ (xs : List α) (enc : α → V) (f : α → Bool) (g : α → V), Over G A env scope cl target elt ifs xs enc f g n item need σ₁ ∧
      (∀ D σ', Le σ₁ σ' → σ₁ D = none → σ' D = some (.list ((xs.filter f).map g)) → k .next (ρ.put x (.ref D)) σ')) X)
    (hsw : swapsWith (.ListComp elt [⟨target, iter, ifs, 0⟩] scope pos) (some (.Name x pos')) pos₂.line env = pure true := by rfl)
    (hk : env.scope.kind = .function := by rfl) (hl : env.kindOf x = some .local := by rfl)
    (hclos : closureFor scope env = pure cl := by rfl) (hcell : ∀ y ∈ scope.names, y.2 ≠ .cell := by decide) (hkind : scope.kind = .function := by rfl) (hnames : ∀ y ∈ scope.names, y.2 = .local → scope.names.lookup y.1 = some .local := by decide)
    (hs : ∀ x, foldedSetIterable iter env x = pure x := by intro _; rfl) : SV G A env ρ σ (exec (.Assign [.Name x pos'] (.ListComp elt [⟨target, iter, ifs, 0⟩] scope pos) pos₂) env) k X := by
  refine sv_AssignComp (fun s x => ?_) hsw hk hl hclos hcell hkind hnames hs
  refine IE.mono h (fun n item need σ₁ q₉ => ?_) s x
  obtain ⟨xs, enc, f, g, O, fin⟩ := q₉
  refine ⟨(fun i => f (xs.getD i d₀)), (fun i => g (xs.getD i d₀)), O.need, by rw [O.len]; exact O.size, fun C i σ₂ le hi => ?_, fun D σ' le hD hl => fin D σ' le hD ?_⟩
  · rw [O.item i d₀ hi]
    exact O.turn C _ σ₂ (getD_mem d₀ xs (by rw [← O.len]; exact hi)) le
  · rw [O.len, comp_list] at hl; exact hl
end
end Mine
namespace Mine
mutual
def V.lay : V → Bool
  | .none => true | .bool _ => true | .int _ => true
  | .str x => PyData.strOk x
  | .tup vs => V.lays vs
  | .ref _ => false | .glob _ => false
def V.lays : List V → Bool
  | [] => true
  | v :: vs => V.lay v && V.lays vs
end
mutual
def V.dep : V → Nat
  | .tup vs => V.deps vs + 1
  | _ => 0
def V.deps : List V → Nat
  | [] => 0
  | v :: vs => max (V.dep v) (V.deps vs)
end
mutual
theorem V.lay_data : ∀ {d : V}, d.lay = true → d.data = true ∧ d.P.canLay0 = true ∧ d.P.depth = d.dep
  | .none, _ => ⟨rfl, rfl, rfl⟩
  | .bool _, _ => ⟨rfl, rfl, rfl⟩
  | .int _, _ => ⟨rfl, rfl, rfl⟩
  | .str x, h => ⟨rfl, by simpa [V.P, PyData.canLay0, V.lay] using h, rfl⟩
  | .tup vs, h => by
    obtain ⟨a, b, c⟩ := V.lays_data (vs := vs) (by simpa [V.lay] using h)
    exact ⟨by simpa [V.data] using a, by simpa [V.P, PyData.canLay0] using b, by simp [V.P, PyData.depth, V.dep, c]⟩
  | .ref _, h => by simp [V.lay] at h
  | .glob _, h => by simp [V.lay] at h
theorem V.lays_data : ∀ {vs : List V}, V.lays vs = true → V.datas vs = true ∧ PyData.canLayAll0 (V.Ps vs) = true ∧ PyData.depthAll (V.Ps vs) = V.deps vs
  | [], _ => ⟨rfl, rfl, rfl⟩
  | v :: vs, h => by
    simp only [V.lays, Bool.and_eq_true] at h
    obtain ⟨a, b, c⟩ := V.lay_data h.1
    obtain ⟨a', b', c'⟩ := V.lays_data h.2
    exact ⟨by simp [V.datas, a, a'], by simp [V.Ps, PyData.canLayAll0, b, b'], by simp [V.Ps, PyData.depthAll, V.deps, c, c']⟩
end
theorem lays_of : ∀ {vs : List V}, (∀ d ∈ vs, d.lay = true) → V.lays vs = true
  | [], _ => rfl
  | v :: vs, h => by simp only [V.lays, Bool.and_eq_true]; exact ⟨h v (by simp), lays_of fun d hd => h d (by simp [hd])⟩
theorem deps_of {n : Nat} : ∀ {vs : List V}, (∀ d ∈ vs, d.dep ≤ n) → V.deps vs ≤ n
  | [], _ => Nat.zero_le _
  | v :: vs, h => by simp only [V.deps]; exact Nat.max_le.mpr ⟨h v (by simp), deps_of fun d hd => h d (by simp [hd])⟩
structure Fit (d : V) (n : Nat) : Prop where
  lay : d.lay = true
  dep : d.dep ≤ n
theorem Fit.le {d : V} {n m : Nat} (h : Fit d n) (hm : n ≤ m) : Fit d m := ⟨h.lay, Nat.le_trans h.dep hm⟩
theorem Fit.none {n} : Fit .none n := ⟨rfl, Nat.zero_le _⟩
theorem Fit.bool {n} (b) : Fit (.bool b) n := ⟨rfl, Nat.zero_le _⟩
theorem Fit.int {n} (i) : Fit (.int i) n := ⟨rfl, Nat.zero_le _⟩
theorem Fit.str {n} {x} (h : PyData.strOk x = true) : Fit (.str x) n := ⟨by simpa [V.lay] using h, Nat.zero_le _⟩
theorem Fit.tup {n} {vs : List V} (h : ∀ d ∈ vs, Fit d n) : Fit (.tup vs) (n + 1) := ⟨by rw [V.lay]; exact lays_of fun d hd => (h d hd).lay, by rw [V.dep]; exact Nat.succ_le_succ (deps_of fun d hd => (h d hd).dep)⟩
theorem Fit.shaped {d : V} (h : Fit d 60) : SeqAt.shaped d.P = true := by
  obtain ⟨a, b, c⟩ := V.lay_data h.lay
  have := h.dep
  unfold SeqAt.shaped
  rw [b, Bool.true_and, decide_eq_true_eq, c]; omega
theorem fit_list {vs : List V} (h : ∀ d ∈ vs, Fit d 60) : V.datas vs = true ∧ SeqAt.shaped (.list (V.Ps vs)) = true ∧ PyData.canLay0 (.list (V.Ps vs)) = true := by
  obtain ⟨a, b, c⟩ := V.lays_data (lays_of fun d hd => (h d hd).lay)
  have := deps_of fun d hd => (h d hd).dep
  have e : PyData.canLay0 (.list (V.Ps vs)) = true := by simpa [PyData.canLay0] using b
  refine ⟨a, ?_, e⟩
  unfold SeqAt.shaped
  rw [e, Bool.true_and, decide_eq_true_eq, PyData.depth, c]; omega
theorem fit_strs {xs : List Str} (h : ∀ x ∈ xs, PyData.strOk x = true) : ∀ d ∈ xs.map V.str, Fit d 60 := fun d hd => by
  obtain ⟨x, hx, rfl⟩ := List.mem_map.mp hd; exact .str (h x hx)
section
variable {G : Amb} {A : Around} {L : Addr} {ρ : Loc} {σ : St} {X : Value → Shared → Prop} {k : V → St → Prop}
theorem eqv_nil (xs : List V) : PyData.eqv (.list (V.Ps xs)) (.list (V.Ps [])) = xs.isEmpty := by
  cases xs <;> simp [V.Ps, PyData.eqv, PyData.eqvAll]
theorem eqv_nilT (xs : List V) : PyData.eqv (V.tup xs).P (V.tup []).P = xs.isEmpty := by
  cases xs <;> simp [V.P, V.Ps, PyData.eqv, PyData.eqvAll]
theorem op_eq_nil {a b : Addr} {xs : List V} {n : Nat} (R : Room A n) (ea : σ a = some (.list xs)) (eb : σ b = some (.list [])) (hx : ∀ d ∈ xs, Fit d 60) (h : k (.bool xs.isEmpty) σ) : Op2 G A L ρ σ (compareOp .Eq) (.ref a) (.ref b) k X := by
  obtain ⟨a1, b1, c1⟩ := fit_list hx
  obtain ⟨a2, b2, c2⟩ := fit_list (vs := []) (fun d hd => by cases hd)
  exact op_eq_list R ea eb a1 a2 b1 b2 (by rw [eqv_nil]; exact h)
theorem op_ne_nil {a b : Addr} {xs : List V} {n : Nat} (R : Room A n) (ea : σ a = some (.list xs)) (eb : σ b = some (.list [])) (hx : ∀ d ∈ xs, Fit d 60) (h : k (.bool (!xs.isEmpty)) σ) : Op2 G A L ρ σ (compareOp .NotEq) (.ref a) (.ref b) k X := by
  obtain ⟨a1, b1, c1⟩ := fit_list hx
  obtain ⟨a2, b2, c2⟩ := fit_list (vs := []) (fun d hd => by cases hd)
  exact op_ne_list R ea eb a1 a2 b1 b2 (by rw [eqv_nil]; exact h)
theorem op_eq_same {a b : Addr} {xs : List V} {n : Nat} (R : Room A n) (ea : σ a = some (.list xs)) (eb : σ b = some (.list xs)) (hx : ∀ d ∈ xs, Fit d 60) (h : k (.bool true) σ) : Op2 G A L ρ σ (compareOp .Eq) (.ref a) (.ref b) k X := by
  obtain ⟨a1, b1, c1⟩ := fit_list hx
  exact op_eq_list R ea eb a1 a1 b1 b1 (by rw [PySem.SeqAt.eqv_refl _ c1]; exact h)
theorem op_ne_same {a b : Addr} {xs : List V} {n : Nat} (R : Room A n) (ea : σ a = some (.list xs)) (eb : σ b = some (.list xs)) (hx : ∀ d ∈ xs, Fit d 60) (h : k (.bool false) σ) : Op2 G A L ρ σ (compareOp .NotEq) (.ref a) (.ref b) k X := by
  obtain ⟨a1, b1, c1⟩ := fit_list hx
  exact op_ne_list R ea eb a1 a1 b1 b1 (by rw [PySem.SeqAt.eqv_refl _ c1]; exact h)
theorem op_ne_sameT {d : V} {n : Nat} (R : Room A n) (hx : Fit d 60) (h : k (.bool false) σ) : Op2 G A L ρ σ (compareOp .NotEq) d d k X := by
  obtain ⟨a, b, c⟩ := V.lay_data hx.lay
  exact op_ne_data R a a hx.shaped hx.shaped (by rw [PySem.SeqAt.eqv_refl _ b]; exact h)
theorem op_eq_nilT {xs : List V} {n : Nat} (R : Room A n) (hx : Fit (.tup xs) 60) (h : k (.bool xs.isEmpty) σ) : Op2 G A L ρ σ (compareOp .Eq) (.tup xs) (.tup []) k X := by
  have f2 : Fit (.tup []) 60 := (Fit.tup (n := 0) (fun d hd => by cases hd)).le (by decide)
  exact op_eq_data R (V.lay_data hx.lay).1 rfl hx.shaped f2.shaped (by rw [eqv_nilT]; exact h)
theorem op_ne_nilT {xs : List V} {n : Nat} (R : Room A n) (hx : Fit (.tup xs) 60) (h : k (.bool (!xs.isEmpty)) σ) : Op2 G A L ρ σ (compareOp .NotEq) (.tup xs) (.tup []) k X := by
  have f2 : Fit (.tup []) 60 := (Fit.tup (n := 0) (fun d hd => by cases hd)).le (by decide)
  exact op_ne_data R (V.lay_data hx.lay).1 rfl hx.shaped f2.shaped (by rw [eqv_nilT]; exact h)
end
end Mine
namespace Mine
section
variable {G : Amb} {A : Around} {L : Addr} {ρ : Loc} {σ : St} {X : Value → Shared → Prop} {k : V → St → Prop}
theorem Room.under {n : Nat} (R : Room A (n + 1)) (a : Args) : Room (A.under (.builtin "type.__call__" a)) n := by
  have hw : (Code.builtin "type.__call__" a).weight ≤ 1 := by
    unfold Code.weight
    rw [show (Code.builtin "type.__call__" a).isCaller = false by kernel_rfl, show (Code.builtin "type.__call__" a).isGuard = false by kernel_rfl, show (Code.builtin "type.__call__" a).frames = 0 by kernel_rfl]
    split <;> decide
  have hu : (Code.builtin "type.__call__" a).cUnits = 1 := rfl
  refine ⟨R.handled, ?_, ?_⟩
  · show A.depth + (Code.builtin "type.__call__" a).weight + n < _
    have := R.depth; omega
  · show A.units + (Code.builtin "type.__call__" a).cUnits + 8 * n + 80 < _
    have := R.units; rw [hu]; omega
theorem opc_cls {C fI : Addr} {ds : List V} {n : Nat} (hm : makesIn G.K C = true) (hi : findIn G.K (.ref C) "__init__" = some (some (.ref fI))) (hf : isFn G.K (.ref fI) = true) (R : Room A (n + 1))
    (h : ∀ A' x dx, Room A' n → σ x = none → σ dx = none → x ≠ dx → OpK G A' L ρ ((σ.set dx (.attrs [])).set x (.inst C dx)) (.ref fI) (.ref x :: ds) (fun d σ' => d = .none ∧ k (.ref x) σ')) : OpC G A L ρ σ (.ref C) ds k X := fun s vs x r => by
  obtain ⟨hh, g, d, t, os⟩ := s
  refine wpAny_call (make_core (makes_of x.In hm) (looks_findIn x.In hi) (fun self => bind_fn x.In self (beq_iff_eq.mp hf)) (.inl rfl) ?_)
  dsimp only at x r
  have kp₁ : ∀ b o, hh.get? b = some o → (hh.push emptyDict).get? b = some o := fun b o e => Heap.get?_push_of_some _ e
  have hn₁ := Mine.none_at_size hh
  have hD := Heap.get?_push_size hh (o := emptyDict) rfl
  have x₁ : S G L ρ (σ.set hh.objs.size (.attrs [])) (hh.push emptyDict) := x.newAt (o := .attrs []) hn₁ (Nat.le_of_lt x.big) kp₁ ⟨[], 0, hD, .nil⟩
  have E₁ : Ext σ hh (hh.push emptyDict) (σ.set hh.objs.size (.attrs [])) := .new hn₁ kp₁
  have hsz := Heap.size_push hh emptyDict
  have kp₂ : ∀ b o, (hh.push emptyDict).get? b = some o → ((hh.push emptyDict).push (instObj C hh.objs.size)).get? b = some o := fun b o e => Heap.get?_push_of_some _ e
  have hn₂ := Mine.none_at_size (hh.push emptyDict)
  have hx := Heap.get?_push_size (hh.push emptyDict) (o := instObj C hh.objs.size) rfl
  rw [hsz] at hn₂ hx
  have hbig : G.h₀.objs.size ≤ hh.objs.size + 1 := Nat.le_succ_of_le (Nat.le_of_lt x.big)
  have x₂ : S G L ρ ((σ.set hh.objs.size (.attrs [])).set (hh.objs.size + 1) (.inst C hh.objs.size)) ((hh.push emptyDict).push (instObj C hh.objs.size)) := x₁.newAt (o := .inst C hh.objs.size) hn₂ hbig kp₂ hx
  have E₂ := E₁.trans (Ext.new (o := .inst C hh.objs.size) hn₂ kp₂)
  have σ1 : σ hh.objs.size = none := x.unused hn₁
  have σ2 : σ (hh.objs.size + 1) = none := by
    have := x₁.unused hn₂
    rwa [St.set_ne _ _ (Nat.succ_ne_self _)] at this
  refine h (A.under _) (hh.objs.size + 1) hh.objs.size (R.under _) σ2 σ1 (Nat.succ_ne_self _) ⟨_, g, d, t, os⟩ _ _ x₂ (.cons (.ref _) (r.mono (.of_keeps fun b o e => kp₂ b o (kp₁ b o e)))) fun v s' p => ?_
  refine p.elim fun h' tk d' σ' E y rv q₉ => ?_; obtain ⟨rfl, hk⟩ := q₉
  cases rv
  exact ⟨rfl, h', tk, _, σ', rfl, E₂.trans E, y, .ref _, hk⟩
end
end Mine
set_option maxRecDepth 100000
namespace Mine
theorem plain_update_loop : plainId "dict.update.loop" = true := by decide +kernel
theorem entry_update_loop : entryFor table "dict.update.loop" = some Builtin.«dict.update.loop» := entryFor_of_tree (by kernel_rfl)
theorem list_no_keys : typeLookup (.type "list") "keys" = pure none := am_miss_of_fast (by kernel_rfl)
theorem getAttrQ_list {prog : Program} {w : World} {A : Around} {E : Value → Shared → Prop} {s : Shared} {a : Addr} {xs : Array Value} {n : Nat} {Q : Option Value → Shared → Prop} (hx : s.heap.get? a = some (listOf xs n)) (hA : A.handled = none)
    (h : ∀ h' tk, (∀ b o, s.heap.get? b = some o → h'.get? b = some o) → Q none { s with heap := h', toks := tk }) : wpAny (model prog w) A (getAttr? (.ref a) "keys") Q E s := by
  obtain ⟨hp, g, d, tk, os⟩ := s
  have hT : ∀ tk', (⟨hp, g, d, tk', os⟩ : Shared).TypeIs (.ref a) "list" := fun _ => ⟨_, hx, rfl⟩
  have f1 := sub_AttributeError
  have f3 := PySem.F.slot_list_getattribute.lookup
  have f4 := PySem.F.slot_list_getattribute.bind (.ref a)
  have f5 := am_list_getattr_none
  have hmiss := list_no_keys
  have hsz : (Str.ofString "keys").length + 100 ≤ sizeLine := by decide +kernel
  unfold getAttr? getAttrBy? getAttrBy
  repeat (any_goals (first | assumption | exact hT _ | ((with_reducible show wpAny _ _ (call (Value.builtin "list.__getattribute__") _ _) _ _ _); refine call_meets PySem.F.slot_list_getattribute (hT _) am_entry_list_getattribute (PySem.F.args_list_getattribute_2 _ _) (meets_getattribute_miss_list a xs n #[] "keys" _ hmiss (by decide +kernel) hsz) ⟨hx, hA, fun h' tk' e hx' => ?_⟩) | wp_step))
  obtain ⟨t', u', he⟩ := hx'.there
  show wpAny _ _ (getattributeRaised _ _ _ _ _ _ _) _ _ _
  unfold getattributeRaised
  repeat (any_goals (first | assumption | wp_step))
  exact h _ _ hx'.keeps
theorem St.set_set (σ : St) (a : Addr) (x y : AObj) : (σ.set a x).set a y = σ.set a y := by
  funext b; unfold St.set; split <;> rfl
section
variable {G : Amb} {A : Around} {L : Addr} {ρ : Loc} {σ : St} {X : Value → Shared → Prop} {k : V → St → Prop}
def pairV (p : Str × V) : V := .tup [.str p.1, p.2]
theorem mem_take_len {α : Type} (xs : List α) (i : Nat) : (xs.take i).length ≤ xs.length := by rw [List.length_take]; omega
theorem vput_fresh (es : List (Str × V)) (x : Str) (d : V) (h : x ∉ es.map (·.1)) : vput es x d = es ++ [(x, d)] := by
  unfold vput
  have e : es.any (fun kv => decide (kv.1 = x)) = false := by
    rw [List.any_eq_false]
    intro p hp
    simp only [decide_eq_true_eq]
    exact fun e => h (List.mem_map.mpr ⟨p, hp, e⟩)
  rw [e, if_neg (by decide)]
theorem dict_loop (hh : A.handled = none) {a D I : Addr} {es : List (Str × V)} (hnd : (es.map (·.1)).Nodup) (hsz : es.length ≤ sizeLine) (aD : a ≠ D) (IL : L ≠ I) (I0 : G.h₀.get? I = none) :
    ∀ (m i : Nat) (s : Shared) (σ : St) (ep : Nat) (R : Result → Shared → Prop), es.length - i = m → i ≤ es.length → S G L ρ σ s.heap → σ a = some (.list (es.map pairV)) → σ D = some (.sdict ep (es.take i)) → σ I = none → s.heap.IsListIter I a i →
      (∀ s' h' tk ep', s' = { s with heap := h', toks := tk } → (∀ b o, b ≠ I → b ≠ D → s.heap.get? b = some o → h'.get? b = some o) → TupK s.heap h' → S G L ρ (σ.set D (.sdict ep' es)) h' → R (.ok (.ret .none)) s') →
      codeAny (model G.prog G.w) A (.builtin "dict.update.loop" ⟨[.ref D, .ref I, .int i 0, .none], []⟩) R s := by
  intro m
  induction m with
  | zero =>
    intro i s σ ep R hm hi x ea eD eI hit hR
    have hin : i = es.length := by omega
    subst hin
    obtain ⟨vs, n, ho, r⟩ := x.list ea
    have hl : vs.size = es.length := by simpa using r.length
    refine codeAny_builtin entry_update_loop ?_
    rw [Around.under_plainId plain_update_loop _]
    show wpAny _ A.in1 (pyNext (.ref I) >>= _) _ _ s
    refine wpAny_bind (wpAny_pyNext_list_end (A := A.in1) hh hit (isList_of ho) (by rw [← hl]; simp) fun h' he => ?_)
    show wpAny _ A.in1 (Builtin.Dict.addKeywords D [] >>= _) _ _ _
    refine wpAny_bind (wpAny_pure (wpAny_pure ?_))
    have kb : ∀ b o, b ∉ [I] → s.heap.get? b = some o → h'.get? b = some o := fun b o hb e => he b o (fun h => hb (by simp [h])) e
    have nt : ∀ b ∈ [I], ∃ o, s.heap.get? b = some o ∧ ¬ Tuple? o := fun b m => by
      rw [List.mem_singleton] at m; subst m
      obtain ⟨o, ho, hc, hd⟩ := hit
      exact ⟨o, ho, fun ⟨_, xs, n, t⟩ => by rw [hd] at t; cases t⟩
    have t := tupK_but kb nt
    have x' : S G L ρ σ h' := x.keepBut kb t (fun b m => by rw [List.mem_singleton.mp m]; exact eI) (by simp; exact IL) (fun b m => by rw [List.mem_singleton.mp m]; exact I0)
    rw [List.take_length] at eD
    refine hR _ h' s.toks ep rfl (fun b o h1 _ e => he b o h1 e) t ?_
    have : σ.set D (.sdict ep es) = σ := by
      funext b; unfold St.set; split
      · rename_i q; rw [q]; exact eD.symm
      · rfl
    rw [this]; exact x'
  | succ m ih =>
    intro i s σ ep R hm hi x ea eD eI hit hR
    have hlt : i < es.length := by omega
    obtain ⟨vs, n, ho, r⟩ := x.list ea
    have hl : vs.size = es.length := by simpa using r.length
    obtain ⟨v, hv, rv⟩ := r.get i (d := pairV es[i]) (by rw [List.getElem?_map, List.getElem?_eq_getElem hlt]; rfl)
    refine codeAny_builtin entry_update_loop ?_
    rw [Around.under_plainId plain_update_loop _]
    show wpAny _ A.in1 (pyNext (.ref I) >>= _) _ _ s
    refine wpAny_bind (wpAny_pyNext_list_item hit (isList_of ho) (x := v) (by simpa using hv) fun h₁ hit₁ hs₁ => ?_)
    have kb : ∀ b o, b ∉ [I] → s.heap.get? b = some o → h₁.get? b = some o := fun b o hb e => hs₁.extBut b o (fun h => hb (by simp [h])) e
    have nt : ∀ b ∈ [I], ∃ o, s.heap.get? b = some o ∧ ¬ Tuple? o := fun b m => by
      rw [List.mem_singleton] at m; subst m
      obtain ⟨o, ho, hc, hd⟩ := hit
      exact ⟨o, ho, fun ⟨_, xs, n, t⟩ => by rw [hd] at t; cases t⟩
    have t₁ := tupK_but kb nt
    have x₁ : S G L ρ σ h₁ := x.keepBut kb t₁ (fun b m => by rw [List.mem_singleton.mp m]; exact eI) (by simp; exact IL) (fun b m => by rw [List.mem_singleton.mp m]; exact I0)
    have rv₁ := rv.mono t₁
    generalize hp : es[i] = p at rv₁
    obtain ⟨kx, dv⟩ := p
    unfold pairV at rv₁
    cases rv₁ with
    | @tup tt tn tvs _ hot rt =>
      obtain ⟨ls⟩ := tvs
      cases rt with | @cons v1 w1 _ _ a1 rt =>
      cases rt with | @cons v2 w2 _ _ a2 rt =>
      cases rt
      cases a1 with | str _ tk1 =>
      have hT : (⟨h₁, s.gens, s.drawn, s.toks, s.os⟩ : Shared).TypeIs (.ref tt) "tuple" := ⟨_, hot, rfl⟩
      show wpAny _ A.in1 (holding [Value.ref tt] _ >>= _) _ _ _
      refine wpAny_bind (wpAny_holding ?_)
      obtain ⟨kvs, hd, q⟩ := x₁.sdict eD
      have hnot : kx ∉ (es.take i).map (·.1) := by
        intro hin
        rw [List.map_take] at hin
        obtain ⟨j, hj, e⟩ := List.mem_take_iff_getElem.mp hin
        have hk : (es.map (·.1))[i]'(by simpa using hlt) = kx := by simp [hp]
        have := (List.getElem_inj hnd).mp (e.trans hk.symm)
        omega
      have pi : wpAny (model G.prog G.w) A.in1 (Builtin.Dict.pairItems (.ref tt)) (fun l s' => l = [.str kx tk1, v2] ∧ s' = ⟨h₁, s.gens, s.drawn, s.toks, s.os⟩) (fun _ _ => False) ⟨h₁, s.gens, s.drawn, s.toks, s.os⟩ := by
        unfold Builtin.Dict.pairItems
        refine wpAny_bind (wpAny_typeOf hT ?_)
        rw [if_pos (by decide)]
        exact wpAny_bind (wpAny_seqItems hot rfl (wpAny_pure ⟨rfl, rfl⟩))
      refine wpAny_bind (wpAny_tryCatch (wpAny_mono pi (fun l s' pp => ?_) fun _ _ e => e.elim))
      obtain ⟨rfl, rfl⟩ := pp
      have tl := mem_take_len es i
      refine wpAny_holding (wpAny_dictSet_pairs (s := ⟨h₁, s.gens, s.drawn, s.toks, s.os⟩) (key_str ..) hd (fun h₂ hd₂ hs₂ => ?_) (by rw [q.length]; omega))
      obtain ⟨od, hod, ndt⟩ := dict_no_tuple hd
      have t₂ : TupK h₁ h₂ := tupK_sameBut hs₂ hod ndt
      obtain ⟨ep₂, hd₂'⟩ := hd₂.dictAt
      have hq₂ : SD h₂ (stored kvs kx v2) (vput (es.take i) kx dv) := (q.stored a2).mono t₂
      have hvp : vput (es.take i) kx dv = es.take (i + 1) := by
        rw [vput_fresh _ _ _ hnot, List.take_add_one, List.getElem?_eq_getElem hlt, hp]; rfl
      rw [hvp] at hq₂
      have xr : RepObj G.prog G.w h₂ D (.sdict ep₂ (es.take (i + 1))) := sdict_rep hd₂' hq₂
      have x₂ : S G L ρ (σ.set D (.sdict ep₂ (es.take (i + 1)))) h₂ := x₁.upd eD hs₂ xr
      have DI : D ≠ I := fun q => by rw [q, eI] at eD; cases eD
      have hit₂ : h₂.IsListIter I a (i + 1) := hit₁.at fun o e => (hs₂.2 I DI.symm).trans e
      refine wpAny_pure (Q := fun fin s' => match fin with | .done f => R (.ok f) s' | .again c' => c'.quiet = true ∧ codeAny (model G.prog G.w) A c' R s') (a := Fin.again (.builtin "dict.update.loop" ⟨[.ref D, .ref I, .int ((i : Int) + 1) 0, .none], []⟩)) ⟨plainId_quiet plain_update_loop _, ?_⟩
      have ei : ((i : Int) + 1) = ((i + 1 : Nat) : Int) := by push_cast; rfl
      rw [ei]
      refine ih (i + 1) _ (σ.set D (.sdict ep₂ (es.take (i + 1)))) ep₂ R (by omega) hlt x₂ ((St.keep aD ea)) (St.set_same ..) ((St.keep DI.symm eI)) hit₂ fun s' h' tk ep' e k' t' x' => ?_
      subst e
      rw [St.set_set] at x'
      exact hR _ h' tk ep' rfl (fun b o hbI hbD e => k' b o hbI hbD ((hs₂.2 b hbD).trans (kb b o (by simp [hbI]) e))) ((t₁.trans t₂).trans t') x'
theorem opc_dict_pairs (hh : A.handled = none) {a : Addr} {es : List (Str × V)} (hnd : (es.map (·.1)).Nodup) (hsz : es.length ≤ sizeLine) (ea : σ a = some (.list (es.map pairV)))
    (h : ∀ D ep, σ D = none → k (.ref D) (σ.set D (.sdict ep es))) : OpC G A L ρ σ (.type "dict") [.ref a] k X := fun s vs x r => by
  obtain ⟨v, rfl, r₁⟩ := repAll_one r
  cases r₁
  refine callType_codes (Q₁ := fun obj s₁ => obj = .ref s.heap.objs.size ∧ s₁ = { s with heap := s.heap.push { cls := .type "dict", data := .dict #[] } }) PySem.F.kt_called_dict (PySem.F.kt_typeCall_dict_1 _) PySem.F.entry_dict_init (kt_code_dict_new _ ⟨rfl, rfl⟩) ?_
  rintro obj s₁ ⟨rfl, rfl⟩
  have kp : ∀ b o, s.heap.get? b = some o → (s.heap.push { cls := .type "dict", data := .dict #[] }).get? b = some o := fun b o e => Heap.get?_push_of_some _ e
  have hn := Mine.none_at_size s.heap
  obtain ⟨ep, hd⟩ := (Heap.DictOf.new (knd := PySem.strKind G.prog G.w) s.heap).dictAt
  have x₁ : S G L ρ (σ.set s.heap.objs.size (.sdict ep [])) _ := x.newAt (o := .sdict ep []) hn (Nat.le_of_lt x.big) kp (sdict_rep hd .nil)
  have σD : σ s.heap.objs.size = none := x.unused hn
  have aD : a ≠ s.heap.objs.size := fun q => by rw [← q, ea] at σD; cases σD
  have E₁ : Ext σ s.heap _ (σ.set s.heap.objs.size (.sdict ep [])) := .new hn kp
  refine ⟨hd.dictOf.typeIs, PySem.F.args_dict_init_2 _ _, ?_⟩
  generalize hD : s.heap.objs.size = D at *
  generalize s.heap.push { cls := .type "dict", data := .dict #[] } = h₁ at *
  unfold Builtin.«dict.__init__»
  refine wpAny_bind ?_
  unfold Builtin.Dict.selfAndRest
  refine wpAny_bind (wpAny_notOrdered_dict hd.dictOf.typeIs ?_)
  show wpAny _ _ (pure (D, [Value.ref a])) _ _ _
  refine wpAny_pure ?_
  show wpAny _ _ (Builtin.Dict.updateFrom "dict.__init__" D (.ref a) [] .none) _ _ _
  have ea₁ : (σ.set D (.sdict ep [])) a = some (.list (es.map pairV)) := St.keep aD ea
  obtain ⟨vs, n, ho, rl⟩ := x₁.list ea₁
  have hTl : (⟨h₁, s.gens, s.drawn, s.toks, s.os⟩ : Shared).TypeIs (.ref a) "list" := ⟨_, ho, rfl⟩
  unfold Builtin.Dict.updateFrom
  refine wpAny_bind (wpAny_typeOf hTl ?_)
  rw [if_pos (by decide)]
  refine wpAny_bind (getAttrQ_list (s := ⟨h₁, s.gens, s.drawn, s.toks, s.os⟩) ho hh fun h₂ tk₂ kp₂ => ?_)
  simp only [Option.isNone_none, if_true]
  refine wpAny_bind (wpAny_rule ?_)
  have x₂ := x₁.keeps kp₂
  have E₂ := E₁.trans (Ext.keeps kp₂)
  refine wpAny_bind (wpAny_pyIter_list (l := a) (items := vs) (isList_of (kp₂ _ _ ho)) ?_)
  dsimp only
  have kp₃ : ∀ b o, h₂.get? b = some o → (h₂.push { cls := .type "list_iterator", data := .fields #[.ref a, .int 0 0] }).get? b = some o := fun b o e => Heap.get?_push_of_some _ e
  have hn₃ := Mine.none_at_size h₂
  have hI := Heap.get?_push_size h₂ (o := { cls := .type "list_iterator", data := .fields #[.ref a, .int 0 0] }) rfl
  have x₃ := x₂.keeps kp₃
  have E₃ := E₂.trans (Ext.keeps kp₃)
  have eI : (σ.set D (.sdict ep [])) h₂.objs.size = none := x₂.unused hn₃
  have hsI : s.heap.get? h₂.objs.size = none := by
    cases q : s.heap.get? h₂.objs.size with
    | none => rfl
    | some o => obtain ⟨o', e'⟩ := E₂.alive _ o q; rw [hn₃] at e'; cases e'
  have IL : L ≠ h₂.objs.size := Nat.ne_of_lt x₂.frame.lt
  have I0 : G.h₀.get? h₂.objs.size = none := by
    cases q : G.h₀.get? h₂.objs.size with
    | none => rfl
    | some o => have := x₂.base _ o q; rw [hn₃] at this; cases this
  generalize h₂.objs.size = I at *
  refine wpAny_pure (a := Fin.again (.builtin "dict.update.loop" ⟨[.ref D, .ref I, .int 0 0, .none], []⟩)) ⟨plainId_quiet plain_update_loop _, ?_⟩
  refine dict_loop (A := A.in1) (G := G) (L := L) (ρ := ρ) hh hnd hsz aD IL I0 es.length 0 _ (σ.set D (.sdict ep [])) ep _ (by omega) (Nat.zero_le _) x₃ ea₁ (St.set_same ..) eI ⟨_, hI, rfl, rfl⟩ fun s' h' tk ep' e k' t' x' => ?_
  subst e
  rw [St.set_set] at x'
  refine ⟨rfl, h', tk, _, _, rfl, ?_, x', .ref _, h D ep' σD⟩
  refine ⟨E₃.tup.trans t', fun b o hb e => k' b o (fun q => by rw [q, hsI] at e; cases e) (fun q => by rw [q] at e; rw [hn] at e; cases e) (E₃.keep b o hb e), fun b hb nb => ?_, fun b o e => ?_⟩
  · by_cases z : b = D
    · rw [z]; exact hn
    · rw [St.set_ne _ _ z] at nb; exact absurd hb nb
  · by_cases z : b = D
    · rw [z, hn] at e; cases e
    · by_cases z2 : b = I
      · rw [z2, hsI] at e; cases e
      · obtain ⟨o', e'⟩ := E₃.alive b o e; exact ⟨o', k' b o' z2 z e'⟩
end
end Mine
namespace Mine
def leS (a b : Str) : Prop := PySem.Spec.ltCps b.cps.toList a.cps.toList = false
theorem leS_iff (a b : Str) : leS a b ↔ a.cps.toList ≤ b.cps.toList := by
  unfold leS
  rw [ltCps_eq, decide_eq_false_iff_not]
  exact List.not_lt
theorem leS_trans {a b c : Str} (x : leS a b) (y : leS b c) : leS a c := by
  rw [leS_iff] at *
  exact List.le_trans x y
theorem leS_anti {a b : Str} (x : leS a b) (y : leS b a) : a = b := by
  rw [leS_iff] at *
  have h : a.cps.toList = b.cps.toList := List.le_antisymm x y
  obtain ⟨⟨l⟩⟩ := a
  obtain ⟨⟨m⟩⟩ := b
  simp at h
  rw [h]
theorem rising_pair : ∀ (p : Str) (l : List Str), risingS p l = true → (p :: l).Pairwise leS
  | p, [], _ => List.pairwise_singleton _ _
  | p, x :: r, h => by
    unfold risingS at h
    rw [Bool.and_eq_true] at h
    have h1 : leS p x := by unfold leS; simpa using h.1
    have ih := rising_pair x r h.2
    refine List.pairwise_cons.mpr ⟨fun y hy => ?_, ih⟩
    rcases List.mem_cons.mp hy with rfl | hy
    · exact h1
    · exact leS_trans h1 ((List.pairwise_cons.mp ih).1 y hy)
theorem sorted_pair : ∀ {l : List Str}, sortedS l = true → l.Pairwise leS
  | [], _ => .nil
  | x :: r, h => rising_pair x r h
theorem perm_sorted : ∀ {l₁ l₂ : List Str}, l₁.Perm l₂ → l₁.Pairwise leS → l₂.Pairwise leS → l₁ = l₂
  | [], l₂, p, _, _ => (List.nil_perm.mp p).symm
  | a :: r, [], p, _, _ => by have := p.length_eq; simp at this
  | a :: r, b :: r₂, p, h₁, h₂ => by
    have hab : a = b := by
      have ha : a ∈ b :: r₂ := p.subset (by simp)
      have hb : b ∈ a :: r := p.symm.subset (by simp)
      rcases List.mem_cons.mp ha with e | ha
      · exact e
      · rcases List.mem_cons.mp hb with e | hb
        · exact e.symm
        · exact leS_anti ((List.pairwise_cons.mp h₁).1 b hb) ((List.pairwise_cons.mp h₂).1 a ha)
    subst hab
    rw [perm_sorted ((List.perm_cons a).mp p) (List.pairwise_cons.mp h₁).2 (List.pairwise_cons.mp h₂).2]
theorem strsAre_of {h : Heap} : ∀ {vs : List Value} {xs : List Str}, RepAll h vs (xs.map .str) → StrsAre vs xs
  | _, [], .nil => .nil
  | _, x :: xs, .cons a r => by cases a; exact .cons _ _ (strsAre_of r)
theorem repAll_of_strs {h : Heap} {vs : List Value} {xs : List Str} (x : StrsAre vs xs) : RepAll h vs (xs.map .str) := by
  induction x with
  | nil => exact .nil
  | cons y t _ ih => exact .cons (.str _ _) ih
section
variable {G : Amb} {A : Around} {L : Addr} {ρ : Loc} {σ : St} {X : Value → Shared → Prop} {k : V → St → Prop}
theorem opc_sorted_list {a : Addr} {xs : List Str} (ea : σ a = some (.list (xs.map .str))) (h64 : xs.length < 64)
    (h : ∀ B ys, σ B = none → ys.Perm xs → sortedS ys = true → k (.ref B) (σ.set B (.list (ys.map .str)))) : OpC G A L ρ σ (.builtin "sorted") [.ref a] k X := fun s vs x r => by
  obtain ⟨v, rfl, r₁⟩ := repAll_one r
  cases r₁
  obtain ⟨ws, n, ho, rl⟩ := x.list ea
  have hl : ws.size = xs.length := by simpa using rl.length
  refine sorted_strs (vs := ws.toList) (ss := xs) (by simpa using isList_of ho) (strsAre_of rl) (by simpa [hl] using h64) fun out ss' a1 a2 a3 => ?_
  obtain ⟨e, he⟩ := sortedAll_at s.heap ws.toList out
  have kp : ∀ b o, s.heap.get? b = some o → (sortedAll s.heap ws.toList out).get? b = some o := fun b o q => sortedAll_old q
  have hn : s.heap.get? (s.heap.objs.size + 1) = none := by
    cases q : s.heap.get? (s.heap.objs.size + 1) with
    | none => rfl
    | some o => exact absurd (Heap.lt_size q) (Nat.not_lt.mpr (Nat.le_succ _))
  exact ⟨_, s.toks, _, _, rfl, .new hn kp, x.newAt (o := .list (ss'.map .str)) hn (Nat.le_succ_of_le (Nat.le_of_lt x.big)) kp ⟨out, e, he, repAll_of_strs a1⟩, .ref _, h _ ss' (x.unused hn) a2 a3⟩
theorem opc_sorted_dict (hh : A.handled = none) {a : Addr} {ep : Nat} {es : List (Str × V)} (ea : σ a = some (.sdict ep es)) (h64 : es.length < 64)
    (h : ∀ B ys, σ B = none → ys.Perm (es.map (·.1)) → sortedS ys = true → k (.ref B) (σ.set B (.list (ys.map .str)))) : OpC G A L ρ σ (.builtin "sorted") [.ref a] k X := fun s vs x r => by
  obtain ⟨v, rfl, r₁⟩ := repAll_one r
  cases r₁
  obtain ⟨kvs, hd, hk, hv⟩ := x.obj a _ ea
  have hl : kvs.length = es.length := by have := congrArg List.length hk; simpa using this
  have lo := x.notMod (a := a) (by rw [ea]; simp)
  refine Calls.call_function_entry kind_sorted plain_sorted entry_sorted (args_sorted1 _) ?_
  unfold Builtin.«sorted»
  refine wpAny_bind (m := checkCount "sorted" 1 1 _) (wpAny_pure ?_)
  refine wpAny_bind (kdu_collect (A := A.in1) (kdl_dict (knd := PySem.strKind G.prog G.w) (kvs := kvs) (ep := ep) lo) hh hd (by rw [hl, sizeLine_eq]; omega) fun h' tk acc hk' hacc => ?_)
  have hal : acc.toList.length = kvs.length := by rw [Array.length_toList]; exact hacc.1
  have hS : ∀ (l : List Value) (ks : List (Str × Value)), l.length = ks.length → (∀ (j : Nat) (v : Value), l[j]? = some v → ∃ k x, ks[j]? = some (k, x) ∧ (PySem.strKind G.prog G.w).is k v = true) → StrsAre l (ks.map (·.1)) := by
    intro l
    induction l with
    | nil => intro ks hl _; cases ks with | nil => exact .nil | cons => simp at hl
    | cons v l ih =>
      intro ks hl hj
      cases ks with
      | nil => simp at hl
      | cons p ks =>
        obtain ⟨k, x, e, hkk⟩ := hj 0 v rfl
        simp only [List.getElem?_cons_zero, Option.some.injEq] at e
        subst e
        obtain ⟨t, rfl⟩ := Value.isStrOf_shape hkk
        exact .cons _ _ (ih ks (by simpa using hl) fun j v e => hj (j + 1) v (by simpa using e))
  have hStrs := hS acc.toList kvs hal fun j v e => hacc.2 j v (by rw [← Array.getElem?_toList]; exact e)
  rw [hk] at hStrs
  refine wpAny_bind (wpAny_newList ?_ (by rw [hal, hl, sizeLine_eq]; omega))
  have hoL := Heap.get?_push_size h' (o := seqObj "list" acc.toList.toArray 0) rfl
  have kp₁ : ∀ b o, s.heap.get? b = some o → (h'.push (seqObj "list" acc.toList.toArray 0)).get? b = some o := fun b o e => Heap.get?_push_of_some _ (hk' b o e)
  have hn₁ := Mine.none_at_size h'
  show wpAny _ _ _ _ _ { s with heap := h'.push (seqObj "list" acc.toList.toArray 0), toks := tk }
  have hnB : s.heap.get? h'.objs.size = none := by
    cases q : s.heap.get? h'.objs.size with
    | none => rfl
    | some o => rw [hk' _ _ q] at hn₁; cases hn₁
  have hbig : G.h₀.objs.size ≤ h'.objs.size := Nat.le_of_lt (x.keeps hk').big
  generalize h'.objs.size = B at *
  generalize h'.push (seqObj "list" acc.toList.toArray 0) = h₁ at *
  refine wpAny_bind (wpAny_holding (wpAny_call_entry slot_list_sort ⟨_, hoL, rfl⟩ entry_list_sort
    (list_sort_treeK (κ := PyProof.Rows.strKind) (s := { s with heap := h₁, toks := tk }) strKind_oneLt hoL hStrs.keysOf (fun v₁ v₂ rest e => keyKind_strs (by rw [← e]; exact hStrs)) (by rw [hal, hl]; exact h64) fun st' hp hs => ⟨_, rfl, ?_⟩) (args_list_sort _)))
  obtain ⟨ss', a1, a2, a3⟩ := sorted_out_str hStrs hp hs
  obtain ⟨e, he⟩ := sortedHeap_at (out := (arrOf st').map (·.2)) hoL
  have kp : ∀ b o, s.heap.get? b = some o → (sortedHeap h₁ B acc.toList ((arrOf st').map (·.2))).get? b = some o := fun b o q => by
    have q1 := kp₁ b o q
    rw [sortedHeap_old (fun z => by rw [z, hnB] at q; cases q) (Heap.lt_size q1)]; exact q1
  exact wpAny_pure ⟨_, rfl, _, tk, _, _, rfl, .new hnB kp, x.newAt (o := .list (ss'.map .str)) hnB hbig kp ⟨_, e, he, repAll_of_strs a1⟩, .ref _, h _ ss' (x.unused hnB) a2 a3⟩
end
end Mine
namespace Mine
abbrev Two (elt t0 i0 t1 i1 : Expr) (ifs0 ifs1 : List Expr) (scope : Scope) (pos : Pos) : Expr := .ListComp elt [⟨t0, i0, ifs0, 0⟩, ⟨t1, i1, ifs1, 0⟩] scope pos
theorem turn_out (elt t0 i0 t1 i1 : Expr) (ifs0 ifs1 : List Expr) (scope : Scope) (pos : Pos) (it acc : Value) (env : Env) :
    compTurn (Two elt t0 i0 t1 i1 ifs0 ifs1 scope pos) 0 it acc env = (do
      standAt i0.pos
      match ← pyNext it with
      | none => pure (.done .next)
      | some v =>
        letOwnedTupleGo t0 it v
        assign t0 env v
        let mut ok := true
        for c in ifs0 do
          if ok then ok ← isTrue c env (eval c env)
        if ok then
          let x ← eval i1 env
          standAt i1.pos
          let x ← foldedSetIterable i1 env x
          let _ ← runOwn (.compStart (Two elt t0 i0 t1 i1 ifs0 ifs1 scope pos) 1 (← holding [x] (pyIter x)) acc env) env
        again (.compLoop (Two elt t0 i0 t1 i1 ifs0 ifs1 scope pos) 0 it acc env)) := by rfl
theorem turn_in (elt t0 i0 t1 i1 : Expr) (ifs0 ifs1 : List Expr) (scope : Scope) (pos : Pos) (it acc : Value) (env : Env) :
    compTurn (Two elt t0 i0 t1 i1 ifs0 ifs1 scope pos) 1 it acc env = (do
      standAt i1.pos
      match ← pyNext it with
      | none => pure (.done .next)
      | some v =>
        letOwnedTupleGo t1 it v
        assign t1 env v
        let mut ok := true
        for c in ifs1 do
          if ok then ok ← isTrue c env (eval c env)
        if ok then
          (do let _ ← call (.builtin "list.append") [acc, ← eval elt env])
        again (.compLoop (Two elt t0 i0 t1 i1 ifs0 ifs1 scope pos) 1 it acc env)) := by rfl
section
variable {G : Amb} {A : Around} {env : Env} {L : Addr} {ρ : Loc} {σ : St} {X : Value → Shared → Prop}
theorem start_in {R : Result → Shared → Prop} {s : Shared} {prog : Program} {w : World} {elt t0 i0 t1 i1 : Expr} {ifs0 ifs1 : List Expr} {scope : Scope} {pos : Pos} {it acc : Value} {env : Env}
    (h0 : codeAny (model prog w) A (.compLoop (Two elt t0 i0 t1 i1 ifs0 ifs1 scope pos) 1 it acc env) R s)
    (h : wpAny (model prog w) A (pyIter it) (fun it' s' => codeAny (model prog w) A (.compLoop (Two elt t0 i0 t1 i1 ifs0 ifs1 scope pos) 1 it' acc env) R s') (notedBy (model prog w) A env fun x s' => R (.error x) s') s) :
    codeAny (model prog w) A (.compStart (Two elt t0 i0 t1 i1 ifs0 ifs1 scope pos) 1 it acc env) R s := by
  refine codeAny_of_tree ?_
  show wpAny _ _ ((compStart (Two elt t0 i0 t1 i1 ifs0 ifs1 scope pos) 1 it acc env).onRaise (fun x => do noteFrame x env; standAt theWindowsPlace)) _ _ s
  refine wpAny_notedAt ?_
  unfold compStart
  show wpAny _ _ (ask >>= _) _ _ s
  refine wpAny_bind (wpAny_askSetting (wpAny_ite ?_))
  split
  · first
      | exact wpAny_bind (wpAny_pure (wpAny_pure (And.intro rfl h0)))
      | exact wpAny_pure (And.intro rfl h0)
  · first
      | exact wpAny_bind (wpAny_rule (wpAny_bind (wpAny_standAt (wpAny_bind (wpAny_mono h (fun it' s' h' => wpAny_pure (And.intro rfl h')) fun _ _ x => x)))))
      | (refine wpAny_bind (wpAny_rule ?_); show wpAny _ _ (standAt i1.pos >>= _) _ _ s; exact wpAny_bind (wpAny_standAt (wpAny_bind (wpAny_mono h (fun it' s' h' => wpAny_pure (And.intro rfl h')) fun _ _ x => x))))
theorem loop_in {R : Result → Shared → Prop} {s : Shared} {prog : Program} {w : World} {elt t0 i0 t1 i1 : Expr} {ifs0 ifs1 : List Expr} {scope : Scope} {pos : Pos} {it acc : Value} {env : Env} (I : Nat → Shared → Prop)
    (turn : ∀ n s, I n s → wpAny (model prog w) A (pyNext it) (fun r s₁ => match r with
      | none => R (.ok .next) s₁
      | some v => wpAny (model prog w) A (letOwnedTupleGo t1 it v) (fun _ s₁' => wpAny (model prog w) A (assign t1 env v) (fun _ s₂ =>
          wpAny (model prog w) A (forIn ifs1 true fun c r => if r = true then do let ok ← isTrue c env (eval c env); pure (ForInStep.yield ok) else pure (ForInStep.yield r)) (fun ok s₃ =>
            if ok = true then wpAny (model prog w) A (eval elt env) (fun x s₄ =>
              wpAny (model prog w) A (call (.builtin "list.append") [acc, x]) (fun _ s₅ => ∃ m, m < n ∧ I m s₅) (notedBy (model prog w) A env fun e s' => R (.error e) s') s₄) (notedBy (model prog w) A env fun e s' => R (.error e) s') s₃
            else ∃ m, m < n ∧ I m s₃) (notedBy (model prog w) A env fun e s' => R (.error e) s') s₂) (notedBy (model prog w) A env fun e s' => R (.error e) s') s₁') (notedBy (model prog w) A env fun e s' => R (.error e) s') s₁) (notedBy (model prog w) A env fun e s' => R (.error e) s') s)
    (n : Nat) (h : I n s) :
    codeAny (model prog w) A (.compLoop (Two elt t0 i0 t1 i1 ifs0 ifs1 scope pos) 1 it acc env) R s := by
  refine codeAny_loop rfl I (fun n s hI => ?_) n h
  show wpAny _ A ((compTurn (Two elt t0 i0 t1 i1 ifs0 ifs1 scope pos) 1 it acc env).onRaise (fun x => do noteFrame x env; theTreesLotGoes x)) _ _ s
  refine wpAny_noted ?_
  rw [turn_in]
  refine wpAny_bind (wpAny_standAt (wpAny_bind (wpAny_mono (turn n s hI) (fun r s₁ h₁ => ?_) fun _ _ h' => h')))
  cases r with
  | none => exact wpAny_pure h₁
  | some v =>
    refine wpAny_bind (wpAny_mono h₁ (fun _ s₁' h₁' => ?_) fun _ _ h' => h')
    refine wpAny_bind (wpAny_mono h₁' (fun _ s₂ h₂ => wpAny_bind (wpAny_mono h₂ (fun ok s₃ h₃ => ?_) fun _ _ h' => h')) fun _ _ h' => h')
    cases ok with
    | false => exact wpAny_pure ⟨rfl, h₃⟩
    | true =>
      exact wpAny_bind (wpAny_bind (wpAny_mono h₃ (fun x s₄ h₄ => wpAny_bind (wpAny_mono h₄ (fun _ s₅ h₅ => wpAny_pure (wpAny_pure ⟨rfl, h₅⟩)) fun _ _ h' => h')) fun _ _ h' => h'))
theorem loop_out {R : Result → Shared → Prop} {s : Shared} {prog : Program} {w : World} {elt t0 i0 t1 i1 : Expr} {ifs0 ifs1 : List Expr} {scope : Scope} {pos : Pos} {it acc : Value} {env : Env} (I : Nat → Shared → Prop)
    (hs : ∀ x, foldedSetIterable i1 env x = pure x)
    (turn : ∀ n s, I n s → wpAny (model prog w) A (pyNext it) (fun r s₁ => match r with
      | none => R (.ok .next) s₁
      | some v => wpAny (model prog w) A (letOwnedTupleGo t0 it v) (fun _ s₁' => wpAny (model prog w) A (assign t0 env v) (fun _ s₂ =>
          wpAny (model prog w) A (forIn ifs0 true fun c r => if r = true then do let ok ← isTrue c env (eval c env); pure (ForInStep.yield ok) else pure (ForInStep.yield r)) (fun ok s₃ =>
            if ok = true then wpAny (model prog w) A (eval i1 env) (fun x s₄ => wpAny (model prog w) A (pyIter x) (fun it' s₅ =>
              codeAny (model prog w) A (.compStart (Two elt t0 i0 t1 i1 ifs0 ifs1 scope pos) 1 it' acc env) (fun r s₆ => match r with | .ok _ => ∃ m, m < n ∧ I m s₆ | .error _ => False) s₅) never s₄) never s₃
            else ∃ m, m < n ∧ I m s₃) (notedBy (model prog w) A env fun e s' => R (.error e) s') s₂) (notedBy (model prog w) A env fun e s' => R (.error e) s') s₁') (notedBy (model prog w) A env fun e s' => R (.error e) s') s₁) (notedBy (model prog w) A env fun e s' => R (.error e) s') s)
    (n : Nat) (h : I n s) :
    codeAny (model prog w) A (.compLoop (Two elt t0 i0 t1 i1 ifs0 ifs1 scope pos) 0 it acc env) R s := by
  refine codeAny_loop rfl I (fun n s hI => ?_) n h
  show wpAny _ A ((compTurn (Two elt t0 i0 t1 i1 ifs0 ifs1 scope pos) 0 it acc env).onRaise (fun x => do noteFrame x env; theTreesLotGoes x)) _ _ s
  refine wpAny_noted ?_
  rw [turn_out]
  refine wpAny_bind (wpAny_standAt (wpAny_bind (wpAny_mono (turn n s hI) (fun r s₁ h₁ => ?_) fun _ _ h' => h')))
  cases r with
  | none => exact wpAny_pure h₁
  | some v =>
    refine wpAny_bind (wpAny_mono h₁ (fun _ s₁' h₁' => ?_) fun _ _ h' => h')
    refine wpAny_bind (wpAny_mono h₁' (fun _ s₂ h₂ => wpAny_bind (wpAny_mono h₂ (fun ok s₃ h₃ => ?_) fun _ _ h' => h')) fun _ _ h' => h')
    cases ok with
    | false => exact wpAny_pure ⟨rfl, h₃⟩
    | true =>
      rw [if_pos rfl] at h₃
      rw [if_pos rfl]
      refine wpAny_bind (wpAny_mono h₃ (fun x s₄ h₄ => ?_) fun _ _ h' => h'.elim)
      refine wpAny_bind (wpAny_standAt ?_)
      rw [hs x]
      refine wpAny_bind (wpAny_pure (wpAny_bind (wpAny_holding (wpAny_mono h₄ (fun it' s₅ h₅ => ?_) fun _ _ h' => h'.elim))))
      refine wpAny_bind (wpAny_runOwn (codeAny_mono h₅ (fun r s₆ h₆ => ?_)))
      cases r with
      | ok f => exact wpAny_pure ⟨rfl, h₆⟩
      | error e => exact h₆.elim
end
end Mine
namespace Mine
theorem Sub.rfl' : ∀ {ρ : Loc}, (∀ y d, ρ.get y = some d → ρ.get y = some d) := fun _ _ h => h
section
variable {G : Amb} {A : Around} {env : Env} {L : Addr} {ρ : Loc} {σ : St} {X : Value → Shared → Prop}
theorem inner_core {base : St} {D : Addr} {ys fl : List V} {elt t0 i0 t1 i1 : Expr} {ifs0 : List Expr} {scope : Scope} {pos : Pos} {s : Shared} {Q : Shared → Prop}
    (hD : base D = none) (eD : σ D = some (.list ys)) (hsz : ys.length + fl.length ≤ sizeLine) (x : S G env.locals ρ σ s.heap)
    (h : IE G A env ρ σ i1 t1 (fun n item need σ₁ => n = fl.length ∧ Le base σ₁ ∧ σ₁ D = σ D ∧ (∀ σ', need σ') ∧
      ∀ j σ₂, Le base σ₂ → j < n → TS G A env ρ σ₂ (assign t1 env) (item j) (fun ρ₂ σ₃ => Sub ρ ρ₂ ∧ EV G A env ρ₂ σ₃ elt (fun d σ₄ => fl[j]? = some d ∧ Le σ₂ σ₄) never) never) never)
    (hQ : ∀ h' tk σ', ExtS env.locals σ s.heap h' σ' → S G env.locals ρ σ' h' → Le base σ' → σ' D = some (.list (ys ++ fl)) → Q { s with heap := h', toks := tk }) :
    wpAny (model G.prog G.w) A (eval i1 env) (fun x s₄ => wpAny (model G.prog G.w) A (pyIter x) (fun it' s₅ =>
      codeAny (model G.prog G.w) A (.compStart (Two elt t0 i0 t1 i1 ifs0 [] scope pos) 1 it' (.ref D) env) (fun r s₆ => match r with | .ok _ => Q s₆ | .error _ => False) s₅) never s₄) never s := by
  refine wpAny_mono (h s x) (fun v s₁ p => wpAny_mono p (fun it s₂ p => ?_) fun _ _ e => e) fun _ _ e => e
  refine p.elim fun h₂ t₂ σ₁ I W at_ n item need E₁ x₁ w hW hσW st q₉ => ?_; obtain ⟨rfl, leb, eD₁, hneed, step⟩ := q₉
  obtain ⟨hL, hG⟩ := x.offW hW
  have loop : codeAny (model G.prog G.w) A (.compLoop (Two elt t0 i0 t1 i1 ifs0 [] scope pos) 1 (.ref I) (.ref D) env) (fun r s₆ => match r with | .ok _ => Q s₆ | .error _ => False) { s with heap := h₂, toks := t₂ } := by
    refine loop_in (fun c s' => ∃ h' tk σ' i, s' = { s with heap := h', toks := tk } ∧ ExtS env.locals σ s.heap h' σ' ∧ S G env.locals ρ σ' h' ∧ (∀ b ∈ W, σ' b = none) ∧ at_ i h' ∧ Le base σ' ∧
      σ' D = some (.list (ys ++ fl.take i)) ∧ i ≤ fl.length ∧ c = fl.length - i) ?_ fl.length
      ⟨h₂, _, _, 0, rfl, E₁.toS, x₁, hσW, st, leb, by rw [eD₁, eD]; simp, Nat.zero_le _, rfl⟩
    rintro c s' ⟨h', tk, σ', i, rfl, E', x', hσ', st', le', hl', hi, rfl⟩
    by_cases hlt : i < fl.length
    · refine w.next i _ _ _ _ _ _ hlt x' (hneed _) st' hσ' fun v s₁ hgo => hgo _ _ fun h₅ tk₅ r st₅ kb => ?_
      have t : TupK h' h₅ := tupK_but kb (w.live _ _ st')
      have x₅ := x'.keepBut kb t hσ' hL hG
      have E₅ := E'.keepBut kb t hW
      refine wpAny_mono (step i _ le' hlt _ v x₅ r) (fun _ s₆ p => ?_) fun _ _ e => e.elim
      refine p.elim fun h₆ tk₆ φ ρ₆ σ₆ F₆ y₆ _ q₉ => ?_; obtain ⟨rfl, hsub, q₆⟩ := q₉
      refine wpAny_tests_nil ?_
      rw [if_pos rfl]
      refine wpAny_mono (q₆ _ y₆) (fun v s₈ p => ?_) fun _ _ e => e.elim
      refine p.elim fun h₈ tk₈ d σ₈ F₈ y₈ r₈ q₉ => ?_; obtain ⟨hd, le₈⟩ := q₉
      have hl₈ := le₈ _ _ hl'
      have hlen : (ys ++ fl.take i).length ≤ sizeLine := by rw [List.length_append, List.length_take]; omega
      refine wpAny_mono (opc_append (A := A) (k := fun _ σ' => σ' = σ₈.set D (.list (ys ++ fl.take i ++ [d]))) (X := never) hl₈ hlen rfl { s with heap := h₈, toks := tk₈ } [.ref D, v] y₈ (.cons (.ref _) (.cons r₈ .nil))) (fun _ s₉ p => ?_) fun _ _ e => e.elim
      refine p.elim fun h₉ tk₉ d' σ₉ F₉ y₉ _ q₉ => ?_; cases q₉
      have F := (F₆.trans F₈.toS).trans F₉.toS
      obtain ⟨st₉, hσ₉⟩ := F.at w st₅ hσ' hL
      refine ⟨fl.length - (i + 1), by omega, h₉, tk₉, _, i + 1, rfl, E₅.trans F, y₉.weak hsub, hσ₉, st₉, (le'.trans le₈).setL hD, ?_, hlt, rfl⟩
      rw [St.set_same, List.take_add_one, hd]
      simp
    · obtain rfl : i = fl.length := by omega
      refine w.done _ _ _ _ _ _ x' (hneed _) st' hσ' fun h₅ tk₅ kb => ?_
      have t : TupK h' h₅ := tupK_but kb (w.live _ _ st')
      rw [List.take_length] at hl'
      exact hQ h₅ tk₅ σ' (E'.keepBut kb t hW) (x'.keepBut kb t hσ' hL hG) le' hl'
  exact start_in loop (w.self 0 _ _ _ st loop)
theorem comp_core2 {elt t0 i0 t1 i1 : Expr} {ifs0 : List Expr} {scope : Scope} {pos ipos : Pos} {cl : List (Str × Addr)} {use : Option (Value → Sem Unit)} {Q : Value → Shared → Prop} {s : Shared}
    (hclos : closureFor scope env = pure cl) (hcell : ∀ y ∈ scope.names, y.2 ≠ .cell) (hkind : scope.kind = .function) (hnames : ∀ y ∈ scope.names, y.2 = .local → scope.names.lookup y.1 = some .local)
    (hs : ∀ x, foldedSetIterable i0 env x = pure x) (hs1 : ∀ C x, foldedSetIterable i1 (compEnvC scope cl C env) x = pure x) (x : S G env.locals ρ σ s.heap)
    (h : IE G A env ρ σ i0 t0 (fun n item need σ₁ => ∃ (ft : Nat → Bool) (fl : Nat → List V), (∀ σ', Le σ₁ σ' → need σ') ∧ (((List.range n).filter ft).flatMap fl).length ≤ sizeLine ∧
      (∀ C i σ₂, Le σ₁ σ₂ → i < n → TS G A (compEnvC scope cl C env) [] σ₂ (assign t0 (compEnvC scope cl C env)) (item i) (fun ρ₂ σ₃ => QV G A (compEnvC scope cl C env) ρ₂ σ₃ ifs0 (fun b σ₄ => b = ft i ∧ Le σ₂ σ₄ ∧
        (b = true → IE G A (compEnvC scope cl C env) ρ₂ σ₄ i1 t1 (fun n' item' need' σ₅ => n' = (fl i).length ∧ Le σ₄ σ₅ ∧ (∀ σ', need' σ') ∧
          ∀ j σ₆, Le σ₁ σ₆ → j < n' → TS G A (compEnvC scope cl C env) ρ₂ σ₆ (assign t1 (compEnvC scope cl C env)) (item' j) (fun ρ₃ σ₇ => Sub ρ₂ ρ₃ ∧ EV G A (compEnvC scope cl C env) ρ₃ σ₇ elt (fun d σ₈ => (fl i)[j]? = some d ∧ Le σ₆ σ₈) never) never) never)) never) never) ∧
      (∀ D C h' tk σ', S G env.locals ρ σ' h' → Ext σ s.heap h' σ' → (∃ m, h'.Ns C m) → σ' C = none → C ≠ env.locals → s.heap.get? C = none → G.h₀.objs.size ≤ C → Le σ₁ σ' → σ₁ D = none → σ' D = some (.list (((List.range n).filter ft).flatMap fl)) →
        compPost (model G.prog G.w) A X use Q (.ref D) C (.ok .next) { s with heap := h', toks := tk })) X) :
    wpAny (model G.prog G.w) A (comprehension (Two elt t0 i0 t1 i1 ifs0 [] scope pos) scope env ipos (newList []) false (eval i0 env) use) Q X s := by
  refine wpAny_comprehension_free rfl hs hclos hkind hnames (wpAny_mono (h s x) (fun v s₁ p => wpAny_mono p (fun it s₂ p => ?_) fun _ _ e => e) fun _ _ e => e)
  refine p.elim fun h₂ t₂ σ₁ I W at_ n item need E₁ x₁ w hW hσW st q₉ => ?_; obtain ⟨ft, fl, hneed, hsz, step, fin⟩ := q₉
  obtain ⟨hL, hG⟩ := x.offW hW
  refine wpAny_newObj_type (wpAny_newFunctionEnv hcell (by intro y hy; simp at hy) (fun h₄ hns₄ hsb₄ => ?_) hkind)
  dsimp only at hns₄ hsb₄ ⊢
  have kp₃ : ∀ b o, h₂.get? b = some o → (h₂.push { cls := .type "list", dict := none, data := .seq ([] : List Value).toArray }).get? b = some o := fun b o e => Heap.get?_push_of_some _ e
  have hn₂ := Mine.none_at_size h₂
  have hD₃ := Heap.get?_push_size h₂ (o := { cls := .type "list", dict := none, data := .seq ([] : List Value).toArray }) rfl
  have E₃ := Ext.new (σ := σ₁) (o := .list []) hn₂ kp₃
  have x₃ : S G env.locals ρ (σ₁.set h₂.objs.size (.list [])) _ := x₁.newAt (o := .list []) hn₂ (Nat.le_of_lt x₁.big) kp₃ ⟨_, _, hD₃, .nil⟩
  generalize hD : h₂.objs.size = D at *
  generalize hH₃ : h₂.push { cls := .type "list", dict := none, data := .seq ([] : List Value).toArray } = h₃ at *
  have hn₃ := Mine.none_at_size h₃
  have kp₄ : ∀ b o, h₃.get? b = some o → h₄.get? b = some o := fun b o e => hsb₄.extBut b o (Nat.ne_of_lt (Heap.lt_size e)) (Heap.get?_push_of_some _ e)
  have hC₀ : s.heap.get? h₃.objs.size = none := by
    cases q : s.heap.get? h₃.objs.size with
    | none => rfl
    | some o => obtain ⟨o', e'⟩ := (E₁.trans E₃).alive _ o q; rw [hn₃] at e'; cases e'
  have hCG : G.h₀.objs.size ≤ h₃.objs.size := Nat.le_of_lt x₃.big
  have hLC : env.locals ≠ h₃.objs.size := Nat.ne_of_lt x₃.frame.lt
  have hCW : h₃.objs.size ∉ W := fun m => by
    obtain ⟨o, ho, _⟩ := w.live 0 h₂ st _ m
    have := kp₃ _ _ ho
    rw [hn₃] at this; cases this
  generalize h₃.objs.size = C at *
  have x₄ : S G env.locals ρ (σ₁.set D (.list [])) h₄ := x₃.keeps kp₄
  have σC : (σ₁.set D (.list [])) C = none := x₃.unused hn₃
  have y₄ : S G C [] (σ₁.set D (.list [])) h₄ := ⟨x₄.base, x₄.obj, x₄.new, ⟨⟨_, hns₄, fun y d q => by cases q⟩⟩, σC, hCG⟩
  have E₄ : Ext σ s.heap h₄ (σ₁.set D (.list [])) := (E₁.trans E₃).trans (.keeps kp₄)
  have σD : σ₁ D = none := x₁.unused hn₂
  have hWD : D ∉ W := fun m => by
    obtain ⟨o, ho, _⟩ := w.live 0 h₂ st _ m
    rw [hn₂] at ho; cases ho
  have st₄ : at_ 0 h₄ := w.frame _ _ _ st (fun b xs k e => kp₄ _ _ (kp₃ _ _ e)) (fun b m o e => kp₄ _ _ (kp₃ _ _ e))
  have hσW₄ : ∀ b ∈ W, (σ₁.set D (.list [])) b = none := fun b m => by
    have hb : b ≠ D := fun q => hWD (q ▸ m)
    rw [St.set_ne _ _ hb]; exact hσW b m
  have hpre : ∀ i, i < n → (((List.range i).filter ft).flatMap fl).length + (if ft i then (fl i).length else 0) ≤ sizeLine := fun i hi => by
    have e : List.range n = List.range (i + 1) ++ (List.range (n - (i + 1))).map (i + 1 + ·) := by rw [← List.range_add]; congr 1; omega
    rw [e, List.filter_append, List.flatMap_append, List.length_append, List.range_succ, List.filter_append, List.flatMap_append, List.length_append] at hsz
    cases q : ft i with
    | true => simp [q] at hsz ⊢; omega
    | false => simp [q] at hsz ⊢; omega
  have loop : ∀ s₃ : Shared, s₃ = { s with heap := h₄, toks := t₂ + ([] : List (Str × Value)).length } →
      codeAny (model G.prog G.w) A (.compLoop (Two elt t0 i0 t1 i1 ifs0 [] scope pos) 0 (.ref I) (.ref D) (compEnvC scope cl C env)) (compPost (model G.prog G.w) A X use Q (.ref D) C) s₃ := by
    rintro s₃ rfl
    refine loop_out (fun c s' => ∃ h' tk σ' i, s' = { s with heap := h', toks := tk } ∧ Ext σ s.heap h' σ' ∧ S G env.locals ρ σ' h' ∧ S G C [] σ' h' ∧ (∀ b ∈ W, σ' b = none) ∧ at_ i h' ∧ Le σ₁ σ' ∧
      σ' D = some (.list (((List.range i).filter ft).flatMap fl)) ∧ i ≤ n ∧ c = n - i) (hs1 C) ?_ n
      ⟨h₄, _, _, 0, rfl, E₄, x₄, y₄, hσW₄, st₄, Le.set σD, by simp, Nat.zero_le _, rfl⟩
    rintro c s' ⟨h', tk, σ', i, rfl, E', x', y', hσ', st', le', hl', hi, rfl⟩
    by_cases hlt : i < n
    · refine w.next i _ _ _ _ _ _ hlt x' (hneed _ le') st' hσ' fun v s₁ hgo => hgo _ _ fun h₅ tk₅ r st₅ kb => ?_
      have t : TupK h' h₅ := tupK_but kb (w.live _ _ st')
      have x₅ := x'.keepBut kb t hσ' hL hG
      have y₅ := y'.keepBut kb t hσ' hCW hG
      have E₅ := E'.keepBut kb t hW
      refine wpAny_mono (step C i _ le' hlt _ v y₅ r) (fun _ s₆ p => ?_) fun _ _ e => e.elim
      refine p.elim fun h₆ tk₆ φ ρ₆ σ₆ F₆ y₆ _ q₉ => ?_; obtain ⟨rfl, q₆⟩ := q₉
      refine wpAny_mono (q₆ _ y₆) (fun b s₇ p => ?_) fun _ _ e => e.elim
      refine p.elim fun h₇ tk₇ d σ₇ F₇ y₇ _ q₉ => ?_; obtain ⟨rfl, hb, l₇, q₇⟩ := q₉
      have F := F₆.trans F₇.toS
      cases b with
      | false =>
        obtain ⟨st₇, hσ₇⟩ := F.at w st₅ hσ' hCW
        rw [if_neg (by decide)]
        refine ⟨n - (i + 1), by omega, h₇, tk₇, σ₇, i + 1, rfl, E₅.thenS F hC₀, x₅.ofExtS F hLC y₇, y₇.sub (fun y d q => by cases q), hσ₇, st₇, le'.trans l₇, ?_, hlt, rfl⟩
        rw [l₇ _ _ hl', List.range_succ, List.filter_append]
        simp [← hb]
      | true =>
        rw [if_pos rfl]
        have hp := hpre i hlt
        rw [← hb, if_pos rfl] at hp
        have l17 := le'.trans l₇
        have lD := l₇ _ _ hl'
        refine inner_core (base := σ₁) (D := D) (ys := ((List.range i).filter ft).flatMap fl) (fl := fl i) (σ := σ₇) σD lD hp y₇ ?_ ?_
        · refine fun s x => wpAny_mono (q₇ rfl s x) (fun v s₁ p => wpAny_mono p (fun it s₂ p => ?_) fun _ _ e => e) fun _ _ e => e
          obtain ⟨h₂, tk, σ₁, I, W, at_, n, item, need, e1, e2, E, x₂, w, hW, hσ, st, a1, a2, a3, a4⟩ := p
          exact ⟨h₂, tk, σ₁, I, W, at_, n, item, need, e1, e2, E, x₂, w, hW, hσ, st, a1, l17.trans a2, (a2 _ _ lD).trans lD.symm, a3, a4⟩
        · intro h₉ tk₉ σ₉ F₉ y₉ l₉ hl₉
          have F' := F.trans F₉
          obtain ⟨st₉, hσ₉⟩ := F'.at w st₅ hσ' hCW
          refine ⟨n - (i + 1), by omega, h₉, tk₉, σ₉, i + 1, rfl, E₅.thenS F' hC₀, x₅.ofExtS F' hLC y₉, y₉.sub (fun y d q => by cases q), hσ₉, st₉, l₉, ?_, hlt, rfl⟩
          rw [hl₉, List.range_succ, List.filter_append]
          simp [← hb]
    · obtain rfl : i = n := by omega
      refine w.done _ _ _ _ _ _ x' (hneed _ le') st' hσ' fun h₅ tk₅ kb => ?_
      have t : TupK h' h₅ := tupK_but kb (w.live _ _ st')
      have y₅ := y'.keepBut kb t hσ' hCW hG
      obtain ⟨m, hm, _⟩ := y₅.frame.ns
      exact fin D C h₅ tk₅ σ' (x'.keepBut kb t hσ' hL hG) (E'.keepBut kb t hW) ⟨m, hm⟩ y₅.off (Ne.symm hLC) hC₀ hCG le' σD hl'
  exact codeAny_compStart_list (loop _ rfl) (w.self 0 _ _ _ st₄ (loop _ rfl))
theorem ev_Comp2 {elt t0 i0 t1 i1 : Expr} {ifs0 : List Expr} {scope : Scope} {pos : Pos} {cl : List (Str × Addr)} {k : V → St → Prop}
    (h : IE G A env ρ σ i0 t0 (fun n item need σ₁ => ∃ (ft : Nat → Bool) (fl : Nat → List V), (∀ σ', Le σ₁ σ' → need σ') ∧ (((List.range n).filter ft).flatMap fl).length ≤ sizeLine ∧
      (∀ C i σ₂, Le σ₁ σ₂ → i < n → TS G A (compEnvC scope cl C env) [] σ₂ (assign t0 (compEnvC scope cl C env)) (item i) (fun ρ₂ σ₃ => QV G A (compEnvC scope cl C env) ρ₂ σ₃ ifs0 (fun b σ₄ => b = ft i ∧ Le σ₂ σ₄ ∧
        (b = true → IE G A (compEnvC scope cl C env) ρ₂ σ₄ i1 t1 (fun n' item' need' σ₅ => n' = (fl i).length ∧ Le σ₄ σ₅ ∧ (∀ σ', need' σ') ∧
          ∀ j σ₆, Le σ₁ σ₆ → j < n' → TS G A (compEnvC scope cl C env) ρ₂ σ₆ (assign t1 (compEnvC scope cl C env)) (item' j) (fun ρ₃ σ₇ => Sub ρ₂ ρ₃ ∧ EV G A (compEnvC scope cl C env) ρ₃ σ₇ elt (fun d σ₈ => (fl i)[j]? = some d ∧ Le σ₆ σ₈) never) never) never)) never) never) ∧
      (∀ D σ', Le σ₁ σ' → σ₁ D = none → σ' D = some (.list (((List.range n).filter ft).flatMap fl)) → k (.ref D) σ')) X)
    (hclos : closureFor scope env = pure cl := by rfl) (hcell : ∀ y ∈ scope.names, y.2 ≠ .cell := by decide) (hkind : scope.kind = .function := by rfl) (hnames : ∀ y ∈ scope.names, y.2 = .local → scope.names.lookup y.1 = some .local := by decide)
    (hs : ∀ x, foldedSetIterable i0 env x = pure x := by intro _; rfl) (hs1 : ∀ C x, foldedSetIterable i1 (compEnvC scope cl C env) x = pure x := by intro _ _; rfl) : EV G A env ρ σ (.ListComp elt [⟨t0, i0, ifs0, 0⟩, ⟨t1, i1, [], 0⟩] scope pos) k X := fun s x => by
  rw [eval_ListComp]
  refine comp_core2 (use := none) hclos hcell hkind hnames hs hs1 x (fun s' x' => ?_)
  refine IE.mono h (fun n item need σ₁ q₉ => ?_) s' x'
  obtain ⟨ft, fe, hn, hsz, step, fin⟩ := q₉
  refine ⟨ft, fe, hn, hsz, step, ?_⟩
  intro D C h' tk σ' y E' ⟨m, hm⟩ hC hne hCs hCG le hD hl
  refine ⟨m, hm, fun h'' hs => ?_⟩
  have kb := sameBut_kb hs
  have t : TupK h' h'' := tupK_but kb fun b m' => by rw [List.mem_singleton] at m'; subst m'; exact ns_no_tuple hm
  have hG0 : ∀ b ∈ [C], G.h₀.get? b = none := fun b m' => by
    rw [List.mem_singleton] at m'; subst m'
    cases q : G.h₀.get? b with
    | none => rfl
    | some o => have := x.base b o q; rw [hCs] at this; cases this
  exact ⟨h'', tk, _, σ', rfl, E'.keepBut kb t (fun b m' => by rw [List.mem_singleton] at m'; subst m'; exact hCs),
    y.keepBut kb t (fun b m' => by rw [List.mem_singleton] at m'; subst m'; exact hC) (by simp; exact Ne.symm hne) hG0, .ref _, fin D σ' le hD hl⟩
end
end Mine
namespace Mine
theorem repAll_ints {h : Heap} : ∀ {vs : List Value} {ns : List Int}, IntsAre vs ns → RepAll h vs (ns.map V.int)
  | _, _, .nil => .nil
  | _, _, .cons n t r => .cons (.int n t) (repAll_ints r)
section
variable {G : Amb} {A : Around} {env : Env} {L : Addr} {ρ : Loc} {σ : St} {X : Value → Shared → Prop} {k : V → St → Prop}
theorem ev_upto0 {value u : Expr} {p pos : Pos} {a : Addr} {vs : List Value} {ns : List Int} (hl : G.h₀.IsList a vs.toArray) (hi : IntsAre vs ns) (hsz : vs.length ≤ sizeLine)
    (h : EV G A env ρ σ value (fun d σ₁ => d = .ref a ∧ EV G A env ρ σ₁ u (fun c σ₂ => ∃ n : Nat, c = .int n ∧ ∀ b, σ₂ b = none → k (.ref b) (σ₂.set b (.list ((ns.take n).map V.int)))) X) X)
    (ht : ∀ o r, letTemporaryGo value o r = pure () := by intro _ _; rfl) : EV G A env ρ σ (.Subscript value (.Slice none (some u) none p) pos) k X := fun s x => by
  refine wpAny_Subscript_list_slice (wpAny_mono (h s x) (fun v s₁ p => ?_) fun _ _ e => e) ht
  refine p.elim fun h₁ t₁ d σ₁ E₁ x₁ r₁ q₉ => ?_; obtain ⟨rfl, q₁⟩ := q₉
  rw [evalPart_none, evalPart_some]
  refine wpAny_pure (wpAny_mono (q₁ _ x₁) (fun w s₂ p => ?_) fun _ _ e => e)
  refine p.elim fun h₂ t₂ c σ₂ E₂ x₂ r₂ q₉ => ?_; obtain ⟨n, rfl, q₂⟩ := q₉
  cases r₁; cases r₂
  rename_i tn
  have r : RepAll h₂ vs (ns.map V.int) := repAll_ints hi
  have hl₂ : h₂.IsList a vs.toArray := by
    obtain ⟨o, ho, z⟩ := hl
    exact ⟨o, x₂.base _ _ ho, z⟩
  refine ⟨a, vs.toArray, none, some n, rfl, hl₂, by simpa using hsz, .none, .int _ _, ?_⟩
  rw [slicePick_upto']
  have kp₁ : ∀ b o, h₂.get? b = some o → (h₂.push { cls := .type "slice", data := .fields #[.none, .int n tn, .none] }).get? b = some o := fun b o e => Heap.get?_push_of_some _ e
  have x₃ := x₂.keeps kp₁
  have hsz3 := Heap.size_push h₂ { cls := .type "slice", data := .fields #[.none, .int n tn, .none] }
  generalize hH : h₂.push { cls := .type "slice", data := .fields #[.none, .int n tn, .none] } = h₃ at *
  have kp₂ : ∀ b o, h₃.get? b = some o → (h₃.push { cls := .type "list", data := .seq (vs.take n).toArray }).get? b = some o := fun b o e => Heap.get?_push_of_some _ e
  have hn := Mine.none_at_size h₃
  have hD := Heap.get?_push_size h₃ (o := { cls := .type "list", data := .seq (vs.take n).toArray }) rfl
  dsimp only at hsz3 ⊢
  rw [← hsz3]
  have kp : ∀ b o, h₂.get? b = some o → (h₃.push { cls := .type "list", data := .seq (vs.take n).toArray }).get? b = some o := fun b o e => kp₂ b o (kp₁ b o e)
  have ei : (ns.take n).map V.int = (ns.map V.int).take n := by rw [List.map_take]
  refine ⟨_, t₂, _, _, rfl, ((E₁.trans E₂).trans (.keeps kp₁)).trans (.new hn kp₂), x₃.newAt (o := .list ((ns.take n).map V.int)) hn (Nat.le_of_lt x₃.big) kp₂ ⟨_, 0, hD, ?_⟩, .ref _, q₂ _ (x₃.unused hn)⟩
  rw [ei]
  simpa using (r.take n).mono (.of_keeps kp)
end
theorem of_SV {prog : Program} {w : World} {h₀ : Heap} {K : Frag} {mg mb : Str → Option Value} (X : K.In h₀) (ng : h₀.Ns mainGlobals mg) (nb : h₀.Ns builtinsNs mb) (lim : h₀.NoLimit)
    {A : Around} {env : Env} {ρ : Loc} {t : Sem Flow} {Q : Flow → Shared → Prop} {E : Value → Shared → Prop} {s : Shared} {m : Str → Option Value}
    (F : Fr h₀ env.locals s.heap m) (hρ : ∀ x d, ρ.get x = some d → ∃ v, m x = some v ∧ Rep s.heap v d)
    (h : ∀ G : Amb, G.prog = prog → G.w = w → G.h₀ = h₀ → G.K = K → G.mg = mg → G.mb = mb → SV G A env ρ (fun _ => none) t (fun φ _ _ => φ = .ret (.bool true)) never)
    (hQ : ∀ h' tk, h₀.StaysIn h' → Q (.ret (.bool true)) { s with heap := h', toks := tk }) : wpAny (model prog w) A t Q E s := by
  refine wpAny_mono (h ⟨prog, w, h₀, K, X, mg, mb, ng, nb, lim⟩ rfl rfl rfl rfl rfl rfl s ⟨F.keep, fun a o e => (by cases e), fun a e => absurd rfl e, ⟨m, F.ns, hρ⟩, rfl, F.above⟩) (fun f s' p => ?_) fun _ _ e => e.elim
  refine p.elim fun h' tk φ ρ' σ' E x r q₉ => ?_; cases q₉
  cases f with
  | ret v => cases (show Rep h' v (.bool true) from r); exact hQ _ _ x.base
  | next => exact r.elim
  | brk => exact r.elim
  | cont => exact r.elim
end Mine
namespace Mine
structure IsG (G : Amb) : Prop where
  K : G.K = heapK G.w.params
  glob : ∀ x v, nsIn G.K mainGlobals x = some (some v) → G.mg x = some v
  noGlob : ∀ x, nsIn G.K mainGlobals x = some none → G.mg x = none
  boot : ∀ x v, bootBuiltins x = some v → x ≠ "__name__" → G.mb x = some v
structure Rw where
  spot : Int
  disj : Bool
  names : List Str
  mult : Str
  node : V
def Rw.V (r : Rw) : V := .tup [.int r.spot, .bool r.disj, .tup (r.names.map .str), .str r.mult, r.node]
structure It where
  spot : Int
  names : List Str
  abs : Bool
  mult : Str
  parent : Str
  supers : List Str
  rows : List Rw
  facts : List V
def It.V (t : It) : V := .tup [.str "sig", .int t.spot, .tup (t.names.map .str), .bool t.abs, .str t.mult, .str t.parent, .tup (t.supers.map .str), .tup (t.rows.map Rw.V), .tup t.facts]
def It.direct (t : It) : List Str := (if t.parent = "" then [] else [t.parent]) ++ t.supers
def gets {α : Type} : List (Str × α) → Str → Option α
  | [], _ => none
  | (y, e) :: r, x => if x = y then some e else gets r x
abbrev Ens := List (Str × It)
def vents (es : Ens) : List (Str × V) := es.map fun p => (p.1, p.2.V)
theorem get_vents (es : Ens) (x : Str) : Loc.get (vents es) x = (gets es x).map It.V := by
  induction es with
  | nil => rfl
  | cons p r ih =>
    obtain ⟨y, t⟩ := p
    show Loc.get ((y, t.V) :: vents r) x = _
    unfold Loc.get gets
    split
    · rfl
    · exact ih
theorem find_of_get {x : Str} {d : V} : ∀ {ps : List (Str × V)}, Loc.get ps x = some d → ∃ p, ps.find? (fun p => p.1 == x) = some p ∧ p.2 = d
  | [], e => by simp [Loc.get] at e
  | (y, d') :: r, e => by
    unfold Loc.get at e
    rw [List.find?_cons]
    by_cases q : x = y
    · subst q; rw [if_pos rfl] at e; cases e; exact ⟨(x, d), by simp, rfl⟩
    · rw [if_neg q] at e
      have : (y == x) = false := beq_eq_false_iff_ne.mpr (Ne.symm q)
      dsimp only
      rw [this]; exact find_of_get e
theorem find_none {x : Str} : ∀ {ps : List (Str × V)}, Loc.get ps x = none → ps.find? (fun p => p.1 == x) = none
  | [], e => rfl
  | (y, d') :: r, e => by
    unfold Loc.get at e
    rw [List.find?_cons]
    by_cases q : x = y
    · subst q; rw [if_pos rfl] at e; cases e
    · rw [if_neg q] at e
      have : (y == x) = false := beq_eq_false_iff_ne.mpr (Ne.symm q)
      dsimp only
      rw [this]; exact find_none e
def ownNames : List Str := ["entries", "stands", "opened", "ordered", "own_fields"]
theorem get_own {x : Str} (hx : x ∉ ownNames) : ∀ {ps : List (Str × V)}, (∀ p ∈ ps, p.1 ∈ ownNames) → Loc.get ps x = none
  | [], _ => rfl
  | (y, d) :: r, h => by
    unfold Loc.get
    have q : ¬ x = y := fun q => by subst q; exact hx (h (x, d) (by simp))
    rw [if_neg q]
    exact get_own hx fun p hp => h p (by simp [hp])
def Self (σ : St) (a : Addr) (ps : List (Str × V)) : Prop := ∃ dx, σ a = some (.inst 248 dx) ∧ σ dx = some (.attrs ps) ∧ ∀ p ∈ ps, p.1 ∈ ownNames
def Ents (σ : St) (a : Addr) (es : Ens) : Prop := ∃ ps E ep, Self σ a ps ∧ Loc.get ps "entries" = some (.ref E) ∧ σ E = some (.sdict ep (vents es))
theorem Self.le {σ σ' : St} {a ps} (x : Self σ a ps) (l : Le σ σ') : Self σ' a ps := let ⟨dx, p, q, r⟩ := x; ⟨dx, l _ _ p, l _ _ q, r⟩
theorem Ents.le {σ σ' : St} {a es} (x : Ents σ a es) (l : Le σ σ') : Ents σ' a es := let ⟨ps, E, ep, p, q, r⟩ := x; ⟨ps, E, ep, p.le l, q, l _ _ r⟩
section
variable {G : Amb} {A : Around} {env : Env} {L : Addr} {ρ : Loc} {σ : St} {X : Value → Shared → Prop} {k : V → St → Prop}
theorem K_attr (hG : IsG G) {x : Str} (hx : x ∈ ownNames) : plainGet G.K 248 x = true ∧ hasDictIn G.K 248 = true ∧ findIn G.K (.ref 248) x = some none ∧ noGet G.K none = true := by
  rw [hG.K]
  simp only [ownNames, List.mem_cons, List.mem_nil_iff, or_false] at hx
  rcases hx with rfl | rfl | rfl | rfl | rfl <;> exact ⟨rfl, rfl, rfl, rfl⟩
theorem ev_self (hG : IsG G) {e : Expr} {x : Str} {pos : Pos} (h : EV G A env ρ σ e (fun d σ₁ => ∃ a ps d', d = .ref a ∧ Self σ₁ a ps ∧ Loc.get ps x = some d' ∧ k d' σ₁) X) (hx : x ∈ ownNames := by decide)
    (he : eval (.Attribute e x pos) env = (do
      let o ← eval e env
      standAt pos.atName
      let r ← holding [o] (getAttr o x true)
      letTemporaryGo e o r
      pure r) := by with_unfolding_all rfl) : EV G A env ρ σ (.Attribute e x pos) k X := by
  obtain ⟨k1, k2, k3, k4⟩ := K_attr hG hx
  refine ev_Attr (h.mono ?_) he
  rintro d σ₁ ⟨a, ps, d', rfl, ⟨dx, s1, s2, _⟩, hg, hk⟩
  obtain ⟨p, hp, rfl⟩ := find_of_get hg
  exact ⟨a, 248, dx, ps, p, none, rfl, s1, s2, hp, k1, k2, k3, k4, hk⟩
structure IsM (G : Amb) (m : Str) (f : Addr) : Prop where
  get : plainGet G.K 248 m = true
  find : findIn G.K (.ref 248) m = some (some (.ref f))
  fn : isFn G.K (.ref f) = true
  keep : keepIn G.K (.ref f) = true
theorem gm_self {m : Str} {f : Addr} (M : IsM G m f) {a : Addr} {ps} (x : Self σ a ps) {k : Value → List V → Prop} (h : k (.ref f) [.ref a]) (hm : m ∉ ownNames := by decide) : GM G A L ρ σ m (.ref a) k X :=
  let ⟨dx, s1, s2, s3⟩ := x; gm_inst s1 s2 (find_none (get_own hm s3)) M.get M.find M.fn h
theorem IsM.ck {m : Str} {f : Addr} (M : IsM G m f) : CK G (.ref f) := .inr M.keep
theorem ev_m1 {m : Str} {f : Addr} (M : IsM G m f) {o e : Expr} {apos pos : Pos} {pl : Sem Bool} (h : EV G A env ρ σ o (fun d σ₁ => ∃ a ps, d = .ref a ∧ Self σ₁ a ps ∧ EV G A env ρ σ₁ e (fun d₂ σ₂ => OpC G A env.locals ρ σ₂ (.ref f) [.ref a, d₂] k X) X) X)
    (hm : m ∉ ownNames := by decide)
    (he : eval (.Call (.Attribute o m apos) [e] [] pos) env = (do
      let ov ← eval o env
      standAt apos.atName
      let (f, first) ← holding [ov] (getMethod ov m pl)
      callWith pos f first (backTo pos (starEach [e] env)) []) := by rfl)
    (hs : starEach [e] env = (false, eval e env) :: starEach [] env := by rfl) : EV G A env ρ σ (.Call (.Attribute o m apos) [e] [] pos) k X := by
  refine ev_MCall (pl := pl) (h.mono ?_) he hs
  rintro d σ₁ ⟨a, ps, rfl, s, h⟩
  exact gm_self M s ⟨M.ck, lv_cons (h.mono fun _ _ q => lv_nil q) hs⟩ hm
theorem ev_m0 {m : Str} {f : Addr} (M : IsM G m f) {o : Expr} {apos pos : Pos} {pl : Sem Bool} (h : EV G A env ρ σ o (fun d σ₁ => ∃ a ps, d = .ref a ∧ Self σ₁ a ps ∧ OpC G A env.locals ρ σ₁ (.ref f) [.ref a] k X) X)
    (hm : m ∉ ownNames := by decide)
    (he : eval (.Call (.Attribute o m apos) [] [] pos) env = (do
      let ov ← eval o env
      standAt apos.atName
      let (f, first) ← holding [ov] (getMethod ov m pl)
      callWith pos f first (backTo pos (starEach [] env)) []) := by rfl) : EV G A env ρ σ (.Call (.Attribute o m apos) [] [] pos) k X := by
  refine ev_MCall0 (pl := pl) (h.mono ?_) he
  rintro d σ₁ ⟨a, ps, rfl, s, h⟩
  exact gm_self M s ⟨M.ck, h⟩ hm
theorem M_parent (hG : IsG G) : IsM G "parent" 170 := by constructor <;> rw [hG.K] <;> rfl
theorem M_supers (hG : IsG G) : IsM G "supers" 177 := by constructor <;> rw [hG.K] <;> rfl
theorem M_spot (hG : IsG G) : IsM G "spot" 163 := by constructor <;> rw [hG.K] <;> rfl
theorem M_is_subset (hG : IsG G) : IsM G "is_subset" 184 := by constructor <;> rw [hG.K] <;> rfl
theorem M_direct (hG : IsG G) : IsM G "direct" 118 := by constructor <;> rw [hG.K] <;> rfl
theorem M_all_above (hG : IsG G) : IsM G "all_above" 210 := by constructor <;> rw [hG.K] <;> rfl
theorem M_take_sig (hG : IsG G) : IsM G "take_sig" 104 := by constructor <;> rw [hG.K] <;> rfl
theorem M_look_above (hG : IsG G) : IsM G "look_above" 111 := by constructor <;> rw [hG.K] <;> rfl
theorem M_parents_first (hG : IsG G) : IsM G "parents_first" 123 := by constructor <;> rw [hG.K] <;> rfl
theorem M_all_fields (hG : IsG G) : IsM G "all_fields" 130 := by constructor <;> rw [hG.K] <;> rfl
theorem M_look_fields (hG : IsG G) : IsM G "look_fields" 137 := by constructor <;> rw [hG.K] <;> rfl
theorem B_name (hG : IsG G) {x : Str} {v : Value} (h : bootBuiltins x = some v) (h1 : nsIn (heapK G.w.params) mainGlobals x = some none) (h2 : x ≠ "__name__") : G.mg x = none ∧ G.mb x = some v :=
  ⟨hG.noGlob x (by rw [hG.K]; exact h1), hG.boot x v h h2⟩
theorem B_list (hG : IsG G) : G.mg "list" = none ∧ G.mb "list" = some (.type "list") := B_name hG rfl rfl (by decide)
theorem B_tuple (hG : IsG G) : G.mg "tuple" = none ∧ G.mb "tuple" = some (.type "tuple") := B_name hG rfl rfl (by decide)
theorem B_len (hG : IsG G) : G.mg "len" = none ∧ G.mb "len" = some (.builtin "len") := B_name hG rfl rfl (by decide)
theorem B_range (hG : IsG G) : G.mg "range" = none ∧ G.mb "range" = some (.type "range") := B_name hG rfl rfl (by decide)
theorem ev_entry (hG : IsG G) {e₁ e₂ e₃ : Expr} {p₁ p₂ p₃ : Pos} {i : Int} {it : It} {d : V} {self : Addr} {es : Ens} {name : Str} {tv : List V} (H : Ents σ self es) (hn : gets es name = some it)
    (h₁ : ∀ (k : V → St → Prop), k (.ref self) σ → EV G A env ρ σ e₁ k X) (h₂ : ∀ (k : V → St → Prop), k (.str name) σ → EV G A env ρ σ e₂ k X) (h₃ : ∀ (k : V → St → Prop), k (.int i) σ → EV G A env ρ σ e₃ k X)
    (h0 : 0 ≤ i) (hi : i < 2 ^ 63) (hV : it.V = .tup tv) (hd : tv[i.toNat]? = some d) (h : k d σ)
    (he : eval (.Attribute e₁ "entries" p₁) env = (do
      let o ← eval e₁ env
      standAt p₁.atName
      let r ← holding [o] (getAttr o "entries" true)
      letTemporaryGo e₁ o r
      pure r) := by with_unfolding_all rfl)
    (hs₁ : ∀ a t, subscripted e₂ false (.ref a) (.str name t) = operate [.ref a, .str name t] (getItem (.ref a) (.str name t)) := by intro _ _; with_unfolding_all rfl)
    (hs₂ : ∀ a t, subscripted e₃ false (.ref a) (.int i t) = operate [.ref a, .int i t] (getItem (.ref a) (.int i t)) := by intro _ _; with_unfolding_all rfl) :
    EV G A env ρ σ (.Subscript (.Subscript (.Attribute e₁ "entries" p₁) e₂ p₂) e₃ p₃) k X := by
  obtain ⟨ps, E, ep, s, hg, hE⟩ := H
  refine ev_Subscript (ev_Subscript (ev_self hG (h₁ _ ⟨self, ps, _, rfl, s, hg, h₂ _ (op_item_sdict (d := it.V) hE (by rw [get_vents, hn]; rfl) ?_ (hs₁ _))⟩) (by decide) he))
  refine h₃ _ ?_
  rw [hV]
  exact op_item_tup h0 hi hd h hs₂
theorem c_parent (hG : IsG G) {n : Nat} (R : Room A (n + 1)) {self : Addr} {es : Ens} {name : Str} {it : It} (H : Ents σ self es) (hn : gets es name = some it)
    (h : k (.str it.parent) σ) : OpC G A L ρ σ (.ref 170) [.ref self, .str name] k X := by
  refine opc_fn0 (f := 170) ["self", "name"] (by rw [hG.K]; rfl) (by rw [hG.K]; rfl) R fun L' A' env he R' => ?_
  subst he
  exact sv_cons (sv_Return (ev_entry hG (i := 5) H hn (fun k h => ev_local h) (fun k h => ev_local h) (fun k h => ev_int h) (by decide) (by decide) rfl rfl h))
end
end Mine
namespace Mine
section
variable {G : Amb} {A : Around} {env : Env} {L : Addr} {ρ : Loc} {σ : St} {X : Value → Shared → Prop} {k : V → St → Prop}
theorem c_spot (hG : IsG G) {n : Nat} (R : Room A (n + 1)) {self : Addr} {es : Ens} {name : Str} {it : It} (H : Ents σ self es) (hn : gets es name = some it)
    (h : k (.int it.spot) σ) : OpC G A L ρ σ (.ref 163) [.ref self, .str name] k X := by
  refine opc_fn0 (f := 163) ["self", "name"] (by rw [hG.K]; rfl) (by rw [hG.K]; rfl) R fun L' A' env he R' => ?_
  subst he
  exact sv_cons (sv_Return (ev_entry hG (i := 1) H hn (fun k h => ev_local h) (fun k h => ev_local h) (fun k h => ev_int h) (by decide) (by decide) rfl rfl h))
theorem c_supers (hG : IsG G) {n : Nat} (R : Room A (n + 1)) {self : Addr} {es : Ens} {name : Str} {it : It} (H : Ents σ self es) (hn : gets es name = some it)
    (h : k (.tup (it.supers.map .str)) σ) : OpC G A L ρ σ (.ref 177) [.ref self, .str name] k X := by
  refine opc_fn0 (f := 177) ["self", "name"] (by rw [hG.K]; rfl) (by rw [hG.K]; rfl) R fun L' A' env he R' => ?_
  subst he
  obtain ⟨b1, b2⟩ := B_tuple hG
  refine sv_cons (sv_Return (ev_Call (ev_builtin b1 b2 rfl ⟨_, rfl, .type _, lv_cons ?_⟩)))
  exact ev_entry hG (i := 6) H hn (fun k h => ev_local h) (fun k h => ev_local h) (fun k h => ev_int h) (by decide) (by decide) rfl rfl (lv_nil (opc_tuple_tup h))
theorem c_is_subset (hG : IsG G) {n : Nat} (R : Room A (n + 1)) {self : Addr} {es : Ens} {name : Str} {it : It} (H : Ents σ self es) (hn : gets es name = some it) (hs : it.supers.length ≤ 1000)
    (h : k (.bool (!it.supers.isEmpty)) σ) : OpC G A L ρ σ (.ref 184) [.ref self, .str name] k X := by
  refine opc_fn0 (f := 184) ["self", "name"] (by rw [hG.K]; rfl) (by rw [hG.K]; rfl) R fun L' A' env he R' => ?_
  subst he
  obtain ⟨b1, b2⟩ := B_len hG
  refine sv_cons (sv_Return (ev_Compare (ev_Call (ev_builtin b1 b2 rfl ⟨_, rfl, .builtin _, lv_cons ?_⟩))))
  refine ev_entry hG (i := 6) H hn (fun k h => ev_local h) (fun k h => ev_local h) (fun k h => ev_int h) (by decide) (by decide) rfl rfl (lv_nil (opc_len_tup (by rw [List.length_map, sizeLine_eq]; omega) ?_))
  refine ev_int (op_gt_int ?_)
  have e : decide ((0 : Int) < ((it.supers.map V.str).length : Nat)) = !it.supers.isEmpty := by
    rw [List.length_map]
    cases it.supers <;> simp
  show k (V.bool (decide ((0 : Int) < ((it.supers.map V.str).length : Nat)))) σ
  rw [e]; exact h
theorem c_direct (hG : IsG G) {n : Nat} (R : Room A (n + 2)) {self : Addr} {es : Ens} {name : Str} {it : It} (H : Ents σ self es) (hn : gets es name = some it) (hs : it.supers.length ≤ 1000)
    (h : k (.tup (it.direct.map .str)) σ) : OpC G A L ρ σ (.ref 118) [.ref self, .str name] k X := by
  refine opc_fn0 (f := 118) ["self", "name"] (by rw [hG.K]; rfl) (by rw [hG.K]; rfl) R fun L' A' env he R' => ?_
  subst he
  obtain ⟨ps, E, ep, s, hg, hE⟩ := id H
  refine sv_cons (sv_Return (ev_BinOp (ev_IfExp (bv_Compare (ev_m1 (M_parent hG) (ev_local (x := "self") ⟨self, ps, rfl, s, ev_local (x := "name") (c_parent hG R' H hn (ev_str (op_ne_str ⟨_, rfl, ?_⟩)))⟩))))))
  by_cases q : it.parent = ""
  · have e : it.direct = it.supers := by unfold It.direct; rw [if_pos q]; rfl
    rw [e] at h
    simp only [q, decide_true, Bool.not_true, Bool.false_eq_true, if_false]
    exact ev_Tuple (lv_nil ⟨by simp, ev_m1 (M_supers hG) (ev_local (x := "self") ⟨self, ps, rfl, s, ev_local (x := "name") (c_supers hG R' H hn (op_add_tup (by simp; rw [sizeLine_eq]; omega) (by show k (V.tup _) σ; simpa using h)))⟩)⟩)
  · have e : it.direct = it.parent :: it.supers := by unfold It.direct; rw [if_neg q]; rfl
    rw [e] at h
    simp only [q, decide_false, Bool.not_false, if_true]
    exact ev_Tuple (lv_cons (ev_m1 (M_parent hG) (ev_local (x := "self") ⟨self, ps, rfl, s, ev_local (x := "name") (c_parent hG R' H hn (lv_nil ⟨len_ok rfl, ev_m1 (M_supers hG) (ev_local (x := "self") ⟨self, ps, rfl, s, ev_local (x := "name") (c_supers hG R' H hn (op_add_tup (by simp; rw [sizeLine_eq]; omega) (by show k (V.tup _) σ; simpa using h)))⟩)⟩))⟩)))
end
end Mine
namespace Mine
structure WF (es : Ens) : Prop where
  size : es.length ≤ 100
  keys : (es.map (·.1)).Nodup
  sup : ∀ x it, gets es x = some it → it.supers.length ≤ 2
  dir : ∀ x it, gets es x = some it → ∀ y ∈ it.direct, ∃ it', gets es y = some it'
  dnd : ∀ x it, gets es x = some it → it.direct.Nodup
  ok : ∀ x it, gets es x = some it → PyData.strOk x = true
theorem gets_mem {α : Type} {x : Str} {it : α} : ∀ {es : List (Str × α)}, gets es x = some it → x ∈ es.map (·.1)
  | [], e => by simp [gets] at e
  | (y, t) :: r, e => by
    unfold gets at e
    by_cases q : x = y
    · simp [q]
    · rw [if_neg q] at e
      exact List.mem_cons_of_mem _ (gets_mem e)
inductive Up (es : Ens) : Str → Str → Prop
  | one {a b it} : gets es a = some it → b ∈ it.direct → Up es a b
  | more {a b c it} : Up es a b → gets es b = some it → c ∈ it.direct → Up es a c
structure Above (es : Ens) (name : Str) (it : It) (over : List Str) : Prop where
  nd : over.Nodup
  mem : ∀ x, x ∈ over ↔ Up es name x
  pre : it.direct <+: over
theorem direct_len (t : It) : t.direct.length ≤ t.supers.length + 1 := by
  unfold It.direct; split <;> simp <;> omega
theorem nodup_le {xs ys : List Str} (hn : xs.Nodup) (h : ∀ x ∈ xs, x ∈ ys) : xs.length ≤ ys.length := by
  induction xs generalizing ys with
  | nil => simp
  | cons x xs ih =>
    simp only [List.nodup_cons] at hn
    have hx := h x (by simp)
    have : xs.length ≤ (ys.erase x).length := ih hn.2 fun y hy => by
      have hne : y ≠ x := fun q => hn.1 (q ▸ hy)
      rw [List.mem_erase_of_ne hne]; exact h y (by simp [hy])
    rw [List.length_erase_of_mem hx] at this
    have := List.length_pos_of_mem hx
    simp; omega
structure Mid (es : Ens) (name : Str) (it : It) (found waiting : List Str) : Prop where
  nd : found.Nodup
  up : ∀ x, (x ∈ found ∨ x ∈ waiting) → Up es name x
  cl : ∀ x ∈ found, ∀ t, gets es x = some t → ∀ y ∈ t.direct, y ∈ found ∨ y ∈ waiting
  cl0 : ∀ y ∈ it.direct, y ∈ found ∨ y ∈ waiting
  pre : (it.direct <+: found) ∨ ∃ u, it.direct = found ++ u ∧ u <+: waiting
  key : ∀ x, (x ∈ found ∨ x ∈ waiting) → ∃ t, gets es x = some t
  len : waiting.length ≤ 3 * (found.length + 1)
theorem Up.key {es : Ens} (W : WF es) {a b : Str} (h : Up es a b) : ∃ t, gets es b = some t := by
  cases h with
  | one ha hb => exact W.dir _ _ ha _ hb
  | more _ hb hc => exact W.dir _ _ hb _ hc
theorem Mid.start {es : Ens} {name : Str} {it : It} (W : WF es) (hn : gets es name = some it) : Mid es name it [] it.direct where
  nd := .nil
  up := fun x h => by rcases h with h | h; cases h; exact .one hn h
  cl := fun x h => by cases h
  cl0 := fun y h => .inr h
  pre := .inr ⟨it.direct, rfl, List.prefix_refl _⟩
  key := fun x h => by rcases h with h | h; cases h; exact W.dir _ _ hn _ h
  len := by have := direct_len it; have := W.sup _ _ hn; simp; omega
theorem Mid.old {es : Ens} {name : Str} {it : It} {found waiting : List Str} {o : Str} (W : WF es) (hn : gets es name = some it) (M : Mid es name it found (o :: waiting)) (ho : o ∈ found) : Mid es name it found waiting where
  nd := M.nd
  up := fun x h => M.up x (h.imp id fun h => by simp [h])
  cl := fun x h t ht y hy => by
    rcases M.cl x h t ht y hy with h | h
    · exact .inl h
    · rcases List.mem_cons.mp h with rfl | h
      · exact .inl ho
      · exact .inr h
  cl0 := fun y hy => by
    rcases M.cl0 y hy with h | h
    · exact .inl h
    · rcases List.mem_cons.mp h with rfl | h
      · exact .inl ho
      · exact .inr h
  pre := by
    rcases M.pre with h | ⟨u, h1, h2⟩
    · exact .inl h
    · cases u with
      | nil => exact .inl (by rw [h1]; simp)
      | cons v u =>
        obtain ⟨rest, hr⟩ := h2
        simp only [List.cons_append, List.cons.injEq] at hr
        obtain ⟨rfl, hr⟩ := hr
        have hd := W.dnd _ _ hn
        rw [h1] at hd
        have := (List.nodup_append.mp hd).2.2 v ho v (by simp)
        exact absurd rfl this
  key := fun x h => M.key x (h.imp id fun h => by simp [h])
  len := by have := M.len; simp at this; omega
theorem Mid.new {es : Ens} {name : Str} {it t : It} {found waiting : List Str} {o : Str} (W : WF es) (M : Mid es name it found (o :: waiting)) (ho : o ∉ found) (ht : gets es o = some t) : Mid es name it (found ++ [o]) (waiting ++ t.direct) where
  nd := by
    rw [List.nodup_append]
    refine ⟨M.nd, by simp, fun a ha b hb => ?_⟩
    rw [List.mem_singleton] at hb; subst hb
    exact fun q => ho (q ▸ ha)
  up := fun x h => by
    rcases h with h | h
    · rcases List.mem_append.mp h with h | h
      · exact M.up x (.inl h)
      · rw [List.mem_singleton] at h; subst h; exact M.up x (.inr (by simp))
    · rcases List.mem_append.mp h with h | h
      · exact M.up x (.inr (by simp [h]))
      · exact .more (M.up o (.inr (by simp))) ht h
  cl := fun x h t' ht' y hy => by
    rcases List.mem_append.mp h with h | h
    · rcases M.cl x h t' ht' y hy with h | h
      · exact .inl (by simp [h])
      · rcases List.mem_cons.mp h with rfl | h
        · exact .inl (by simp)
        · exact .inr (by simp [h])
    · rw [List.mem_singleton] at h; subst h
      rw [ht] at ht'; cases ht'
      exact .inr (by simp [hy])
  cl0 := fun y hy => by
    rcases M.cl0 y hy with h | h
    · exact .inl (by simp [h])
    · rcases List.mem_cons.mp h with rfl | h
      · exact .inl (by simp)
      · exact .inr (by simp [h])
  pre := by
    rcases M.pre with h | ⟨u, h1, h2⟩
    · exact .inl (h.trans (List.prefix_append _ _))
    · cases u with
      | nil => exact .inl (by rw [h1]; simp)
      | cons v u =>
        obtain ⟨rest, hr⟩ := h2
        simp only [List.cons_append, List.cons.injEq] at hr
        obtain ⟨rfl, hr⟩ := hr
        exact .inr ⟨u, by rw [h1]; simp, ⟨rest ++ t.direct, by rw [← hr]; simp⟩⟩
  key := fun x h => by
    rcases h with h | h
    · rcases List.mem_append.mp h with h | h
      · exact M.key x (.inl h)
      · rw [List.mem_singleton] at h; subst h; exact ⟨t, ht⟩
    · rcases List.mem_append.mp h with h | h
      · exact M.key x (.inr (by simp [h]))
      · exact W.dir _ _ ht _ h
  len := by
    have := M.len
    have := direct_len t
    have := W.sup _ _ ht
    simp at *; omega
theorem Mid.fin {es : Ens} {name : Str} {it : It} {found : List Str} (hn : gets es name = some it) (M : Mid es name it found []) : Above es name it found where
  nd := M.nd
  mem := fun x => ⟨fun h => M.up x (.inl h), fun h => by
    induction h with
    | one ha hb =>
      rw [hn] at ha; cases ha
      rcases M.cl0 _ hb with h | h
      · exact h
      · cases h
    | more _ hb hc ih =>
      rcases M.cl _ ih _ hb _ hc with h | h
      · exact h
      · cases h⟩
  pre := by
    rcases M.pre with h | ⟨u, h1, h2⟩
    · exact h
    · have : u = [] := List.prefix_nil.mp h2
      subst this
      rw [h1]; simp
theorem Mid.flen {es : Ens} {name : Str} {it : It} {found waiting : List Str} (M : Mid es name it found waiting) : found.length ≤ es.length := by
  have := nodup_le (ys := es.map (·.1)) M.nd fun x hx => let ⟨t, ht⟩ := M.key x (.inl hx); gets_mem ht
  simpa using this
section
variable {G : Amb} {A : Around} {env : Env} {L : Addr} {ρ : Loc} {σ : St} {X : Value → Shared → Prop} {k : V → St → Prop}
theorem c_all_above (hG : IsG G) {n : Nat} (R : Room A (n + 3)) {self : Addr} {es : Ens} {name : Str} {it : It} (H : Ents σ self es) (W : WF es) (hn : gets es name = some it)
    (h : ∀ D σ' over, Le σ σ' → σ D = none → σ' D = some (.list (over.map .str)) → Above es name it over → k (.ref D) σ') : OpC G A L ρ σ (.ref 210) [.ref self, .str name] k X := by
  refine opc_fn0 (f := 210) ["self", "name"] (by rw [hG.K]; rfl) (by rw [hG.K]; rfl) R fun L' A' env he R' => ?_
  obtain ⟨ps, E, ep, s, hg, hE⟩ := id H
  obtain ⟨bl1, bl2⟩ := B_list hG
  obtain ⟨bn1, bn2⟩ := B_len hG
  have hsz : it.direct.length ≤ 100 := by have := direct_len it; have := W.sup _ _ hn; omega
  subst he
  refine sv_cons (sv_AssignSwap (names := ["found", "waiting"]) R'.handled ?_)
  refine ev_Tuple (lv_cons (ev_List (lv_nil ⟨len_ok rfl, fun F hF => ?_⟩)))
  have l1 : Le σ (σ.set F (.list [])) := Le.set hF
  refine lv_cons (ev_Call (ev_builtin bl1 bl2 rfl ⟨_, rfl, .type _, lv_cons (ev_m1 (M_direct hG) (ev_local (x := "self") ⟨self, ps, rfl, s.le l1, ev_local (x := "name") (c_direct hG R' (H.le l1) hn (by have := W.sup _ _ hn; omega) ?_)⟩))⟩))
  refine lv_nil (opc_list_tup (by simp [sizeLine_eq]; omega) fun Wt hW => lv_nil ⟨len_ok rfl, _, rfl, rfl, ?_⟩)
  refine tl_cons (ts_bind (ts_local (tl_cons (ts_bind (ts_local (tl_nil ?_))))))
  show SV G _ _ _ _ _ _ _
  have lW : Le (σ.set F (.list [])) ((σ.set F (.list [])).set Wt (.list (it.direct.map .str))) := Le.set hW
  have hFW : F ≠ Wt := fun q => by rw [q, St.set_same] at hW; cases hW
  refine sv_cons (sv_While PassesOwn.never (fun m ρ' σ' => ∃ found waiting, Mid es name it found waiting ∧ Sub [("self", .ref self), ("name", .str name), ("waiting", .ref Wt), ("found", .ref F)] ρ' ∧
    Le σ σ' ∧ σ' F = some (.list (found.map .str)) ∧ σ' Wt = some (.list (waiting.map .str)) ∧ m = (es.length - found.length) * 4 + waiting.length) _
    ⟨[], it.direct, .start W hn, ⟨rfl, rfl, rfl, rfl, trivial⟩, l1.trans lW, by rw [St.set_ne _ _ hFW, St.set_same]; rfl, by rw [St.set_same], rfl⟩ ?_)
  rintro m ρ' σ' ⟨found, waiting, M, hs, le, hf, hw, rfl⟩
  refine ⟨_, hs, bv_Compare (ev_Call (ev_builtin bn1 bn2 rfl ⟨_, rfl, .builtin _, lv_cons (ev_local (x := "waiting") (lv_nil (opc_len_list hw ?_ (ev_int (op_gt_int ⟨_, rfl, ?_⟩)))))⟩))⟩
  · have := M.len; have := M.flen; have := W.size; rw [List.length_map, sizeLine_eq]; omega
  cases waiting with
  | nil =>
    simp only [List.map_nil, List.length_nil, Int.natCast_zero, Int.lt_irrefl, decide_false, Bool.false_eq_true, if_false]
    refine sv_cons (sv_Return (ev_local (x := "found") ?_))
    exact h F σ' found le hF hf (M.fin hn)
  | cons o waiting =>
    have hpos : decide ((0 : Int) < (((o :: waiting).map V.str).length : Nat)) = true := by simp
    rw [hpos, if_pos rfl]
    obtain ⟨t, ht⟩ := M.key o (.inr (by simp))
    have hml := M.len
    have hfl := M.flen
    have hsz' := W.size
    rw [List.length_cons] at hml
    refine sv_cons (sv_Assign (ev_MCall (ev_local (x := "waiting") (gm_list PySem.F.slot_list_pop PySem.F.type_list_pop hw ⟨.builtin _, lv_cons (ev_int (lv_nil (opc_pop_at (d := .str o) hw ?_ (by decide) rfl ?_)))⟩))))
    · rw [List.length_map, List.length_cons, sizeLine_eq]; omega
    have hf₁ : (σ'.set Wt (.list (waiting.map .str))) F = some (.list (found.map .str)) := St.keep hFW hf
    have hw₁ : (σ'.set Wt (.list (waiting.map .str))) Wt = some (.list (waiting.map .str)) := St.set_same ..
    have σW : σ Wt = none := by rw [St.set_ne _ _ hFW.symm] at hW; exact hW
    have le₁ : Le σ (σ'.set Wt (.list (waiting.map .str))) := le.setL σW
    refine sv_cons (sv_If (bv_Compare (ev_local (x := "other") (ev_local (x := "found") (op_notIn_strs hf₁ ⟨_, rfl, ?_⟩)))))
    by_cases ho : o ∈ found
    · simp only [ho, decide_true, Bool.not_true, Bool.false_eq_true, if_false]
      refine sv_nil (sv_nil ⟨_, ?_, found, waiting, M.old W hn ho, ⟨rfl, rfl, rfl, rfl, trivial⟩, le₁, hf₁, hw₁, rfl⟩)
      simp only [List.length_cons]; omega
    · simp only [ho, decide_false, Bool.not_false, if_true]
      have N := M.new W ho ht
      have hN := N.flen
      rw [List.length_append, List.length_singleton] at hN
      refine sv_cons (sv_Expr (ev_MCall (ev_local (x := "found") (gm_list PySem.F.slot_list_append PySem.F.type_list_append hf₁ ⟨.builtin _, lv_cons (ev_local (x := "other") (lv_nil (opc_append hf₁ ?_ ⟨rfl, ?_⟩)))⟩))))
      · rw [List.length_map, sizeLine_eq]; omega
      have le₂ : Le σ ((σ'.set Wt (.list (waiting.map .str))).set F (.list (found.map .str ++ [.str o]))) := le₁.setL hF
      have hw₂ : ((σ'.set Wt (.list (waiting.map .str))).set F (.list (found.map .str ++ [.str o]))) Wt = some (.list (waiting.map .str)) := St.keep hFW.symm hw₁
      refine sv_cons (sv_Expr (ev_MCall (ev_local (x := "waiting") (gm_list PySem.F.slot_list_extend PySem.F.type_list_extend hw₂ ⟨.builtin _, lv_cons (ev_m1 (M_direct hG) (ev_local (x := "self") ⟨self, ps, rfl, s.le le₂, ev_local (x := "other")
        (c_direct hG R' (H.le le₂) ht (by have := W.sup _ _ ht; omega) (lv_nil (opc_extend_tup hw₂ ?_ ⟨rfl, ?_⟩)))⟩))⟩))))
      · have := direct_len t; have := W.sup _ _ ht; rw [List.length_map, List.length_map, sizeLine_eq]; omega
      refine sv_nil (sv_nil ⟨_, ?_, found ++ [o], waiting ++ t.direct, N, ⟨rfl, rfl, rfl, rfl, trivial⟩, le₂.setL σW, ?_, ?_, rfl⟩)
      · have := direct_len t; have := W.sup _ _ ht
        simp only [List.length_append, List.length_cons, List.length_nil]; omega
      · rw [St.set_ne _ _ hFW, St.set_same]; simp
      · rw [St.set_same]; simp
end
end Mine
namespace Mine
def HasL (σ : St) (a : Addr) (x : Str) (ds : List V) : Prop := ∃ ps l, Self σ a ps ∧ Loc.get ps x = some (.ref l) ∧ σ l = some (.list ds)
theorem HasL.le {σ σ' : St} {a x ds} (h : HasL σ a x ds) (l : Le σ σ') : HasL σ' a x ds := let ⟨ps, m, p, q, r⟩ := h; ⟨ps, m, p.le l, q, l _ _ r⟩
inductive Line (es : Ens) : Str → List Str → Prop
  | nil {a it} : gets es a = some it → it.parent = "" → Line es a []
  | cons {a it l} : gets es a = some it → it.parent ≠ "" → Line es it.parent l → Line es a (it.parent :: l)
section
variable {G : Amb} {A : Around} {env : Env} {L : Addr} {ρ : Loc} {σ : St} {X : Value → Shared → Prop} {k : V → St → Prop}
theorem M_above (hG : IsG G) : IsM G "above" 196 := by constructor <;> rw [hG.K] <;> rfl
theorem M_top (hG : IsG G) : IsM G "top" 203 := by constructor <;> rw [hG.K] <;> rfl
theorem M_children (hG : IsG G) : IsM G "children" 189 := by constructor <;> rw [hG.K] <;> rfl
theorem M_is_abstract (hG : IsG G) : IsM G "is_abstract" 217 := by constructor <;> rw [hG.K] <;> rfl
theorem M_mult (hG : IsG G) : IsM G "mult" 224 := by constructor <;> rw [hG.K] <;> rfl
theorem M_fields (hG : IsG G) : IsM G "fields" 231 := by constructor <;> rw [hG.K] <;> rfl
theorem M_facts (hG : IsG G) : IsM G "facts" 238 := by constructor <;> rw [hG.K] <;> rfl
theorem M_orders (hG : IsG G) : IsM G "orders" 245 := by constructor <;> rw [hG.K] <;> rfl
theorem M_names (hG : IsG G) : IsM G "names" 149 := by constructor <;> rw [hG.K] <;> rfl
theorem M_has (hG : IsG G) : IsM G "has" 156 := by constructor <;> rw [hG.K] <;> rfl
theorem M_take_order (hG : IsG G) : IsM G "take_order" 142 := by constructor <;> rw [hG.K] <;> rfl
theorem c_is_abstract (hG : IsG G) {n : Nat} (R : Room A (n + 1)) {self : Addr} {es : Ens} {name : Str} {it : It} (H : Ents σ self es) (hn : gets es name = some it)
    (h : k (.bool it.abs) σ) : OpC G A L ρ σ (.ref 217) [.ref self, .str name] k X := by
  refine opc_fn0 (f := 217) ["self", "name"] (by rw [hG.K]; rfl) (by rw [hG.K]; rfl) R fun L' A' env he R' => ?_
  subst he
  exact sv_cons (sv_Return (ev_entry hG (i := 3) H hn (fun k h => ev_local h) (fun k h => ev_local h) (fun k h => ev_int h) (by decide) (by decide) rfl rfl h))
theorem c_mult (hG : IsG G) {n : Nat} (R : Room A (n + 1)) {self : Addr} {es : Ens} {name : Str} {it : It} (H : Ents σ self es) (hn : gets es name = some it)
    (h : k (.str it.mult) σ) : OpC G A L ρ σ (.ref 224) [.ref self, .str name] k X := by
  refine opc_fn0 (f := 224) ["self", "name"] (by rw [hG.K]; rfl) (by rw [hG.K]; rfl) R fun L' A' env he R' => ?_
  subst he
  exact sv_cons (sv_Return (ev_entry hG (i := 4) H hn (fun k h => ev_local h) (fun k h => ev_local h) (fun k h => ev_int h) (by decide) (by decide) rfl rfl h))
theorem c_facts (hG : IsG G) {n : Nat} (R : Room A (n + 1)) {self : Addr} {es : Ens} {name : Str} {it : It} (H : Ents σ self es) (hn : gets es name = some it)
    (h : k (.tup it.facts) σ) : OpC G A L ρ σ (.ref 238) [.ref self, .str name] k X := by
  refine opc_fn0 (f := 238) ["self", "name"] (by rw [hG.K]; rfl) (by rw [hG.K]; rfl) R fun L' A' env he R' => ?_
  subst he
  obtain ⟨b1, b2⟩ := B_tuple hG
  refine sv_cons (sv_Return (ev_Call (ev_builtin b1 b2 rfl ⟨_, rfl, .type _, lv_cons ?_⟩)))
  exact ev_entry hG (i := 8) H hn (fun k h => ev_local h) (fun k h => ev_local h) (fun k h => ev_int h) (by decide) (by decide) rfl rfl (lv_nil (opc_tuple_tup h))
theorem c_has (hG : IsG G) {n : Nat} (R : Room A (n + 1)) {self : Addr} {es : Ens} {name : Str} (H : Ents σ self es)
    (h : k (.bool (gets es name).isSome) σ) : OpC G A L ρ σ (.ref 156) [.ref self, .str name] k X := by
  refine opc_fn0 (f := 156) ["self", "name"] (by rw [hG.K]; rfl) (by rw [hG.K]; rfl) R fun L' A' env he R' => ?_
  obtain ⟨ps, E, ep, s, hg, hE⟩ := id H
  subst he
  refine sv_cons (sv_Return (ev_Compare (ev_local (x := "name") (ev_self hG (ev_local (x := "self") ⟨self, ps, _, rfl, s, hg, op_in_sdict hE ?_⟩)))))
  rw [get_vents, Option.isSome_map]; exact h
theorem c_names (hG : IsG G) {n : Nat} (R : Room A (n + 1)) {self : Addr} {ds : List V} (H : HasL σ self "ordered" ds) (hsz : ds.length ≤ sizeLine)
    (h : ∀ D, σ D = none → k (.ref D) (σ.set D (.list ds))) : OpC G A L ρ σ (.ref 149) [.ref self] k X := by
  refine opc_fn0 (f := 149) ["self"] (by rw [hG.K]; rfl) (by rw [hG.K]; rfl) R fun L' A' env he R' => ?_
  obtain ⟨ps, l, s, hg, hl⟩ := id H
  obtain ⟨b1, b2⟩ := B_list hG
  subst he
  exact sv_cons (sv_Return (ev_Call (ev_builtin b1 b2 rfl ⟨_, rfl, .type _, lv_cons (ev_self hG (ev_local (x := "self") ⟨self, ps, _, rfl, s, hg, lv_nil (opc_list_list hl hsz h)⟩))⟩)))
theorem c_fields (hG : IsG G) {n : Nat} (R : Room A (n + 1)) {self : Addr} {ds : List V} (H : HasL σ self "own_fields" ds) (hsz : ds.length ≤ sizeLine)
    (h : ∀ D, σ D = none → k (.ref D) (σ.set D (.list ds))) : OpC G A L ρ σ (.ref 231) [.ref self] k X := by
  refine opc_fn0 (f := 231) ["self"] (by rw [hG.K]; rfl) (by rw [hG.K]; rfl) R fun L' A' env he R' => ?_
  obtain ⟨ps, l, s, hg, hl⟩ := id H
  obtain ⟨b1, b2⟩ := B_list hG
  subst he
  exact sv_cons (sv_Return (ev_Call (ev_builtin b1 b2 rfl ⟨_, rfl, .type _, lv_cons (ev_self hG (ev_local (x := "self") ⟨self, ps, _, rfl, s, hg, lv_nil (opc_list_list hl hsz h)⟩))⟩)))
theorem c_orders (hG : IsG G) {n : Nat} (R : Room A (n + 1)) {self : Addr} {ds : List V} (H : HasL σ self "opened" ds) (hsz : ds.length ≤ sizeLine)
    (h : ∀ D, σ D = none → k (.ref D) (σ.set D (.list ds))) : OpC G A L ρ σ (.ref 245) [.ref self] k X := by
  refine opc_fn0 (f := 245) ["self"] (by rw [hG.K]; rfl) (by rw [hG.K]; rfl) R fun L' A' env he R' => ?_
  obtain ⟨ps, l, s, hg, hl⟩ := id H
  obtain ⟨b1, b2⟩ := B_list hG
  subst he
  exact sv_cons (sv_Return (ev_Call (ev_builtin b1 b2 rfl ⟨_, rfl, .type _, lv_cons (ev_self hG (ev_local (x := "self") ⟨self, ps, _, rfl, s, hg, lv_nil (opc_list_list hl hsz h)⟩))⟩)))
theorem Line.len {es : Ens} {a l} (h : Line es a l) : ∀ x ∈ l, ∃ t, gets es x = some t := by
  induction h with
  | nil => intro x hx; cases hx
  | cons h1 h2 h3 ih =>
    intro x hx
    rcases List.mem_cons.mp hx with rfl | hx
    · cases h3 with
      | nil h _ => exact ⟨_, h⟩
      | cons h _ _ => exact ⟨_, h⟩
    · exact ih x hx
theorem c_above (hG : IsG G) {n : Nat} (R : Room A (n + 2)) {self : Addr} {es : Ens} {name : Str} {line : List Str} (H : Ents σ self es) (hl : Line es name line) (hsz : line.length ≤ 1000)
    (h : ∀ D σ', Le σ σ' → σ D = none → σ' D = some (.list (line.map .str)) → k (.ref D) σ') : OpC G A L ρ σ (.ref 196) [.ref self, .str name] k X := by
  refine opc_fn0 (f := 196) ["self", "name"] (by rw [hG.K]; rfl) (by rw [hG.K]; rfl) R fun L' A' env he R' => ?_
  obtain ⟨ps, E, ep, s, hg, hE⟩ := id H
  subst he
  refine sv_cons (sv_Assign (ev_List (lv_nil ⟨len_ok rfl, fun F hF => ?_⟩)))
  refine sv_cons (sv_While PassesOwn.never (fun m ρ' σ' => ∃ cur found rest, Line es cur rest ∧ line = found ++ rest ∧ Sub [("self", .ref self), ("name", .str cur), ("found", .ref F)] ρ' ∧
    Le σ σ' ∧ σ' F = some (.list (found.map .str)) ∧ m = rest.length) _
    ⟨name, [], line, hl, rfl, ⟨rfl, rfl, rfl, trivial⟩, Le.set hF, by rw [St.set_same]; rfl, rfl⟩ ?_)
  rintro m ρ' σ' ⟨cur, found, rest, hr, hlr, hs, le, hf, rfl⟩
  have H' := H.le le
  have s' := s.le le
  cases hr with
  | nil h1 h2 =>
    refine ⟨_, hs, bv_Compare (ev_m1 (M_parent hG) (ev_local (x := "self") ⟨self, ps, rfl, s', ev_local (x := "name") (c_parent hG R' H' h1 (ev_str (op_ne_str ⟨_, rfl, ?_⟩)))⟩))⟩
    simp only [h2, decide_true, Bool.not_true, Bool.false_eq_true, if_false]
    refine sv_cons (sv_Return (ev_local (x := "found") ?_))
    exact h F σ' le hF (by rw [hlr, List.append_nil]; exact hf)
  | @cons _ it l h1 h2 h3 =>
    refine ⟨_, hs, bv_Compare (ev_m1 (M_parent hG) (ev_local (x := "self") ⟨self, ps, rfl, s', ev_local (x := "name") (c_parent hG R' H' h1 (ev_str (op_ne_str ⟨_, rfl, ?_⟩)))⟩))⟩
    simp only [h2, decide_false, Bool.not_false, if_true]
    refine sv_cons (sv_Assign (ev_m1 (M_parent hG) (ev_local (x := "self") ⟨self, ps, rfl, s', ev_local (x := "name") (c_parent hG R' H' h1 ?_)⟩)))
    refine sv_cons (sv_Expr (ev_MCall (ev_local (x := "found") (gm_list PySem.F.slot_list_append PySem.F.type_list_append hf ⟨.builtin _, lv_cons (ev_local (x := "name") (lv_nil (opc_append hf ?_ ⟨rfl, ?_⟩)))⟩))))
    · rw [List.length_map, sizeLine_eq]; rw [hlr] at hsz; simp at hsz; omega
    refine sv_nil ⟨_, ?_, it.parent, found ++ [it.parent], l, h3, by rw [hlr]; simp, ⟨rfl, rfl, rfl, trivial⟩, le.setL hF, by rw [St.set_same]; simp, rfl⟩
    simp
theorem c_top (hG : IsG G) {n : Nat} (R : Room A (n + 3)) {self : Addr} {es : Ens} {name : Str} {it : It} {line : List Str} (H : Ents σ self es) (hn : gets es name = some it) (hl : Line es name line) (hsz : line.length ≤ 1000) (hs : it.supers.length ≤ 1000)
    (h : ∀ σ', Le σ σ' → k (.str (if it.supers.isEmpty then (name :: line).getLastD "" else "")) σ') : OpC G A L ρ σ (.ref 203) [.ref self, .str name] k X := by
  refine opc_fn0 (f := 203) ["self", "name"] (by rw [hG.K]; rfl) (by rw [hG.K]; rfl) R fun L' A' env he R' => ?_
  obtain ⟨ps, E, ep, s, hg, hE⟩ := id H
  subst he
  refine sv_cons (sv_If (bv_plain (ev_m1 (M_is_subset hG) (ev_local (x := "self") ⟨self, ps, rfl, s, ev_local (x := "name") (c_is_subset hG R' H hn hs ⟨_, rfl, ?_⟩)⟩))))
  cases q : it.supers.isEmpty with
  | false =>
    rw [q] at h
    simp only [Bool.not_false, if_true]
    exact sv_cons (sv_Return (ev_str (h σ (Le.refl σ))))
  | true =>
    rw [q] at h
    simp only [Bool.not_true, Bool.false_eq_true, if_false]
    refine sv_nil (sv_cons (sv_Return (ev_Subscript (ev_BinOp (ev_List (lv_cons (ev_local (x := "name") (lv_nil ⟨len_ok rfl, fun B hB => ?_⟩))))))))
    have le := Le.set (o := .list [.str name]) hB
    refine ev_m1 (M_above hG) (ev_local (x := "self") ⟨self, ps, rfl, s.le le, ev_local (x := "name") (c_above hG R' (H.le le) hl hsz fun D σ' le' hD hD' => ?_)⟩)
    refine op_add_list (le' _ _ (St.set_same ..)) hD' (by simp; rw [sizeLine_eq]; omega) fun C hC => ?_
    refine ev_neg (ev_int ⟨1, rfl, op_item_list_neg (d := .str ((name :: line).getLastD "")) (St.set_same ..) (by decide) ?_ ?_ ?_ (by decide)⟩)
    · simp; omega
    · have e : ([V.str name] ++ line.map V.str) = (name :: line).map V.str := rfl
      rw [e, List.length_map, List.getElem?_map]
      have e2 : ((-1 : Int) + ((name :: line).length : Nat)).toNat = (name :: line).length - 1 := by simp; omega
      rw [e2, ← List.getLast?_eq_getElem?]
      simp [List.getLast?_cons]
    · exact h _ ((le.trans le').trans (Le.set hC))
end
end Mine
namespace Mine
section
variable {G : Amb} {A : Around} {env : Env} {L : Addr} {ρ : Loc} {σ : St} {X : Value → Shared → Prop} {k : V → St → Prop}
theorem c_children (hG : IsG G) {n : Nat} (R : Room A (n + 2)) {self : Addr} {es : Ens} {name : Str} {stands : List Str} (H : Ents σ self es) (HS : HasL σ self "stands" (stands.map .str)) (hall : ∀ x ∈ stands, ∃ t, gets es x = some t) (hsz : stands.length ≤ 1000)
    (h : ∀ D σ', Le σ σ' → σ D = none → σ' D = some (.list ((stands.filter fun x => decide (((gets es x).map It.parent) = some name)).map .str)) → k (.ref D) σ') : OpC G A L ρ σ (.ref 189) [.ref self, .str name] k X := by
  refine opc_fnC (f := 189) ["self", "name"] (by rw [hG.K]; rfl) (by rw [hG.K]; rfl) R fun L' A' env σC he R' le hc => ?_
  subst he
  have c1 : σC (L' + 1) = some (.cell (some (.ref self))) := (hc "self" (L' + 1) (.tail _ (.head _))).1
  have c2 : σC (L' + 2) = some (.cell (some (.str name))) := (hc "name" (L' + 2) (.head _)).1
  obtain ⟨ps, l, s, hg, hl⟩ := id HS
  refine sv_cons (sv_Return (ev_Over (ρ := []) (default : Str) (ie_list R'.handled (ev_self hG (ev_cell (c := L' + 1) c1 ⟨self, ps, _, rfl, s.le le, hg, l, _, rfl, le _ _ hl,
    stands, V.str, (fun x => decide (((gets es x).map It.parent) = some name)), V.str, ⟨by simp, fun i d hi => getD_map d _ _ _ (by simpa using hi), fun σ' l' => l' _ _ (le _ _ hl), by rw [sizeLine_eq]; omega, fun C x σ₂ hx l₂ => ?_⟩, fun D σ' l' hD hD' => ?_⟩)))))
  · obtain ⟨t, ht⟩ := hall x hx
    have le₂ := le.trans l₂
    refine ts_Name (ts_local (qv_one (bv_Compare (ev_m1 (M_parent hG) (ev_cell (c := L' + 1) (l₂ _ _ c1) ⟨self, ps, rfl, s.le le₂, ev_local (x := "other") (c_parent hG R' (H.le le₂) ht (ev_cell (c := L' + 2) (l₂ _ _ c2) (op_eq_str ⟨_, rfl, ?_, ?_⟩)))⟩)))))
    · rw [ht]; simp
    · by_cases q : t.parent = name
      · simp only [q, decide_true, if_true]
        exact ev_local (x := "other") ⟨rfl, Le.refl _⟩
      · simp only [q, decide_false, Bool.false_eq_true, if_false]
        exact Le.refl _
  · refine h D σ' (le.trans l') ?_ hD'
    cases q : σ D with
    | none => rfl
    | some o => rw [le _ _ q] at hD; cases hD
end
end Mine
namespace Mine
def Mod (W : List Addr) (σ σ' : St) : Prop := ∀ b o, b ∉ W → σ b = some o → σ' b = some o
theorem Mod.refl (W : List Addr) (σ : St) : Mod W σ σ := fun _ _ _ e => e
theorem Mod.trans {W : List Addr} {a b c : St} (x : Mod W a b) (y : Mod W b c) : Mod W a c := fun p o m e => y p o m (x p o m e)
theorem Mod.set {W : List Addr} {σ σ' : St} {a : Addr} {o : AObj} (x : Mod W σ σ') (m : a ∈ W) : Mod W σ (σ'.set a o) := fun b o' hb e => by
  have q : b ≠ a := fun q => by subst q; exact hb m
  rw [St.set_ne _ _ q]; exact x b o' hb e
theorem Le.mod {W : List Addr} {σ σ' : St} (x : Le σ σ') : Mod W σ σ' := fun b o _ e => x b o e
theorem Mod.sub {W W' : List Addr} {σ σ' : St} (x : Mod W σ σ') (h : ∀ b ∈ W, b ∈ W') : Mod W' σ σ' := fun b o m e => x b o (fun q => m (h b q)) e
theorem Self.mod {W : List Addr} {σ σ' : St} {a ps} (x : Self σ a ps) (l : Mod W σ σ') (hi : ∀ b ∈ W, ∀ C dx, σ b ≠ some (.inst C dx)) (ha : ∀ b ∈ W, ∀ ps, σ b ≠ some (.attrs ps)) : Self σ' a ps :=
  let ⟨dx, p, q, r⟩ := x; ⟨dx, l _ _ (fun m => hi _ m _ _ p) p, l _ _ (fun m => ha _ m _ q) q, r⟩
structure Cons (σ : St) (me E S : Addr) (ps : List (Str × V)) (es : Ens) (stands : List Str) : Prop where
  slf : Self σ me ps
  gE : Loc.get ps "entries" = some (.ref E)
  gS : Loc.get ps "stands" = some (.ref S)
  ent : ∃ ep, σ E = some (.sdict ep (vents es))
  std : σ S = some (.list (stands.map .str))
theorem Cons.ne {σ self E S ps es stands} (x : Cons σ self E S ps es stands) : E ≠ S := fun q => by
  obtain ⟨ep, h⟩ := x.ent; have := x.std; rw [← q, h] at this; cases this
theorem Cons.ents {σ self E S ps es stands} (x : Cons σ self E S ps es stands) : Ents σ self es := let ⟨ep, h⟩ := x.ent; ⟨ps, E, ep, x.slf, x.gE, h⟩
theorem Cons.hasS {σ self E S ps es stands} (x : Cons σ self E S ps es stands) : HasL σ self "stands" (stands.map .str) := ⟨ps, S, x.slf, x.gS, x.std⟩
theorem vput_new (es : Ens) (x : Str) (it : It) (h : x ∉ es.map (·.1)) : vput (vents es) x it.V = vents (es ++ [(x, it)]) := by
  unfold vput
  have e : (vents es).any (fun kv => decide (kv.1 = x)) = false := by
    rw [List.any_eq_false]
    intro p hp
    unfold vents at hp
    obtain ⟨q, hq, rfl⟩ := List.mem_map.mp hp
    simp only [decide_eq_true_eq]
    exact fun e => h (List.mem_map.mpr ⟨q, hq, e⟩)
  rw [e, if_neg (by decide)]
  simp [vents]
theorem gets_none {α : Type} {x : Str} : ∀ {es : List (Str × α)}, x ∉ es.map (·.1) → gets es x = none
  | [], _ => rfl
  | (y, t) :: r, h => by
    simp only [List.map_cons, List.mem_cons, not_or] at h
    unfold gets
    rw [if_neg h.1]; exact gets_none h.2
section
variable {G : Amb} {A : Around} {env : Env} {L : Addr} {ρ : Loc} {σ : St} {X : Value → Shared → Prop} {k : V → St → Prop}
theorem c_take_sig (hG : IsG G) {n : Nat} (R : Room A (n + 1)) {self E S : Addr} {ps : List (Str × V)} {es : Ens} {stands : List Str} {it : It} (H : Cons σ self E S ps es stands) (hnd : it.names.Nodup) (hdis : ∀ x ∈ it.names, x ∉ es.map (·.1))
    (hsz : es.length + it.names.length ≤ 1000) (hst : stands.length + it.names.length ≤ 1000) (hsup : it.supers.length ≤ 1000) (hab : it.supers ≠ [] → it.abs = false)
    (h : ∀ σ', Mod [E, S] σ σ' → Cons σ' self E S ps (es ++ it.names.map fun x => (x, it)) (stands ++ it.names) → k .none σ') : OpC G A L ρ σ (.ref 104) [.ref self, it.V] k X := by
  refine opc_fn0 (f := 104) ["self", "item"] (by rw [hG.K]; rfl) (by rw [hG.K]; rfl) R fun L' A' env he R' => ?_
  obtain ⟨bn1, bn2⟩ := B_len hG
  subst he
  refine sv_cons (sv_For PassesOwn.never (ie_tup R'.handled (ev_Subscript (ev_local (x := "item") (ev_int (op_item_tup (d := .tup (it.names.map .str)) (by decide) (by decide) rfl ⟨_, rfl, ?_⟩))))))
  have ne := H.ne
  refine ⟨fun i ρ' σ' => Sub [("self", .ref self), ("item", it.V)] ρ' ∧ Mod [E, S] σ σ' ∧ Cons σ' self E S ps (es ++ (it.names.take i).map fun x => (x, it)) (stands ++ it.names.take i),
    ⟨⟨rfl, rfl, trivial⟩, Mod.refl _ _, by simpa using H⟩, fun _ _ _ _ => trivial, ?_, ?_⟩
  · rintro i ρ₁ σ₁ hi ⟨hs, hm, C⟩
    rw [List.length_map] at hi
    refine TS.sub ?_ hs
    dsimp only
    rw [getD_map (default : Str) _ _ _ hi]
    have hget : it.names.getD i default = it.names[i] := by rw [List.getD_eq_getElem?_getD, List.getElem?_eq_getElem hi]; rfl
    rw [hget]
    have htk : it.names.take (i + 1) = it.names.take i ++ [it.names[i]] := by rw [List.take_add_one, List.getElem?_eq_getElem hi]; rfl
    obtain ⟨ep, hE⟩ := C.ent
    have hnot : it.names[i] ∉ (es ++ (it.names.take i).map fun x => (x, it)).map (·.1) := by
      rw [List.map_append, List.map_map, List.mem_append]
      rintro (q | q)
      · exact hdis _ (List.getElem_mem hi) q
      · have em : (List.map (fun x => (x, it)) (it.names.take i)).map (·.1) = it.names.take i := by rw [List.map_map]; exact List.map_id _
        have q' : it.names[i] ∈ it.names.take i := by rw [← em]; simpa using q
        obtain ⟨j, hj, e⟩ := List.mem_take_iff_getElem.mp q'
        have := (List.getElem_inj hnd).mp e
        omega
    refine ts_Name (ts_local (sv_cons (sv_If (bv_Compare (ev_local (x := "name") (ev_self hG (ev_local (x := "self") ⟨self, ps, _, rfl, C.slf, C.gE, op_in_sdict hE ⟨_, rfl, ?_⟩⟩)))))))
    rw [get_vents, gets_none hnot]
    simp only [Option.map_none, Option.isSome_none, Bool.false_eq_true, if_false]
    refine sv_nil (sv_cons (sv_AssignSub (ev_local (x := "item") (ev_self hG (ev_local (x := "self") ⟨self, ps, _, rfl, C.slf, C.gE, ev_local (x := "name") (set_sdict hE ?_ fun ep' => ?_)⟩)))))
    · have hl := List.length_take_le i it.names
      simp only [vents, List.length_map, List.length_append]; rw [sizeLine_eq]; omega
    rw [vput_new _ _ _ hnot]
    have C' : Cons (σ₁.set E (.sdict ep' (vents ((es ++ (it.names.take i).map fun x => (x, it)) ++ [(it.names[i], it)])))) self E S ps ((es ++ (it.names.take i).map fun x => (x, it)) ++ [(it.names[i], it)]) (stands ++ it.names.take i) :=
      ⟨C.slf.mod ((Mod.refl [E] σ₁).set (by simp)) (fun b m C dx q => by rw [List.mem_singleton.mp m, hE] at q; cases q) (fun b m ps q => by rw [List.mem_singleton.mp m, hE] at q; cases q), C.gE, C.gS, ⟨_, St.set_same ..⟩, (St.keep ne.symm C.std)⟩
    refine sv_cons (sv_Expr (ev_MCall (ev_self hG (ev_local (x := "self") ⟨self, ps, _, rfl, C'.slf, C'.gS, gm_list PySem.F.slot_list_append PySem.F.type_list_append C'.std ⟨.builtin _, lv_cons (ev_local (x := "name") (lv_nil (opc_append C'.std ?_ ⟨rfl, ?_⟩)))⟩⟩))))
    · have hl := List.length_take_le i it.names
      simp only [List.length_map, List.length_append]; rw [sizeLine_eq]; omega
    refine sv_nil ⟨⟨rfl, rfl, trivial⟩, (hm.set (by simp)).set (by simp), ?_⟩
    rw [htk, List.map_append (f := fun x => (x, it)), ← List.append_assoc es, ← List.append_assoc stands]
    obtain ⟨ep2, hE2⟩ := C'.ent
    exact ⟨C'.slf.mod ((Mod.refl [S] _).set (by simp)) (fun b m C dx q => by rw [List.mem_singleton.mp m, C'.std] at q; cases q) (fun b m ps q => by rw [List.mem_singleton.mp m, C'.std] at q; cases q), C'.gE, C'.gS, ⟨ep2, (St.keep ne hE2)⟩, by rw [St.set_same, List.map_append (l₂ := [it.names[i]])]; rfl⟩
  · rintro ρ₁ σ₁ ⟨hs, hm, C⟩
    rw [List.length_map, List.take_length] at C
    refine SV.sub ?_ hs
    have last : k .none σ₁ := h σ₁ hm C
    refine sv_cons (sv_If (bv_And (bv_Compare (ev_Call (ev_builtin bn1 bn2 rfl ⟨_, rfl, .builtin _, lv_cons (ev_Subscript (ev_local (x := "item") (ev_int (op_item_tup (d := .tup (it.supers.map .str)) (by decide) (by decide) rfl (lv_nil (opc_len_tup (by rw [List.length_map, sizeLine_eq]; omega) (ev_int (op_gt_int ⟨_, rfl, ?_⟩))))))))⟩)))))
    cases hq : it.supers with
    | nil => simpa using sv_nil (sv_nil last)
    | cons a r =>
      simp only [List.map_cons, List.length_cons, List.length_map]
      rw [show decide ((0 : Int) < ((r.length + 1 : Nat) : Int)) = true from by simp, if_pos rfl]
      have hf := hab (by rw [hq]; simp)
      refine bv_And (bv_plain (ev_Subscript (ev_local (x := "item") (ev_int (op_item_tup (d := .bool it.abs) (by decide) (by decide) rfl ⟨_, rfl, ?_⟩)))))
      rw [hf]
      simp only [Bool.false_eq_true, if_false]
      exact sv_nil (sv_nil last)
theorem c_look_above (hG : IsG G) {n : Nat} (R : Room A (n + 3)) {self : Addr} {es : Ens} {name : Str} {it : It} (H : Ents σ self es) (W : WF es) (hn : gets es name = some it)
    (hp : it.parent ≠ "" → ∀ t, gets es it.parent = some t → t.supers = [])
    (h : k .none σ) : OpC G A L ρ σ (.ref 111) [.ref self, .str name] k X := by
  refine opc_fn0 (f := 111) ["self", "name"] (by rw [hG.K]; rfl) (by rw [hG.K]; rfl) R fun L' A' env he R' => ?_
  obtain ⟨ps, E, ep, s, hg, hE⟩ := id H
  have hsup := W.sup _ _ hn
  subst he
  refine sv_cons (sv_For PassesOwn.never (ie_tup R'.handled (ev_m1 (M_direct hG) (ev_local (x := "self") ⟨self, ps, rfl, s, ev_local (x := "name") (c_direct hG R' H hn (by omega) ⟨_, rfl, ?_⟩)⟩))))
  refine ⟨fun i ρ' σ' => Sub [("self", .ref self), ("name", .str name)] ρ' ∧ σ' = σ, ⟨⟨rfl, rfl, trivial⟩, rfl⟩, fun _ _ _ _ => trivial, ?_, ?_⟩
  · rintro i ρ₁ _ hi ⟨hs, rfl⟩
    rw [List.length_map] at hi
    refine TS.sub ?_ hs
    dsimp only
    rw [getD_map (default : Str) _ _ _ hi]
    obtain ⟨t, ht⟩ := W.dir _ _ hn _ (getD_mem default _ hi)
    refine ts_Name (ts_local (sv_cons (sv_If (bv_Compare (ev_local (x := "other") (ev_self hG (ev_local (x := "self") ⟨self, ps, _, rfl, s, hg, op_notIn_sdict hE ⟨_, rfl, ?_⟩⟩)))))))
    rw [get_vents, ht]
    simp only [Option.map_some, Option.isSome_some, Bool.not_true, Bool.false_eq_true, if_false]
    exact sv_nil (sv_nil ⟨⟨rfl, rfl, trivial⟩, rfl⟩)
  · rintro ρ₁ _ ⟨hs, rfl⟩
    refine SV.sub ?_ hs
    refine sv_cons (sv_If (bv_And (bv_Compare (ev_m1 (M_parent hG) (ev_local (x := "self") ⟨self, ps, rfl, s, ev_local (x := "name") (c_parent hG (R'.le (by omega : n + 1 ≤ n + 2)) H hn (ev_str (op_ne_str ⟨_, rfl, ?_⟩)))⟩)))))
    by_cases q : it.parent = ""
    · simp only [q, decide_true, Bool.not_true, Bool.false_eq_true, if_false]
      exact sv_nil (sv_nil h)
    · simp only [q, decide_false, Bool.not_false, if_true]
      obtain ⟨t, ht⟩ := W.dir _ _ hn it.parent (by unfold It.direct; rw [if_neg q]; simp)
      refine bv_And (bv_plain (ev_m1 (M_is_subset hG) (ev_local (x := "self") ⟨self, ps, rfl, s, ev_m1 (M_parent hG) (ev_local (x := "self") ⟨self, ps, rfl, s, ev_local (x := "name") (c_parent hG (R'.le (by omega : n + 1 ≤ n + 2)) H hn
        (c_is_subset hG (R'.le (by omega : n + 1 ≤ n + 2)) H ht (by rw [hp q t ht]; simp) ⟨_, rfl, ?_⟩))⟩)⟩)))
      rw [hp q t ht]
      simp only [List.isEmpty_nil, Bool.not_true, Bool.false_eq_true, if_false]
      exact sv_nil (sv_nil h)
end
end Mine
namespace Mine
def dirs (es : Ens) (x : Str) : List Str := ((gets es x).map It.direct).getD []
def ready (es : Ens) (found : List Str) (x : Str) : Bool := (dirs es x).all fun y => decide (y ∈ found)
inductive PF (es : Ens) : List Str → List Str → List Str → Prop
  | done {f} : PF es f [] f
  | step {f rest x out} : rest.find? (ready es f) = some x → PF es (f ++ [x]) (rest.erase x) out → PF es f rest out
theorem filter_head {α : Type} (p : α → Bool) (xs : List α) : (xs.filter p).head? = xs.find? p := by
  induction xs with
  | nil => rfl
  | cons x r ih =>
    rw [List.filter_cons, List.find?_cons]
    cases p x <;> simp [ih]
theorem filter_notIn (xs found : List Str) : (xs.filter fun x => !decide (x ∈ found)).isEmpty = xs.all fun y => decide (y ∈ found) := by
  induction xs with
  | nil => rfl
  | cons x r ih =>
    rw [List.filter_cons, List.all_cons, ← ih]
    by_cases q : x ∈ found <;> simp [q]
section
variable {G : Amb} {A : Around} {env : Env} {L : Addr} {ρ : Loc} {σ : St} {X : Value → Shared → Prop} {k : V → St → Prop}
theorem c_parents_first (hG : IsG G) {n : Nat} (R : Room A (n + 3)) {self : Addr} {es : Ens} {stands out : List Str} (H : Ents σ self es) (HS : HasL σ self "stands" (stands.map .str)) (W : WF es) (hall : ∀ x ∈ stands, ∃ t, gets es x = some t) (hsz : stands.length ≤ 1000)
    (hp : PF es [] stands out)
    (h : ∀ D σ', Le σ σ' → σ D = none → σ' D = some (.list (out.map .str)) → k (.ref D) σ') : OpC G A L ρ σ (.ref 123) [.ref self] k X := by
  refine opc_fnC (f := 123) ["self"] (ρ₀ := []) (by rw [hG.K]; rfl) (by rw [hG.K]; rfl) R fun L' A' env σC he R' le hc => ?_
  obtain ⟨ps, l, s, hg, hl⟩ := id HS
  obtain ⟨bl1, bl2⟩ := B_list hG
  obtain ⟨bn1, bn2⟩ := B_len hG
  subst he
  have c1 : σC (L' + 1) = some (.cell (some (.ref self))) := (hc "self" (L' + 1) (.tail _ (.head _))).1
  have c2 : σC (L' + 2) = some (.cell none) := (hc "found" (L' + 2) (.head _)).1
  have n2 : σ (L' + 2) = none := (hc "found" (L' + 2) (.head _)).2
  have lf : ∀ a, σC a = none → σ a = none := fun a q => by
    cases e : σ a with
    | none => rfl
    | some o => rw [le _ _ e] at q; cases q
  refine sv_cons (sv_AssignTup (ev_Tuple (lv_cons (ev_List (lv_nil ⟨len_ok rfl, fun F hF => ?_⟩)))))
  have l1 : Le σC (σC.set F (.list [])) := Le.set hF
  refine lv_cons (ev_Call (ev_builtin bl1 bl2 rfl ⟨_, rfl, .type _, lv_cons (ev_self hG (ev_cell (x := "self") (c := L' + 1) (l1 _ _ c1) ⟨self, ps, _, rfl, s.le (le.trans l1), hg, lv_nil (opc_list_list (l1 _ _ (le _ _ hl)) (by rw [List.length_map, sizeLine_eq]; omega) fun Q hQ => ?_)⟩))⟩))
  have l2 := Le.set (o := .list (stands.map .str)) hQ
  have hFQ : F ≠ Q := fun q => by rw [q, St.set_same] at hQ; cases hQ
  refine lv_nil ⟨len_ok rfl, ts_Tuple R'.handled (tl_cons (ts_Name (ts_cell (c := L' + 2) (l2 _ _ (l1 _ _ c2)) (tl_cons (ts_Name (ts_local (tl_nil ?_)))))))⟩
  have hF2 : F ≠ L' + 2 := fun q => by rw [q, c2] at hF; cases hF
  have hQ2 : Q ≠ L' + 2 := fun q => by have := l1 _ _ c2; rw [← q, hQ] at this; cases this
  have hF1 : L' + 1 ≠ F := fun q => by rw [← q, c1] at hF; cases hF
  have σQ : σ Q = none := lf _ (by rw [St.set_ne _ _ hFQ.symm] at hQ; exact hQ)
  have σF : σ F = none := lf _ hF
  refine sv_cons (sv_While PassesOwn.never (fun m ρ' σ' => ∃ found rest, PF es found rest out ∧ (∀ x ∈ rest, x ∈ stands) ∧ found.length + rest.length ≤ stands.length ∧ Sub [("rest", .ref Q)] ρ' ∧ Le σ σ' ∧
    σ' (L' + 1) = some (.cell (some (.ref self))) ∧ σ' (L' + 2) = some (.cell (some (.ref F))) ∧ σ' F = some (.list (found.map .str)) ∧ σ' Q = some (.list (rest.map .str)) ∧ m = rest.length) _
    ⟨[], stands, hp, fun _ h => h, by simp, ⟨rfl, trivial⟩, ((le.trans l1).trans l2).setL n2, (St.keep ((Nat.ne_of_lt (Nat.lt_succ_self _))) (l2 _ _ (l1 _ _ c1))), St.set_same .., (St.keep hF2 (l2 _ _ (St.set_same ..))), (St.keep hQ2 (St.set_same ..)), rfl⟩ ?_)
  rintro m ρ' σ' ⟨found, rest, P, hin, hlen, hs, le', d1, d2, hf, hr, rfl⟩
  refine ⟨_, hs, bv_Compare (ev_Call (ev_builtin bn1 bn2 rfl ⟨_, rfl, .builtin _, lv_cons (ev_local (x := "rest") (lv_nil (opc_len_list hr ?_ (ev_int (op_gt_int ⟨_, rfl, ?_⟩)))))⟩))⟩
  · rw [List.length_map, sizeLine_eq]; omega
  cases P with
  | done =>
    simp only [List.map_nil, List.length_nil, Int.natCast_zero, Int.lt_irrefl, decide_false, Bool.false_eq_true, if_false]
    exact sv_cons (sv_Return (ev_cell (x := "found") (c := L' + 2) d2 (h F σ' le' σF hf)))
  | @step _ _ x _ hx hp' =>
    have hxr : x ∈ rest := List.mem_of_find?_eq_some hx
    have hpos : 0 < rest.length := List.length_pos_of_mem hxr
    rw [show decide ((0 : Int) < ((rest.map V.str).length : Nat)) = true from by rw [List.length_map]; simp; omega, if_pos rfl]
    refine sv_cons (sv_Over (default : Str) (ie_list R'.handled (ev_local (x := "rest") ⟨Q, _, rfl, hr, rest, V.str, ready es found, V.str,
      ⟨by simp, fun i d hi => getD_map d _ _ _ (by simpa using hi), fun σ'' l' => l' _ _ hr, by rw [sizeLine_eq]; omega, fun C y σ₂ hy l₂ => ?_⟩, fun Bq σ₂ l₂ hB hB' => ?_⟩)))
    · obtain ⟨t, ht⟩ := hall y (hin y hy)
      have hsup := W.sup _ _ ht
      have hdl := direct_len t
      have l02 := le'.trans l₂
      refine ts_Name (ts_local (qv_one (bv_Compare (ev_Over (default : Str) (ie_tup R'.handled (ev_m1 (M_direct hG) (ev_cell (x := "self") (c := L' + 1) (l₂ _ _ d1) ⟨self, ps, rfl, s.le l02, ev_local (x := "name") (c_direct hG R' (H.le l02) ht (by omega) ⟨_, rfl,
        t.direct, V.str, (fun z => !decide (z ∈ found)), V.str, ⟨by simp, fun i d hi => getD_map d _ _ _ (by simpa using hi), fun _ _ => trivial, by rw [sizeLine_eq]; omega, fun C₂ z σ₃ hz l₃ => ?_⟩, fun D₂ σ₃ l₃ hD₂ hD₂' => ?_⟩)⟩)))))))
      · refine ts_Name (ts_local (qv_one (bv_Compare (ev_local (x := "other") (ev_cell (x := "found") (c := L' + 2) (l₃ _ _ (l₂ _ _ d2)) (op_notIn_strs (l₃ _ _ (l₂ _ _ hf)) ⟨_, rfl, rfl, ?_⟩))))))
        by_cases q : z ∈ found
        · simp only [q, decide_true, Bool.not_true, Bool.false_eq_true, if_false]; exact Le.refl _
        · simp only [q, decide_false, Bool.not_false, if_true]
          exact ev_local (x := "other") ⟨rfl, Le.refl _⟩
      · refine ev_List (lv_nil ⟨len_ok rfl, fun N hN => ?_⟩)
        have hDN : D₂ ≠ N := fun q => by rw [q] at hD₂'; rw [hN] at hD₂'; cases hD₂'
        refine op_eq_nil (n := n) (R'.le (by omega)) ((St.keep hDN hD₂')) (St.set_same ..) (fit_strs fun z hz => ?_) ⟨_, rfl, ?_⟩
        · obtain ⟨t', ht'⟩ := W.dir _ _ ht z (List.mem_filter.mp hz).1
          exact W.ok _ _ ht'
        · have e : ((t.direct.filter fun z => !decide (z ∈ found)).map V.str).isEmpty = ready es found y := by
            rw [List.isEmpty_map, filter_notIn]
            unfold ready dirs
            rw [ht]; rfl
          rw [e]
          refine ⟨rfl, ?_⟩
          cases ready es found y with
          | false => simp only [Bool.false_eq_true, if_false]; exact l₃.trans (Le.set hN)
          | true =>
            simp only [if_true]
            exact ev_local (x := "name") ⟨rfl, l₃.trans (Le.set hN)⟩
    · have l02 := le'.trans l₂
      have hhead : (rest.filter (ready es found))[0]? = some x := by rw [← List.head?_eq_getElem?, filter_head]; exact hx
      have hlenf := List.length_filter_le (ready es found) rest
      have hne : 0 < (rest.filter (ready es found)).length := (List.getElem?_eq_some_iff.mp hhead).1
      refine sv_cons (sv_If (bv_Compare (ev_Call (ev_builtin bn1 bn2 rfl ⟨_, rfl, .builtin _, lv_cons (ev_local (x := "able") (lv_nil (opc_len_list hB' ?_ (ev_int (op_eq_int ⟨_, rfl, ?_⟩)))))⟩))))
      · rw [List.length_map, sizeLine_eq]; omega
      rw [show decide ((((rest.filter (ready es found)).map V.str).length : Int) = 0) = false from by rw [List.length_map, decide_eq_false_iff_not]; omega]
      simp only [Bool.false_eq_true, if_false]
      refine sv_nil (sv_cons (sv_Expr (ev_MCall (ev_cell (x := "found") (c := L' + 2) (l₂ _ _ d2) (gm_list PySem.F.slot_list_append PySem.F.type_list_append (l₂ _ _ hf) ⟨.builtin _, lv_cons (ev_Subscript (ev_local (x := "able") (ev_int
        (op_item_list (d := .str x) hB' (by decide) (by decide) ?_ (lv_nil (opc_append (l₂ _ _ hf) ?_ ⟨rfl, ?_⟩))))))⟩)))))
      · show ((rest.filter (ready es found)).map V.str)[0]? = _
        rw [List.getElem?_map, hhead]; rfl
      · rw [List.length_map, sizeLine_eq]; omega
      have hBF : Bq ≠ F := fun q => by rw [q, hf] at hB; cases hB
      have hBQ : Bq ≠ Q := fun q => by rw [q, hr] at hB; cases hB
      have hr₃ : (σ₂.set F (.list (found.map .str ++ [.str x]))) Q = some (.list (rest.map .str)) := St.keep hFQ.symm (l₂ _ _ hr)
      have hB₃ : (σ₂.set F (.list (found.map .str ++ [.str x]))) Bq = some (.list ((rest.filter (ready es found)).map .str)) := St.keep hBF hB'
      refine sv_cons (sv_Expr (ev_MCall (ev_local (x := "rest") (gm_list PySem.F.slot_list_remove PySem.F.type_list_remove hr₃ ⟨.builtin _, lv_cons (ev_Subscript (ev_local (x := "able") (ev_int
        (op_item_list (d := .str x) hB₃ (by decide) (by decide) ?_ (lv_nil (opc_remove hr₃ ?_ hxr ⟨rfl, ?_⟩))))))⟩))))
      · show ((rest.filter (ready es found)).map V.str)[0]? = _
        rw [List.getElem?_map, hhead]; rfl
      · rw [sizeLine_eq]; omega
      have hle := List.length_erase_of_mem hxr
      refine sv_nil ⟨_, ?_, found ++ [x], rest.erase x, hp', fun z hz => hin z (List.mem_of_mem_erase hz), ?_, ⟨rfl, trivial⟩, (l02.setL σF).setL σQ, ?_, ?_, ?_, ?_, rfl⟩
      · omega
      · simp only [List.length_append, List.length_cons, List.length_nil]; omega
      · rw [St.set_ne _ _ (fun q => by rw [q, hr] at d1; cases d1), St.set_ne _ _ hF1]; exact l₂ _ _ d1
      · rw [St.set_ne _ _ hQ2.symm, St.set_ne _ _ hF2.symm]; exact l₂ _ _ d2
      · rw [St.set_ne _ _ hFQ, St.set_same]; simp
      · rw [St.set_same]
end
end Mine
namespace Mine
structure Fd where
  field : Str
  name : Str
  mult : Str
  node : V
  spot : Int
  grp : Int
def Fd.V (f : Fd) : V := .tup [.str f.field, .str f.name, .str f.mult, f.node, .int f.spot, .int f.grp]
def one (r : Rw) (name : Str) (g : Int) (f : Str) : Fd := ⟨f, name, r.mult, r.node, r.spot, if r.disj then g else -1⟩
abbrev FS := List Fd × Int
def stepRow (name : Str) (st : FS) (r : Rw) : FS := (st.1 ++ r.names.map (one r name st.2), st.2 + if r.disj then 1 else 0)
def rowsOf (es : Ens) (x : Str) : List Rw := ((gets es x).map It.rows).getD []
def stepName (es : Ens) (st : FS) (x : Str) : FS := (rowsOf es x).foldl (stepRow x) st
def allF (es : Ens) (seq : List Str) : FS := seq.foldl (stepName es) ([], 0)
theorem foldl_len {α : Type} (f : FS → α → FS) (hf : ∀ st a, st.1.length ≤ (f st a).1.length) : ∀ (xs : List α) (st : FS), st.1.length ≤ (xs.foldl f st).1.length
  | [], _ => Nat.le_refl _
  | a :: r, st => Nat.le_trans (hf st a) (foldl_len f hf r _)
theorem stepRow_len (name : Str) (st : FS) (r : Rw) : st.1.length ≤ (stepRow name st r).1.length := by simp [stepRow]
theorem stepName_len (es : Ens) (st : FS) (x : Str) : st.1.length ≤ (stepName es st x).1.length := foldl_len _ (stepRow_len x) _ _
theorem foldl_take {α β : Type} (f : β → α → β) (b : β) (xs : List α) (i : Nat) (h : i < xs.length) : (xs.take (i + 1)).foldl f b = f ((xs.take i).foldl f b) xs[i] := by
  rw [List.take_add_one, List.getElem?_eq_getElem h, List.foldl_append]; rfl
theorem foldl_take_len {α : Type} (f : FS → α → FS) (hf : ∀ st a, st.1.length ≤ (f st a).1.length) (xs : List α) (st : FS) (i : Nat) : ((xs.take i).foldl f st).1.length ≤ (xs.foldl f st).1.length := by
  conv => rhs; rw [← List.take_append_drop i xs, List.foldl_append]
  exact foldl_len f hf _ _
theorem getD_eq {α : Type} (xs : List α) (i : Nat) (d : α) (h : i < xs.length) : xs.getD i d = xs[i] := by
  rw [List.getD_eq_getElem?_getD, List.getElem?_eq_getElem h]; rfl
theorem getD_mapE {α : Type} (e : V) (enc : α → V) (xs : List α) {i : Nat} (h : i < xs.length) : (xs.map enc).getD i e = enc xs[i] := by
  rw [List.getD_eq_getElem?_getD, List.getElem?_map, List.getElem?_eq_getElem h]; rfl
section
variable {G : Amb} {A : Around} {env : Env} {L : Addr} {ρ : Loc} {σ : St} {X : Value → Shared → Prop} {k : V → St → Prop}
theorem c_all_fields (hG : IsG G) {n : Nat} (R : Room A (n + 1)) {self : Addr} {es : Ens} {seq : List Str} (H : Ents σ self es) (HS : HasL σ self "ordered" (seq.map .str)) (hall : ∀ x ∈ seq, ∃ t, gets es x = some t) (hsz : (allF es seq).1.length ≤ 10000)
    (h : ∀ D σ', Le σ σ' → σ D = none → σ' D = some (.list ((allF es seq).1.map Fd.V)) → k (.ref D) σ') : OpC G A L ρ σ (.ref 130) [.ref self] k X := by
  refine opc_fn0 (f := 130) ["self"] (by rw [hG.K]; rfl) (by rw [hG.K]; rfl) R fun L' A' env he R' => ?_
  obtain ⟨ps, l, s, hg, hl⟩ := id HS
  subst he
  refine sv_cons (sv_AssignSwap (names := ["found", "group"]) R'.handled (ev_Tuple (lv_cons (ev_List (lv_nil ⟨len_ok rfl, fun F hF => lv_cons (ev_int (lv_nil ⟨len_ok rfl, _, rfl, rfl, tl_cons (ts_bind (ts_local (tl_cons (ts_bind (ts_local (tl_nil ?_)))))) ⟩)) ⟩)))))
  refine sv_cons (sv_For PassesOwn.never (ie_list R'.handled (ev_self hG (ev_local (x := "self") ⟨self, ps, _, rfl, s.le (Le.set hF), hg, l, _, rfl, Le.set hF _ _ hl, ?_⟩))))
  have bound : ∀ i, ((seq.take i).foldl (stepName es) ([], 0)).1.length ≤ 10000 := fun i => Nat.le_trans (foldl_take_len _ (stepName_len es) _ _ _) hsz
  refine ⟨fun i ρ' σ' => Sub [("self", .ref self), ("group", .int ((seq.take i).foldl (stepName es) ([], 0)).2), ("found", .ref F)] ρ' ∧ Le σ σ' ∧ σ' F = some (.list (((seq.take i).foldl (stepName es) ([], 0)).1.map Fd.V)),
    ⟨⟨rfl, rfl, rfl, trivial⟩, Le.set hF, by rw [St.set_same]; rfl⟩, fun i ρ σ' h => h.2.1 _ _ hl, ?_, ?_⟩
  · rintro i ρ₁ σ₁ hi ⟨hs, le, hf⟩
    rw [List.length_map] at hi
    refine TS.sub ?_ hs
    dsimp only
    have hb1 := bound (i + 1)
    rw [foldl_take _ _ _ _ hi] at hb1 ⊢
    rw [getD_mapE _ _ _ hi]
    generalize hst : (seq.take i).foldl (stepName es) ([], 0) = st at hf hb1 ⊢
    obtain ⟨t, ht⟩ := hall _ (List.getElem_mem hi)
    generalize seq[i] = name at ht hb1 ⊢
    have hrows : rowsOf es name = t.rows := by unfold rowsOf; rw [ht]; rfl
    unfold stepName at hb1 ⊢
    rw [hrows] at hb1 ⊢
    refine ts_Name (ts_local (sv_cons (sv_For PassesOwn.never (ie_tup R'.handled (ev_entry hG (i := 7) (H.le le) ht (fun k h => ev_local (x := "self") h) (fun k h => ev_local (x := "name") h) (fun k h => ev_int h) (by decide) (by decide) rfl rfl ⟨_, rfl, ?_⟩)))))
    have bound2 : ∀ j, ((t.rows.take j).foldl (stepRow name) st).1.length ≤ 10000 := fun j => Nat.le_trans (foldl_take_len _ (stepRow_len name) _ _ _) hb1
    refine ⟨fun j ρ' σ' => Sub [("self", .ref self), ("group", .int ((t.rows.take j).foldl (stepRow name) st).2), ("found", .ref F), ("name", .str name)] ρ' ∧ Le σ σ' ∧ σ' F = some (.list (((t.rows.take j).foldl (stepRow name) st).1.map Fd.V)),
      ⟨⟨rfl, rfl, rfl, rfl, trivial⟩, le, hf⟩, fun _ _ _ _ => trivial, ?_, ?_⟩
    · rintro j ρ₂ σ₂ hj ⟨hs₂, le₂, hf₂⟩
      rw [List.length_map] at hj
      refine TS.sub ?_ hs₂
      dsimp only
      have hb2 := bound2 (j + 1)
      rw [foldl_take _ _ _ _ hj] at hb2 ⊢
      rw [getD_mapE _ _ _ hj]
      generalize (t.rows.take j).foldl (stepRow name) st = st₂ at hf₂ hb2 ⊢
      generalize t.rows[j] = r at hb2 ⊢
      refine ts_Tuple R'.handled (ds := [.int r.spot, .bool r.disj, .tup (r.names.map .str), .str r.mult, r.node]) ?_
      refine tl_cons (ts_Name (ts_local ?_))
      refine tl_cons (ts_Name (ts_local ?_))
      refine tl_cons (ts_Name (ts_local ?_))
      refine tl_cons (ts_Name (ts_local ?_))
      refine tl_cons (ts_Name (ts_local ?_))
      refine tl_nil (gen_k fun kk₂ hkk₂ => ?_)
      refine sv_cons (sv_For PassesOwn.never (ie_tup R'.handled (ev_local (x := "fields") ⟨_, rfl, ?_⟩)))
      have hb3 : st₂.1.length + r.names.length ≤ 10000 := by simpa [stepRow] using hb2
      refine ⟨fun m ρ' σ' => Sub [("self", .ref self), ("group", .int st₂.2), ("found", .ref F), ("name", .str name), ("spot", .int r.spot), ("is_disj", .bool r.disj), ("mult", .str r.mult), ("node", r.node)] ρ' ∧ Le σ σ' ∧ σ' F = some (.list ((st₂.1 ++ (r.names.take m).map (one r name st₂.2)).map Fd.V)),
        ⟨⟨rfl, rfl, rfl, rfl, rfl, rfl, rfl, rfl, trivial⟩, le₂, by simpa using hf₂⟩, fun _ _ _ _ => trivial, ?_, ?_⟩
      · rintro m ρ₃ σ₃ hm ⟨hs₃, le₃, hf₃⟩
        rw [List.length_map] at hm
        refine TS.sub ?_ hs₃
        dsimp only
        rw [getD_mapE _ _ _ hm]
        have fl : ((st₂.1 ++ (r.names.take m).map (one r name st₂.2)).map Fd.V).length ≤ sizeLine := by
          have := List.length_take_le m r.names
          simp only [List.length_map, List.length_append]; rw [sizeLine_eq]; omega
        have fe : ((st₂.1 ++ (r.names.take m).map (one r name st₂.2)).map Fd.V) ++ [(one r name st₂.2 r.names[m]).V] = (st₂.1 ++ (r.names.take (m + 1)).map (one r name st₂.2)).map Fd.V := by
          rw [List.take_add_one, List.getElem?_eq_getElem hm]
          simp only [List.map_append, List.map_cons, List.map_nil, List.append_assoc, Option.toList_some]
        refine ts_Name (ts_local (gen_k fun kk hkk => ?_))
        refine sv_cons (sv_Expr (ev_MCall (ev_local (x := "found") (gm_list PySem.F.slot_list_append PySem.F.type_list_append hf₃ ⟨.builtin _, lv_cons ?_⟩))))
        refine ev_Tuple ?_
        refine lv_cons (ev_local (x := "field") ?_)
        refine lv_cons (ev_local (x := "name") ?_)
        refine lv_cons (ev_local (x := "mult") ?_)
        refine lv_cons (ev_local (x := "node") ?_)
        refine lv_cons (ev_local (x := "spot") ?_)
        refine lv_cons ?_
        refine ev_IfExp (bv_plain (ev_local (x := "is_disj") ⟨_, rfl, ?_⟩))
        cases hd : r.disj with
        | true =>
          simp only [if_true]
          refine ev_local (x := "group") (lv_nil ⟨len_ok rfl, lv_nil (opc_append hf₃ fl ⟨rfl, ?_⟩)⟩)
          have e : (one r name st₂.2 r.names[m]).V = V.tup [.str r.names[m], .str name, .str r.mult, r.node, .int r.spot, .int st₂.2] := by simp [one, Fd.V, hd]
          rw [← e, fe]
          exact sv_nilK hkk ⟨⟨rfl, rfl, rfl, rfl, rfl, by rw [← hd]; rfl, rfl, rfl, trivial⟩, le₃.setL hF, St.set_same ..⟩
        | false =>
          simp only [Bool.false_eq_true, if_false]
          refine ev_neg (ev_int ⟨_, rfl, lv_nil ⟨len_ok rfl, lv_nil (opc_append hf₃ fl ⟨rfl, ?_⟩)⟩⟩)
          have e : (one r name st₂.2 r.names[m]).V = V.tup [.str r.names[m], .str name, .str r.mult, r.node, .int r.spot, .int (-1)] := by simp [one, Fd.V, hd]
          rw [← e, fe]
          exact sv_nilK hkk ⟨⟨rfl, rfl, rfl, rfl, rfl, by rw [← hd]; rfl, rfl, rfl, trivial⟩, le₃.setL hF, St.set_same ..⟩
      · rintro ρ₃ σ₃ ⟨hs₃, le₃, hf₃⟩
        rw [List.length_map, List.take_length] at hf₃
        refine SV.sub ?_ hs₃
        refine sv_cons (sv_Assign (ev_BinOp (ev_local (x := "group") (ev_IfExp (bv_plain (ev_local (x := "is_disj") ⟨_, rfl, ?_⟩))))))
        cases hd : r.disj with
        | true =>
          simp only [if_true]
          refine ev_int (op_add_int (sv_nilK hkk₂ ?_))
          refine ⟨⟨rfl, ?_, rfl, rfl, trivial⟩, le₃, ?_⟩
          · simp [stepRow, hd]; rfl
          · exact hf₃
        | false =>
          simp only [Bool.false_eq_true, if_false]
          refine ev_int (op_add_int (sv_nilK hkk₂ ?_))
          refine ⟨⟨rfl, ?_, rfl, rfl, trivial⟩, le₃, ?_⟩
          · simp [stepRow, hd]; rfl
          · exact hf₃
    · rintro ρ₂ σ₂ ⟨hs₂, le₂, hf₂⟩
      rw [List.length_map, List.take_length] at hs₂ hf₂
      refine SV.sub (sv_nil ?_) hs₂
      exact ⟨⟨rfl, rfl, rfl, trivial⟩, le₂, hf₂⟩
  · rintro ρ₁ σ₁ ⟨hs, le, hf⟩
    rw [List.length_map, List.take_length] at hf
    exact SV.sub (sv_cons (sv_Return (ev_local (x := "found") (h F σ₁ le hF hf)))) hs
end
end Mine
namespace Mine
def OKF (es : Ens) (fs : List Fd) : Prop := ∀ i (hi : i < fs.length), gets es fs[i].field = none ∧ (∃ t, gets es fs[i].name = some t) ∧ ∀ a ∈ fs.take i, a.field = fs[i].field → a.name ≠ fs[i].name ∧ ¬ Up es fs[i].name a.name
def oV (p : Str × Str) : V := .tup [.str p.1, .str p.2]
def Op.V (spot : Int) (module : Str) (sig alias : Str) : V := .tup [.str "open", .int spot, .str module, .tup [.str sig], .str alias]
theorem mem_take_succ {α : Type} {xs : List α} {i : Nat} (hi : i < xs.length) (a : α) : a ∈ xs.take (i + 1) ↔ a ∈ xs.take i ∨ a = xs[i] := by
  rw [List.take_add_one, List.getElem?_eq_getElem hi, List.mem_append, Option.toList_some, List.mem_singleton]
section
variable {G : Amb} {A : Around} {env : Env} {L : Addr} {ρ : Loc} {σ : St} {X : Value → Shared → Prop} {k : V → St → Prop}
theorem c_look_fields (hG : IsG G) {n : Nat} (R : Room A (n + 4)) {self : Addr} {es : Ens} {fs : List Fd} (H : Ents σ self es) (HS : HasL σ self "own_fields" (fs.map Fd.V)) (W : WF es) (ok : OKF es fs) (hsz : fs.length ≤ 10000)
    (h : ∀ σ', Le σ σ' → k .none σ') : OpC G A L ρ σ (.ref 137) [.ref self] k X := by
  refine opc_fn0 (f := 137) ["self"] (by rw [hG.K]; rfl) (by rw [hG.K]; rfl) R fun L' A' env he R' => ?_
  obtain ⟨ps, l, s, hg, hl⟩ := id HS
  obtain ⟨ps', E, ep, s', hg', hE⟩ := id H
  subst he
  refine sv_cons (sv_Assign (ev_Dict0t fun D hD => ?_))
  refine sv_cons (sv_For PassesOwn.never (ie_list R'.handled (ev_self hG (ev_local (x := "self") ⟨self, ps, _, rfl, s.le (Le.set hD), hg, l, _, rfl, Le.set hD _ _ hl, ?_⟩))))
  refine ⟨fun i ρ' σ' => Sub [("self", .ref self), ("seen", .ref D)] ρ' ∧ Le σ σ' ∧ ∃ ks : List (List Str), σ' D = some (.tdict ks) ∧ ks.length ≤ i ∧ ∀ f x, [f, x] ∈ ks ↔ ∃ a ∈ fs.take i, a.field = f ∧ a.name = x,
    ⟨⟨rfl, rfl, trivial⟩, Le.set hD, [], St.set_same .., Nat.le_refl _, by simp⟩, fun i ρ σ' h => h.2.1 _ _ hl, ?_, ?_⟩
  · rintro i ρ₁ σ₁ hi ⟨hs, le, ks, hks, hkl, hmem⟩
    rw [List.length_map] at hi
    refine TS.sub ?_ hs
    dsimp only
    rw [getD_mapE _ _ _ hi]
    obtain ⟨o1, ⟨t, ht⟩, o3⟩ := ok i hi
    have hnext : ∀ f x, [f, x] ∈ (if [fs[i].field, fs[i].name] ∈ ks then ks else ks ++ [[fs[i].field, fs[i].name]]) ↔ ∃ a ∈ fs.take (i + 1), a.field = f ∧ a.name = x := fun f x => by
      have key : (∃ a ∈ fs.take (i + 1), a.field = f ∧ a.name = x) ↔ (∃ a ∈ fs.take i, a.field = f ∧ a.name = x) ∨ (fs[i].field = f ∧ fs[i].name = x) := by
        constructor
        · rintro ⟨a, ha, e⟩
          rcases (mem_take_succ hi a).mp ha with ha | rfl
          · exact .inl ⟨a, ha, e⟩
          · exact .inr e
        · rintro (⟨a, ha, e⟩ | e)
          · exact ⟨a, (mem_take_succ hi a).mpr (.inl ha), e⟩
          · exact ⟨fs[i], (mem_take_succ hi _).mpr (.inr rfl), e⟩
      rw [key]
      split
      · rename_i hin
        rw [hmem]
        constructor
        · exact .inl
        · rintro (q | ⟨e1, e2⟩)
          · exact q
          · rw [e1, e2] at hin; exact (hmem _ _).mp hin
      · rw [List.mem_append, hmem]
        constructor
        · rintro (q | q)
          · exact .inl q
          · simp at q; exact .inr ⟨q.1.symm, q.2.symm⟩
        · rintro (q | ⟨e1, e2⟩)
          · exact .inl q
          · right; simp [e1, e2]
    generalize fs[i] = f at o1 ht o3 hnext ⊢
    refine ts_Tuple R'.handled (ds := [.str f.field, .str f.name, .str f.mult, f.node, .int f.spot, .int f.grp]) ?_
    refine tl_cons (ts_Name (ts_local ?_))
    refine tl_cons (ts_Name (ts_local ?_))
    refine tl_cons (ts_Name (ts_local ?_))
    refine tl_cons (ts_Name (ts_local ?_))
    refine tl_cons (ts_Name (ts_local ?_))
    refine tl_cons (ts_Name (ts_local ?_))
    refine tl_nil (gen_k fun kk hkk => ?_)
    have hE₁ := le _ _ hE
    refine sv_cons (sv_If (bv_Compare (ev_local (x := "field") (ev_self hG (ev_local (x := "self") ⟨self, ps', _, rfl, s'.le le, hg', op_in_sdict hE₁ ⟨_, rfl, ?_⟩⟩)))))
    rw [get_vents, o1]
    simp only [Option.map_none, Option.isSome_none, Bool.false_eq_true, if_false]
    refine sv_nil (sv_cons (sv_For PassesOwn.never (ie_list R'.handled (ev_BinOp (ev_List (lv_cons (ev_local (x := "name") (lv_nil ⟨len_ok rfl, fun B hB => ?_⟩))))))))
    have leB := le.trans (Le.set (o := .list [.str f.name]) hB)
    refine ev_m1 (M_all_above hG) (ev_local (x := "self") ⟨self, ps, rfl, s.le leB, ev_local (x := "name") (c_all_above hG R' (H.le leB) W ht fun Q σ₂ over l₂ hQ hQ' Ab => ?_)⟩)
    have hlen : over.length ≤ 100 := by
      have := nodup_le (ys := es.map (·.1)) Ab.nd fun x hx => by obtain ⟨t, ht⟩ := ((Ab.mem x).mp hx).key W; exact gets_mem ht
      have := W.size
      rw [List.length_map] at *; omega
    refine op_add_list (l₂ _ _ (St.set_same ..)) hQ' (by simp; rw [sizeLine_eq]; omega) fun T hT => ?_
    have l3 : Le σ (σ₂.set T (.list ([.str f.name] ++ over.map .str))) := (leB.trans l₂).trans (Le.set hT)
    have hks₂ : σ₂ D = some (.tdict ks) := l₂ _ _ ((St.keep ((fun q => by rw [← q, hks] at hB; cases hB)) hks))
    have hks₃ : (σ₂.set T (.list ([.str f.name] ++ over.map .str))) D = some (.tdict ks) := Le.set hT _ _ hks₂
    refine ⟨_, _, rfl, St.set_same .., ?_⟩
    have eT : ([V.str f.name] ++ over.map V.str) = (f.name :: over).map V.str := rfl
    rw [eT] at *
    refine ⟨fun j ρ' σ' => Sub [("self", .ref self), ("seen", .ref D), ("field", .str f.field), ("name", .str f.name)] ρ' ∧ Le (σ₂.set T (.list ((f.name :: over).map .str))) σ',
      ⟨⟨rfl, rfl, rfl, rfl, trivial⟩, Le.refl _⟩, fun i ρ σ' h => h.2 _ _ (St.set_same ..), ?_, ?_⟩
    · rintro j ρ₂ σ₃ hj ⟨hs₂, le₃⟩
      rw [List.length_map] at hj
      refine TS.sub ?_ hs₂
      dsimp only
      rw [getD_mapE _ _ _ hj]
      have hmm : (f.name :: over)[j] ∈ f.name :: over := List.getElem_mem hj
      generalize (f.name :: over)[j] = other at hmm ⊢
      have hnot : [f.field, other] ∉ ks := fun q => by
        obtain ⟨a, ha, e1, e2⟩ := (hmem _ _).mp q
        obtain ⟨n1, n2⟩ := o3 a ha e1
        rw [e2] at n1 n2
        rcases List.mem_cons.mp hmm with h1 | h1
        · exact n1 h1
        · exact n2 ((Ab.mem _).mp h1)
      refine ts_Name (ts_local (gen_k fun kk' hkk' => ?_))
      refine sv_cons (sv_If (bv_Compare (ev_Tuple ?_)))
      refine lv_cons (ev_local (x := "field") ?_)
      refine lv_cons (ev_local (x := "other") ?_)
      refine lv_nil ⟨len_ok rfl, ev_local (x := "seen") (op_in_tdict (xs := [f.field, other]) R' (le₃ _ _ hks₃) ⟨_, rfl, ?_⟩)⟩
      rw [decide_eq_false hnot, if_neg (by decide)]
      exact sv_nil (sv_nilK hkk' ⟨⟨rfl, rfl, rfl, rfl, trivial⟩, le₃⟩)
    · rintro ρ₂ σ₃ ⟨hs₂, le₃⟩
      refine SV.sub ?_ hs₂
      refine sv_cons (sv_AssignSub (ev_bool (ev_local (x := "seen") (ev_Tuple ?_))))
      refine lv_cons (ev_local (x := "field") ?_)
      refine lv_cons (ev_local (x := "name") ?_)
      refine lv_nil ⟨len_ok rfl, set_tdict (xs := [f.field, f.name]) R' (le₃ _ _ hks₃) (by rw [sizeLine_eq]; omega) ?_⟩
      refine sv_nilK hkk ⟨⟨rfl, rfl, trivial⟩, (l3.trans le₃).setL hD, _, St.set_same .., ?_, hnext⟩
      split
      · omega
      · simp; omega
  · rintro ρ₁ σ₁ ⟨hs, le, _⟩
    exact sv_nil (h σ₁ le)
end
end Mine
namespace Mine
theorem Mod.thenNew {W U : List Addr} {a b c : St} (x : Mod W a b) (y : Mod U b c) (h : ∀ u ∈ U, a u = none ∨ u ∈ W) : Mod W a c := fun p o m e => y p o (fun q => by
  rcases h p q with h | h
  · rw [e] at h; cases h
  · exact m h) (x p o m e)
def orderName (alias : Str) : Str := if alias = "" then "ordering" else alias
section
variable {G : Amb} {A : Around} {env : Env} {L : Addr} {ρ : Loc} {σ : St} {X : Value → Shared → Prop} {k : V → St → Prop}
theorem ev_det {e : Expr} (d : V) (hh : ∀ k' : V → St → Prop, k' d σ → EV G A env ρ σ e k' X) (h : k d σ) : EV G A env ρ σ e k X := hh k h
theorem K_set (hG : IsG G) {x : Str} (hx : x ∈ ownNames) : SetAt G.K 248 x := by
  rw [hG.K]
  simp only [ownNames, List.mem_cons, List.mem_nil_iff, or_false] at hx
  rcases hx with rfl | rfl | rfl | rfl | rfl <;> exact ⟨rfl, rfl, rfl, rfl⟩
theorem c_take_order (hG : IsG G) {n : Nat} (R : Room A (n + 1)) {self O : Addr} {ps : List (Str × V)} {es : Ens} {ops : List (Str × Str)} {spot : Int} {sig alias : Str} (H : Ents σ self es) (s : Self σ self ps) (gO : Loc.get ps "opened" = some (.ref O)) (hO : σ O = some (.list (ops.map oV)))
    (hs : ∃ t, gets es sig = some t) (hnew : orderName alias ∉ ops.map (·.1)) (hsz : ops.length ≤ 1000)
    (h : ∀ σ', Mod [O] σ σ' → σ' O = some (.list ((ops ++ [(orderName alias, sig)]).map oV)) → k .none σ') : OpC G A L ρ σ (.ref 142) [.ref self, Op.V spot "util/ordering" sig alias] k X := by
  refine opc_fn0 (f := 142) ["self", "item"] (by rw [hG.K]; rfl) (by rw [hG.K]; rfl) R fun L' A' env he R' => ?_
  obtain ⟨ps', E, ep, s', hg', hE⟩ := id H
  obtain ⟨bn1, bn2⟩ := B_len hG
  subst he
  refine sv_cons (sv_AssignTup (ev_15 (ev_local (x := "item") (ev_int (ev_int ⟨.str "open", .int spot, .str "util/ordering", .tup [.str sig], .str alias, rfl, rfl, rfl, ?_⟩)))))
  refine ts_Tuple R'.handled ?_
  refine tl_cons (ts_Name (ts_local ?_))
  refine tl_cons (ts_Name (ts_local ?_))
  refine tl_cons (ts_Name (ts_local ?_))
  refine tl_cons (ts_Name (ts_local ?_))
  refine tl_nil ?_
  have hmo : G.mg "ORDERING" = some (.str "util/ordering" 280) := hG.glob _ _ (by rw [hG.K]; rfl)
  refine sv_cons (sv_If (bv_Or (bv_Compare (ev_local (x := "module") (ev_global hmo (fun _ => .str _ _) (op_ne_str ⟨_, rfl, ?_⟩))))))
  rw [show (!decide (("util/ordering" : Str) = "util/ordering")) = false from by simp, if_neg (by decide)]
  refine bv_Or (bv_Compare (ev_Call (ev_builtin bn1 bn2 rfl ⟨_, rfl, .builtin _, lv_cons (ev_local (x := "args") (lv_nil (opc_len_tup (ds := [.str sig]) (len_ok rfl) (ev_int (op_ne_int ⟨_, rfl, ?_⟩)))))⟩)))
  rw [show (!decide ((([V.str sig].length : Nat) : Int) = 1)) = false from rfl, if_neg (by decide)]
  refine bv_Or_nil ?_
  rw [if_neg (by decide)]
  refine sv_nil ?_
  obtain ⟨t, ht⟩ := hs
  refine sv_cons (sv_If (bv_Compare (ev_Subscript (ev_local (x := "args") (ev_int (op_item_tup (d := .str sig) (by decide) (by decide) rfl ?_))))))
  refine ev_self hG (ev_local (x := "self") ⟨self, ps', _, rfl, s', hg', op_notIn_sdict hE ⟨_, rfl, ?_⟩⟩)
  rw [get_vents, ht]
  simp only [Option.map_some, Option.isSome_some, Bool.not_true, Bool.false_eq_true, if_false]
  refine sv_nil (sv_cons (sv_Assign (ev_det (.str (orderName alias)) (fun k' hk => ?_) ?_)))
  · refine ev_IfExp (bv_Compare (ev_local (x := "alias") (ev_str (op_ne_str ⟨_, rfl, ?_⟩))))
    by_cases q : alias = ""
    · simp only [q, decide_true, Bool.not_true, Bool.false_eq_true, if_false]
      rw [show orderName alias = "ordering" from if_pos q] at hk
      exact ev_str hk
    · simp only [q, decide_false, Bool.not_false, if_true]
      rw [show orderName alias = alias from if_neg q] at hk
      exact ev_local (x := "alias") hk
  refine sv_cons (sv_If (bv_Compare (ev_local (x := "name") (ev_Over (default : Str × Str) (ie_list R'.handled (ev_self hG (ev_local (x := "self") ⟨self, ps, _, rfl, s, gO, O, _, rfl, hO, ops, oV, (fun _ => true), (fun p => .str p.1),
    ⟨by simp, fun i d hi => getD_map d _ _ _ (by simpa using hi), fun σ' l' => l' _ _ hO, by rw [sizeLine_eq]; omega, fun C x σ₂ hx l₂ => ?_⟩, fun D σ' l' hD hD' => ?_⟩)))))))
  · refine ts_Tuple R'.handled (ds := [.str x.1, .str x.2]) (tl_cons (ts_Name (ts_local (tl_cons (ts_Name (ts_local (tl_nil (qv_nil ⟨rfl, ?_⟩))))))))
    rw [if_pos rfl]
    exact ev_local (x := "other") ⟨rfl, Le.refl _⟩
  · have e : ((ops.filter fun _ => true).map fun p => V.str p.1) = (ops.map (·.1)).map V.str := by rw [List.filter_eq_self.mpr (fun _ _ => rfl), List.map_map]; rfl
    rw [e] at hD'
    refine op_in_strs hD' ⟨_, rfl, ?_⟩
    rw [decide_eq_false hnew, if_neg (by decide)]
    have hO' := l' _ _ hO
    refine sv_nil (sv_cons (sv_Expr (ev_MCall (ev_self hG (ev_local (x := "self") ⟨self, ps, _, rfl, s.le l', gO, gm_list PySem.F.slot_list_append PySem.F.type_list_append hO' ⟨.builtin _, lv_cons (ev_Tuple ?_)⟩⟩)))))
    refine lv_cons (ev_local (x := "name") ?_)
    refine lv_cons (ev_Subscript (ev_local (x := "args") (ev_int (op_item_tup (d := .str sig) (by decide) (by decide) rfl ?_))))
    refine lv_nil ⟨len_ok rfl, lv_nil (opc_append hO' (by rw [List.length_map, sizeLine_eq]; omega) ⟨rfl, ?_⟩)⟩
    refine sv_nil (h _ (l'.mod.set (by simp)) ?_)
    rw [St.set_same]; simp [oV]
end
end Mine
namespace Mine
inductive Item where
  | sig (t : It)
  | opn (spot : Int) (s alias : Str)
  | other (spot : Int)
def Item.V : Item → V
  | .sig t => t.V
  | .opn spot s alias => Op.V spot "util/ordering" s alias
  | .other spot => .tup [.str "fact", .int spot, .str "", .tup []]
def Item.kind : Item → Str
  | .sig _ => "sig"
  | .opn _ _ _ => "open"
  | .other _ => "fact"
theorem Item.head (x : Item) : ∃ tv, x.V = .tup tv ∧ tv[0]? = some (.str x.kind) := by cases x <;> exact ⟨_, rfl, rfl⟩
def Item.ents : Item → Ens
  | .sig t => t.names.map fun x => (x, t)
  | _ => []
def Item.ops : Item → List (Str × Str)
  | .opn _ s alias => [(orderName alias, s)]
  | _ => []
def entsOf (items : List Item) : Ens := items.flatMap Item.ents
def opsOf (items : List Item) : List (Str × Str) := items.flatMap Item.ops
def keysOf (es : Ens) : List Str := es.map (·.1)
structure Good (items : List Item) (seq : List Str) : Prop where
  W : WF (entsOf items)
  sig : ∀ t, Item.sig t ∈ items → t.supers.length ≤ 2 ∧ (t.supers ≠ [] → t.abs = false)
  par : ∀ x t, gets (entsOf items) x = some t → t.parent ≠ "" → ∀ t', gets (entsOf items) t.parent = some t' → t'.supers = []
  pf : PF (entsOf items) [] (keysOf (entsOf items)) seq
  inn : ∀ x ∈ seq, ∃ t, gets (entsOf items) x = some t
  okf : OKF (entsOf items) (allF (entsOf items) seq).1
  len : (allF (entsOf items) seq).1.length ≤ 10000
  ops : ∀ p ∈ opsOf items, ∃ t, gets (entsOf items) p.2 = some t
  ond : ((opsOf items).map (·.1)).Nodup
  size : items.length ≤ 100
theorem flat_take {β : Type} (f : Item → List β) (items : List Item) (i : Nat) (h : i < items.length) : (items.take (i + 1)).flatMap f = (items.take i).flatMap f ++ f items[i] := by
  rw [List.take_add_one, List.getElem?_eq_getElem h, List.flatMap_append]
  simp only [Option.toList_some, List.flatMap_cons, List.flatMap_nil, List.append_nil]
theorem flat_pre {β : Type} (f : Item → List β) (items : List Item) (i : Nat) : (items.take i).flatMap f <+: items.flatMap f := by
  conv => rhs; rw [← List.take_append_drop i items, List.flatMap_append]
  exact List.prefix_append _ _
theorem nodup_pre {xs ys : List Str} (h : ys.Nodup) (p : xs <+: ys) : xs.Nodup := h.sublist p.sublist
theorem mem_gets {α : Type} {x : Str} : ∀ {es : List (Str × α)}, x ∈ es.map (·.1) → ∃ t, gets es x = some t
  | [], h => by simp at h
  | (y, t) :: r, h => by
    unfold gets
    by_cases q : x = y
    · exact ⟨t, by rw [if_pos q]⟩
    · rw [if_neg q]
      simp only [List.map_cons, List.mem_cons] at h
      rcases h with h | h
      · exact absurd h q
      · exact mem_gets h
abbrev ps3 (E S O : Addr) : List (Str × V) := [("entries", .ref E), ("stands", .ref S), ("opened", .ref O)]
abbrev ps4 (E S O D : Addr) : List (Str × V) := [("entries", .ref E), ("stands", .ref S), ("opened", .ref O), ("ordered", .ref D)]
abbrev ps5 (E S O D F : Addr) : List (Str × V) := [("entries", .ref E), ("stands", .ref S), ("opened", .ref O), ("ordered", .ref D), ("own_fields", .ref F)]
structure Made (σ : St) (me : Addr) (es : Ens) (seq : List Str) (fs : List Fd) (ops : List (Str × Str)) : Prop where
  ents : Ents σ me es
  stands : HasL σ me "stands" ((keysOf es).map .str)
  ordered : HasL σ me "ordered" (seq.map .str)
  fields : HasL σ me "own_fields" (fs.map Fd.V)
  opened : HasL σ me "opened" (ops.map oV)
section
variable {G : Amb} {A : Around} {env : Env} {L : Addr} {ρ : Loc} {σ : St} {X : Value → Shared → Prop} {k : V → St → Prop}
theorem k_init (hG : IsG G) {n : Nat} (R : Room A (n + 5)) {self dx Il : Addr} {items : List Item} {seq : List Str} (h1 : σ self = some (.inst 248 dx)) (h2 : σ dx = some (.attrs [])) (h3 : σ Il = some (.list (items.map Item.V))) (ok : Good items seq)
    (h : ∀ σ', Mod [dx] σ σ' → Made σ' self (entsOf items) seq (allF (entsOf items) seq).1 (opsOf items) → k .none σ') : OpK G A L ρ σ (.ref 97) [.ref self, .ref Il] k := by
  refine opk_fn0 (f := 97) ["self", "items"] (by rw [hG.K]; rfl) (by rw [hG.K]; rfl) R fun L' A' env he R' => ?_
  subst he
  have hne : self ≠ dx := fun q => by rw [q, h2] at h1; cases h1
  have hIl : Il ≠ dx := fun q => by rw [q, h2] at h3; cases h3
  refine sv_cons (sv_AssignAttr (ev_Dict0 fun E ep hE => ev_local (x := "self") ⟨self, 248, dx, [], rfl, Le.set hE _ _ h1, Le.set hE _ _ h2, K_set hG (by decide), by decide, ?_⟩))
  have dE : dx ≠ E := fun q => by rw [q, hE] at h2; cases h2
  have sE : self ≠ E := fun q => by rw [q, hE] at h1; cases h1
  refine sv_cons (sv_AssignAttr (ev_List (lv_nil ⟨len_ok rfl, fun S hS => ev_local (x := "self") ⟨self, 248, dx, _, rfl, Le.set hS _ _ ((St.keep hne (Le.set hE _ _ h1))), Le.set hS _ _ (St.set_same ..), K_set hG (by decide), (by show (1 : Nat) < 1000; decide), ?_⟩⟩)))
  have dS : dx ≠ S := fun q => by rw [q, St.set_same] at hS; cases hS
  have hS' : (σ.set E (.sdict ep [])) S = none := by rw [St.set_ne _ _ dS.symm] at hS; exact hS
  have ES : E ≠ S := fun q => by rw [q, St.set_same] at hS'; cases hS'
  have hS'' : σ S = none := by rw [St.set_ne _ _ ES.symm] at hS'; exact hS'
  have sS : self ≠ S := fun q => by rw [q, hS''] at h1; cases h1
  refine sv_cons (sv_AssignAttr (ev_List (lv_nil ⟨len_ok rfl, fun O hO => ev_local (x := "self") ⟨self, 248, dx, _, rfl, Le.set hO _ _ ((St.keep hne (Le.set hS _ _ (by rw [St.set_ne _ _ hne]; exact Le.set hE _ _ h1)))), Le.set hO _ _ (St.set_same ..), K_set hG (by decide), (by show (2 : Nat) < 1000; decide), ?_⟩⟩)))
  have dO : dx ≠ O := fun q => by rw [q, St.set_same] at hO; cases hO
  rw [St.set_ne _ _ dO.symm] at hO
  have SO : S ≠ O := fun q => by rw [q, St.set_same] at hO; cases hO
  rw [St.set_ne _ _ SO.symm, St.set_ne _ _ dO.symm] at hO
  have EO : E ≠ O := fun q => by rw [q, St.set_same] at hO; cases hO
  have hO'' : σ O = none := by rw [St.set_ne _ _ EO.symm] at hO; exact hO
  have sO : self ≠ O := fun q => by rw [q, hO''] at h1; cases h1
  have hp3 : (Loc.put (Loc.put (Loc.put [] "entries" (.ref E)) "stands" (.ref S)) "opened" (.ref O)) = (ps3 E S O) := rfl
  rw [hp3]
  generalize hσ₃ : (((((σ.set E (.sdict ep [])).set dx (.attrs (Loc.put [] "entries" (.ref E)))).set S (.list [])).set dx (.attrs (Loc.put (Loc.put [] "entries" (.ref E)) "stands" (.ref S)))).set O (.list [])).set dx (.attrs (ps3 E S O)) = σ₃
  have a1 : σ₃ self = some (.inst 248 dx) := by
    rw [← hσ₃, St.set_ne _ _ hne, St.set_ne _ _ sO, St.set_ne _ _ hne, St.set_ne _ _ sS, St.set_ne _ _ hne, St.set_ne _ _ sE]; exact h1
  have a2 : σ₃ dx = some (.attrs (ps3 E S O)) := by rw [← hσ₃, St.set_same]
  have a3 : σ₃ E = some (.sdict ep (vents [])) := by
    rw [← hσ₃, St.set_ne _ _ dE.symm, St.set_ne _ _ EO, St.set_ne _ _ dE.symm, St.set_ne _ _ ES, St.set_ne _ _ dE.symm, St.set_same]; rfl
  have a4 : σ₃ S = some (.list (([] : List Str).map .str)) := by
    rw [← hσ₃, St.set_ne _ _ dS.symm, St.set_ne _ _ SO, St.set_ne _ _ dS.symm, St.set_same]; rfl
  have a5 : σ₃ O = some (.list (([] : List (Str × Str)).map oV)) := by
    rw [← hσ₃, St.set_ne _ _ dO.symm, St.set_same]; rfl
  have aM : Mod [dx] σ σ₃ := by
    rw [← hσ₃]
    refine Mod.set ?_ (by simp)
    refine Mod.thenNew (U := [O]) ?_ ((Mod.refl [O] _).set (by simp)) (fun u hu => by rw [List.mem_singleton.mp hu]; exact .inl hO'')
    refine Mod.set ?_ (by simp)
    refine Mod.thenNew (U := [S]) ?_ ((Mod.refl [S] _).set (by simp)) (fun u hu => by rw [List.mem_singleton.mp hu]; exact .inl hS'')
    refine Mod.set ?_ (by simp)
    exact Mod.thenNew (U := [E]) (Mod.refl _ _) ((Mod.refl [E] _).set (by simp)) (fun u hu => by rw [List.mem_singleton.mp hu]; exact .inl hE)
  clear hσ₃ hO hS hS' hp3
  have IE' : Il ∉ [E, S] := fun m => by
    rcases List.mem_cons.mp m with q | q
    · rw [q, hE] at h3; cases h3
    · rw [List.mem_singleton.mp q, hS''] at h3; cases h3
  have own3 : ∀ p ∈ ps3 E S O, p.1 ∈ ownNames := by
    intro p hp
    simp only [List.mem_cons, List.mem_nil_iff, or_false] at hp
    rcases hp with rfl | rfl | rfl
    · show ("entries" : Str) ∈ ownNames; decide
    · show ("stands" : Str) ∈ ownNames; decide
    · show ("opened" : Str) ∈ ownNames; decide
  have h3' := aM _ _ (by simp; exact hIl) h3
  have hit : ∀ x ∈ items, ∃ tv, x.V = .tup tv ∧ tv[0]? = some (.str x.kind) := fun x _ => x.head
  have hkey : (keysOf (entsOf items)).Nodup := ok.W.keys
  refine sv_cons (sv_For PassesOwn.never (ie_list R'.handled (ev_local (x := "items") ⟨Il, _, rfl, h3', ?_⟩)))
  refine ⟨fun i ρ' σ' => Sub [("self", .ref self), ("items", .ref Il)] ρ' ∧ Mod [E, S] σ₃ σ' ∧ Cons σ' self E S (ps3 E S O) (entsOf (items.take i)) (keysOf (entsOf (items.take i))),
    ⟨⟨rfl, rfl, trivial⟩, Mod.refl _ _, ⟨dx, a1, a2, own3⟩, rfl, rfl, ⟨ep, a3⟩, a4⟩, fun i ρ σ' h => h.2.1 _ _ IE' h3', ?_, ?_⟩
  · rintro i ρ₁ σ₁ hi ⟨hs, hm, C⟩
    rw [List.length_map] at hi
    refine TS.sub ?_ hs
    dsimp only
    rw [getD_mapE _ _ _ hi]
    have hmem : items[i] ∈ items := List.getElem_mem hi
    have htk : entsOf (items.take (i + 1)) = entsOf (items.take i) ++ items[i].ents := flat_take _ _ _ hi
    have hpre : keysOf (entsOf (items.take (i + 1))) <+: keysOf (entsOf items) := (flat_pre Item.ents items (i + 1)).map _
    have hnd := nodup_pre hkey hpre
    rw [htk] at hnd ⊢
    have hlen : (entsOf (items.take i) ++ items[i].ents).length ≤ 100 := by
      have e := (flat_pre Item.ents items (i + 1)).length_le
      have := ok.W.size
      rw [← htk]; exact Nat.le_trans e this
    generalize items[i] = x at hmem hnd hlen ⊢
    obtain ⟨tv, hv, h0⟩ := x.head
    refine ts_Name (ts_local (gen_k fun kk hkk => sv_cons (sv_If (bv_Compare (ev_Subscript (ev_local (x := "item") (ev_int ?_)))))))
    rw [hv]
    refine op_item_tup (by decide) (by decide) h0 (ev_str (op_eq_str ⟨_, rfl, ?_⟩))
    cases x with
    | sig t =>
      rw [show decide ((Item.sig t).kind = "sig") = true from (by show decide (("sig" : Str) = "sig") = true; decide), if_pos rfl]
      obtain ⟨s1, s2⟩ := ok.sig t hmem
      have e : keysOf (entsOf (items.take i) ++ (Item.sig t).ents) = keysOf (entsOf (items.take i)) ++ t.names := by
        unfold keysOf; rw [List.map_append]
        congr 1
        show (t.names.map fun x => (x, t)).map (·.1) = t.names
        rw [List.map_map]; exact List.map_id _
      rw [e] at hnd hkk
      obtain ⟨n1, n2, n3⟩ := List.nodup_append.mp hnd
      have hl2 : (entsOf (items.take i)).length + t.names.length ≤ 100 := by
        have : (entsOf (items.take i) ++ (Item.sig t).ents).length = (entsOf (items.take i)).length + t.names.length := by rw [List.length_append]; congr 1; exact List.length_map ..
        omega
      have hkl : (keysOf (entsOf (items.take i))).length = (entsOf (items.take i)).length := List.length_map ..
      refine sv_cons (sv_Expr (ev_m1 (M_take_sig hG) (ev_local (x := "self") ⟨self, _, rfl, C.slf, ev_local (x := "item") ?_⟩)))
      rw [← hv]
      refine c_take_sig hG R' C n2 (fun x hx q => n3 _ q _ hx rfl) (by omega) (by omega) (by omega) s2 fun σ₂ m₂ C₂ => ⟨rfl, ?_⟩
      exact sv_nil (sv_nilK hkk ⟨⟨rfl, rfl, trivial⟩, hm.trans m₂, C₂⟩)
    | opn a b c =>
      rw [show decide ((Item.opn a b c).kind = "sig") = false from (by show decide (("open" : Str) = "sig") = false; decide), if_neg (by decide)]
      exact sv_nil (sv_nilK hkk ⟨⟨rfl, rfl, trivial⟩, hm, by simpa [Item.ents] using C⟩)
    | other a =>
      rw [show decide ((Item.other a).kind = "sig") = false from (by show decide (("fact" : Str) = "sig") = false; decide), if_neg (by decide)]
      exact sv_nil (sv_nilK hkk ⟨⟨rfl, rfl, trivial⟩, hm, by simpa [Item.ents] using C⟩)
  rintro ρ₁ σ₄ ⟨hs, m₄, C⟩
  rw [List.length_map, List.take_length] at C
  refine SV.sub ?_ hs
  clear hs
  have hkl : (keysOf (entsOf items)).length ≤ 100 := by unfold keysOf; rw [List.length_map]; exact ok.W.size
  have hin : ∀ x ∈ keysOf (entsOf items), ∃ t, gets (entsOf items) x = some t := fun x hx => mem_gets hx
  have O4 : σ₄ O = some (.list (([] : List (Str × Str)).map oV)) := m₄ _ _ (by simp; exact ⟨Ne.symm EO, Ne.symm SO⟩) a5
  have d4 : σ₄ self = some (.inst 248 dx) := m₄ _ _ (by simp; exact ⟨sE, sS⟩) a1
  have e4 : σ₄ dx = some (.attrs (ps3 E S O)) := m₄ _ _ (by simp; exact ⟨dE, dS⟩) a2
  have f4 : σ₄ Il = some (.list (items.map Item.V)) := m₄ _ _ IE' h3'
  have M4 : Mod [dx] σ σ₄ := aM.thenNew m₄ fun u hu => by
    rcases List.mem_cons.mp hu with q | q
    · rw [q]; exact .inl hE
    · rw [List.mem_singleton.mp q]; exact .inl hS''
  have W := ok.W
  refine sv_cons (sv_For PassesOwn.never (ie_list R'.handled (ev_self hG (ev_local (x := "self") ⟨self, _, _, rfl, C.slf, C.gS, S, _, rfl, C.std, ?_⟩))))
  refine ⟨fun i ρ' σ' => Sub [("self", .ref self), ("items", .ref Il)] ρ' ∧ σ' = σ₄, ⟨⟨rfl, rfl, trivial⟩, rfl⟩, fun i ρ σ' h => by rw [h.2]; exact C.std, ?_, ?_⟩
  · rintro i ρ₂ _ hi ⟨hs, rfl⟩
    rw [List.length_map] at hi
    refine TS.sub ?_ hs
    dsimp only
    rw [getD_mapE _ _ _ hi]
    obtain ⟨t, ht⟩ := hin _ (List.getElem_mem hi)
    refine ts_Name (ts_local (sv_cons (sv_Expr (ev_m1 (M_look_above hG) (ev_local (x := "self") ⟨self, _, rfl, C.slf, ev_local (x := "name") (c_look_above hG (R'.le (by omega : n + 3 ≤ n + 4)) C.ents W ht (ok.par _ _ ht) ⟨rfl, ?_⟩)⟩)))))
    exact sv_nil ⟨⟨rfl, rfl, trivial⟩, rfl⟩
  rintro ρ₂ _ ⟨hs, rfl⟩
  refine SV.sub ?_ hs
  clear hs
  refine sv_cons (sv_AssignAttr (ev_m0 (M_parents_first hG) (ev_local (x := "self") ⟨self, _, rfl, C.slf, c_parents_first hG (n := n + 1) R' C.ents C.hasS W hin (by omega) ok.pf fun D σ₅ le₅ hD hD' => ?_⟩)))
  have d5 := le₅ _ _ d4
  have e5 := le₅ _ _ e4
  have C5 : Cons σ₅ self E S (ps3 E S O) (entsOf items) (keysOf (entsOf items)) := ⟨C.slf.le le₅, C.gE, C.gS, let ⟨ep, q⟩ := C.ent; ⟨ep, le₅ _ _ q⟩, le₅ _ _ C.std⟩
  refine ev_local (x := "self") ⟨self, 248, dx, _, rfl, d5, e5, K_set hG (by decide), (by show (3 : Nat) < 1000; decide), ?_⟩
  have hp4 : Loc.put (ps3 E S O) "ordered" (.ref D) = ps4 E S O D := rfl
  rw [hp4]
  have own4 : ∀ p ∈ ps4 E S O D, p.1 ∈ ownNames := by
    intro p hp
    simp only [List.mem_cons, List.mem_nil_iff, or_false] at hp
    rcases hp with rfl | rfl | rfl | rfl
    · show ("entries" : Str) ∈ ownNames; decide
    · show ("stands" : Str) ∈ ownNames; decide
    · show ("opened" : Str) ∈ ownNames; decide
    · show ("ordered" : Str) ∈ ownNames; decide
  have Dd : D ≠ dx := fun q => by rw [q, e4] at hD; cases hD
  have M6 : Mod [dx] σ (σ₅.set dx (.attrs (ps4 E S O D))) := (M4.trans le₅.mod).set (by simp)
  have S6 : Self (σ₅.set dx (.attrs (ps4 E S O D))) self (ps4 E S O D) := ⟨dx, (St.keep hne d5), St.set_same .., own4⟩
  have E6 : ∃ ep, (σ₅.set dx (.attrs (ps4 E S O D))) E = some (.sdict ep (vents (entsOf items))) := by obtain ⟨ep, q⟩ := C5.ent; exact ⟨ep, (St.keep dE.symm q)⟩
  have H6 : Ents (σ₅.set dx (.attrs (ps4 E S O D))) self (entsOf items) := let ⟨ep, q⟩ := E6; ⟨_, E, ep, S6, rfl, q⟩
  have s6 : (σ₅.set dx (.attrs (ps4 E S O D))) S = some (.list ((keysOf (entsOf items)).map .str)) := St.keep dS.symm C5.std
  have o6 : (σ₅.set dx (.attrs (ps4 E S O D))) O = some (.list (([] : List (Str × Str)).map oV)) := St.keep dO.symm (le₅ _ _ O4)
  have D6 : (σ₅.set dx (.attrs (ps4 E S O D))) D = some (.list (seq.map .str)) := St.keep Dd hD'
  have f6 : (σ₅.set dx (.attrs (ps4 E S O D))) Il = some (.list (items.map Item.V)) := St.keep hIl (le₅ _ _ f4)
  have d6 : (σ₅.set dx (.attrs (ps4 E S O D))) self = some (.inst 248 dx) := St.keep hne d5
  have e6 : (σ₅.set dx (.attrs (ps4 E S O D))) dx = some (.attrs (ps4 E S O D)) := St.set_same ..
  generalize σ₅.set dx (.attrs (ps4 E S O D)) = σ₆ at *
  refine sv_cons (sv_AssignAttr (ev_m0 (M_all_fields hG) (ev_local (x := "self") ⟨self, _, rfl, S6, c_all_fields hG (n := n + 3) R' H6 ⟨_, D, S6, rfl, D6⟩ ok.inn ok.len fun F σ₇ le₇ hF hF' => ?_⟩)))
  refine ev_local (x := "self") ⟨self, 248, dx, _, rfl, le₇ _ _ d6, le₇ _ _ e6, K_set hG (by decide), (by show (4 : Nat) < 1000; decide), ?_⟩
  have hp5 : Loc.put (ps4 E S O D) "own_fields" (.ref F) = ps5 E S O D F := rfl
  rw [hp5]
  have own5 : ∀ p ∈ ps5 E S O D F, p.1 ∈ ownNames := by
    intro p hp
    simp only [List.mem_cons, List.mem_nil_iff, or_false] at hp
    rcases hp with rfl | rfl | rfl | rfl | rfl
    · show ("entries" : Str) ∈ ownNames; decide
    · show ("stands" : Str) ∈ ownNames; decide
    · show ("opened" : Str) ∈ ownNames; decide
    · show ("ordered" : Str) ∈ ownNames; decide
    · show ("own_fields" : Str) ∈ ownNames; decide
  have Fd' : F ≠ dx := fun q => by rw [q, e6] at hF; cases hF
  have M8 : Mod [dx] σ (σ₇.set dx (.attrs (ps5 E S O D F))) := (M6.trans le₇.mod).set (by simp)
  have S8 : Self (σ₇.set dx (.attrs (ps5 E S O D F))) self (ps5 E S O D F) := ⟨dx, (St.keep hne (le₇ _ _ d6)), St.set_same .., own5⟩
  have E8 : ∃ ep, (σ₇.set dx (.attrs (ps5 E S O D F))) E = some (.sdict ep (vents (entsOf items))) := by obtain ⟨ep, q⟩ := E6; exact ⟨ep, (St.keep dE.symm (le₇ _ _ q))⟩
  have s8 : (σ₇.set dx (.attrs (ps5 E S O D F))) S = some (.list ((keysOf (entsOf items)).map .str)) := St.keep dS.symm (le₇ _ _ s6)
  have o8 : (σ₇.set dx (.attrs (ps5 E S O D F))) O = some (.list (([] : List (Str × Str)).map oV)) := St.keep dO.symm (le₇ _ _ o6)
  have D8 : (σ₇.set dx (.attrs (ps5 E S O D F))) D = some (.list (seq.map .str)) := St.keep Dd (le₇ _ _ D6)
  have F8 : (σ₇.set dx (.attrs (ps5 E S O D F))) F = some (.list ((allF (entsOf items) seq).1.map Fd.V)) := St.keep Fd' hF'
  have f8 : (σ₇.set dx (.attrs (ps5 E S O D F))) Il = some (.list (items.map Item.V)) := St.keep hIl (le₇ _ _ f6)
  have OD : D ≠ O := fun q => by rw [q] at hD; rw [O4] at hD; cases hD
  have OF : F ≠ O := fun q => by rw [q] at hF; rw [o6] at hF; cases hF
  have OI : Il ≠ O := fun q => by rw [q] at h3; rw [hO''] at h3; cases h3
  generalize σ₇.set dx (.attrs (ps5 E S O D F)) = σ₈ at *
  obtain ⟨ep8, hE8⟩ := E8
  refine sv_cons (sv_Expr (ev_m0 (M_look_fields hG) (ev_local (x := "self") ⟨self, _, rfl, S8, c_look_fields hG (n := n) R' ⟨_, E, ep8, S8, rfl, hE8⟩ ⟨_, F, S8, rfl, F8⟩ W ok.okf ok.len fun σ₉ le₉ => ⟨rfl, ?_⟩⟩)))
  refine sv_cons (sv_For PassesOwn.never (ie_list R'.handled (ev_local (x := "items") ⟨Il, _, rfl, le₉ _ _ f8, ?_⟩)))
  refine ⟨fun i ρ' σ' => Sub [("self", .ref self), ("items", .ref Il)] ρ' ∧ Mod [O] σ₉ σ' ∧ σ' O = some (.list ((opsOf (items.take i)).map oV)),
    ⟨⟨rfl, rfl, trivial⟩, Mod.refl _ _, le₉ _ _ o8⟩, fun i ρ σ' h => h.2.1 _ _ (by simp; exact OI) (le₉ _ _ f8), ?_, ?_⟩
  · rintro i ρ₃ σ₁ hi ⟨hs, hm, hO₁⟩
    rw [List.length_map] at hi
    refine TS.sub ?_ hs
    dsimp only
    rw [getD_mapE _ _ _ hi]
    have hmem : items[i] ∈ items := List.getElem_mem hi
    have htk : opsOf (items.take (i + 1)) = opsOf (items.take i) ++ items[i].ops := flat_take _ _ _ hi
    have hpre := flat_pre Item.ops items (i + 1)
    have hnd := nodup_pre ok.ond (hpre.map (·.1))
    have hinn : ∀ p ∈ opsOf (items.take (i + 1)), ∃ t, gets (entsOf items) p.2 = some t := fun p hp => ok.ops p (hpre.subset hp)
    have hol : (opsOf (items.take i)).length ≤ i := by
      have : ∀ l : List Item, (opsOf l).length ≤ l.length := fun l => by
        induction l with
        | nil => exact Nat.le_refl _
        | cons y r ih =>
          have e : opsOf (y :: r) = y.ops ++ opsOf r := rfl
          rw [e, List.length_append]
          have : y.ops.length ≤ 1 := by cases y <;> simp [Item.ops]
          simp only [List.length_cons]; omega
      have h := this (items.take i)
      have := List.length_take_le i items
      omega
    have hsz := ok.size
    change ((opsOf (items.take (i + 1))).map (·.1)).Nodup at hnd
    rw [htk] at hnd hinn ⊢
    generalize items[i] = x at hmem hnd hinn ⊢
    obtain ⟨tv, hv, h0⟩ := x.head
    have S9 : Self σ₁ self (ps5 E S O D F) := (S8.le le₉).mod hm (fun b m C dx q => by rw [List.mem_singleton.mp m, le₉ _ _ o8] at q; cases q) (fun b m ps q => by rw [List.mem_singleton.mp m, le₉ _ _ o8] at q; cases q)
    have H9 : Ents σ₁ self (entsOf items) := ⟨_, E, ep8, S9, rfl, hm _ _ (by simp; exact EO) (le₉ _ _ hE8)⟩
    refine ts_Name (ts_local (gen_k fun kk hkk => sv_cons (sv_If (bv_Compare (ev_Subscript (ev_local (x := "item") (ev_int ?_)))))))
    rw [hv]
    refine op_item_tup (by decide) (by decide) h0 (ev_str (op_eq_str ⟨_, rfl, ?_⟩))
    cases x with
    | opn a b c =>
      rw [show decide ((Item.opn a b c).kind = "open") = true from (by show decide (("open" : Str) = "open") = true; decide), if_pos rfl]
      refine sv_cons (sv_Expr (ev_m1 (M_take_order hG) (ev_local (x := "self") ⟨self, _, rfl, S9, ev_local (x := "item") ?_⟩)))
      rw [← hv]
      refine c_take_order hG R' H9 S9 rfl hO₁ (hinn (orderName c, b) (List.mem_append.mpr (.inr (by simp [Item.ops])))) ?_ (by omega) fun σ₂ m₂ h₂ => ⟨rfl, ?_⟩
      · rw [List.map_append] at hnd
        intro q
        exact (List.nodup_append.mp hnd).2.2 _ q (orderName c) (by simp [Item.ops]) rfl
      · exact sv_nil (sv_nilK hkk ⟨⟨rfl, rfl, trivial⟩, hm.trans m₂, h₂⟩)
    | sig t =>
      rw [show decide ((Item.sig t).kind = "open") = false from (by show decide (("sig" : Str) = "open") = false; decide), if_neg (by decide)]
      exact sv_nil (sv_nilK hkk ⟨⟨rfl, rfl, trivial⟩, hm, by simpa [Item.ops] using hO₁⟩)
    | other a =>
      rw [show decide ((Item.other a).kind = "open") = false from (by show decide (("fact" : Str) = "open") = false; decide), if_neg (by decide)]
      exact sv_nil (sv_nilK hkk ⟨⟨rfl, rfl, trivial⟩, hm, by simpa [Item.ops] using hO₁⟩)
  · rintro ρ₃ σ₁ ⟨hs, hm, hO₁⟩
    rw [List.length_map, List.take_length] at hO₁
    have S9 : Self σ₁ self (ps5 E S O D F) := (S8.le le₉).mod hm (fun b m C dx q => by rw [List.mem_singleton.mp m, le₉ _ _ o8] at q; cases q) (fun b m ps q => by rw [List.mem_singleton.mp m, le₉ _ _ o8] at q; cases q)
    refine sv_nil (h σ₁ ((M8.trans le₉.mod).thenNew hm fun u hu => by rw [List.mem_singleton.mp hu]; exact .inl hO'') ⟨⟨_, E, ep8, S9, rfl, hm _ _ (by simp; exact EO) (le₉ _ _ hE8)⟩, ⟨_, S, S9, rfl, hm _ _ (by simp; exact SO) (le₉ _ _ s8)⟩, ⟨_, D, S9, rfl, hm _ _ (by simp; exact OD) (le₉ _ _ D8)⟩,
      ⟨_, F, S9, rfl, hm _ _ (by simp; exact OF) (le₉ _ _ F8)⟩, ⟨_, O, S9, rfl, hO₁⟩⟩)
theorem c_new (hG : IsG G) {n : Nat} (R : Room A (n + 6)) {Il : Addr} {items : List Item} {seq : List Str} (h3 : σ Il = some (.list (items.map Item.V))) (ok : Good items seq)
    (h : ∀ x σ', σ x = none → Le σ σ' → Made σ' x (entsOf items) seq (allF (entsOf items) seq).1 (opsOf items) → k (.ref x) σ') : OpC G A L ρ σ (.ref 248) [.ref Il] k X := by
  refine opc_cls (fI := 97) (by rw [hG.K]; rfl) (by rw [hG.K]; rfl) (by rw [hG.K]; rfl) R fun A' x dx R' hx hd hne => ?_
  have l1 : Le σ ((σ.set dx (.attrs [])).set x (.inst 248 dx)) := (Le.set hd).setL hx
  refine k_init hG R' (St.set_same ..) ((St.keep ((Ne.symm hne)) (St.set_same ..))) (l1 _ _ h3) ok fun σ' m M => ⟨rfl, h x σ' hx ?_ M⟩
  exact fun b o e => m b o (fun q => by rw [List.mem_singleton.mp q, hd] at e; cases e) (l1 b o e)
end
end Mine
namespace Mine
def Hand (σ : St) (hd C : Addr) (cells : List Int) (B : Nat) : Prop :=
  ∃ ep, ∃ pos : Nat, pos ≤ B ∧ cells.length ≤ 50 ∧ σ hd = some (.sdict ep [("cells", .ref C), ("at", .int pos)]) ∧ σ C = some (.list (cells.map .int))
theorem Hand.le {σ σ' : St} {hd C cells B} (x : Hand σ hd C cells B) (l : Le σ σ') : Hand σ' hd C cells B := let ⟨ep, a, h1, h2, h3, h4⟩ := x; ⟨ep, a, h1, h2, l _ _ h3, l _ _ h4⟩
theorem Hand.up {σ : St} {hd C cells B B'} (x : Hand σ hd C cells B) (l : B ≤ B') : Hand σ hd C cells B' := let ⟨ep, a, h1, h2, h3, h4⟩ := x; ⟨ep, a, Nat.le_trans h1 l, h2, h3, h4⟩
section
variable {G : Amb} {A : Around} {env : Env} {L : Addr} {ρ : Loc} {σ : St} {X : Value → Shared → Prop} {k : V → St → Prop}
theorem c_draw (hG : IsG G) {n : Nat} (R : Room A (n + 1)) {hd C : Addr} {cells : List Int} {B : Nat} (H : Hand σ hd C cells B) (hB : B ≤ 1000000) {many : Int} (hm : 0 < many)
    (h : ∀ r : Nat, (r : Int) < many → ∀ σ', Mod [hd] σ σ' → Hand σ' hd C cells (B + 1) → k (.int r) σ') : OpC G A L ρ σ (.ref 260) [.ref hd, .int many] k X := by
  refine opc_fn0 (f := 260) ["hand", "many"] (by rw [hG.K]; rfl) (by rw [hG.K]; rfl) R fun L' A' env he R' => ?_
  obtain ⟨ep, pos, hpos, hcl, hH, hC⟩ := H
  obtain ⟨bn1, bn2⟩ := B_len hG
  subst he
  refine sv_cons (sv_Assign (ev_Subscript (ev_local (x := "hand") (ev_str (op_item_sdict hH rfl ?_)))))
  refine sv_cons (sv_AssignSub ?_)
  refine ev_BinOp (ev_local (x := "at") (ev_int (op_add_int ?_)))
  refine ev_local (x := "hand") (ev_str (set_sdict hH (len_ok rfl) fun ep' => ?_))
  have hv : vput [(("cells" : Str), V.ref C), ("at", .int pos)] "at" (.int ((pos : Int) + 1)) = [(("cells" : Str), V.ref C), ("at", .int ((pos + 1 : Nat) : Int))] := by rfl
  rw [hv]
  have hne : hd ≠ C := fun q => by rw [q, hC] at hH; cases hH
  have hH' : (σ.set hd (.sdict ep' [("cells", V.ref C), ("at", .int ((pos + 1 : Nat) : Int))])) hd = some (.sdict ep' [("cells", V.ref C), ("at", .int ((pos + 1 : Nat) : Int))]) := St.set_same ..
  have hC' : (σ.set hd (.sdict ep' [("cells", V.ref C), ("at", .int ((pos + 1 : Nat) : Int))])) C = some (.list (cells.map .int)) := St.keep hne.symm hC
  have hm' : Mod [hd] σ (σ.set hd (.sdict ep' [("cells", V.ref C), ("at", .int ((pos + 1 : Nat) : Int))])) := (Mod.refl _ _).set (by simp)
  generalize σ.set hd (.sdict ep' [("cells", V.ref C), ("at", .int ((pos + 1 : Nat) : Int))]) = σ₁ at *
  have fin : ∀ i : Int, k (V.int (i % many)) σ₁ := fun i => by
    have h0 := Int.emod_nonneg i (Int.ne_of_gt hm)
    have h1 := Int.emod_lt_of_pos i hm
    obtain ⟨r, hr⟩ := Int.eq_ofNat_of_zero_le h0
    rw [hr]
    exact h r (by omega) σ₁ hm' ⟨ep', pos + 1, by omega, hcl, hH', hC'⟩
  refine sv_cons (sv_If (bv_Compare ?_))
  refine ev_local (x := "at") (ev_Call (ev_builtin bn1 bn2 rfl ⟨_, rfl, .builtin _, ?_⟩))
  refine lv_cons (ev_Subscript (ev_local (x := "hand") (ev_str (op_item_sdict hH' rfl ?_))))
  refine lv_nil (opc_len_list hC' (by rw [List.length_map, sizeLine_eq]; omega) (op_lt_int ⟨_, rfl, ?_⟩))
  rw [List.length_map]
  by_cases q : (pos : Int) < (cells.length : Nat)
  · rw [decide_eq_true q, if_pos rfl]
    have hlt : pos < cells.length := by omega
    refine sv_cons (sv_Return (ev_BinOp (ev_Subscript ?_)))
    refine ev_Subscript (ev_local (x := "hand") (ev_str (op_item_sdict hH' rfl ?_)))
    refine ev_local (x := "at") (op_item_list (i := (pos : Int)) (d := .int cells[pos]) hC' (by omega) (by omega) ?_ ?_)
    rotate_left 1
    refine ev_local (x := "many") (op_mod_int hm ?_)
    rotate_left 1
    · show (cells.map V.int)[pos]? = _
      rw [List.getElem?_map, List.getElem?_eq_getElem hlt]; rfl
    · exact fin _
  · rw [decide_eq_false q, if_neg (by decide)]
    have ib : ∀ i : Int, -(2 ^ 64) < i → i < 2 ^ 64 → ∀ j, IntMulOk i j := fun i a b j => .of_left (intBits_le_64 a b)
    refine sv_nil (sv_cons (sv_Return ?_))
    refine ev_BinOp (ev_BinOp (ev_BinOp (ev_BinOp (ev_BinOp ?_))))
    refine ev_BinOp (ev_BinOp (ev_int (ev_local (x := "at") (op_mul_int (ib _ (by decide) (by decide) _) ?_))))
    refine ev_local (x := "at") (op_mul_int (ib _ (by omega) (by omega) _) ?_)
    refine ev_BinOp (ev_int (ev_local (x := "at") (op_mul_int (ib _ (by decide) (by decide) _) (op_add_int ?_))))
    refine ev_BinOp (ev_int (ev_Call (ev_builtin bn1 bn2 rfl ⟨_, rfl, .builtin _, ?_⟩)))
    refine lv_cons (ev_Subscript (ev_local (x := "hand") (ev_str (op_item_sdict hH' rfl ?_))))
    refine lv_nil (opc_len_list hC' (by rw [List.length_map, sizeLine_eq]; omega) ?_)
    refine op_mul_int (ib _ (by decide) (by decide) _) (op_add_int (ev_int (op_add_int (ev_int (op_mod_int (by decide) ?_)))))
    refine ev_local (x := "many") (op_mod_int hm ?_)
    exact fin _
end
end Mine
namespace Mine
theorem Mod.setN {W : List Addr} {σ σ' : St} {a : Addr} {o : AObj} (x : Mod W σ σ') (e : σ a = none) : Mod W σ (σ'.set a o) := fun b o' hb h => by
  have q : b ≠ a := fun q => by subst q; rw [e] at h; cases h
  rw [St.set_ne _ _ q]; exact x b o' hb h
theorem Mod.at1 {hd : Addr} {σ σ' : St} (x : Mod [hd] σ σ') {a : Addr} {o : AObj} (e : σ a = some o) (ne : a ≠ hd) : σ' a = some o := x a o (by simp; exact ne) e
theorem Hand.ne {σ : St} {hd C cells B a} (x : Hand σ hd C cells B) (h : ∀ ep es, σ a ≠ some (.sdict ep es)) : a ≠ hd := fun q => by
  obtain ⟨ep, pos, _, _, h3, _⟩ := x
  subst q; exact h _ _ h3
def fname (number j : Nat) : Str := (("f" : Str) ++ (Str.ofString (toString (number : Int)))) ++ (⟨#[(("abcd" : Str).cps[j]?).getD 0]⟩ : Str)
structure RowOk (number lap : Nat) (r : Rw) : Prop where
  names : ∃ m, 1 ≤ m ∧ m ≤ 2 ∧ r.names = (List.range m).map (fun k => fname number (2 * lap + k))
  mult : PyData.strOk r.mult = true
  node : Fit r.node 10
def RowsOk (number : Nat) (rows : List Rw) : Prop := rows.length ≤ 2 ∧ ∀ lap (h : lap < rows.length), RowOk number lap rows[lap]
section
variable {G : Amb} {A : Around} {env : Env} {L : Addr} {ρ : Loc} {σ : St} {X : Value → Shared → Prop} {k : V → St → Prop}
theorem G_draw (hG : IsG G) : G.mg "_law_draw" = some (.ref 260) ∧ CK G (.ref 260) := ⟨hG.glob _ _ (by rw [hG.K]; rfl), .inr (by rw [hG.K]; rfl)⟩
theorem B_str (hG : IsG G) : G.mg "str" = none ∧ G.mb "str" = some (.type "str") := B_name hG rfl rfl (by decide)
theorem ev_draw (hG : IsG G) {n : Nat} (R : Room A (n + 1)) {e₁ e₂ : Expr} {p pos : Pos} {hd C : Addr} {cells : List Int} {B : Nat} (H : Hand σ hd C cells B) (hB : B ≤ 1000000) {many : Int} (hm : 0 < many)
    (h₁ : ∀ (k : V → St → Prop), k (.ref hd) σ → EV G A env ρ σ e₁ k X) (h₂ : ∀ (k : V → St → Prop), k (.int many) σ → EV G A env ρ σ e₂ k X)
    (h : ∀ r : Nat, (r : Int) < many → ∀ σ', Mod [hd] σ σ' → Hand σ' hd C cells (B + 1) → k (.int r) σ')
    (hk : env.scope.kind = .function := by rfl) (hl : env.kindOf "_law_draw" = some .globalImplicit := by rfl) (hg : env.globals = mainGlobals := by rfl)
    (he : eval (.Call (.Name "_law_draw" p) [e₁, e₂] [] pos) env = (do callWith pos (← eval (.Name "_law_draw" p) env) [] (backTo pos (starEach [e₁, e₂] env)) (backToKw pos (keywordEach [] env))) := by rfl)
    (hs : starEach [e₁, e₂] env = (false, eval e₁ env) :: starEach [e₂] env := by rfl) (hs₂ : starEach [e₂] env = (false, eval e₂ env) :: starEach [] env := by rfl) (hplain : (backTo pos (starEach [e₂] env)).any (·.1) = false := by rfl) :
    EV G A env ρ σ (.Call (.Name "_law_draw" p) [e₁, e₂] [] pos) k X := by
  obtain ⟨g1, g2⟩ := G_draw hG
  refine ev_Call (ev_global g1 (fun _ => .glob _ rfl) ⟨_, rfl, g2, lv_cons (h₁ _ (lv_cons (h₂ _ (lv_nil (c_draw hG R H hB hm h))) hs₂)) hs⟩ hg hk hl) he hs hplain
theorem abcd_at (j : Nat) (h : j < 4) : ("abcd" : Str).cps[j]? = some ((("abcd" : Str).cps[j]?).getD 0) := by
  have : j = 0 ∨ j = 1 ∨ j = 2 ∨ j = 3 := by omega
  rcases this with rfl | rfl | rfl | rfl <;> decide
theorem fname_len (number : Nat) (h : number < 4) : (("f" : Str) ++ Str.ofString (toString (number : Int))).length ≤ 10 := by
  have : number = 0 ∨ number = 1 ∨ number = 2 ∨ number = 3 := by omega
  rcases this with rfl | rfl | rfl | rfl <;> decide +kernel
set_option maxHeartbeats 2000000 in
theorem c_rows (hG : IsG G) {n : Nat} (R : Room A (n + 2)) {hd C : Addr} {cells : List Int} {B number : Nat} (H : Hand σ hd C cells B) (hB : B ≤ 900000) (hnum : number < 4)
    (h : ∀ rows, RowsOk number rows → ∀ σ', Mod [hd] σ σ' → Hand σ' hd C cells (B + 20) → k (.tup (rows.map Rw.V)) σ') : OpC G A L ρ σ (.ref 265) [.ref hd, .int number] k X := by
  refine opc_fnC (f := 265) ["hand", "number"] (ρ₀ := [("hand", .ref hd)]) (by rw [hG.K]; rfl) (by rw [hG.K]; rfl) R fun L' A' env σC he R' le hc => ?_
  obtain ⟨bt1, bt2⟩ := B_tuple hG
  obtain ⟨br1, br2⟩ := B_range hG
  obtain ⟨bs1, bs2⟩ := B_str hG
  subst he
  have c1 : σC (L' + 1) = some (.cell (some (.int number))) := (hc "number" (L' + 1) (.tail _ (.head _))).1
  have c2 : σC (L' + 2) = some (.cell none) := (hc "lap" (L' + 2) (.head _)).1
  have n1 : σ (L' + 1) = none := (hc "number" (L' + 1) (.tail _ (.head _))).2
  have n2 : σ (L' + 2) = none := (hc "lap" (L' + 2) (.head _)).2
  refine sv_cons (sv_Assign (ev_List (lv_nil ⟨len_ok rfl, fun F hF => ?_⟩)))
  have lF : Le σC (σC.set F (.list [])) := Le.set hF
  have CF : C ≠ F := fun q => by obtain ⟨_, _, _, _, _, h4⟩ := H.le le; rw [q, hF] at h4; cases h4
  have σF : σ F = none := by
    cases q : σ F with
    | none => rfl
    | some o => rw [le _ _ q] at hF; cases hF
  have e1 := lF _ _ c1
  have e2 := lF _ _ c2
  have eF : (σC.set F (.list [])) F = some (.list []) := St.set_same ..
  have HF : Hand (σC.set F (.list [])) hd C cells B := (H.le le).le lF
  have MF : Mod [hd] σ (σC.set F (.list [])) := (le.trans lF).mod
  generalize σC.set F (.list []) = σ₀ at *
  have neF : F ≠ hd := HF.ne fun ep es q => by rw [eF] at q; cases q
  have ne1 : L' + 1 ≠ hd := HF.ne fun ep es q => by rw [e1] at q; cases q
  have ne2 : L' + 2 ≠ hd := HF.ne fun ep es q => by rw [e2] at q; cases q
  refine sv_cons (sv_For PassesOwn.never (ie_range R'.handled ?_))
  refine ev_Call (ev_builtin br1 br2 rfl ⟨_, rfl, .type _, lv_cons ?_⟩)
  refine ev_draw hG R' HF (by omega) (many := 3) (by decide) (fun k h => ev_local (x := "hand") h) (fun k h => ev_int h) fun r hr σ₁ m₁ H₁ => ?_
  refine lv_nil (opc_range fun Rg hRg => ⟨Rg, r, rfl, St.set_same .., by omega, ?_⟩)
  have f1 := m₁.at1 e1 ne1
  have f2 := m₁.at1 e2 ne2
  have fF := m₁.at1 eF neF
  have lR := Le.set (o := .range 0 r) hRg
  refine ⟨fun i ρ' σ' => Sub [("hand", .ref hd), ("found", .ref F)] ρ' ∧ Mod [hd] σ σ' ∧ σ' (L' + 1) = some (.cell (some (.int number))) ∧ (∃ d, σ' (L' + 2) = some (.cell d)) ∧ Hand σ' hd C cells (B + 1 + 6 * i) ∧
      ∃ rows : List Rw, rows.length = i ∧ (∀ lap (h : lap < rows.length), RowOk number lap rows[lap]) ∧ σ' F = some (.list (rows.map Rw.V)),
    ⟨⟨rfl, rfl, trivial⟩, (MF.trans m₁).trans lR.mod, lR _ _ f1, ⟨_, lR _ _ f2⟩, H₁.le lR, [], rfl, (fun lap h => by simp at h), lR _ _ fF⟩, fun _ _ _ _ => trivial, ?_, ?_⟩
  · rintro i ρ₂ σ₂ hi ⟨hs, m₂, g1, ⟨d, g2⟩, H₂, rows, hrl, hro, gF⟩
    refine TS.sub ?_ hs
    refine ts_Name (ts_cell (c := L' + 2) g2 ?_)
    have neF2 : F ≠ L' + 2 := fun q => by rw [q, g2] at gF; cases gF
    have ne12 : L' + 1 ≠ L' + 2 := Nat.ne_of_lt (Nat.lt_succ_self _)
    have neC2 : C ≠ L' + 2 := fun q => by obtain ⟨_, _, _, _, _, h4⟩ := H₂; rw [q, g2] at h4; cases h4
    have t1 : (σ₂.set (L' + 2) (.cell (some (V.int i)))) (L' + 1) = some (.cell (some (.int number))) := St.keep ne12 g1
    have t2 : (σ₂.set (L' + 2) (.cell (some (V.int i)))) (L' + 2) = some (.cell (some (.int i))) := St.set_same ..
    have tF : (σ₂.set (L' + 2) (.cell (some (V.int i)))) F = some (.list (rows.map Rw.V)) := St.keep neF2 gF
    have tH : Hand (σ₂.set (L' + 2) (.cell (some (V.int i)))) hd C cells (B + 1 + 6 * i) := by
      obtain ⟨ep, pos, q1, q2, q3, q4⟩ := H₂
      exact ⟨ep, pos, q1, q2, (St.keep ne2.symm q3), (St.keep neC2 q4)⟩
    have tM : Mod [hd] σ (σ₂.set (L' + 2) (.cell (some (V.int i)))) := m₂.setN n2
    show SV G A' _ _ (σ₂.set (L' + 2) (.cell (some (V.int i)))) _ _ _
    generalize σ₂.set (L' + 2) (.cell (some (V.int i))) = σ₃ at *
    have hi2 : i < 2 := by omega
    refine gen_k fun kk hkk => ?_
    refine sv_cons (sv_Assign (ev_Call (ev_builtin bt1 bt2 rfl ⟨_, rfl, .type _, lv_cons ?_⟩)))
    refine ev_Over (0 : Nat) (ie_range R'.handled ?_)
    refine ev_Call (ev_builtin br1 br2 rfl ⟨_, rfl, .type _, lv_cons (ev_BinOp (ev_int ?_))⟩)
    refine ev_draw hG R' tH (by omega) (many := 2) (by decide) (fun k h => ev_local (x := "hand") h) (fun k h => ev_int h) fun m hm σ₄ m₄ H₄ => op_add_int ?_
    have em : (1 : Int) + (m : Int) = ((m + 1 : Nat) : Int) := by omega
    rw [em]
    have u1 := m₄.at1 t1 ne1
    have u2 := m₄.at1 t2 ne2
    have uF := m₄.at1 tF neF
    refine lv_nil (opc_range fun Rk hRk => ⟨Rk, m + 1, rfl, St.set_same .., by omega, List.range (m + 1), (fun j => .int j), (fun _ => true), (fun j => .str (fname number (2 * i + j))),
      ⟨by simp, fun j d hj => by rw [getD_eq _ _ _ (by simpa using hj)]; simp, fun _ _ => trivial, by rw [List.length_range, sizeLine_eq]; omega, fun C₂ j σ₅ hj l₅ => ?_⟩, fun D σ₅ l₅ hD hD' => ?_⟩)
    · rw [List.mem_range] at hj
      have lk := Le.set (o := .range 0 ((m + 1 : Nat) : Int)) hRk
      have v1 := l₅ _ _ (lk _ _ u1)
      have v2 := l₅ _ _ (lk _ _ u2)
      refine ts_Name (ts_local (qv_nil ⟨rfl, ?_⟩))
      rw [if_pos rfl]
      refine ev_BinOp (ev_BinOp (ev_str (ev_Call (ev_builtin bs1 bs2 rfl ⟨_, rfl, .type _, ?_⟩))))
      refine lv_cons (ev_cell (x := "number") (c := L' + 1) v1 (lv_nil (opc_str_int ?_ (op_add_str ?_ ?_))))
      · exact Nat.lt_of_le_of_lt (Nat.log2_le_self _) (by omega)
      · rw [← strLen_append, sizeLine_eq]; have := fname_len number hnum; omega
      refine ev_Subscript (ev_str (ev_BinOp (ev_BinOp (ev_int (ev_cell (x := "lap") (c := L' + 2) v2 (op_mul_int (.of_left (by decide)) ?_))))))
      refine ev_local (x := "k") (op_add_int ?_)
      have ej : (2 : Int) * (i : Int) + (j : Int) = ((2 * i + j : Nat) : Int) := by omega
      rw [ej]
      refine op_item_str (by omega) (by omega) (abcd_at (2 * i + j) (by omega)) (op_add_str ?_ ⟨rfl, Le.refl _⟩)
      rw [sizeLine_eq]; have := fname_len number hnum
      have : (⟨#[(("abcd" : Str).cps[2 * i + j]?).getD 0]⟩ : Str).length = 1 := rfl
      omega
    · have lk := Le.set (o := .range 0 ((m + 1 : Nat) : Int)) hRk
      have l₄ := lk.trans l₅
      refine lv_nil (opc_tuple_list hD' (by rw [List.length_map, sizeLine_eq]; have := List.length_filter_le (fun _ => true) (List.range (m + 1)); rw [List.length_range] at this; omega) ?_)
      have en : ((List.range (m + 1)).filter fun _ => true).map (fun j => V.str (fname number (2 * i + j))) = ((List.range (m + 1)).map fun j => fname number (2 * i + j)).map V.str := by
        rw [List.filter_eq_self.mpr (fun _ _ => rfl), List.map_map]; rfl
      rw [en]
      have w2 := l₄ _ _ u2
      have w1 := l₄ _ _ u1
      have wF := l₄ _ _ uF
      have wH := H₄.le l₄
      have wM := (tM.trans m₄).trans l₄.mod
      refine sv_cons (sv_Assign (ev_Tuple (lv_cons (ev_str (lv_cons (ev_BinOp (ev_int (ev_cell (x := "lap") (c := L' + 2) w2 (op_add_int (lv_cons ?_)))))))))) 
      refine ev_Subscript (ev_Tuple (lv_cons (ev_str (lv_cons (ev_str (lv_nil ⟨len_ok rfl, ?_⟩))))))
      refine ev_draw hG R' wH (by omega) (many := 2) (by decide) (fun k h => ev_local (x := "hand") h) (fun k h => ev_int h) fun q hq σ₆ m₆ H₆ => ?_
      obtain ⟨du, hdu, fdu⟩ : ∃ d, [V.str "u", V.str "v"][q]? = some d ∧ Fit d 0 := by
        have : q = 0 ∨ q = 1 := by omega
        rcases this with rfl | rfl
        · exact ⟨_, rfl, .str (by decide +kernel)⟩
        · exact ⟨_, rfl, .str (by decide +kernel)⟩
      refine op_item_tup (by omega) (by omega) hdu (lv_nil ⟨len_ok rfl, ?_⟩)
      have x1 := m₆.at1 w1 ne1
      have x2 := m₆.at1 w2 ne2
      have xF := m₆.at1 wF neF
      refine sv_cons (sv_AssignSwap (names := ["is_disj", "mult"]) R'.handled (ev_Tuple (lv_cons (ev_Compare ?_))))
      refine ev_draw hG R' H₆ (by omega) (many := 2) (by decide) (fun k h => ev_local (x := "hand") h) (fun k h => ev_int h) fun q₂ hq₂ σ₇ m₇ H₇ => ev_int (op_eq_int (lv_cons ?_))
      refine ev_Subscript (ev_Tuple (lv_cons (ev_str (lv_cons (ev_str (lv_cons (ev_str (lv_cons (ev_str (lv_nil ⟨len_ok rfl, ?_⟩))))))))))
      refine ev_draw hG R' H₇ (by omega) (many := 4) (by decide) (fun k h => ev_local (x := "hand") h) (fun k h => ev_int h) fun q₃ hq₃ σ₈ m₈ H₈ => ?_
      obtain ⟨mu, hmu, fmu⟩ : ∃ mu, [V.str "one", V.str "lone", V.str "some", V.str "set"][q₃]? = some (V.str mu) ∧ PyData.strOk mu = true := by
        have : q₃ = 0 ∨ q₃ = 1 ∨ q₃ = 2 ∨ q₃ = 3 := by omega
        rcases this with rfl | rfl | rfl | rfl <;> exact ⟨_, rfl, by decide +kernel⟩
      refine op_item_tup (by omega) (by omega) hmu (lv_nil ⟨len_ok rfl, _, rfl, rfl, ?_⟩)
      refine tl_cons (ts_bind (ts_local (tl_cons (ts_bind (ts_local (tl_nil ?_))))))
      have y1 := m₈.at1 (m₇.at1 x1 ne1) ne1
      have y2 := m₈.at1 (m₇.at1 x2 ne2) ne2
      have yF := m₈.at1 (m₇.at1 xF neF) neF
      have yM := ((wM.trans m₆).trans m₇).trans m₈
      refine sv_cons (sv_Expr (ev_MCall (ev_local (x := "found") (gm_list PySem.F.slot_list_append PySem.F.type_list_append yF ⟨.builtin _, lv_cons (ev_Tuple ?_)⟩))))
      refine lv_cons (ev_BinOp (ev_BinOp (ev_int (ev_cell (x := "number") (c := L' + 1) y1 (op_mul_int (.of_left (by decide)) (ev_cell (x := "lap") (c := L' + 2) y2 (op_add_int ?_)))))))
      refine lv_cons (ev_local (x := "is_disj") ?_)
      refine lv_cons (ev_local (x := "names") ?_)
      refine lv_cons (ev_local (x := "mult") ?_)
      refine lv_cons (ev_local (x := "node") ?_)
      refine lv_nil ⟨len_ok rfl, lv_nil (opc_append yF (by rw [List.length_map, sizeLine_eq]; omega) ⟨rfl, ?_⟩)⟩
      have neF2' : L' + 2 ≠ F := fun z => by rw [z, yF] at y2; cases y2
      have neF1' : L' + 1 ≠ F := fun z => by rw [z, yF] at y1; cases y1
      refine sv_nilK hkk ⟨⟨rfl, rfl, trivial⟩, yM.setN σF, (St.keep neF1' y1), ⟨_, (St.keep neF2' y2)⟩, ?_,
        rows ++ [⟨10 * (number : Int) + (i : Int), decide ((q₂ : Int) = 0), (List.range (m + 1)).map fun j => fname number (2 * i + j), mu, .tup [.str "name", .int (70 + (i : Int)), du]⟩], ?_, ?_, ?_⟩
      · obtain ⟨ep, pos, z1, z2, z3, z4⟩ := H₈
        exact ⟨ep, pos, by omega, z2, (St.keep neF.symm z3), (St.keep CF z4)⟩
      · rw [List.length_append, hrl]; rfl
      · intro lap hlap
        by_cases hl : lap < rows.length
        · rw [List.getElem_append_left hl]; exact hro lap hl
        · have hle : lap = i := by rw [List.length_append, List.length_singleton] at hlap; omega
          subst hle
          rw [List.getElem_append_right (by omega)]
          simp only [hrl, Nat.sub_self, List.getElem_cons_zero]
          refine ⟨⟨m + 1, by omega, by omega, rfl⟩, fmu, ?_⟩
          refine (Fit.tup (n := 0) fun d hd => ?_).le (by decide)
          simp only [List.mem_cons, List.mem_nil_iff, or_false] at hd
          rcases hd with rfl | rfl | rfl
          · exact .str (by decide +kernel)
          · exact .int _
          · exact fdu
      · rw [St.set_same, List.map_append]; rfl
  · rintro ρ₂ σ₂ ⟨hs, m₂, g1, _, H₂, rows, hrl, hro, gF⟩
    refine SV.sub (sv_cons (sv_Return (ev_Call (ev_builtin bt1 bt2 rfl ⟨_, rfl, .type _, lv_cons (ev_local (x := "found") (lv_nil (opc_tuple_list gF ?_ ?_)))⟩)))) hs
    · rw [List.length_map, sizeLine_eq]; omega
    · exact h rows ⟨by omega, hro⟩ σ₂ m₂ (H₂.up (by omega))
end
end Mine
namespace Mine
def eV (p : Str × Bool) : V := .tup [.str p.1, .bool p.2]
def letter (j : Nat) : Str := ⟨#[(("ABCDEFGH" : Str).cps[j]?).getD 0]⟩
theorem letter_at (j : Nat) (h : j < 8) : ("ABCDEFGH" : Str).cps[j]? = some ((("ABCDEFGH" : Str).cps[j]?).getD 0) := by
  have : j = 0 ∨ j = 1 ∨ j = 2 ∨ j = 3 ∨ j = 4 ∨ j = 5 ∨ j = 6 ∨ j = 7 := by omega
  rcases this with rfl | rfl | rfl | rfl | rfl | rfl | rfl | rfl <;> decide
structure ItemOk (number : Nat) (elders : List (Str × Bool)) (t : It) : Prop where
  names : ∃ m, 1 ≤ m ∧ m ≤ 2 ∧ t.names = (List.range m).map fun k => letter (elders.length + k)
  parent : t.parent = "" ∨ (t.parent, false) ∈ elders
  sub : ∀ x ∈ t.supers, x ∈ elders.map (·.1)
  nd : t.supers.Nodup
  two : t.supers.length ≤ 2
  part : t.supers ≠ [] → t.parent = "" ∧ t.abs = false
  rows : RowsOk number t.rows
  facts : ∀ d ∈ t.facts, Fit d 10
  few : t.facts.length ≤ 2
  mult : PyData.strOk t.mult = true
section
variable {G : Amb} {A : Around} {env : Env} {L : Addr} {ρ : Loc} {σ : St} {X : Value → Shared → Prop} {k : V → St → Prop}
theorem G_rows (hG : IsG G) : G.mg "_law_rows" = some (.ref 265) ∧ CK G (.ref 265) := ⟨hG.glob _ _ (by rw [hG.K]; rfl), .inr (by rw [hG.K]; rfl)⟩
theorem G_mults (hG : IsG G) : ∃ v, G.mg "_law_mults" = some v ∧ ∀ h, G.K.In h → Rep h v (.tup [.str "", .str "one", .str "lone", .str "some"]) := by
  refine ⟨.ref 253, hG.glob _ _ (by rw [hG.K]; rfl), fun h x => ?_⟩
  have hx : h.get? 253 = some (tupOf #[.str "" 507, .str "one" 508, .str "lone" 509, .str "some" 510] 0) := x _ _ (by rw [hG.K]; rfl)
  exact .tup hx (.cons (.str _ _) (.cons (.str _ _) (.cons (.str _ _) (.cons (.str _ _) .nil))))
theorem ev_globalK {x : Str} {pos : Pos} {v : Value} {d : V} (hv : G.mg x = some v) (hr : ∀ h, G.K.In h → Rep h v d) (h : k d σ) (hg : env.globals = mainGlobals := by rfl) (hk : env.scope.kind = .function := by rfl) (hl : env.kindOf x = some .globalImplicit := by rfl)
    (hd : (x == ("__debug__" : Str)) = false := by decide) : EV G A env ρ σ (.Name x pos) k X := fun s z =>
  Name_function_global hk hl (loadGlobal_global (hg ▸ G.ng.keeps z.base) hv (.here z (hr _ z.In) h)) hd
theorem ev_det2 {e : Expr} (Q : V → St → Prop) (h : EV G A env ρ σ e Q X) (hQ : ∀ d σ', Q d σ' → k d σ') : EV G A env ρ σ e k X := h.mono hQ
theorem sv_If_join {test : Expr} {body orelse : List Stmt} {pos : Pos} {k : AF → Loc → St → Prop} (Q : Loc → St → Prop)
    (h : BV G A env ρ σ (isTrue test env (eval test env)) (fun b σ' => if b = true then SV G A env ρ σ' (execs body env) (fun φ ρ' σ' => φ = .next ∧ Q ρ' σ') X else SV G A env ρ σ' (execs orelse env) (fun φ ρ' σ' => φ = .next ∧ Q ρ' σ') X) X)
    (hQ : ∀ ρ' σ', Q ρ' σ' → k .next ρ' σ') : SV G A env ρ σ (exec (.If test body orelse pos) env) k X :=
  (sv_If (k := fun φ ρ' σ' => φ = .next ∧ Q ρ' σ') h).mono fun φ ρ' σ' ⟨e, q⟩ => by subst e; exact hQ _ _ q
set_option maxHeartbeats 4000000 in
theorem c_item (hG : IsG G) {n : Nat} (R : Room A (n + 3)) {hd C Ed : Addr} {cells : List Int} {B number : Nat} {elders : List (Str × Bool)} (H : Hand σ hd C cells B) (hB : B ≤ 800000) (hnum : number < 4) (hE : σ Ed = some (.list (elders.map eV))) (hel : elders.length ≤ 6)
    (hok : ∀ p ∈ elders, PyData.strOk p.1 = true)
    (h : ∀ t, t.spot = 100 + (number : Int) → ItemOk number elders t → ∀ σ', Mod [hd] σ σ' → Hand σ' hd C cells (B + 40) → k t.V σ') : OpC G A L ρ σ (.ref 270) [.ref hd, .int number, .ref Ed] k X := by
  refine opc_fnC (f := 270) ["hand", "number", "elders"] (ρ₀ := [("hand", .ref hd)]) (by rw [hG.K]; rfl) (by rw [hG.K]; rfl) R fun L' A' env σC he R' le hc => ?_
  obtain ⟨bt1, bt2⟩ := B_tuple hG
  obtain ⟨br1, br2⟩ := B_range hG
  obtain ⟨bn1, bn2⟩ := B_len hG
  subst he
  have c1 : σC (L' + 1) = some (.cell (some (.int number))) := (hc "number" (L' + 1) (.tail _ (.head _))).1
  have c2 : σC (L' + 2) = some (.cell (some (.ref Ed))) := (hc "elders" (L' + 2) (.head _)).1
  have HC := H.le le
  have EC := le _ _ hE
  have ne1 : L' + 1 ≠ hd := HC.ne fun ep es q => by rw [c1] at q; cases q
  have ne2 : L' + 2 ≠ hd := HC.ne fun ep es q => by rw [c2] at q; cases q
  have neE : Ed ≠ hd := HC.ne fun ep es q => by rw [EC] at q; cases q
  refine sv_cons (sv_AssignSwap (names := ["parent", "supers", "way"]) R'.handled (ev_Tuple (lv_cons (ev_str (lv_cons (ev_Tuple (lv_nil ⟨by simp, lv_cons ?_⟩)))))))
  refine ev_draw hG (R'.le (by omega : n + 1 ≤ n + 2)) HC (by omega) (many := 4) (by decide) (fun k h => ev_local (x := "hand") h) (fun k h => ev_int h) fun way hway σ₁ m₁ H₁ => ?_
  refine lv_nil ⟨len_ok rfl, _, rfl, rfl, ?_⟩
  refine tl_cons (ts_bind (ts_local ?_))
  refine tl_cons (ts_bind (ts_local ?_))
  refine tl_cons (ts_bind (ts_local ?_))
  refine tl_nil ?_
  have R1 : Room A' (n + 1) := R'.le (by omega)
  have f1 : ∀ σ', Mod [hd] σC σ' → σ' (L' + 1) = some (.cell (some (.int number))) := fun σ' m => m.at1 c1 ne1
  have f2 : ∀ σ', Mod [hd] σC σ' → σ' (L' + 2) = some (.cell (some (.ref Ed))) := fun σ' m => m.at1 c2 ne2
  have fE : ∀ σ', Mod [hd] σC σ' → σ' Ed = some (.list (elders.map eV)) := fun σ' m => m.at1 EC neE
  refine sv_cons (sv_Over (default : Str × Bool) (ie_list R'.handled (ev_cell (x := "elders") (c := L' + 2) (f2 _ m₁) ⟨Ed, _, rfl, fE _ m₁, elders, eV, (fun p => !p.2), (fun p => .str p.1),
    ⟨by simp, fun i d hi => getD_map d _ _ _ (by simpa using hi), fun σ' l' => l' _ _ (fE _ m₁), by rw [sizeLine_eq]; omega, fun C₂ x σ₂ hx l₂ => ?_⟩, fun D σ₂ l₂ hD hD' => ?_⟩)))
  · refine ts_Tuple R'.handled (ds := [.str x.1, .bool x.2]) (tl_cons (ts_Name (ts_local (tl_cons (ts_Name (ts_local (tl_nil ?_)))))))
    refine qv_one (bv_Not (bv_plain (ev_local (x := "is_part") ⟨_, rfl, rfl, ?_⟩)))
    cases x.2 with
    | true => simp only [Bool.not_true, Bool.false_eq_true, if_false]; exact Le.refl _
    | false => simp only [Bool.not_false, if_true]; exact ev_local (x := "name") ⟨rfl, Le.refl _⟩
  have ew : ((elders.filter fun p => !p.2).map fun p => V.str p.1) = ((elders.filter fun p => !p.2).map (·.1)).map V.str := by rw [List.map_map]; rfl
  rw [ew] at hD'
  have hwl : ((elders.filter fun p => !p.2).map (·.1)).length ≤ 6 := by
    rw [List.length_map]; exact Nat.le_trans (List.length_filter_le _ _) hel
  have hwm : ∀ x ∈ (elders.filter fun p => !p.2).map (·.1), (x, false) ∈ elders := fun x hx => by
    obtain ⟨⟨y, b⟩, hy, rfl⟩ := List.mem_map.mp hx
    obtain ⟨h1, h2⟩ := List.mem_filter.mp hy
    cases b with
    | true => simp at h2
    | false => exact h1
  generalize (elders.filter fun p => !p.2).map (·.1) = whole at hD' hwl hwm
  have M₂ : Mod [hd] σC σ₂ := m₁.trans l₂.mod
  have H₂ := H₁.le l₂
  refine sv_cons (sv_If_join (fun ρ' σ' => ∃ p : Str, (p = "" ∨ (p, false) ∈ elders) ∧ (p ≠ "" → way = 1 ∨ way = 2) ∧ Sub [("hand", .ref hd), ("parent", .str p), ("supers", .tup []), ("way", .int way)] ρ' ∧ Mod [hd] σC σ' ∧ Hand σ' hd C cells (B + 2)) ?_ ?_)
  · skip
    refine bv_And (bv_Compare (ev_local (x := "way") (ev_Tuple (lv_cons (ev_int (lv_cons (ev_int (lv_nil ⟨len_ok rfl, op_in_ints (xs := [1, 2]) ⟨_, rfl, ?_⟩⟩))))))))
    by_cases hw : (way : Int) ∈ [(1 : Int), 2]
    · rw [decide_eq_true hw, if_pos rfl]
      have hw' : way = 1 ∨ way = 2 := by simp at hw; omega
      refine bv_And (bv_Compare (ev_local (x := "whole") (ev_List (lv_nil ⟨len_ok rfl, fun N hN => ?_⟩))))
      have lN := Le.set (o := .list []) hN
      refine op_ne_nil R1 (lN _ _ hD') (St.set_same ..) (fit_strs fun x hx => hok _ (hwm x hx)) ⟨_, rfl, ?_⟩
      cases hwh : whole with
      | nil =>
        simp only [List.map_nil, List.isEmpty_nil, Bool.not_true, Bool.false_eq_true, if_false]
        exact sv_nil ⟨rfl, "", .inl rfl, fun h => absurd rfl h, ⟨rfl, rfl, rfl, rfl, trivial⟩, M₂.trans lN.mod, (H₂.le lN).up (by omega)⟩
      | cons w0 ws =>
        rw [← hwh]
        have hpos : 0 < whole.length := by rw [hwh]; simp
        rw [show (!(whole.map V.str).isEmpty) = true from by rw [hwh]; rfl, if_pos rfl]
        refine bv_And_nil ?_
        rw [if_pos rfl]
        refine sv_cons (sv_Assign (ev_Subscript (ev_local (x := "whole") ?_)))
        refine ev_draw hG R1 (H₂.le lN) (by omega) (many := (whole.length : Nat)) (by omega) (fun k h => ev_local (x := "hand") h) (fun k h => ev_Call (ev_builtin bn1 bn2 rfl ⟨_, rfl, .builtin _, lv_cons (ev_local (x := "whole") (lv_nil (opc_len_list (lN _ _ hD') (by rw [List.length_map, sizeLine_eq]; omega) (by rw [List.length_map]; exact h))))⟩)) fun r hr σ₃ m₃ H₃ => ?_
        have hDne : D ≠ hd := H₂.ne fun ep es q => by rw [hD'] at q; cases q
        have hlt : r < whole.length := by omega
        refine op_item_list (i := (r : Int)) (d := .str whole[r]) (m₃.at1 (lN _ _ hD') hDne) (by omega) (by omega) ?_ ?_
        · show (whole.map V.str)[r]? = _
          rw [List.getElem?_map, List.getElem?_eq_getElem hlt]; rfl
        · exact sv_nil ⟨rfl, whole[r], .inr (hwm _ (List.getElem_mem hlt)), fun _ => hw', ⟨rfl, rfl, rfl, rfl, trivial⟩, (M₂.trans lN.mod).trans m₃, H₃.up (by omega)⟩
    · rw [decide_eq_false hw, if_neg (by decide), if_neg (by decide)]
      exact sv_nil ⟨rfl, "", .inl rfl, fun h => absurd rfl h, ⟨rfl, rfl, rfl, rfl, trivial⟩, M₂, H₂.up (by omega)⟩
  rintro ρ₂ σ₃ ⟨p, hp1, hp2, hs, M₃, H₃⟩
  refine SV.sub ?_ hs
  clear hs
  have fitE : ∀ d ∈ elders.map eV, Fit d 60 := fun d hd => by
    obtain ⟨q, hq, rfl⟩ := List.mem_map.mp hd
    refine (Fit.tup (n := 0) fun d hd => ?_).le (by decide)
    simp only [List.mem_cons, List.mem_nil_iff, or_false] at hd
    rcases hd with rfl | rfl
    · exact .str (hok _ hq)
    · exact .bool _
  refine sv_cons (sv_If_join (fun ρ' σ' => ∃ ss : List Str, (∀ x ∈ ss, x ∈ elders.map (·.1)) ∧ ss.Nodup ∧ ss.length ≤ 2 ∧ (ss ≠ [] → p = "") ∧ Sub [("hand", .ref hd), ("parent", .str p), ("supers", .tup (ss.map .str))] ρ' ∧ Mod [hd] σC σ' ∧ Hand σ' hd C cells (B + 4)) ?_ ?_)
  · refine bv_And (bv_Compare (ev_local (x := "way") (ev_int (op_eq_int ⟨_, rfl, ?_⟩))))
    by_cases hw : (way : Int) = 3
    · rw [decide_eq_true hw, if_pos rfl]
      have hpe : p = "" := by
        by_cases q : p = ""
        · exact q
        · rcases hp2 q with h | h <;> omega
      refine bv_And (bv_Compare (ev_cell (x := "elders") (c := L' + 2) (f2 _ M₃) (ev_List (lv_nil ⟨len_ok rfl, fun N hN => ?_⟩))))
      have lN := Le.set (o := .list []) hN
      have M₄ := M₃.trans lN.mod
      refine op_ne_nil R1 (fE _ M₄) (St.set_same ..) fitE ⟨_, rfl, ?_⟩
      cases hel0 : elders with
      | nil =>
        simp only [List.map_nil, List.isEmpty_nil, Bool.not_true, Bool.false_eq_true, if_false]
        exact sv_nil ⟨rfl, [], (fun x hx => by cases hx), .nil, by simp, (fun h => absurd rfl h), ⟨rfl, rfl, rfl, trivial⟩, M₄, (H₃.le lN).up (by omega)⟩
      | cons w0 ws =>
        rw [← hel0]
        have hpos : 0 < elders.length := by rw [hel0]; simp
        rw [show (!(elders.map eV).isEmpty) = true from by rw [hel0]; rfl, if_pos rfl]
        refine bv_And_nil ?_
        rw [if_pos rfl]
        have lenE : ∀ (ρ' : Loc) σ', Mod [hd] σC σ' → ∀ k : V → St → Prop, k (.int (elders.length : Nat)) σ' → True := fun _ _ _ _ _ => trivial
        refine sv_cons (sv_AssignSwap (names := ["first", "second"]) R'.handled (ev_Tuple (lv_cons (ev_Subscript (ev_Subscript (ev_cell (x := "elders") (c := L' + 2) (f2 _ M₄) ?_))))))
        refine ev_draw hG R1 (H₃.le lN) (by omega) (many := (elders.length : Nat)) (by omega) (fun k h => ev_local (x := "hand") h) (fun k h => ev_Call (ev_builtin bn1 bn2 rfl ⟨_, rfl, .builtin _, lv_cons (ev_cell (x := "elders") (c := L' + 2) (f2 _ M₄) (lv_nil (opc_len_list (fE _ M₄) (by rw [List.length_map, sizeLine_eq]; omega) (by rw [List.length_map]; exact h))))⟩)) fun r hr σ₅ m₅ H₅ => ?_
        have M₅ := M₄.trans m₅
        have hlt : r < elders.length := by omega
        refine op_item_list (i := (r : Int)) (d := eV elders[r]) (fE _ M₅) (by omega) (by omega) ?_ (ev_int (op_item_tup (d := .str elders[r].1) (by decide) (by decide) rfl ?_))
        · show (elders.map eV)[r]? = _
          rw [List.getElem?_map, List.getElem?_eq_getElem hlt]; rfl
        refine lv_cons (ev_Subscript (ev_Subscript (ev_cell (x := "elders") (c := L' + 2) (f2 _ M₅) ?_)))
        refine ev_draw hG R1 H₅ (by omega) (many := (elders.length : Nat)) (by omega) (fun k h => ev_local (x := "hand") h) (fun k h => ev_Call (ev_builtin bn1 bn2 rfl ⟨_, rfl, .builtin _, lv_cons (ev_cell (x := "elders") (c := L' + 2) (f2 _ M₅) (lv_nil (opc_len_list (fE _ M₅) (by rw [List.length_map, sizeLine_eq]; omega) (by rw [List.length_map]; exact h))))⟩)) fun r₂ hr₂ σ₆ m₆ H₆ => ?_
        have M₆ := M₅.trans m₆
        have hlt₂ : r₂ < elders.length := by omega
        refine op_item_list (i := (r₂ : Int)) (d := eV elders[r₂]) (fE _ M₆) (by omega) (by omega) ?_ (ev_int (op_item_tup (d := .str elders[r₂].1) (by decide) (by decide) rfl ?_))
        · show (elders.map eV)[r₂]? = _
          rw [List.getElem?_map, List.getElem?_eq_getElem hlt₂]; rfl
        refine lv_nil ⟨len_ok rfl, _, rfl, rfl, ?_⟩
        refine tl_cons (ts_bind (ts_local (tl_cons (ts_bind (ts_local (tl_nil ?_))))))
        refine sv_cons (sv_Assign (ev_IfExp (bv_Compare (ev_local (x := "first") (ev_local (x := "second") (op_eq_str ⟨_, rfl, ?_⟩))))))
        have mem1 : elders[r].1 ∈ elders.map (·.1) := List.mem_map.mpr ⟨_, List.getElem_mem hlt, rfl⟩
        have mem2 : elders[r₂].1 ∈ elders.map (·.1) := List.mem_map.mpr ⟨_, List.getElem_mem hlt₂, rfl⟩
        by_cases hq : elders[r].1 = elders[r₂].1
        · rw [decide_eq_true hq, if_pos rfl]
          refine ev_Tuple (lv_cons (ev_local (x := "first") (lv_nil ⟨len_ok rfl, ?_⟩)))
          exact sv_nil ⟨rfl, [elders[r].1], (fun x hx => by rw [List.mem_singleton.mp hx]; exact mem1), by simp, by simp, (fun _ => hpe), ⟨rfl, rfl, rfl, trivial⟩, M₆, H₆.up (by omega)⟩
        · rw [decide_eq_false hq, if_neg (by decide)]
          refine ev_Tuple (lv_cons (ev_local (x := "first") (lv_cons (ev_local (x := "second") (lv_nil ⟨len_ok rfl, ?_⟩)))))
          exact sv_nil ⟨rfl, [elders[r].1, elders[r₂].1], (fun x hx => by
            rcases List.mem_cons.mp hx with rfl | hx
            · exact mem1
            · rw [List.mem_singleton.mp hx]; exact mem2), by simp [hq], by simp, (fun _ => hpe), ⟨rfl, rfl, rfl, trivial⟩, M₆, H₆.up (by omega)⟩
    · rw [decide_eq_false hw, if_neg (by decide), if_neg (by decide)]
      exact sv_nil ⟨rfl, [], (fun x hx => by cases hx), .nil, by simp, (fun h => absurd rfl h), ⟨rfl, rfl, rfl, trivial⟩, M₃, H₃.up (by omega)⟩
  rintro ρ₃ σ₄ ⟨ss, s1, s2, s3, s4, hs, M₄, H₄⟩
  refine SV.sub ?_ hs
  clear hs
  have ssok : ∀ x ∈ ss, PyData.strOk x = true := fun x hx => by
    obtain ⟨q, hq, rfl⟩ := List.mem_map.mp (s1 x hx); exact hok _ hq
  refine sv_cons (sv_Assign (ev_Call (ev_builtin bt1 bt2 rfl ⟨_, rfl, .type _, lv_cons ?_⟩)))
  refine ev_Over (0 : Nat) (ie_range R'.handled ?_)
  refine ev_Call (ev_builtin br1 br2 rfl ⟨_, rfl, .type _, lv_cons (ev_BinOp (ev_int ?_))⟩)
  refine ev_draw hG R1 H₄ (by omega) (many := 2) (by decide) (fun k h => ev_local (x := "hand") h) (fun k h => ev_int h) fun m hm σ₅ m₅ H₅ => op_add_int ?_
  have em : (1 : Int) + (m : Int) = ((m + 1 : Nat) : Int) := by omega
  rw [em]
  have M₅ := M₄.trans m₅
  refine lv_nil (opc_range fun Rk hRk => ⟨Rk, m + 1, rfl, St.set_same .., by omega, List.range (m + 1), (fun j => .int j), (fun _ => true), (fun j => .str (letter (elders.length + j))),
    ⟨by simp, fun j d hj => by rw [getD_eq _ _ _ (by simpa using hj)]; simp, fun _ _ => trivial, by rw [List.length_range, sizeLine_eq]; omega, fun C₂ j σ₆ hj l₆ => ?_⟩, fun D₂ σ₆ l₆ hD₂ hD₂' => ?_⟩)
  · rw [List.mem_range] at hj
    have M₆ := M₅.trans ((Le.set (o := .range 0 ((m + 1 : Nat) : Int)) hRk).trans l₆).mod
    refine ts_Name (ts_local (qv_nil ⟨rfl, ?_⟩))
    rw [if_pos rfl]
    refine ev_Subscript (ev_str (ev_BinOp (ev_Call (ev_builtin bn1 bn2 rfl ⟨_, rfl, .builtin _, ?_⟩))))
    refine lv_cons (ev_cell (x := "elders") (c := L' + 2) (f2 _ M₆) (lv_nil (opc_len_list (fE _ M₆) (by rw [List.length_map, sizeLine_eq]; omega) ?_)))
    refine ev_local (x := "k") (op_add_int ?_)
    have ej : (((elders.map eV).length : Nat) : Int) + (j : Int) = ((elders.length + j : Nat) : Int) := by rw [List.length_map]; omega
    rw [ej]
    exact op_item_str (by omega) (by omega) (letter_at _ (by omega)) ⟨rfl, Le.refl _⟩
  have l₅ := (Le.set (o := .range 0 ((m + 1 : Nat) : Int)) hRk).trans l₆
  refine lv_nil (opc_tuple_list hD₂' (by rw [List.length_map, sizeLine_eq]; have := List.length_filter_le (fun _ => true) (List.range (m + 1)); rw [List.length_range] at this; omega) ?_)
  have en : ((List.range (m + 1)).filter fun _ => true).map (fun j => V.str (letter (elders.length + j))) = ((List.range (m + 1)).map fun j => letter (elders.length + j)).map V.str := by
    rw [List.filter_eq_self.mpr (fun _ _ => rfl), List.map_map]; rfl
  rw [en]
  have M₆ := M₅.trans l₅.mod
  have H₆ := H₅.le l₅
  refine sv_cons (sv_AssignSwap (names := ["is_abstract", "many"]) R'.handled (ev_Tuple (lv_cons (ev_det2 (fun d σ' => ∃ b : Bool, d = .bool b ∧ (ss ≠ [] → b = false) ∧ Mod [hd] σC σ' ∧ Hand σ' hd C cells (B + 6)) ?_ ?_))))
  · refine ev_And (ev_Compare ?_)
    refine ev_draw hG R1 H₆ (by omega) (many := 2) (by decide) (fun k h => ev_local (x := "hand") h) (fun k h => ev_int h) fun a ha σ₇ m₇ H₇ => ev_int (op_eq_int ⟨_, rfl, ?_⟩)
    by_cases qa : (a : Int) = 1
    · rw [decide_eq_true qa, if_pos rfl]
      refine ev_Compare (ev_local (x := "supers") (ev_Tuple (lv_nil ⟨len_ok rfl, op_eq_nilT R1 ((Fit.tup (n := 0) fun d hd => ?_).le (by decide)) ⟨_, rfl, ?_, M₆.trans m₇, H₇.up (by omega)⟩⟩)))
      · obtain ⟨x, hx, rfl⟩ := List.mem_map.mp hd
        exact .str (ssok x hx)
      · intro h
        cases ss with
        | nil => exact absurd rfl h
        | cons => rfl
    · rw [decide_eq_false qa, if_neg (by decide)]
      exact ⟨_, rfl, fun _ => rfl, M₆.trans m₇, H₇.up (by omega)⟩
  rintro _ σ₇ ⟨b, rfl, hb, M₇, H₇⟩
  refine lv_cons ?_
  refine ev_draw hG R1 H₇ (by omega) (many := 3) (by decide) (fun k h => ev_local (x := "hand") h) (fun k h => ev_int h) fun many hmany σ₈ m₈ H₈ => ?_
  have M₈ := M₇.trans m₈
  refine lv_nil ⟨len_ok rfl, _, rfl, rfl, ?_⟩
  refine tl_cons (ts_bind (ts_local (tl_cons (ts_bind (ts_local (tl_nil ?_))))))
  obtain ⟨mv, gm1, gm2⟩ := G_mults hG
  refine sv_cons (sv_AssignSwap (names := ["mult", "said"]) R'.handled (ev_Tuple (lv_cons (ev_Subscript (ev_globalK gm1 gm2 ?_)))))
  refine ev_draw hG R1 H₈ (by omega) (many := 4) (by decide) (fun k h => ev_local (x := "hand") h) (fun k h => ev_int h) fun q₃ hq₃ σ₉ m₉ H₉ => ?_
  have M₉ := M₈.trans m₉
  obtain ⟨mu, hmu, fmu⟩ : ∃ mu, [V.str "", V.str "one", V.str "lone", V.str "some"][q₃]? = some (V.str mu) ∧ PyData.strOk mu = true := by
    have : q₃ = 0 ∨ q₃ = 1 ∨ q₃ = 2 ∨ q₃ = 3 := by omega
    rcases this with rfl | rfl | rfl | rfl <;> exact ⟨_, rfl, by decide +kernel⟩
  refine op_item_tup (by omega) (by omega) hmu ?_
  refine lv_cons (ev_Call (ev_builtin bt1 bt2 rfl ⟨_, rfl, .type _, lv_cons ?_⟩))
  refine ev_Over (0 : Nat) (ie_range R'.handled ?_)
  refine ev_Call (ev_builtin br1 br2 rfl ⟨_, rfl, .type _, lv_cons (ev_local (x := "many") ?_)⟩)
  refine lv_nil (opc_range fun Rk₂ hRk₂ => ⟨Rk₂, many, rfl, St.set_same .., by omega, List.range many, (fun j => .int j), (fun _ => true), (fun j => .tup [.str "fact", .int number, .int j]),
    ⟨by simp, fun j d hj => by rw [getD_eq _ _ _ (by simpa using hj)]; simp, fun _ _ => trivial, by rw [List.length_range, sizeLine_eq]; omega, fun C₂ j σ₆ hj l₆ => ?_⟩, fun D₃ σ₁₀ l₁₀ hD₃ hD₃' => ?_⟩)
  · have Mx := M₉.trans ((Le.set (o := .range 0 (many : Int)) hRk₂).trans l₆).mod
    refine ts_Name (ts_local (qv_nil ⟨rfl, ?_⟩))
    rw [if_pos rfl]
    refine ev_Tuple (lv_cons (ev_str ?_))
    refine lv_cons (ev_cell (x := "number") (c := L' + 1) (f1 _ Mx) ?_)
    refine lv_cons (ev_local (x := "k") ?_)
    exact lv_nil ⟨len_ok rfl, rfl, Le.refl _⟩
  have l₉ := (Le.set (o := .range 0 (many : Int)) hRk₂).trans l₁₀
  rw [List.filter_eq_self.mpr (fun _ _ => rfl)] at hD₃'
  refine lv_nil (opc_tuple_list hD₃' (by rw [List.length_map, List.length_range, sizeLine_eq]; omega) ?_)
  have Ma := M₉.trans l₉.mod
  have Ha := H₉.le l₉
  refine lv_nil ⟨len_ok rfl, _, rfl, rfl, ?_⟩
  refine tl_cons (ts_bind (ts_local (tl_cons (ts_bind (ts_local (tl_nil ?_))))))
  obtain ⟨gr1, gr2⟩ := G_rows hG
  refine sv_cons (sv_Return (ev_Tuple (lv_cons (ev_str (lv_cons (ev_BinOp (ev_int (ev_cell (x := "number") (c := L' + 1) (f1 _ Ma) (op_add_int ?_)))))))))
  refine lv_cons (ev_local (x := "names") ?_)
  refine lv_cons (ev_local (x := "is_abstract") ?_)
  refine lv_cons (ev_local (x := "mult") ?_)
  refine lv_cons (ev_local (x := "parent") ?_)
  refine lv_cons (ev_local (x := "supers") ?_)
  refine lv_cons (ev_Call (ev_global gr1 (fun _ => .glob _ rfl) ⟨_, rfl, gr2, lv_cons (ev_local (x := "hand") ?_)⟩))
  refine lv_cons (ev_cell (x := "number") (c := L' + 1) (f1 _ Ma) (lv_nil (c_rows hG R' Ha (by omega) hnum fun rows hrows σb mb Hb => ?_)))
  refine lv_cons (ev_local (x := "said") ?_)
  refine lv_nil ⟨len_ok rfl, ?_⟩
  refine h ⟨100 + (number : Int), (List.range (m + 1)).map fun j => letter (elders.length + j), b, mu, p, ss, rows, (List.range many).map fun (j : Nat) => V.tup [.str "fact", .int number, .int j]⟩ rfl
    ⟨⟨m + 1, by omega, by omega, rfl⟩, hp1, s1, s2, s3, fun q => ⟨s4 q, hb q⟩, hrows, ?_, ?_, fmu⟩ σb ((le.mod.trans Ma).trans mb) (Hb.up (by omega))
  · intro d hd
    obtain ⟨j, _, rfl⟩ := List.mem_map.mp hd
    refine (Fit.tup (n := 0) fun d hd => ?_).le (by decide)
    simp only [List.mem_cons, List.mem_nil_iff, or_false] at hd
    rcases hd with rfl | rfl | rfl
    · exact .str (by decide +kernel)
    · exact .int _
    · exact .int _
  · show ((List.range many).map _).length ≤ 2
    rw [List.length_map, List.length_range]; omega
end
end Mine
namespace Mine
def eldOf (t : It) : List (Str × Bool) := t.names.map fun x => (x, !t.supers.isEmpty)
def eldersOf (its : List It) : List (Str × Bool) := its.flatMap eldOf
structure Chain (its : List It) : Prop where
  len : its.length ≤ 4
  ok : ∀ j (h : j < its.length), ItemOk j (eldersOf (its.take j)) its[j] ∧ its[j].spot = 100 + (j : Int)
def opnOf (number : Nat) (sig : Str) : Item := .opn (90 + (number : Int)) sig (if number = 0 then "" else "o")
structure Drawn (found : List Item) (its : List It) (sigs : List Str) : Prop where
  chain : Chain its
  one : 1 ≤ its.length
  sin : ∀ x ∈ sigs, x ∈ (eldersOf its).map (·.1)
  slen : sigs.length ≤ 2
  perm : found.Perm (its.map .sig ++ (List.range sigs.length).map (fun i => opnOf i (sigs.getD i "")) ++ [.other 80])
theorem letter_ok (j : Nat) (h : j < 8) : PyData.strOk (letter j) = true := by
  have : j = 0 ∨ j = 1 ∨ j = 2 ∨ j = 3 ∨ j = 4 ∨ j = 5 ∨ j = 6 ∨ j = 7 := by omega
  rcases this with rfl | rfl | rfl | rfl | rfl | rfl | rfl | rfl <;> decide +kernel
theorem letter_inj {i j : Nat} (hi : i < 8) (hj : j < 8) (h : letter i = letter j) : i = j := by
  have a : ∀ i, i < 8 → ∀ j, j < 8 → letter i = letter j → i = j := by decide +kernel
  exact a i hi j hj h
theorem letter_ne (j : Nat) (h : j < 8) : letter j ≠ "" := by
  have a : ∀ j, j < 8 → letter j ≠ "" := by decide +kernel
  exact a j h
theorem Chain.take {its : List It} (c : Chain its) (i : Nat) : Chain (its.take i) := ⟨Nat.le_trans (mem_take_len its i) c.len, fun j h => by
  have hj : j < its.length := Nat.lt_of_lt_of_le h (mem_take_len its i)
  have hji : j < i := by rw [List.length_take] at h; omega
  have := c.ok j hj
  rw [List.getElem_take, List.take_take, Nat.min_eq_left (Nat.le_of_lt hji)]
  exact this⟩
theorem elders_take {its : List It} {i : Nat} (h : i < its.length) : eldersOf (its.take (i + 1)) = eldersOf (its.take i) ++ eldOf its[i] := by
  unfold eldersOf
  rw [List.take_add_one, List.getElem?_eq_getElem h, List.flatMap_append]
  simp only [Option.toList_some, List.flatMap_cons, List.flatMap_nil, List.append_nil]
theorem Chain.keys : ∀ {its : List It}, Chain its → ∀ i, i ≤ its.length → ∃ m, m ≤ 2 * i ∧ (eldersOf (its.take i)).map (·.1) = (List.range m).map letter := by
  intro its c i
  induction i with
  | zero => intro _; exact ⟨0, by omega, rfl⟩
  | succ i ih =>
    intro hi
    obtain ⟨m, hm, e⟩ := ih (by omega)
    obtain ⟨n, h1, h2, hn⟩ := (c.ok i (by omega)).1.names
    have hl : (eldersOf (its.take i)).length = m := by have := congrArg List.length e; simpa using this
    refine ⟨m + n, by omega, ?_⟩
    rw [elders_take (by omega), List.map_append, e]
    have e2 : (eldOf its[i]).map (·.1) = (List.range n).map fun k => letter (m + k) := by
      unfold eldOf; rw [List.map_map, hn, hl, List.map_map]; rfl
    rw [e2, List.range_add, List.map_append, List.map_map]; rfl
theorem Chain.eld_len {its : List It} (c : Chain its) : (eldersOf its).length ≤ 2 * its.length := by
  obtain ⟨m, hm, e⟩ := c.keys its.length (Nat.le_refl _)
  rw [List.take_length] at e
  have := congrArg List.length e
  simp at this; omega
theorem Chain.eld_mem {its : List It} (c : Chain its) {x : Str} (h : x ∈ (eldersOf its).map (·.1)) : ∃ j, j < 8 ∧ x = letter j := by
  obtain ⟨m, hm, e⟩ := c.keys its.length (Nat.le_refl _)
  rw [List.take_length] at e
  rw [e] at h
  obtain ⟨j, hj, rfl⟩ := List.mem_map.mp h
  rw [List.mem_range] at hj
  have := c.len
  exact ⟨j, by omega, rfl⟩
theorem Chain.eld_ok {its : List It} (c : Chain its) {x : Str} (h : x ∈ (eldersOf its).map (·.1)) : PyData.strOk x = true := by
  obtain ⟨j, hj, rfl⟩ := c.eld_mem h
  exact letter_ok j hj
theorem eld_sub {its : List It} {i : Nat} {x : Str} (h : x ∈ (eldersOf (its.take i)).map (·.1)) : x ∈ (eldersOf its).map (·.1) := by
  unfold eldersOf at *
  conv => rw [← List.take_append_drop i its, List.flatMap_append, List.map_append]
  exact List.mem_append.mpr (.inl h)
theorem fname_ok (number j : Nat) (h : number < 4) (hj : j < 4) : PyData.strOk (fname number j) = true := by
  have a : ∀ n, n < 4 → ∀ j, j < 4 → PyData.strOk (fname n j) = true := by decide +kernel
  exact a number h j hj
theorem fit_sig {its : List It} (c : Chain its) {j : Nat} (h : j < its.length) : Fit (its[j]).V 60 := by
  obtain ⟨o, _⟩ := c.ok j h
  have hl := c.len
  have ct := c.take (j + 1)
  have mine : ∀ x ∈ its[j].names, PyData.strOk x = true := fun x hx => by
    refine c.eld_ok (eld_sub (i := j + 1) ?_)
    rw [elders_take h, List.map_append]
    refine List.mem_append.mpr (.inr ?_)
    unfold eldOf; rw [List.map_map]
    exact List.mem_map.mpr ⟨x, hx, rfl⟩
  have par : PyData.strOk its[j].parent = true := by
    rcases o.parent with e | e
    · rw [e]; decide +kernel
    · exact c.eld_ok (eld_sub (i := j) (List.mem_map.mpr ⟨_, e, rfl⟩))
  have sups : ∀ x ∈ its[j].supers, PyData.strOk x = true := fun x hx => c.eld_ok (eld_sub (i := j) (o.sub x hx))
  refine (Fit.tup (n := 20) fun d hd => ?_).le (by decide)
  simp only [List.mem_cons, List.mem_nil_iff, or_false] at hd
  rcases hd with rfl | rfl | rfl | rfl | rfl | rfl | rfl | rfl | rfl
  · exact .str (by decide +kernel)
  · exact .int _
  · exact (Fit.tup (n := 0) fun d hd => by obtain ⟨x, hx, rfl⟩ := List.mem_map.mp hd; exact .str (mine x hx)).le (by decide)
  · exact .bool _
  · exact .str o.mult
  · exact .str par
  · exact (Fit.tup (n := 0) fun d hd => by obtain ⟨x, hx, rfl⟩ := List.mem_map.mp hd; exact .str (sups x hx)).le (by decide)
  · refine (Fit.tup (n := 11) fun d hd => ?_).le (by decide)
    obtain ⟨r, hr, rfl⟩ := List.mem_map.mp hd
    obtain ⟨lap, hlap, e⟩ := List.getElem_of_mem hr
    obtain ⟨r1, r2⟩ := o.rows
    have ro := r2 lap hlap
    rw [e] at ro
    obtain ⟨m, m1, m2, hn⟩ := ro.names
    refine (Fit.tup (n := 10) fun d hd => ?_)
    simp only [List.mem_cons, List.mem_nil_iff, or_false] at hd
    rcases hd with rfl | rfl | rfl | rfl | rfl
    · exact .int _
    · exact .bool _
    · refine (Fit.tup (n := 0) fun d hd => ?_).le (by decide)
      rw [hn] at hd
      obtain ⟨x, hx, rfl⟩ := List.mem_map.mp hd
      obtain ⟨q, hq, rfl⟩ := List.mem_map.mp hx
      rw [List.mem_range] at hq
      exact .str (fname_ok _ _ (by omega) (by omega))
    · exact .str ro.mult
    · exact ro.node
  · exact (Fit.tup (n := 10) o.facts).le (by decide)
theorem fit_opn (i : Nat) (x : Str) (h : PyData.strOk x = true) : Fit (opnOf i x).V 60 := by
  refine (Fit.tup (n := 1) fun d hd => ?_).le (by decide)
  simp only [List.mem_cons, List.mem_nil_iff, or_false] at hd
  rcases hd with rfl | rfl | rfl | rfl | rfl
  · exact .str (by decide +kernel)
  · exact .int _
  · exact .str (by decide +kernel)
  · refine Fit.tup (n := 0) fun d hd => ?_
    rw [List.mem_singleton.mp hd]; exact .str h
  · refine .str ?_
    split <;> decide +kernel
theorem fit_other : Fit (Item.other 80).V 60 := by
  refine (Fit.tup (n := 1) fun d hd => ?_).le (by decide)
  simp only [List.mem_cons, List.mem_nil_iff, or_false] at hd
  rcases hd with rfl | rfl | rfl | rfl
  · exact .str (by decide +kernel)
  · exact .int _
  · exact .str (by decide +kernel)
  · exact (Fit.tup (n := 0) fun d hd => by cases hd)
end Mine
namespace Mine
section
variable {G : Amb} {A : Around} {env : Env} {L : Addr} {ρ : Loc} {σ : St} {X : Value → Shared → Prop} {k : V → St → Prop}
theorem G_item (hG : IsG G) : G.mg "_law_item" = some (.ref 270) ∧ CK G (.ref 270) := ⟨hG.glob _ _ (by rw [hG.K]; rfl), .inr (by rw [hG.K]; rfl)⟩
theorem erase_perm {α : Type} : ∀ (l : List α) (i : Nat) (h : i < l.length), ([l[i]] ++ l.eraseIdx i).Perm l
  | [], i, h => by simp at h
  | a :: r, 0, _ => by simp
  | a :: r, i + 1, h => by
    have hi : i < r.length := by simpa using h
    have ih := erase_perm r i hi
    simp only [List.getElem_cons_succ, List.eraseIdx_cons_succ, List.cons_append, List.nil_append] at ih ⊢
    exact (List.Perm.swap a r[i] _).trans (ih.cons a)
def restOf (its : List It) (sigs : List Str) : List Item := its.map .sig ++ (List.range sigs.length).map (fun i => opnOf i (sigs.getD i ""))
theorem rest_snoc (its : List It) (sigs : List Str) (x : Str) : restOf its (sigs ++ [x]) = restOf its sigs ++ [opnOf sigs.length x] := by
  unfold restOf
  rw [List.length_append, List.length_singleton, List.range_succ, List.map_append, ← List.append_assoc]
  congr 1
  · congr 1
    apply List.map_congr_left
    intro i hi
    rw [List.mem_range] at hi
    rw [List.getD_eq_getElem?_getD, List.getD_eq_getElem?_getD, List.getElem?_append_left hi]
  · simp [List.getD_eq_getElem?_getD]
set_option maxHeartbeats 4000000 in
theorem c_model (hG : IsG G) {n : Nat} (R : Room A (n + 4)) {hd C : Addr} {cells : List Int} {B : Nat} (H : Hand σ hd C cells B) (hB : B ≤ 700000)
    (h : ∀ D σ' found its sigs, Mod [hd] σ σ' → σ D = none → σ' D = some (.list (found.map Item.V)) → Drawn found its sigs → k (.ref D) σ') : OpC G A L ρ σ (.ref 275) [.ref hd] k X := by
  refine opc_fnC (f := 275) ["hand"] (ρ₀ := [("hand", .ref hd)]) (by rw [hG.K]; rfl) (by rw [hG.K]; rfl) R fun L' A' env σC he R' le hc => ?_
  obtain ⟨br1, br2⟩ := B_range hG
  obtain ⟨bn1, bn2⟩ := B_len hG
  obtain ⟨gi1, gi2⟩ := G_item hG
  subst he
  have c1 : σC (L' + 1) = some (.cell none) := (hc "item" (L' + 1) (.head _)).1
  have n1 : σ (L' + 1) = none := (hc "item" (L' + 1) (.head _)).2
  have HC := H.le le
  have R1 : Room A' (n + 1) := R'.le (by omega)
  have lf : ∀ a, σC a = none → σ a = none := fun a q => by
    cases e : σ a with
    | none => rfl
    | some o => rw [le _ _ e] at q; cases q
  refine sv_cons (sv_AssignSwap (names := ["items", "elders", "found"]) R'.handled (ev_Tuple (lv_cons (ev_List (lv_nil ⟨len_ok rfl, fun I hI => ?_⟩)))))
  refine lv_cons (ev_List (lv_nil ⟨len_ok rfl, fun E hE => ?_⟩))
  refine lv_cons (ev_List (lv_nil ⟨len_ok rfl, fun F hF => ?_⟩))
  refine lv_nil ⟨len_ok rfl, _, rfl, rfl, ?_⟩
  refine tl_cons (ts_bind (ts_local ?_))
  refine tl_cons (ts_bind (ts_local ?_))
  refine tl_cons (ts_bind (ts_local ?_))
  refine tl_nil ?_
  have l1 := Le.set (o := .list []) hI
  have l2 := Le.set (o := .list []) hE
  have l3 := Le.set (o := .list []) hF
  have hIE : I ≠ E := fun q => by rw [q, St.set_same] at hE; cases hE
  have hEF : E ≠ F := fun q => by rw [q, St.set_same] at hF; cases hF
  have hIF : I ≠ F := fun q => by have h := l2 _ _ (St.set_same σC I (.list [])); rw [q] at h hF; rw [hF] at h; cases h
  rw [St.set_ne _ _ hIE.symm] at hE
  rw [St.set_ne _ _ hEF.symm, St.set_ne _ _ hIF.symm] at hF
  have σI := lf _ hI
  have σE := lf _ hE
  have σF := lf _ hF
  have lA := (l1.trans l2).trans l3
  have aI := l3 _ _ (l2 _ _ (St.set_same σC I (.list [])))
  have aE := l3 _ _ (St.set_same (σC.set I (.list [])) E (.list []))
  have aF := St.set_same ((σC.set I (.list [])).set E (.list [])) F (.list [])
  have a1 := lA _ _ c1
  have HA := HC.le lA
  have MA : Mod [hd] σ (((σC.set I (.list [])).set E (.list [])).set F (.list [])) := (le.trans lA).mod
  generalize ((σC.set I (.list [])).set E (.list [])).set F (.list []) = σ₀ at *
  have neI : I ≠ hd := HA.ne fun ep es q => by rw [aI] at q; cases q
  have neF : F ≠ hd := HA.ne fun ep es q => by rw [aF] at q; cases q
  have ne1 : L' + 1 ≠ hd := HA.ne fun ep es q => by rw [a1] at q; cases q
  have I1 : I ≠ L' + 1 := fun q => by rw [q, a1] at aI; cases aI
  have F1 : F ≠ L' + 1 := fun q => by rw [q, a1] at aF; cases aF
  have hdC : ∀ a, σC a = none → C ≠ a := fun a q z => by obtain ⟨_, _, _, _, _, h4⟩ := HC; rw [z, q] at h4; cases h4
  have CI := hdC _ hI
  have CF := hdC _ hF
  have C1 : C ≠ L' + 1 := fun z => by obtain ⟨_, _, _, _, _, h4⟩ := HC; rw [z, c1] at h4; cases h4
  have keepH : ∀ (a : Addr) (o : AObj) (σ' : St) (Bx : Nat), a ≠ hd → C ≠ a → Hand σ' hd C cells Bx → Hand (σ'.set a o) hd C cells Bx := fun a o σ' Bx h1 h2 ⟨ep, pos, z1, z2, z3, z4⟩ =>
    ⟨ep, pos, z1, z2, (St.keep h1.symm z3), (St.keep h2 z4)⟩
  refine sv_cons (sv_For PassesOwn.never (ie_range R'.handled ?_))
  refine ev_Call (ev_builtin br1 br2 rfl ⟨_, rfl, .type _, lv_cons (ev_BinOp (ev_int ?_))⟩)
  refine ev_draw hG R1 HA (by omega) (many := 4) (by decide) (fun k h => ev_local (x := "hand") h) (fun k h => ev_int h) fun r hr σ₁ m₁ H₁ => op_add_int ?_
  have er : (1 : Int) + (r : Int) = ((r + 1 : Nat) : Int) := by omega
  rw [er]
  refine lv_nil (opc_range fun Rg hRg => ⟨Rg, r + 1, rfl, St.set_same .., by omega, ?_⟩)
  have lR := Le.set (o := .range 0 ((r + 1 : Nat) : Int)) hRg
  refine ⟨fun i ρ' σ' => ∃ Ed its, Chain its ∧ its.length = i ∧ Sub [("hand", .ref hd), ("items", .ref I), ("elders", .ref Ed), ("found", .ref F)] ρ' ∧ Mod [hd] σ σ' ∧ σ Ed = none ∧ Ed ≠ I ∧ Ed ≠ F ∧ (∃ d, σ' (L' + 1) = some (.cell d)) ∧ Hand σ' hd C cells (B + 1 + 45 * i) ∧
      σ' I = some (.list ((its.map Item.sig).map Item.V)) ∧ σ' Ed = some (.list ((eldersOf its).map eV)) ∧ σ' F = some (.list []),
    ⟨E, [], ⟨by simp, fun j h => by simp at h⟩, rfl, ⟨rfl, rfl, rfl, rfl, trivial⟩, (MA.trans m₁).trans lR.mod, σE, hIE.symm, hEF, ⟨_, lR _ _ (m₁.at1 a1 ne1)⟩, H₁.le lR, lR _ _ (m₁.at1 aI neI), lR _ _ (m₁.at1 aE (HA.ne fun ep es q => by rw [aE] at q; cases q)), lR _ _ (m₁.at1 aF neF)⟩, fun _ _ _ _ => trivial, ?_, ?_⟩
  · rintro i ρ₂ σ₂ hi ⟨Ed, its, ch, hil, hs, m₂, σEd, EdI, EdF, ⟨d, g1⟩, H₂, gI, gE, gF⟩
    refine TS.sub ?_ hs
    have hel := ch.eld_len
    refine ts_Name (ts_local (gen_k fun kk hkk => ?_))
    refine sv_cons (sv_AssignCell (c := L' + 1) (ev_Call (ev_global gi1 (fun _ => .glob _ rfl) ⟨_, rfl, gi2, lv_cons (ev_local (x := "hand") ?_)⟩)))
    refine lv_cons (ev_local (x := "number") (lv_cons (ev_local (x := "elders") (lv_nil ?_))))
    refine c_item hG R' H₂ (by omega) (number := i) (by omega) gE (by omega) (fun p hp => ch.eld_ok (List.mem_map.mpr ⟨p, hp, rfl⟩)) fun t ht ok σ₃ m₃ H₃ => ⟨⟨_, m₃.at1 g1 ne1⟩, ?_⟩
    have Ed1 : Ed ≠ L' + 1 := fun q => by rw [q, g1] at gE; cases gE
    have EdH : Ed ≠ hd := H₂.ne fun ep es q => by rw [gE] at q; cases q
    have p1 : (σ₃.set (L' + 1) (.cell (some t.V))) (L' + 1) = some (.cell (some t.V)) := St.set_same ..
    have pI : (σ₃.set (L' + 1) (.cell (some t.V))) I = some (.list ((its.map Item.sig).map Item.V)) := St.keep I1 (m₃.at1 gI neI)
    have pE : (σ₃.set (L' + 1) (.cell (some t.V))) Ed = some (.list ((eldersOf its).map eV)) := St.keep Ed1 (m₃.at1 gE EdH)
    have pF : (σ₃.set (L' + 1) (.cell (some t.V))) F = some (.list []) := St.keep F1 (m₃.at1 gF neF)
    have pM : Mod [hd] σ (σ₃.set (L' + 1) (.cell (some t.V))) := (m₂.trans m₃).setN n1
    have pH := keepH (L' + 1) (.cell (some t.V)) _ _ ne1 C1 H₃
    generalize σ₃.set (L' + 1) (.cell (some t.V)) = σ₄ at *
    refine sv_cons (sv_Expr (ev_MCall (ev_local (x := "items") (gm_list PySem.F.slot_list_append PySem.F.type_list_append pI ⟨.builtin _, lv_cons (ev_cell (x := "item") (c := L' + 1) p1 (lv_nil (opc_append pI ?_ ⟨rfl, ?_⟩)))⟩))))
    · rw [List.length_map, List.length_map, sizeLine_eq]; omega
    have qI : (σ₄.set I (.list ((its.map Item.sig).map Item.V ++ [t.V]))) I = some (.list (((its ++ [t]).map Item.sig).map Item.V)) := by rw [St.set_same]; simp [Item.V]
    have q1 : (σ₄.set I (.list ((its.map Item.sig).map Item.V ++ [t.V]))) (L' + 1) = some (.cell (some t.V)) := St.keep I1.symm p1
    have qE : (σ₄.set I (.list ((its.map Item.sig).map Item.V ++ [t.V]))) Ed = some (.list ((eldersOf its).map eV)) := St.keep EdI pE
    have qF : (σ₄.set I (.list ((its.map Item.sig).map Item.V ++ [t.V]))) F = some (.list []) := St.keep hIF.symm pF
    have qM := pM.setN (o := .list ((its.map Item.sig).map Item.V ++ [t.V])) σI
    have qH := keepH I (.list ((its.map Item.sig).map Item.V ++ [t.V])) _ _ neI CI pH
    generalize σ₄.set I (.list ((its.map Item.sig).map Item.V ++ [t.V])) = σ₅ at *
    refine sv_cons (sv_Assign (ev_BinOp (ev_local (x := "elders") ?_)))
    refine ev_Over (default : Str) (ie_tup R'.handled (ev_Subscript (ev_cell (x := "item") (c := L' + 1) q1 (ev_int (op_item_tup (d := .tup (t.names.map .str)) (by decide) (by decide) rfl ⟨_, rfl,
      t.names, V.str, (fun _ => true), (fun x => eV (x, !t.supers.isEmpty)), ⟨by simp, fun j d hj => getD_map d _ _ _ (by simpa using hj), fun _ _ => trivial, ?_, fun C₂ x σ₆ hx l₆ => ?_⟩, fun D σ₆ l₆ hD hD' => ?_⟩)))))
    · obtain ⟨m, h1, h2, hn⟩ := ok.names
      rw [hn, List.length_map, List.length_range, sizeLine_eq]; omega
    · refine ts_Name (ts_local (qv_nil ⟨rfl, ?_⟩))
      rw [if_pos rfl]
      refine ev_Tuple (lv_cons (ev_local (x := "name") (lv_cons (ev_Compare ?_))))
      refine ev_Subscript (ev_cell (x := "item") (c := L' + 1) (l₆ _ _ q1) (ev_int (op_item_tup (d := .tup (t.supers.map .str)) (by decide) (by decide) rfl ?_)))
      refine ev_Tuple (lv_nil ⟨len_ok rfl, op_ne_nilT R' ((Fit.tup (n := 0) fun d hd => ?_).le (by decide)) (lv_nil ⟨len_ok rfl, ?_, Le.refl _⟩)⟩)
      · obtain ⟨y, hy, rfl⟩ := List.mem_map.mp hd
        exact .str (ch.eld_ok (ok.sub y hy))
      · unfold eV; rw [List.isEmpty_map]
    · rw [List.filter_eq_self.mpr (fun _ _ => rfl)] at hD'
      have eD : (t.names.map fun x => eV (x, !t.supers.isEmpty)) = (eldOf t).map eV := by unfold eldOf; rw [List.map_map]; rfl
      rw [eD] at hD'
      have hlt : (eldOf t).length ≤ 2 := by
        obtain ⟨m, h1, h2, hn⟩ := ok.names
        unfold eldOf; rw [List.length_map, hn, List.length_map, List.length_range]; omega
      refine op_add_list (l₆ _ _ qE) hD' (by rw [List.length_map, List.length_map, sizeLine_eq]; omega) fun N hN => sv_nilK hkk ?_
      have lN := Le.set (o := .list ((eldersOf its).map eV ++ (eldOf t).map eV)) hN
      have l7 := l₆.trans lN
      have ch' : Chain (its ++ [t]) := ⟨by rw [List.length_append, List.length_singleton]; omega, fun j hj => by
        rw [List.length_append, List.length_singleton] at hj
        by_cases z : j < its.length
        · rw [List.getElem_append_left z, List.take_append_of_le_length (Nat.le_of_lt z)]
          exact ch.ok j z
        · have : j = i := by omega
          subst this
          rw [List.getElem_append_right (by omega)]
          have e0 : (its ++ [t]).take j = its := by rw [← hil]; simp
          rw [e0]
          simp only [hil, Nat.sub_self, List.getElem_cons_zero]
          exact ⟨ok, ht⟩⟩
      have σN : σ N = none := by
        cases q : σ N with
        | none => rfl
        | some o =>
          by_cases z : N = hd
          · have HN := (qH.le l₆)
            obtain ⟨_, _, _, _, h3, _⟩ := HN
            rw [← z, hN] at h3; cases h3
          · have := (qM.trans l₆.mod) N o (by simp; exact z) q
            rw [hN] at this; cases this
      refine ⟨N, its ++ [t], ch', by rw [List.length_append, hil]; rfl, ⟨rfl, rfl, rfl, rfl, trivial⟩, qM.trans l7.mod, σN, ?_, ?_, ⟨_, l7 _ _ q1⟩, (qH.le l7).up (by omega), l7 _ _ qI, ?_, l7 _ _ qF⟩
      · intro z; have := l₆ _ _ qI; rw [← z, hN] at this; cases this
      · intro z; have := l₆ _ _ qF; rw [← z, hN] at this; cases this
      · rw [St.set_same]; simp [eldersOf]
  rintro ρ₂ σ₂ ⟨Ed, its, ch, hil, hs, m₂, σEd, EdI, EdF, ⟨d, g1⟩, H₂, gI, gE, gF⟩
  refine SV.sub ?_ hs
  clear hs
  have hel := ch.eld_len
  have hpos : 0 < (eldersOf its).length := by
    have h1 : 0 < its.length := by omega
    obtain ⟨m, q1, q2, hn⟩ := (ch.ok 0 h1).1.names
    have e : eldersOf its = eldersOf (its.take (0 + 1)) ++ eldersOf (its.drop 1) := by
      unfold eldersOf; rw [← List.flatMap_append, List.take_append_drop]
    rw [e, elders_take h1, List.length_append, List.length_append]
    have : (eldOf its[0]).length = m := by unfold eldOf; rw [List.length_map, hn, List.length_map, List.length_range]
    omega
  have EdH : Ed ≠ hd := H₂.ne fun ep es q => by rw [gE] at q; cases q
  refine sv_cons (sv_For PassesOwn.never (ie_range R'.handled ?_))
  refine ev_Call (ev_builtin br1 br2 rfl ⟨_, rfl, .type _, lv_cons ?_⟩)
  refine ev_draw hG R1 H₂ (by omega) (many := 3) (by decide) (fun k h => ev_local (x := "hand") h) (fun k h => ev_int h) fun r₂ hr₂ σ₃ m₃ H₃ => ?_
  refine lv_nil (opc_range fun Rg₂ hRg₂ => ⟨Rg₂, r₂, rfl, St.set_same .., by omega, ?_⟩)
  have lR₂ := Le.set (o := .range 0 (r₂ : Int)) hRg₂
  refine ⟨fun i ρ' σ' => ∃ sigs : List Str, sigs.length = i ∧ (∀ x ∈ sigs, x ∈ (eldersOf its).map (·.1)) ∧ Sub [("hand", .ref hd), ("items", .ref I), ("elders", .ref Ed), ("found", .ref F)] ρ' ∧ Mod [hd] σ σ' ∧ Hand σ' hd C cells (B + 190 + 2 * i) ∧
      σ' I = some (.list ((restOf its sigs).map Item.V)) ∧ σ' Ed = some (.list ((eldersOf its).map eV)) ∧ σ' F = some (.list []),
    ⟨[], rfl, (fun x hx => by cases hx), ⟨rfl, rfl, rfl, rfl, trivial⟩, (m₂.trans m₃).trans lR₂.mod, (H₃.le lR₂).up (by omega), ?_, lR₂ _ _ (m₃.at1 gE EdH), lR₂ _ _ (m₃.at1 gF neF)⟩, fun _ _ _ _ => trivial, ?_, ?_⟩
  · have := lR₂ _ _ (m₃.at1 gI neI)
    rw [this]; simp [restOf]
  · rintro i ρ₃ σ₄ hi ⟨sigs, hsl, hsin, hs, m₄, H₄, kI, kE, kF⟩
    refine TS.sub ?_ hs
    refine ts_Name (ts_local (gen_k fun kk hkk => ?_))
    refine sv_cons (sv_Assign (ev_Subscript (ev_Subscript (ev_local (x := "elders") ?_))))
    refine ev_draw hG R1 H₄ (by omega) (many := ((eldersOf its).length : Nat)) (by omega) (fun k h => ev_local (x := "hand") h) (fun k h => ev_Call (ev_builtin bn1 bn2 rfl ⟨_, rfl, .builtin _, lv_cons (ev_local (x := "elders") (lv_nil (opc_len_list kE (by rw [List.length_map, sizeLine_eq]; omega) (by rw [List.length_map]; exact h))))⟩)) fun a ha σ₅ m₅ H₅ => ?_
    have hlt : a < (eldersOf its).length := by omega
    refine op_item_list (i := (a : Int)) (d := eV (eldersOf its)[a]) (m₅.at1 kE EdH) (by omega) (by omega) ?_ (ev_int (op_item_tup (d := .str (eldersOf its)[a].1) (by decide) (by decide) rfl ?_))
    · show ((eldersOf its).map eV)[a]? = _
      rw [List.getElem?_map, List.getElem?_eq_getElem hlt]; rfl
    have pI := m₅.at1 kI neI
    have hxin : (eldersOf its)[a].1 ∈ (eldersOf its).map (·.1) := List.mem_map.mpr ⟨_, List.getElem_mem hlt, rfl⟩
    generalize (eldersOf its)[a].1 = x at hxin ⊢
    have hrl : (restOf its sigs).length ≤ 10 := by unfold restOf; rw [List.length_append, List.length_map, List.length_map, List.length_range]; omega
    refine sv_cons (sv_Expr (ev_MCall (ev_local (x := "items") (gm_list PySem.F.slot_list_append PySem.F.type_list_append pI ⟨.builtin _, lv_cons (ev_Tuple ?_)⟩))))
    refine lv_cons (ev_str (lv_cons (ev_BinOp (ev_int (ev_local (x := "number") (op_add_int ?_))))))
    refine lv_cons (ev_str (lv_cons (ev_Tuple (lv_cons (ev_local (x := "sig") (lv_nil ⟨len_ok rfl, ?_⟩))))))
    refine lv_cons (ev_Subscript (ev_Tuple (lv_cons (ev_str (lv_cons (ev_str (lv_nil ⟨len_ok rfl, ?_⟩)))))))
    refine ev_local (x := "number") ?_
    have hi2 : i < 2 := by omega
    refine op_item_tup (d := .str (if i = 0 then "" else "o")) (by omega) (by omega) ?_ ?_
    · have : i = 0 ∨ i = 1 := by omega
      rcases this with rfl | rfl <;> rfl
    refine lv_nil ⟨len_ok rfl, lv_nil (opc_append pI (by rw [List.length_map, sizeLine_eq]; omega) ⟨rfl, ?_⟩)⟩
    have eo : V.tup [V.str "open", V.int (90 + (i : Int)), V.str "util/ordering", V.tup [V.str x], V.str (if i = 0 then "" else "o")] = (opnOf sigs.length x).V := by rw [hsl]; rfl
    refine sv_nilK hkk ⟨sigs ++ [x], by rw [List.length_append, hsl]; rfl, ?_, ⟨rfl, rfl, rfl, rfl, trivial⟩, (m₄.trans m₅).setN σI, (keepH I _ _ _ neI CI H₅).up (by omega), ?_, ?_, ?_⟩
    · intro y hy
      rcases List.mem_append.mp hy with hy | hy
      · exact hsin y hy
      · rw [List.mem_singleton.mp hy]; exact hxin
    · rw [St.set_same, rest_snoc, List.map_append, eo]; rfl
    · rw [St.set_ne _ _ EdI]; exact m₅.at1 kE EdH
    · rw [St.set_ne _ _ hIF.symm]; exact m₅.at1 kF neF
  rintro ρ₃ σ₄ ⟨sigs, hsl, hsin, hs, m₄, H₄, kI, kE, kF⟩
  refine SV.sub ?_ hs
  clear hs
  have hrl : (restOf its sigs).length ≤ 10 := by unfold restOf; rw [List.length_append, List.length_map, List.length_map, List.length_range]; omega
  refine sv_cons (sv_Expr (ev_MCall (ev_local (x := "items") (gm_list PySem.F.slot_list_append PySem.F.type_list_append kI ⟨.builtin _, lv_cons (ev_Tuple ?_)⟩))))
  refine lv_cons (ev_str (lv_cons (ev_int (lv_cons (ev_str (lv_cons (ev_Tuple (lv_nil ⟨by simp, lv_nil ⟨len_ok rfl, ?_⟩⟩))))))))
  refine lv_nil (opc_append kI (by rw [List.length_map, sizeLine_eq]; omega) ⟨rfl, ?_⟩)
  have fI : (σ₄.set I (.list ((restOf its sigs).map Item.V ++ [V.tup [V.str "fact", V.int 80, V.str "", V.tup []]]))) I = some (.list ((restOf its sigs ++ [Item.other 80]).map Item.V)) := by rw [St.set_same, List.map_append]; rfl
  have fF : (σ₄.set I (.list ((restOf its sigs).map Item.V ++ [V.tup [V.str "fact", V.int 80, V.str "", V.tup []]]))) F = some (.list []) := St.keep hIF.symm kF
  have fM := m₄.setN (o := .list ((restOf its sigs).map Item.V ++ [V.tup [V.str "fact", V.int 80, V.str "", V.tup []]])) σI
  have fH := keepH I (.list ((restOf its sigs).map Item.V ++ [V.tup [V.str "fact", V.int 80, V.str "", V.tup []]])) _ _ neI CI H₄
  generalize σ₄.set I (.list ((restOf its sigs).map Item.V ++ [V.tup [V.str "fact", V.int 80, V.str "", V.tup []]])) = σ₅ at *
  have hfit : ∀ x ∈ restOf its sigs ++ [Item.other 80], Fit x.V 60 := fun x hx => by
    rcases List.mem_append.mp hx with hx | hx
    · unfold restOf at hx
      rcases List.mem_append.mp hx with hx | hx
      · obtain ⟨t, ht, rfl⟩ := List.mem_map.mp hx
        obtain ⟨j, hj, rfl⟩ := List.getElem_of_mem ht
        exact fit_sig ch hj
      · obtain ⟨j, hj, rfl⟩ := List.mem_map.mp hx
        rw [List.mem_range] at hj
        refine fit_opn _ _ ?_
        rw [getD_eq _ _ _ hj]
        exact ch.eld_ok (hsin _ (List.getElem_mem hj))
    · rw [List.mem_singleton.mp hx]; exact fit_other
  refine sv_cons (sv_While PassesOwn.never (fun m ρ' σ' => ∃ found rest : List Item, (found ++ rest).Perm (restOf its sigs ++ [Item.other 80]) ∧ Sub [("hand", .ref hd), ("items", .ref I), ("found", .ref F)] ρ' ∧ Mod [hd] σ σ' ∧ Hand σ' hd C cells (B + 200 + found.length) ∧
      σ' I = some (.list (rest.map Item.V)) ∧ σ' F = some (.list (found.map Item.V)) ∧ m = rest.length) _
    ⟨[], _, .refl _, ⟨rfl, rfl, rfl, trivial⟩, fM, fH.up (by omega), fI, fF, rfl⟩ ?_)
  rintro m ρ₄ σ₆ ⟨found, rest, hp, hs, m₆, H₆, gI₆, gF₆, rfl⟩
  have hlen := hp.length_eq
  rw [List.length_append, List.length_append, List.length_singleton] at hlen
  have hfr : ∀ x ∈ rest, Fit x.V 60 := fun x hx => hfit x (hp.subset (List.mem_append.mpr (.inr hx)))
  refine ⟨_, hs, bv_Compare (ev_local (x := "items") (ev_List (lv_nil ⟨len_ok rfl, fun N hN => ?_⟩)))⟩
  have lN := Le.set (o := .list []) hN
  refine op_ne_nil R1 (lN _ _ gI₆) (St.set_same ..) (fun d hd => by obtain ⟨x, hx, rfl⟩ := List.mem_map.mp hd; exact hfr x hx) ⟨_, rfl, ?_⟩
  cases hrest : rest with
  | nil =>
    simp only [List.map_nil, List.isEmpty_nil, Bool.not_true, Bool.false_eq_true, if_false]
    refine sv_cons (sv_Return (ev_local (x := "found") ?_))
    rw [hrest, List.append_nil] at hp
    exact h F _ found its sigs (m₆.trans lN.mod) σF (lN _ _ gF₆) ⟨ch, by omega, hsin, by omega, by simpa [restOf] using hp⟩
  | cons w0 ws =>
    rw [← hrest]
    have hpos2 : 0 < rest.length := by rw [hrest]; simp
    rw [show (!(rest.map Item.V).isEmpty) = true from by rw [hrest]; rfl, if_pos rfl]
    refine gen_k fun kk hkk => ?_
    refine sv_cons (sv_Expr (ev_MCall (ev_local (x := "found") (gm_list PySem.F.slot_list_append PySem.F.type_list_append (lN _ _ gF₆) ⟨.builtin _, lv_cons (ev_MCall (ev_local (x := "items") (gm_list PySem.F.slot_list_pop PySem.F.type_list_pop (lN _ _ gI₆) ⟨.builtin _, lv_cons ?_⟩)))⟩))))
    refine ev_draw hG R1 (H₆.le lN) (by omega) (many := (rest.length : Nat)) (by omega) (fun k h => ev_local (x := "hand") h) (fun k h => ev_Call (ev_builtin bn1 bn2 rfl ⟨_, rfl, .builtin _, lv_cons (ev_local (x := "items") (lv_nil (opc_len_list (lN _ _ gI₆) (by rw [List.length_map, sizeLine_eq]; omega) (by rw [List.length_map]; exact h))))⟩)) fun a ha σ₇ m₇ H₇ => ?_
    have hlt : a < rest.length := by omega
    have iI := m₇.at1 (lN _ _ gI₆) neI
    have iF := m₇.at1 (lN _ _ gF₆) neF
    refine lv_nil (opc_pop_at (i := (a : Int)) (d := rest[a].V) iI (by rw [List.length_map, sizeLine_eq]; omega) (by omega) ?_ ?_)
    · show (rest.map Item.V)[a]? = _
      rw [List.getElem?_map, List.getElem?_eq_getElem hlt]; rfl
    have ei : ((rest.map Item.V).eraseIdx (Int.toNat (a : Int))) = (rest.eraseIdx a).map Item.V := by rw [Int.toNat_natCast, map_eraseIdx']
    rw [ei]
    have jI : (σ₇.set I (.list ((rest.eraseIdx a).map Item.V))) I = some (.list ((rest.eraseIdx a).map Item.V)) := St.set_same ..
    have jF : (σ₇.set I (.list ((rest.eraseIdx a).map Item.V))) F = some (.list (found.map Item.V)) := St.keep hIF.symm iF
    have jM := ((m₆.trans lN.mod).trans m₇).setN (o := .list ((rest.eraseIdx a).map Item.V)) σI
    have jH := keepH I (.list ((rest.eraseIdx a).map Item.V)) _ _ neI CI H₇
    generalize σ₇.set I (.list ((rest.eraseIdx a).map Item.V)) = σ₈ at *
    refine lv_nil (opc_append jF (by rw [List.length_map, sizeLine_eq]; omega) ⟨rfl, ?_⟩)
    have hel2 := List.length_eraseIdx_of_lt hlt
    refine sv_nilK hkk ⟨_, ?_, found ++ [rest[a]], rest.eraseIdx a, ?_, ⟨rfl, rfl, rfl, trivial⟩, jM.setN σF, ?_, ?_, ?_, rfl⟩
    · omega
    · refine List.Perm.trans ?_ hp
      rw [List.append_assoc]
      exact List.Perm.append_left found (erase_perm rest a hlt)
    · have := keepH F (.list (found.map Item.V ++ [rest[a].V])) _ _ neF CF jH
      exact this.up (by rw [List.length_append, List.length_singleton]; omega)
    · rw [St.set_ne _ _ hIF]; exact jI
    · rw [St.set_same, List.map_append]; rfl
end
end Mine
namespace Mine
def Kn (σ : St) (kn : Addr) (es : Ens) : Prop := ∃ ep, σ kn = some (.sdict ep (vents es))
theorem Kn.le {σ σ' : St} {kn es} (x : Kn σ kn es) (l : Le σ σ') : Kn σ' kn es := let ⟨ep, h⟩ := x; ⟨ep, l _ _ h⟩
theorem St.unset {σ : St} {a D : Addr} {o : AObj} (h : (σ.set a o) D = none) : σ D = none := by
  have q : D ≠ a := fun q => by rw [q, St.set_same] at h; cases h
  rw [St.set_ne _ _ q] at h; exact h
theorem vput_keys (es : List (Str × V)) (x : Str) (d : V) : (vput es x d).map (·.1) = if x ∈ es.map (·.1) then es.map (·.1) else es.map (·.1) ++ [x] := by
  unfold vput
  by_cases h : x ∈ es.map (·.1)
  · have e : es.any (fun kv => decide (kv.1 = x)) = true := by
      obtain ⟨p, hp, e⟩ := List.mem_map.mp h
      exact List.any_eq_true.mpr ⟨p, hp, by simpa using e⟩
    rw [e, if_pos rfl, if_pos h, List.map_map]
    apply List.map_congr_left
    intro p hp
    simp only [Function.comp]
    split <;> rfl
  · have e : es.any (fun kv => decide (kv.1 = x)) = false := by
      rw [List.any_eq_false]
      intro p hp
      simp only [decide_eq_true_eq]
      exact fun e => h (List.mem_map.mpr ⟨p, hp, e⟩)
    rw [e, if_neg (by decide), if_neg h]; simp
theorem vput_mem (es : List (Str × V)) (x : Str) (d : V) (y : Str) : y ∈ (vput es x d).map (·.1) ↔ y ∈ es.map (·.1) ∨ y = x := by
  rw [vput_keys]
  split
  · rename_i h
    constructor
    · exact .inl
    · rintro (h' | rfl)
      · exact h'
      · exact h
  · rw [List.mem_append, List.mem_singleton]
theorem vput_nodup {es : List (Str × V)} (x : Str) (d : V) (h : (es.map (·.1)).Nodup) : ((vput es x d).map (·.1)).Nodup := by
  rw [vput_keys]
  split
  · exact h
  · rename_i hx
    rw [List.nodup_append]
    exact ⟨h, by simp, fun a ha b hb => by rw [List.mem_singleton.mp hb]; exact fun q => hx (q ▸ ha)⟩
theorem vmerge_mem (ms : List (Str × V)) : ∀ (es : List (Str × V)) (y : Str), y ∈ (vmerge es ms).map (·.1) ↔ y ∈ es.map (·.1) ∨ y ∈ ms.map (·.1) := by
  induction ms with
  | nil => intro es y; simp [vmerge]
  | cons p r ih =>
    intro es y
    have e : vmerge es (p :: r) = vmerge (vput es p.1 p.2) r := rfl
    rw [e, ih, vput_mem, List.map_cons, List.mem_cons]
    constructor
    · rintro ((h | h) | h)
      · exact .inl h
      · exact .inr (.inl h)
      · exact .inr (.inr h)
    · rintro (h | h | h)
      · exact .inl (.inl h)
      · exact .inl (.inr h)
      · exact .inr h
theorem vmerge_nodup (ms : List (Str × V)) : ∀ {es : List (Str × V)}, (es.map (·.1)).Nodup → ((vmerge es ms).map (·.1)).Nodup := by
  induction ms with
  | nil => exact fun h => h
  | cons p r ih => exact fun h => ih (vput_nodup _ _ h)
theorem Up.head {es : Ens} {a c : Str} (h : Up es a c) : ∃ t, gets es a = some t ∧ (c ∈ t.direct ∨ ∃ b ∈ t.direct, Up es b c) := by
  induction h with
  | one ha hb => exact ⟨_, ha, .inl hb⟩
  | more h1 hb hc ih =>
    obtain ⟨t, ht, h⟩ := ih
    refine ⟨t, ht, .inr ?_⟩
    rcases h with h | ⟨b', hb', h⟩
    · exact ⟨_, h, .one hb hc⟩
    · exact ⟨b', hb', .more h hb hc⟩
theorem Up.cons {es : Ens} {a b c : Str} {t : It} (ha : gets es a = some t) (hb : b ∈ t.direct) (h : Up es b c) : Up es a c := by
  induction h with
  | one h1 h2 => exact .more (.one ha hb) h1 h2
  | more _ h1 h2 ih => exact .more ih h1 h2
section
variable {G : Amb} {A : Around} {env : Env} {L : Addr} {ρ : Loc} {σ : St} {X : Value → Shared → Prop} {k : V → St → Prop}
theorem G_ra (hG : IsG G) : G.mg "_law_right_above" = some (.ref 282) ∧ CK G (.ref 282) := ⟨hG.glob _ _ (by rw [hG.K]; rfl), .inr (by rw [hG.K]; rfl)⟩
theorem G_line (hG : IsG G) : G.mg "_law_line" = some (.ref 289) ∧ CK G (.ref 289) := ⟨hG.glob _ _ (by rw [hG.K]; rfl), .inr (by rw [hG.K]; rfl)⟩
theorem G_over (hG : IsG G) : G.mg "_law_over" = some (.ref 296) ∧ CK G (.ref 296) := ⟨hG.glob _ _ (by rw [hG.K]; rfl), .inr (by rw [hG.K]; rfl)⟩
theorem c_right_above (hG : IsG G) {n : Nat} (R : Room A (n + 1)) {t : It} (hs : t.supers.length ≤ 1000)
    (h : ∀ D σ', Le σ σ' → σ D = none → σ' D = some (.list (t.direct.map .str)) → k (.ref D) σ') : OpC G A L ρ σ (.ref 282) [t.V] k X := by
  refine opc_fn0 (f := 282) ["item"] (by rw [hG.K]; rfl) (by rw [hG.K]; rfl) R fun L' A' env he R' => ?_
  obtain ⟨b1, b2⟩ := B_list hG
  subst he
  refine sv_cons (sv_Return (ev_BinOp (ev_IfExp (bv_Compare (ev_Subscript (ev_local (x := "item") (ev_int ?_)))))))
  refine op_item_tup (d := .str t.parent) (by decide) (by decide) rfl (ev_str (op_ne_str ⟨_, rfl, ?_⟩))
  by_cases q : t.parent = ""
  · have e : t.direct = t.supers := by unfold It.direct; rw [if_pos q]; rfl
    simp only [q, decide_true, Bool.not_true, Bool.false_eq_true, if_false]
    refine ev_List (lv_nil ⟨len_ok rfl, fun N hN => ?_⟩)
    refine ev_Call (ev_builtin b1 b2 rfl ⟨_, rfl, .type _, lv_cons (ev_Subscript (ev_local (x := "item") (ev_int (op_item_tup (d := .tup (t.supers.map .str)) (by decide) (by decide) rfl ?_))))⟩)
    refine lv_nil (opc_list_tup (by rw [List.length_map, sizeLine_eq]; omega) fun M hM => ?_)
    refine op_add_list (Le.set hM _ _ (St.set_same ..)) (St.set_same ..) (by simp; rw [sizeLine_eq]; omega) fun D hD => ?_
    refine h D _ (((Le.set hN).trans (Le.set hM)).trans (Le.set hD)) ?_ (by rw [St.set_same, e]; rfl)
    exact St.unset (St.unset hD)
  · have e : t.direct = t.parent :: t.supers := by unfold It.direct; rw [if_neg q]; rfl
    simp only [q, decide_false, Bool.not_false, if_true]
    refine ev_List (lv_cons (ev_Subscript (ev_local (x := "item") (ev_int (op_item_tup (d := .str t.parent) (by decide) (by decide) rfl (lv_nil ⟨len_ok rfl, fun N hN => ?_⟩))))))
    refine ev_Call (ev_builtin b1 b2 rfl ⟨_, rfl, .type _, lv_cons (ev_Subscript (ev_local (x := "item") (ev_int (op_item_tup (d := .tup (t.supers.map .str)) (by decide) (by decide) rfl ?_))))⟩)
    refine lv_nil (opc_list_tup (by rw [List.length_map, sizeLine_eq]; omega) fun M hM => ?_)
    refine op_add_list (Le.set hM _ _ (St.set_same ..)) (St.set_same ..) (by simp; rw [sizeLine_eq]; omega) fun D hD => ?_
    refine h D _ (((Le.set hN).trans (Le.set hM)).trans (Le.set hD)) ?_ (by rw [St.set_same, e]; rfl)
    exact St.unset (St.unset hD)
theorem ev_known (hG : IsG G) {e₁ e₂ e₃ : Expr} {p₂ p₃ : Pos} {i : Int} {it : It} {d : V} {kn : Addr} {es : Ens} {name : Str} {tv : List V} (H : Kn σ kn es) (hn : gets es name = some it)
    (h₁ : ∀ (k : V → St → Prop), k (.ref kn) σ → EV G A env ρ σ e₁ k X) (h₂ : ∀ (k : V → St → Prop), k (.str name) σ → EV G A env ρ σ e₂ k X) (h₃ : ∀ (k : V → St → Prop), k (.int i) σ → EV G A env ρ σ e₃ k X)
    (h0 : 0 ≤ i) (hi : i < 2 ^ 63) (hV : it.V = .tup tv) (hd : tv[i.toNat]? = some d) (h : k d σ)
    (hs₁ : ∀ a t, subscripted e₂ false (.ref a) (.str name t) = operate [.ref a, .str name t] (getItem (.ref a) (.str name t)) := by intro _ _; with_unfolding_all rfl)
    (hs₂ : ∀ a t, subscripted e₃ false (.ref a) (.int i t) = operate [.ref a, .int i t] (getItem (.ref a) (.int i t)) := by intro _ _; with_unfolding_all rfl) :
    EV G A env ρ σ (.Subscript (.Subscript e₁ e₂ p₂) e₃ p₃) k X := by
  obtain ⟨ep, hE⟩ := H
  refine ev_Subscript (ev_Subscript (h₁ _ (h₂ _ (op_item_sdict (d := it.V) hE (by rw [get_vents, hn]; rfl) ?_ (hs₁ _)))))
  refine h₃ _ ?_
  rw [hV]
  exact op_item_tup h0 hi hd h hs₂
theorem c_line (hG : IsG G) {kn : Addr} {es : Ens} : ∀ {name : Str} {line : List Str} (hl : Line es name line) {n : Nat} {A : Around} {L : Addr} {ρ : Loc} {σ : St} {X : Value → Shared → Prop} {k : V → St → Prop} (R : Room A (n + line.length + 1)) (H : Kn σ kn es) (hsz : line.length ≤ 1000)
    (h : ∀ D σ', Le σ σ' → σ D = none → σ' D = some (.list (line.map .str)) → k (.ref D) σ'), OpC G A L ρ σ (.ref 289) [.ref kn, .str name] k X := by
  intro name line hl
  induction hl with
  | @nil name it h1 h2 =>
    intro n A L ρ σ X k R H hsz h
    refine opc_fn0 (f := 289) ["known", "name"] (by rw [hG.K]; rfl) (by rw [hG.K]; rfl) R fun L' A' env he R' => ?_
    subst he
    refine sv_cons (sv_Assign (ev_known hG (i := 5) H h1 (fun k h => ev_local (x := "known") h) (fun k h => ev_local (x := "name") h) (fun k h => ev_int h) (by decide) (by decide) rfl rfl ?_))
    refine sv_cons (sv_Return (ev_IfExp (bv_Compare (ev_local (x := "parent") (ev_str (op_eq_str ⟨_, rfl, ?_⟩))))))
    rw [decide_eq_true h2, if_pos rfl]
    exact ev_List (lv_nil ⟨len_ok rfl, fun D hD => h D _ (Le.set hD) hD (St.set_same ..)⟩)
  | @cons name it l h1 h2 h3 ih =>
    intro n A L ρ σ X k R H hsz h
    rw [List.length_cons] at hsz
    refine opc_fn0 (f := 289) ["known", "name"] (by rw [hG.K]; rfl) (by rw [hG.K]; rfl) R fun L' A' env he R' => ?_
    obtain ⟨g1, g2⟩ := G_line hG
    subst he
    refine sv_cons (sv_Assign (ev_known hG (i := 5) H h1 (fun k h => ev_local (x := "known") h) (fun k h => ev_local (x := "name") h) (fun k h => ev_int h) (by decide) (by decide) rfl rfl ?_))
    refine sv_cons (sv_Return (ev_IfExp (bv_Compare (ev_local (x := "parent") (ev_str (op_eq_str ⟨_, rfl, ?_⟩))))))
    rw [decide_eq_false h2, if_neg (by decide)]
    refine ev_BinOp (ev_List (lv_cons (ev_local (x := "parent") (lv_nil ⟨len_ok rfl, fun N hN => ?_⟩))))
    have lN := Le.set (o := .list [.str it.parent]) hN
    refine ev_Call (ev_global g1 (fun _ => .glob _ rfl) ⟨_, rfl, g2, lv_cons (ev_local (x := "known") (lv_cons (ev_local (x := "parent") (lv_nil ?_))))⟩)
    refine ih (n := n) (R'.le (by rw [List.length_cons]; omega)) (H.le lN) (by omega) fun D σ' le hD hD' => ?_
    refine op_add_list (le _ _ (St.set_same ..)) hD' (by simp; rw [sizeLine_eq]; omega) fun B hB => ?_
    refine h B _ ((lN.trans le).trans (Le.set hB)) ?_ (by rw [St.set_same]; rfl)
    cases q : σ B with
    | none => rfl
    | some o => have := le _ _ (lN _ _ q); rw [hB] at this; cases this
theorem up_len {es : Ens} (W : WF es) {name : Str} {xs : List Str} (hn : xs.Nodup) (h : ∀ x ∈ xs, ∃ t, gets es x = some t) : xs.length ≤ 100 := by
  have := nodup_le (ys := es.map (·.1)) hn fun x hx => let ⟨t, ht⟩ := h x hx; gets_mem ht
  have := W.size
  rw [List.length_map] at *; omega
set_option maxHeartbeats 1000000 in
theorem c_over (hG : IsG G) {kn : Addr} {es : Ens} (W : WF es) (r : Str → Nat) (hr : ∀ x t, gets es x = some t → ∀ y ∈ t.direct, r y < r x) : ∀ (m : Nat) {name : Str} {it : It} (hm : r name < m) (hn : gets es name = some it)
    {n : Nat} {A : Around} {L : Addr} {ρ : Loc} {σ : St} {X : Value → Shared → Prop} {k : V → St → Prop} (R : Room A (n + m + 2)) (H : Kn σ kn es)
    (h : ∀ D ep fs σ', Le σ σ' → σ D = none → σ' D = some (.sdict ep fs) → (fs.map (·.1)).Nodup → (∀ x, x ∈ fs.map (·.1) ↔ Up es name x) → k (.ref D) σ'), OpC G A L ρ σ (.ref 296) [.ref kn, .str name] k X := by
  intro m
  induction m with
  | zero => intro name it hm; exact absurd hm (Nat.not_lt_zero _)
  | succ m ih =>
    intro name it hm hn n A L ρ σ X k R H h
    refine opc_fn0 (f := 296) ["known", "name"] (by rw [hG.K]; rfl) (by rw [hG.K]; rfl) R fun L' A' env he R' => ?_
    obtain ⟨g1, g2⟩ := G_ra hG
    obtain ⟨g3, g4⟩ := G_over hG
    have hsup := W.sup _ _ hn
    subst he
    refine sv_cons (sv_Assign (ev_Dict0 fun F ep0 hF => ?_))
    have lF := Le.set (o := .sdict ep0 []) hF
    obtain ⟨epk, hK⟩ := H.le lF
    refine sv_cons (sv_For PassesOwn.never (ie_list R'.handled ?_))
    refine ev_Call (ev_global g1 (fun _ => .glob _ rfl) ⟨_, rfl, g2, lv_cons (ev_Subscript (ev_local (x := "known") (ev_local (x := "name") (op_item_sdict (d := it.V) hK (by rw [get_vents, hn]; rfl) ?_))))⟩)
    refine lv_nil (c_right_above hG (R'.le (by omega : n + 1 ≤ n + m + 2)) (by omega) fun D σ₁ l₁ hD hD' => ?_)
    have hDF : D ≠ F := fun q => by rw [q, St.set_same] at hD; cases hD
    refine ⟨D, _, rfl, hD', ?_⟩
    refine ⟨fun j ρ' σ' => Sub [("known", .ref kn), ("name", .str name), ("found", .ref F)] ρ' ∧ Le σ σ' ∧ σ' D = some (.list (it.direct.map .str)) ∧ ∃ ep fs, σ' F = some (.sdict ep fs) ∧ (fs.map (·.1)).Nodup ∧ ∀ x, x ∈ fs.map (·.1) ↔ ∃ b ∈ it.direct.take j, x = b ∨ Up es b x,
      ⟨⟨rfl, rfl, rfl, trivial⟩, lF.trans l₁, hD', ep0, [], l₁ _ _ (St.set_same ..), by simp, by simp⟩, fun i ρ σ' h => h.2.2.1, ?_, ?_⟩
    · rintro j ρ₁ σ₂ hj ⟨hs, le, hD₂, ep, fs, hf, hnd, hmem⟩
      rw [List.length_map] at hj
      refine TS.sub ?_ hs
      dsimp only
      rw [getD_mapE _ _ _ hj]
      have hdm : it.direct[j] ∈ it.direct := List.getElem_mem hj
      have htk := mem_take_succ hj
      generalize it.direct[j] = other at hdm htk ⊢
      obtain ⟨t, ht⟩ := W.dir _ _ hn _ hdm
      have hlt := hr _ _ hn _ hdm
      have inKey : ∀ x, (∃ b ∈ it.direct.take j, x = b ∨ Up es b x) → ∃ t, gets es x = some t := fun x ⟨b, hb, hx⟩ => by
        rcases hx with rfl | hx
        · exact W.dir _ _ hn _ (List.mem_of_mem_take hb)
        · exact hx.key W
      have hfl : fs.length ≤ 100 := by have := up_len W (name := name) hnd fun x hx => inKey x ((hmem x).mp hx); simpa using this
      refine ts_Name (ts_local ?_)
      refine sv_cons (sv_AssignSub (ev_bool (ev_local (x := "found") (ev_local (x := "other") (set_sdict hf (by rw [sizeLine_eq]; omega) fun ep₂ => ?_)))))
      have l₂ : Le σ (σ₂.set F (.sdict ep₂ (vput fs other (.bool true)))) := le.setL hF
      have hD₃ : (σ₂.set F (.sdict ep₂ (vput fs other (.bool true)))) D = some (.list (it.direct.map .str)) := St.keep hDF hD₂
      have hF₃ : (σ₂.set F (.sdict ep₂ (vput fs other (.bool true)))) F = some (.sdict ep₂ (vput fs other (.bool true))) := St.set_same ..
      generalize σ₂.set F (.sdict ep₂ (vput fs other (.bool true))) = σ₃ at *
      refine sv_cons (sv_Expr (ev_MCall (ev_local (x := "found") (gm_dict PySem.F.slot_dict_update PySem.F.type_dict_update hF₃ ⟨.builtin _, lv_cons (ev_Call (ev_global g3 (fun _ => .glob _ rfl) ⟨_, rfl, g4, ?_⟩))⟩))))
      refine lv_cons (ev_local (x := "known") (lv_cons (ev_local (x := "other") (lv_nil ?_))))
      refine ih (by omega) ht (n := n) (R'.le (by omega)) (H.le l₂) fun D₂ ep₃ gs σ₄ l₄ hD₂' hD₂'' gnd gmem => ?_
      have hgl : gs.length ≤ 100 := by have := up_len W (name := name) gnd fun x hx => ((gmem x).mp hx).key W; simpa using this
      have hvl := vput_length fs other (.bool true)
      have FD₂ : F ≠ D₂ := fun q => by rw [← q, hF₃] at hD₂'; cases hD₂'
      refine lv_nil (opc_update (l₄ _ _ hF₃) hD₂'' FD₂ (by rw [sizeLine_eq]; omega) fun ep₅ => ⟨rfl, ?_⟩)
      refine sv_nil ⟨⟨rfl, rfl, rfl, trivial⟩, (l₂.trans l₄).setL hF, (St.keep hDF (l₄ _ _ hD₃)), ep₅, _, St.set_same .., vmerge_nodup _ (vput_nodup _ _ hnd), fun x => ?_⟩
      rw [vmerge_mem, vput_mem, hmem, gmem]
      constructor
      · rintro ((⟨b, hb, hx⟩ | rfl) | hx)
        · exact ⟨b, (htk b).mpr (.inl hb), hx⟩
        · exact ⟨x, (htk x).mpr (.inr rfl), .inl rfl⟩
        · exact ⟨other, (htk other).mpr (.inr rfl), .inr hx⟩
      · rintro ⟨b, hb, hx⟩
        rcases (htk b).mp hb with hb | rfl
        · exact .inl (.inl ⟨b, hb, hx⟩)
        · rcases hx with rfl | hx
          · exact .inl (.inr rfl)
          · exact .inr hx
    · rintro ρ₁ σ₂ ⟨hs, le, hD₂, ep, fs, hf, hnd, hmem⟩
      rw [List.length_map, List.take_length] at hmem
      refine SV.sub (sv_cons (sv_Return (ev_local (x := "found") ?_))) hs
      refine h F ep fs σ₂ le hF hf hnd fun x => ?_
      rw [hmem]
      constructor
      · rintro ⟨b, hb, rfl | hx⟩
        · exact .one hn hb
        · exact hx.cons hn hb
      · intro hx
        obtain ⟨t, ht, hx⟩ := hx.head
        rw [hn] at ht; cases ht
        rcases hx with hx | ⟨b, hb, hx⟩
        · exact ⟨x, hx, .inl rfl⟩
        · exact ⟨b, hb, .inr hx⟩
end
end Mine
namespace Mine
theorem erase_filter {xs found : List Str} {x : Str} (hn : xs.Nodup) (hx : x ∈ xs.filter fun y => !decide (y ∈ found)) : (xs.filter fun y => !decide (y ∈ found)).erase x = xs.filter fun y => !decide (y ∈ found ++ [x]) := by
  rw [List.Nodup.erase_eq_filter (hn.filter _), List.filter_filter]
  apply List.filter_congr
  intro y hy
  by_cases h1 : y ∈ found <;> by_cases h2 : y = x <;> simp [h1, h2]
section
variable {G : Amb} {A : Around} {env : Env} {L : Addr} {ρ : Loc} {σ : St} {X : Value → Shared → Prop} {k : V → St → Prop}
theorem G_seq (hG : IsG G) : G.mg "_law_sequence" = some (.ref 301) ∧ CK G (.ref 301) := ⟨hG.glob _ _ (by rw [hG.K]; rfl), .inr (by rw [hG.K]; rfl)⟩
theorem B_int (hG : IsG G) : G.mg "int" = none ∧ G.mb "int" = some (.type "int") := B_name hG rfl rfl (by decide)
set_option maxHeartbeats 1000000 in
theorem c_sequence (hG : IsG G) {n : Nat} (R : Room A (n + 3)) {kn : Addr} {es : Ens} {seq : List Str} (H : Kn σ kn es) (W : WF es) (hp : PF es [] (keysOf es) seq)
    (h : ∀ D σ', Le σ σ' → σ D = none → σ' D = some (.list (seq.map .str)) → k (.ref D) σ') : OpC G A L ρ σ (.ref 301) [.ref kn] k X := by
  refine opc_fnC (f := 301) ["known"] (ρ₀ := []) (by rw [hG.K]; rfl) (by rw [hG.K]; rfl) R fun L' A' env σC he R' le hc => ?_
  obtain ⟨g1, g2⟩ := G_ra hG
  obtain ⟨epk, hK0⟩ := id H
  subst he
  have c1 : σC (L' + 1) = some (.cell (some (.ref kn))) := (hc "known" (L' + 1) (.tail _ (.head _))).1
  have c2 : σC (L' + 2) = some (.cell none) := (hc "found" (L' + 2) (.head _)).1
  have n2 : σ (L' + 2) = none := (hc "found" (L' + 2) (.head _)).2
  have ne12 : L' + 1 ≠ L' + 2 := Nat.ne_of_lt (Nat.lt_succ_self _)
  refine sv_cons (sv_AssignCell (c := L' + 2) (ev_List (lv_nil ⟨len_ok rfl, fun F hF => ⟨⟨_, Le.set hF _ _ c2⟩, ?_⟩⟩)))
  have lF := Le.set (o := .list []) hF
  have F2 : F ≠ L' + 2 := fun q => by rw [q, c2] at hF; cases hF
  have σF : σ F = none := by
    cases q : σ F with
    | none => rfl
    | some o => rw [le _ _ q] at hF; cases hF
  have b1 : ((σC.set F (.list [])).set (L' + 2) (.cell (some (.ref F)))) (L' + 1) = some (.cell (some (.ref kn))) := St.keep ne12 (lF _ _ c1)
  have b2 : ((σC.set F (.list [])).set (L' + 2) (.cell (some (.ref F)))) (L' + 2) = some (.cell (some (.ref F))) := St.set_same ..
  have bF : ((σC.set F (.list [])).set (L' + 2) (.cell (some (.ref F)))) F = some (.list []) := St.keep F2 (St.set_same ..)
  have bL : Le σ ((σC.set F (.list [])).set (L' + 2) (.cell (some (.ref F)))) := (le.trans lF).setL n2
  generalize (σC.set F (.list [])).set (L' + 2) (.cell (some (.ref F))) = σ₀ at *
  have hkl : (keysOf es).length ≤ 100 := by unfold keysOf; rw [List.length_map]; exact W.size
  have hnd : (keysOf es).Nodup := W.keys
  have hks : (vents es).map (·.1) = keysOf es := by unfold vents keysOf; rw [List.map_map]; rfl
  have hvl : (vents es).length = (keysOf es).length := by rw [← hks, List.length_map]
  have hfull : (keysOf es).filter (fun y => !decide (y ∈ ([] : List Str))) = keysOf es := List.filter_eq_self.mpr fun _ _ => by simp
  refine sv_cons (sv_For PassesOwn.never (ie_keys R'.handled (ev_cell (x := "known") (c := L' + 1) b1 ⟨kn, epk, _, rfl, bL _ _ hK0, ?_⟩)))
  refine ⟨fun i ρ' σ' => Le σ σ' ∧ σ' (L' + 1) = some (.cell (some (.ref kn))) ∧ σ' (L' + 2) = some (.cell (some (.ref F))) ∧ ∃ found : List Str, σ' F = some (.list (found.map .str)) ∧ PF es found ((keysOf es).filter fun y => !decide (y ∈ found)) seq ∧ found.length = i ∧
      ((keysOf es).filter fun y => !decide (y ∈ found)).length + i = (keysOf es).length,
    ⟨bL, b1, b2, [], bF, by rw [hfull]; exact hp, rfl, by rw [hfull]; rfl⟩, fun i ρ σ' h => h.1 _ _ hK0, ?_, ?_⟩
  · rintro i ρ₁ σ₁ hi ⟨l₁, d1, d2, found, hf, P, hfl, hlen⟩
    rw [hvl] at hi
    refine TS.sub (ρ₀ := []) ?_ trivial
    refine ts_Name (ts_local (gen_k fun kk hkk => ?_))
    have hK₁ := l₁ _ _ hK0
    refine sv_cons (sv_Over (default : Str) (ie_keys R'.handled (ev_cell (x := "known") (c := L' + 1) d1 ⟨kn, epk, _, rfl, hK₁, keysOf es, V.str, (fun y => !decide (y ∈ found)), V.str,
      ⟨hvl, fun j d hj => by rw [hks, List.getD_eq_getElem?_getD, List.getD_eq_getElem?_getD, List.getElem?_eq_getElem (by rw [← hvl]; exact hj)]; rfl, fun σ' l' => l' _ _ hK₁, by rw [sizeLine_eq]; omega, fun C y σ₂ hy l₂ => ?_⟩, fun Bq σ₂ l₂ hB hB' => ?_⟩)))
    · refine ts_Name (ts_local (qv_one (bv_Compare (ev_local (x := "name") (ev_cell (x := "found") (c := L' + 2) (l₂ _ _ d2) (op_notIn_strs (l₂ _ _ hf) ⟨_, rfl, rfl, ?_⟩))))))
      by_cases q : y ∈ found
      · simp only [q, decide_true, Bool.not_true, Bool.false_eq_true, if_false]; exact Le.refl _
      · simp only [q, decide_false, Bool.not_false, if_true]
        exact ev_local (x := "name") ⟨rfl, Le.refl _⟩
    cases hPr : (keysOf es).filter (fun y => !decide (y ∈ found)) with
    | nil => rw [hPr] at hlen; simp at hlen; omega
    | cons w0 ws =>
      have hne : (keysOf es).filter (fun y => !decide (y ∈ found)) ≠ [] := by rw [hPr]; simp
      generalize hrest : (keysOf es).filter (fun y => !decide (y ∈ found)) = rest at *
      clear hPr
      have hrm : ∀ y ∈ rest, ∃ t, gets es y = some t := fun y hy => by rw [← hrest] at hy; exact mem_gets (List.mem_filter.mp hy).1
      cases P with
      | done => exact absurd rfl hne
      | @step _ _ x _ hx hp' =>
        have l02 := l₁.trans l₂
        have hxr : x ∈ rest := List.mem_of_find?_eq_some hx
        have e2 := l₂ _ _ d2
        have ef := l₂ _ _ hf
        have e1 := l₂ _ _ d1
        have hrl : rest.length ≤ 100 := by omega
        refine sv_cons (sv_Expr (ev_MCall (ev_cell (x := "found") (c := L' + 2) e2 (gm_list PySem.F.slot_list_append PySem.F.type_list_append ef ⟨.builtin _, lv_cons (ev_Subscript ?_)⟩))))
        refine ev_Over (default : Str) (ie_list R'.handled (ev_local (x := "able") ⟨Bq, _, rfl, hB', rest, V.str, ready es found, V.str,
          ⟨by simp, fun i d hi => getD_map d _ _ _ (by simpa using hi), fun σ'' l' => l' _ _ hB', by rw [sizeLine_eq]; omega, fun C y σ₃ hy l₃ => ?_⟩, fun D₂ σ₃ l₃ hD₂ hD₂' => ?_⟩))
        · obtain ⟨t, ht⟩ := hrm y hy
          have hsup := W.sup _ _ ht
          have hdl := direct_len t
          have l03 := l02.trans l₃
          refine ts_Name (ts_local (qv_one (bv_Compare (ev_Over (default : Str) (ie_list R'.handled ?_)))))
          refine ev_Call (ev_global g1 (fun _ => .glob _ rfl) ⟨_, rfl, g2, lv_cons (ev_Subscript (ev_cell (x := "known") (c := L' + 1) (l₃ _ _ e1) (ev_local (x := "name") (op_item_sdict (d := t.V) (l03 _ _ hK0) (by rw [get_vents, ht]; rfl) ?_))))⟩)
          refine lv_nil (c_right_above hG R' (by omega) fun D₃ σ₄ l₄ hD₃ hD₃' => ?_)
          refine ⟨D₃, _, rfl, hD₃', t.direct, V.str, (fun z => !decide (z ∈ found)), (fun _ => .int 1), ⟨by simp, fun i d hi => getD_map d _ _ _ (by simpa using hi), fun σ'' l' => l' _ _ hD₃', by rw [sizeLine_eq]; omega, fun C₂ z σ₅ hz l₅ => ?_⟩, fun D₄ σ₅ l₅ hD₄ hD₄' => ?_⟩
          · refine ts_Name (ts_local (qv_one (bv_Compare (ev_local (x := "other") (ev_cell (x := "found") (c := L' + 2) (l₅ _ _ (l₄ _ _ (l₃ _ _ e2))) (op_notIn_strs (l₅ _ _ (l₄ _ _ (l₃ _ _ ef))) ⟨_, rfl, rfl, ?_⟩))))))
            by_cases q : z ∈ found
            · simp only [q, decide_true, Bool.not_true, Bool.false_eq_true, if_false]; exact Le.refl _
            · simp only [q, decide_false, Bool.not_false, if_true]
              exact ev_int ⟨rfl, Le.refl _⟩
          · refine ev_List (lv_nil ⟨len_ok rfl, fun N hN => ?_⟩)
            have hDN : D₄ ≠ N := fun q => by rw [q] at hD₄'; rw [hN] at hD₄'; cases hD₄'
            refine op_eq_nil (n := n) (R'.le (by omega)) ((St.keep hDN hD₄')) (St.set_same ..) (fun d hd => ?_) ⟨_, rfl, ?_⟩
            · obtain ⟨z, _, rfl⟩ := List.mem_map.mp hd
              exact .int _
            · have e : ((t.direct.filter fun z => !decide (z ∈ found)).map fun _ => V.int 1).isEmpty = ready es found y := by
                rw [List.isEmpty_map, filter_notIn]
                unfold ready dirs
                rw [ht]; rfl
              rw [e]
              refine ⟨rfl, ?_⟩
              have lx := (l₄.trans l₅).trans (Le.set (o := .list []) hN)
              cases ready es found y with
              | false => simp only [Bool.false_eq_true, if_false]; exact lx
              | true =>
                simp only [if_true]
                exact ev_local (x := "name") ⟨rfl, lx⟩
        · have hhead : (rest.filter (ready es found))[0]? = some x := by rw [← List.head?_eq_getElem?, filter_head]; exact hx
          refine ev_int (op_item_list (d := .str x) hD₂' (by decide) (by decide) ?_ (lv_nil (opc_append (l₃ _ _ ef) ?_ ⟨rfl, ?_⟩)))
          · show ((rest.filter (ready es found)).map V.str)[0]? = _
            rw [List.getElem?_map, hhead]; rfl
          · rw [List.length_map, sizeLine_eq]; omega
          have er : rest.erase x = (keysOf es).filter fun y => !decide (y ∈ found ++ [x]) := by rw [← hrest]; exact erase_filter hnd (by rw [hrest]; exact hxr)
          have hle := List.length_erase_of_mem hxr
          have hpos := List.length_pos_of_mem hxr
          have neF1 : L' + 1 ≠ F := fun z => by rw [z, ef] at e1; cases e1
          refine sv_nilK hkk ⟨(l02.trans l₃).setL σF, (St.keep neF1 (l₃ _ _ e1)), (St.keep F2.symm (l₃ _ _ e2)), found ++ [x], by rw [St.set_same, List.map_append]; rfl, by rw [← er]; exact hp', by rw [List.length_append, hfl]; rfl, ?_⟩
          rw [← er]; omega
  · rintro ρ₁ σ₁ ⟨l₁, d1, d2, found, hf, P, hfl, hlen⟩
    rw [hvl] at hlen
    have : (keysOf es).filter (fun y => !decide (y ∈ found)) = [] := List.length_eq_zero_iff.mp (by omega)
    rw [this] at P
    cases P with
    | done => exact sv_cons (sv_Return (ev_cell (x := "found") (c := L' + 2) d2 (h F σ₁ l₁ σF hf)))
    | step hx _ => simp at hx
end
end Mine
namespace Mine
def CellsAt (σ : St) (L' : Addr) (vals : List (Option V)) : Prop := ∀ i (h : i < vals.length), σ (L' + 1 + i) = some (.cell vals[i])
theorem CellsAt.le {σ σ' : St} {L' vals} (x : CellsAt σ L' vals) (l : Le σ σ') : CellsAt σ' L' vals := fun i h => l _ _ (x i h)
theorem CellsAt.set {σ : St} {L' vals} (x : CellsAt σ L' vals) (i : Nat) (v : Option V) : CellsAt (σ.set (L' + 1 + i) (.cell v)) L' (vals.set i v) := fun j h => by
  rw [List.length_set] at h
  by_cases q : i = j
  · subst q; rw [St.set_same]; simp
  · rw [St.set_ne _ _ (fun z => q (Nat.add_left_cancel z).symm), List.getElem_set_ne q]
    exact x j h
theorem CellsAt.other {σ : St} {L' vals} (x : CellsAt σ L' vals) {a : Addr} {o : AObj} (h : ∀ i, i < vals.length → L' + 1 + i ≠ a) : CellsAt (σ.set a o) L' vals := fun i hi => by
  rw [St.set_ne _ _ (h i hi)]; exact x i hi
section
variable {G : Amb} {A : Around} {env : Env} {L : Addr} {ρ : Loc} {σ : St} {X : Value → Shared → Prop} {k : V → St → Prop}
set_option maxHeartbeats 2000000 in
theorem c_fieldsL (hG : IsG G) {n : Nat} (R : Room A (n + 4)) {kn : Addr} {es : Ens} {seq : List Str} (H : Kn σ kn es) (W : WF es) (hp : PF es [] (keysOf es) seq) (hall : ∀ x ∈ seq, ∃ t, gets es x = some t) (hsz : (allF es seq).1.length ≤ 10000)
    (h : ∀ D σ', Le σ σ' → σ D = none → σ' D = some (.list ((allF es seq).1.map Fd.V)) → k (.ref D) σ') : OpC G A L ρ σ (.ref 306) [.ref kn] k X := by
  refine opc_fnC (f := 306) ["known"] (ρ₀ := [("known", .ref kn)]) (by rw [hG.K]; rfl) (by rw [hG.K]; rfl) R fun L' A' env σC he R' le hc => ?_
  obtain ⟨g1, g2⟩ := G_seq hG
  obtain ⟨bi1, bi2⟩ := B_int hG
  subst he
  have cs : CellsAt σC L' [none, none, none, none, none, none] := fun i h => by
    have : i = 0 ∨ i = 1 ∨ i = 2 ∨ i = 3 ∨ i = 4 ∨ i = 5 := by simp at h; omega
    rcases this with rfl | rfl | rfl | rfl | rfl | rfl
    · exact (hc "many" (L' + 1) (.tail _ (.tail _ (.tail _ (.tail _ (.tail _ (.head _))))))).1
    · exact (hc "name" (L' + 2) (.tail _ (.tail _ (.tail _ (.tail _ (.head _)))))).1
    · exact (hc "spot" (L' + 3) (.tail _ (.tail _ (.tail _ (.head _))))).1
    · exact (hc "is_disj" (L' + 4) (.tail _ (.tail _ (.head _)))).1
    · exact (hc "mult" (L' + 5) (.tail _ (.head _))).1
    · exact (hc "node" (L' + 6) (.head _)).1
  have cn : ∀ i : Nat, i < 6 → σ (L' + 1 + i) = none := fun i h => by
    have : i = 0 ∨ i = 1 ∨ i = 2 ∨ i = 3 ∨ i = 4 ∨ i = 5 := by omega
    rcases this with rfl | rfl | rfl | rfl | rfl | rfl
    · exact (hc "many" (L' + 1) (.tail _ (.tail _ (.tail _ (.tail _ (.tail _ (.head _))))))).2
    · exact (hc "name" (L' + 2) (.tail _ (.tail _ (.tail _ (.tail _ (.head _)))))).2
    · exact (hc "spot" (L' + 3) (.tail _ (.tail _ (.tail _ (.head _))))).2
    · exact (hc "is_disj" (L' + 4) (.tail _ (.tail _ (.head _)))).2
    · exact (hc "mult" (L' + 5) (.tail _ (.head _))).2
    · exact (hc "node" (L' + 6) (.head _)).2
  have lf : ∀ a, σC a = none → σ a = none := fun a q => by
    cases e : σ a with
    | none => rfl
    | some o => rw [le _ _ e] at q; cases q
  refine sv_cons (sv_AssignTup (ev_Tuple (lv_cons (ev_List (lv_nil ⟨len_ok rfl, fun F hF => lv_cons (ev_int (lv_nil ⟨len_ok rfl, ?_⟩))⟩)))))
  have lF := Le.set (o := .list []) hF
  have cs1 := cs.le lF
  have σF := lf _ hF
  refine ts_Tuple R'.handled (tl_cons (ts_Name (ts_local (tl_cons (ts_Name (ts_cell (c := L' + 1 + 0) (cs1 0 (by simp)) (tl_nil ?_)))))))
  have neF : ∀ i : Nat, i < 6 → L' + 1 + i ≠ F := fun i hi q => by have := cs1 i hi; rw [q, St.set_same] at this; cases this
  have cs2 := cs1.set 0 (some (.int 0))
  have b2 : Le σ ((σC.set F (.list [])).set (L' + 1 + 0) (.cell (some (.int 0)))) := (le.trans lF).setL (cn 0 (by decide))
  have f2 : ((σC.set F (.list [])).set (L' + 1 + 0) (.cell (some (.int 0)))) F = some (.list []) := St.keep ((neF 0 (by decide)).symm) (St.set_same ..)
  generalize (σC.set F (.list [])).set (L' + 1 + 0) (.cell (some (.int 0))) = σ₀ at *
  refine sv_cons (sv_For PassesOwn.never (ie_list R'.handled ?_))
  refine ev_Call (ev_global g1 (fun _ => .glob _ rfl) ⟨_, rfl, g2, lv_cons (ev_local (x := "known") (lv_nil (c_sequence hG R' (H.le b2) W hp fun Sq σ₁ l₁ hSq hSq' => ⟨Sq, _, rfl, hSq', ?_⟩)))⟩)
  have bound : ∀ i, ((seq.take i).foldl (stepName es) ([], 0)).1.length ≤ 10000 := fun i => Nat.le_trans (foldl_take_len _ (stepName_len es) _ _ _) hsz
  have SqF : Sq ≠ F := fun q => by rw [q, f2] at hSq; cases hSq
  have Sqc : ∀ i : Nat, i < 6 → L' + 1 + i ≠ Sq := fun i hi q => by have := cs2 i (by rw [List.length_set]; exact hi); rw [q, hSq] at this; cases this
  have σSq : σ Sq = none := by
    cases e : σ Sq with
    | none => rfl
    | some o => rw [b2 _ _ e] at hSq; cases hSq
  refine ⟨fun i ρ' σ' => Sub [("known", .ref kn), ("found", .ref F)] ρ' ∧ Le σ σ' ∧ σ' Sq = some (.list (seq.map .str)) ∧ σ' F = some (.list (((seq.take i).foldl (stepName es) ([], 0)).1.map Fd.V)) ∧
      ∃ v1 v2 v3 v4 v5, CellsAt σ' L' [some (.int ((seq.take i).foldl (stepName es) ([], 0)).2), v1, v2, v3, v4, v5],
    ⟨⟨rfl, rfl, trivial⟩, b2.trans l₁, hSq', l₁ _ _ f2, _, _, _, _, _, cs2.le l₁⟩, fun i ρ σ' h => h.2.2.1, ?_, ?_⟩
  · rintro i ρ₁ σ₂ hi ⟨hs, l₂, hS, hf, v1, v2, v3, v4, v5, cA⟩
    rw [List.length_map] at hi
    refine TS.sub ?_ hs
    dsimp only
    have hb1 := bound (i + 1)
    rw [foldl_take _ _ _ _ hi] at hb1 ⊢
    rw [getD_mapE _ _ _ hi]
    obtain ⟨t, ht⟩ := hall _ (List.getElem_mem hi)
    generalize (seq.take i).foldl (stepName es) ([], 0) = st at hf hb1 cA ⊢
    generalize seq[i] = name at ht hb1 ⊢
    have hrows : rowsOf es name = t.rows := by unfold rowsOf; rw [ht]; rfl
    unfold stepName at hb1 ⊢
    rw [hrows] at hb1 ⊢
    refine ts_Name (ts_cell (c := L' + 1 + 1) (cA 1 (by simp)) ?_)
    have cB := cA.set 1 (some (.str name))
    have l₃ : Le σ (σ₂.set (L' + 1 + 1) (.cell (some (.str name)))) := l₂.setL (cn 1 (by decide))
    have hf₃ : (σ₂.set (L' + 1 + 1) (.cell (some (.str name)))) F = some (.list (st.1.map Fd.V)) := St.keep ((neF 1 (by decide)).symm) hf
    have hS₃ : (σ₂.set (L' + 1 + 1) (.cell (some (.str name)))) Sq = some (.list (seq.map .str)) := St.keep ((Sqc 1 (by decide)).symm) hS
    generalize σ₂.set (L' + 1 + 1) (.cell (some (V.str name))) = σ₃ at *
    refine gen_k fun kk hkk => ?_
    refine sv_cons (sv_For PassesOwn.never (ie_tup R'.handled (ev_known hG (i := 7) (H.le l₃) ht (fun k h => ev_local (x := "known") h) (fun k h => ev_cell (x := "name") (c := L' + 1 + 1) (cB 1 (by simp)) h) (fun k h => ev_int h) (by decide) (by decide) rfl rfl ⟨_, rfl, ?_⟩)))
    have bound2 : ∀ j, ((t.rows.take j).foldl (stepRow name) st).1.length ≤ 10000 := fun j => Nat.le_trans (foldl_take_len _ (stepRow_len name) _ _ _) hb1
    refine ⟨fun j ρ' σ' => Sub [("known", .ref kn), ("found", .ref F)] ρ' ∧ Le σ σ' ∧ σ' Sq = some (.list (seq.map .str)) ∧ σ' F = some (.list (((t.rows.take j).foldl (stepRow name) st).1.map Fd.V)) ∧
        ∃ v2 v3 v4 v5, CellsAt σ' L' [some (.int ((t.rows.take j).foldl (stepRow name) st).2), some (.str name), v2, v3, v4, v5],
      ⟨⟨rfl, rfl, trivial⟩, l₃, hS₃, hf₃, _, _, _, _, cB⟩, fun _ _ _ _ => trivial, ?_, ?_⟩
    · rintro j ρ₂ σ₄ hj ⟨hs₂, l₄, hS₄, hf₄, w2, w3, w4, w5, cC⟩
      rw [List.length_map] at hj
      refine TS.sub ?_ hs₂
      dsimp only
      have hb2 := bound2 (j + 1)
      rw [foldl_take _ _ _ _ hj] at hb2 ⊢
      rw [getD_mapE _ _ _ hj]
      generalize (t.rows.take j).foldl (stepRow name) st = st₂ at hf₄ hb2 cC ⊢
      generalize t.rows[j] = r at hb2 ⊢
      have hb3 : st₂.1.length + r.names.length ≤ 10000 := by simpa [stepRow] using hb2
      refine ts_Tuple R'.handled (ds := [.int r.spot, .bool r.disj, .tup (r.names.map .str), .str r.mult, r.node]) ?_
      refine tl_cons (ts_Name (ts_cell (c := L' + 1 + 2) (cC 2 (by simp)) ?_))
      have cD := cC.set 2 (some (.int r.spot))
      refine tl_cons (ts_Name (ts_cell (c := L' + 1 + 3) (cD 3 (by simp)) ?_))
      have cE := cD.set 3 (some (.bool r.disj))
      refine tl_cons (ts_Name (ts_local ?_))
      refine tl_cons (ts_Name (ts_cell (c := L' + 1 + 4) (cE 4 (by simp)) ?_))
      have cG := cE.set 4 (some (.str r.mult))
      refine tl_cons (ts_Name (ts_cell (c := L' + 1 + 5) (cG 5 (by simp)) ?_))
      have cJ := cG.set 5 (some r.node)
      refine tl_nil ?_
      have l₅ : Le σ ((((σ₄.set (L' + 1 + 2) (.cell (some (.int r.spot)))).set (L' + 1 + 3) (.cell (some (.bool r.disj)))).set (L' + 1 + 4) (.cell (some (.str r.mult)))).set (L' + 1 + 5) (.cell (some r.node))) :=
        (((l₄.setL (cn 2 (by decide))).setL (cn 3 (by decide))).setL (cn 4 (by decide))).setL (cn 5 (by decide))
      have hf₅ : ((((σ₄.set (L' + 1 + 2) (.cell (some (.int r.spot)))).set (L' + 1 + 3) (.cell (some (.bool r.disj)))).set (L' + 1 + 4) (.cell (some (.str r.mult)))).set (L' + 1 + 5) (.cell (some r.node))) F = some (.list (st₂.1.map Fd.V)) := by
        rw [St.set_ne _ _ (neF 5 (by decide)).symm, St.set_ne _ _ (neF 4 (by decide)).symm, St.set_ne _ _ (neF 3 (by decide)).symm, St.set_ne _ _ (neF 2 (by decide)).symm]; exact hf₄
      have hS₅ : ((((σ₄.set (L' + 1 + 2) (.cell (some (.int r.spot)))).set (L' + 1 + 3) (.cell (some (.bool r.disj)))).set (L' + 1 + 4) (.cell (some (.str r.mult)))).set (L' + 1 + 5) (.cell (some r.node))) Sq = some (.list (seq.map .str)) := by
        rw [St.set_ne _ _ (Sqc 5 (by decide)).symm, St.set_ne _ _ (Sqc 4 (by decide)).symm, St.set_ne _ _ (Sqc 3 (by decide)).symm, St.set_ne _ _ (Sqc 2 (by decide)).symm]; exact hS₄
      generalize ((((σ₄.set (L' + 1 + 2) (.cell (some (V.int r.spot)))).set (L' + 1 + 3) (.cell (some (V.bool r.disj)))).set (L' + 1 + 4) (.cell (some (V.str r.mult)))).set (L' + 1 + 5) (.cell (some r.node))) = σ₅ at *
      have cK : CellsAt σ₅ L' [some (.int st₂.2), some (.str name), some (.int r.spot), some (.bool r.disj), some (.str r.mult), some r.node] := cJ
      clear cJ cG cE cD
      refine gen_k fun kk' hkk' => ?_
      refine sv_cons (sv_Expr (ev_MCall (ev_local (x := "found") (gm_list PySem.F.slot_list_extend PySem.F.type_list_extend hf₅ ⟨.builtin _, lv_cons ?_⟩))))
      refine ev_Over (default : Str) (ie_tup R'.handled (ev_local (x := "some") ⟨_, rfl, r.names, V.str, (fun _ => true), (fun f => (one r name st₂.2 f).V),
        ⟨by simp, fun i d hi => getD_map d _ _ _ (by simpa using hi), fun _ _ => trivial, by rw [sizeLine_eq]; omega, fun C x σ₆ hx l₆ => ?_⟩, fun D σ₆ l₆ hD hD' => ?_⟩))
      · have cL := cK.le l₆
        refine ts_Name (ts_local (qv_nil ⟨rfl, ?_⟩))
        rw [if_pos rfl]
        refine ev_Tuple (lv_cons (ev_local (x := "field") ?_))
        refine lv_cons (ev_cell (x := "name") (c := L' + 1 + 1) (cL 1 (by simp)) ?_)
        refine lv_cons (ev_cell (x := "mult") (c := L' + 1 + 4) (cL 4 (by simp)) ?_)
        refine lv_cons (ev_cell (x := "node") (c := L' + 1 + 5) (cL 5 (by simp)) ?_)
        refine lv_cons (ev_cell (x := "spot") (c := L' + 1 + 2) (cL 2 (by simp)) ?_)
        refine lv_cons (ev_IfExp (bv_plain (ev_cell (x := "is_disj") (c := L' + 1 + 3) (cL 3 (by simp)) ⟨_, rfl, ?_⟩)))
        cases hd : r.disj with
        | true =>
          simp only [if_true]
          exact ev_cell (x := "many") (c := L' + 1 + 0) (cL 0 (by simp)) (lv_nil ⟨len_ok rfl, by simp [one, Fd.V, hd], Le.refl _⟩)
        | false =>
          simp only [Bool.false_eq_true, if_false]
          exact ev_neg (ev_int ⟨_, rfl, lv_nil ⟨len_ok rfl, by simp [one, Fd.V, hd], Le.refl _⟩⟩)
      · rw [List.filter_eq_self.mpr (fun _ _ => rfl)] at hD'
        have cL := cK.le l₆
        refine lv_nil (opc_extend_list (l₆ _ _ hf₅) hD' (by rw [List.length_map, List.length_map, sizeLine_eq]; omega) ⟨rfl, ?_⟩)
        have ef : st₂.1.map Fd.V ++ r.names.map (fun f => (one r name st₂.2 f).V) = (st₂.1 ++ r.names.map (one r name st₂.2)).map Fd.V := by rw [List.map_append, List.map_map]; rfl
        rw [ef]
        have cM : CellsAt (σ₆.set F (.list ((st₂.1 ++ r.names.map (one r name st₂.2)).map Fd.V))) L' _ := cL.other fun i hi => neF i (by simpa using hi)
        have l₇ : Le σ (σ₆.set F (.list ((st₂.1 ++ r.names.map (one r name st₂.2)).map Fd.V))) := (l₅.trans l₆).setL σF
        have hf₇ := St.set_same σ₆ F (.list ((st₂.1 ++ r.names.map (one r name st₂.2)).map Fd.V))
        have hS₇ : (σ₆.set F (.list ((st₂.1 ++ r.names.map (one r name st₂.2)).map Fd.V))) Sq = some (.list (seq.map .str)) := St.keep SqF (l₆ _ _ hS₅)
        generalize σ₆.set F (.list ((st₂.1 ++ r.names.map (one r name st₂.2)).map Fd.V)) = σ₇ at *
        refine sv_cons (sv_AssignCell (c := L' + 1 + 0) (ev_BinOp (ev_cell (x := "many") (c := L' + 1 + 0) (cM 0 (by simp)) (ev_Call (ev_builtin bi1 bi2 rfl ⟨_, rfl, .type _, lv_cons (ev_cell (x := "is_disj") (c := L' + 1 + 3) (cM 3 (by simp)) (lv_nil (opc_int_bool (op_add_int ⟨⟨_, cM 0 (by simp)⟩, ?_⟩))))⟩)))))
        have cN := cM.set 0 (some (.int (st₂.2 + if r.disj = true then 1 else 0)))
        refine sv_nilK hkk' ⟨⟨rfl, rfl, trivial⟩, l₇.setL (cn 0 (by decide)), (St.keep ((Sqc 0 (by decide)).symm) hS₇), (St.keep ((neF 0 (by decide)).symm) hf₇), _, _, _, _, cN⟩
    · rintro ρ₂ σ₄ ⟨hs₂, l₄, hS₄, hf₄, w2, w3, w4, w5, cC⟩
      rw [List.length_map, List.take_length] at hf₄ cC
      exact SV.sub (sv_nilK hkk ⟨⟨rfl, rfl, trivial⟩, l₄, hS₄, hf₄, _, _, _, _, _, cC⟩) hs₂
  · rintro ρ₁ σ₂ ⟨hs, l₂, hS, hf, _⟩
    rw [List.length_map, List.take_length] at hf
    exact SV.sub (sv_cons (sv_Return (ev_local (x := "found") (h F σ₂ l₂ σF hf)))) hs
end
end Mine
namespace Mine
theorem lays_mem : ∀ {vs : List V}, V.lays vs = true → ∀ d ∈ vs, d.lay = true
  | v :: vs, h, d, hd => by
    simp only [V.lays, Bool.and_eq_true] at h
    rcases List.mem_cons.mp hd with rfl | hd
    · exact h.1
    · exact lays_mem h.2 d hd
theorem deps_mem : ∀ {vs : List V}, ∀ d ∈ vs, d.dep ≤ V.deps vs
  | v :: vs, d, hd => by
    simp only [V.deps]
    rcases List.mem_cons.mp hd with rfl | hd
    · exact Nat.le_max_left ..
    · exact Nat.le_trans (deps_mem d hd) (Nat.le_max_right ..)
theorem Fit.of {n} {vs : List V} {d : V} (h : Fit (.tup vs) (n + 1)) (hd : d ∈ vs) : Fit d n := by
  obtain ⟨a, b⟩ := h
  rw [V.lay] at a
  rw [V.dep] at b
  have := deps_mem d hd
  exact ⟨lays_mem a d hd, by omega⟩
theorem Made.le {σ σ' : St} {me es seq fs ops} (x : Made σ me es seq fs ops) (l : Le σ σ') : Made σ' me es seq fs ops := ⟨x.ents.le l, x.stands.le l, x.ordered.le l, x.fields.le l, x.opened.le l⟩
section
variable {G : Amb} {A : Around} {env : Env} {L : Addr} {ρ : Loc} {σ : St} {X : Value → Shared → Prop} {k : V → St → Prop}
theorem B_sorted (hG : IsG G) : G.mg "sorted" = none ∧ G.mb "sorted" = some (.builtin "sorted") := B_name hG rfl rfl (by decide)
set_option maxHeartbeats 4000000 in
theorem c_told (hG : IsG G) {n m : Nat} {sg kn : Addr} {es : Ens} {seq : List Str} {fs : List Fd} {ops : List (Str × Str)} {name : Str} {it : It} {line : List Str} (W : WF es) (r : Str → Nat) (hr : ∀ x t, gets es x = some t → ∀ y ∈ t.direct, r y < r x) (hm : r name < m)
    (R : Room A (n + m + line.length + 10)) (M : Made σ sg es seq fs ops) (H : Kn σ kn es) (hn : gets es name = some it) (hl : Line es name line) (hsz : line.length ≤ 1000) (hf : Fit it.V 60) (h60 : es.length ≤ 60)
    (h : ∀ σ', Le σ σ' → k (.bool true) σ') : OpC G A L ρ σ (.ref 311) [.ref sg, .ref kn, .str name] k X := by
  refine opc_fnC (f := 311) ["sigs", "known", "name"] (ρ₀ := [("sigs", .ref sg)]) (by rw [hG.K]; rfl) (by rw [hG.K]; rfl) R fun L' A' env σC he R' le hc => ?_
  obtain ⟨gl1, gl2⟩ := G_line hG
  obtain ⟨gr1, gr2⟩ := G_ra hG
  obtain ⟨go1, go2⟩ := G_over hG
  obtain ⟨bn1, bn2⟩ := B_len hG
  obtain ⟨bs1, bs2⟩ := B_sorted hG
  subst he
  have c1 : σC (L' + 1) = some (.cell (some (.ref kn))) := (hc "known" (L' + 1) (.tail _ (.head _))).1
  have c2 : σC (L' + 2) = some (.cell (some (.str name))) := (hc "name" (L' + 2) (.head _)).1
  have hsup := W.sup _ _ hn
  have hdl := direct_len it
  have R1 : Room A' (n + 1) := R'.le (by omega)
  have R2 : Room A' (n + 2) := R'.le (by omega)
  have R3 : Room A' (n + 3) := R'.le (by omega)
  have fStr : ∀ x t, gets es x = some t → Fit (.str x) 60 := fun x t ht => .str (W.ok x t ht)
  have fSup : Fit (.tup (it.supers.map .str)) 59 := hf.of (by simp)
  have fTold : Fit (.tup [.int it.spot, .str it.parent, .tup (it.supers.map .str), .str it.mult, .tup it.facts]) 60 := by
    refine Fit.tup (n := 59) fun d hd => hf.of ?_
    simp only [List.mem_cons, List.mem_nil_iff, or_false] at hd
    rcases hd with rfl | rfl | rfl | rfl | rfl <;> simp
  have fLine : ∀ d ∈ line.map V.str, Fit d 60 := fun d hd => by
    obtain ⟨x, hx, rfl⟩ := List.mem_map.mp hd
    obtain ⟨t, ht⟩ := hl.len x hx
    exact fStr x t ht
  have hkl : (keysOf es).length ≤ 60 := by unfold keysOf; rw [List.length_map]; exact h60
  have hkn : (keysOf es).Nodup := W.keys
  refine sv_cons (sv_AssignSwap (names := ["item", "line"]) R'.handled ?_)
  obtain ⟨epk, hK⟩ := H.le le
  refine ev_Tuple (lv_cons (ev_Subscript (ev_cell (x := "known") (c := L' + 1) c1 (ev_cell (x := "name") (c := L' + 2) c2 (op_item_sdict (d := it.V) hK (by rw [get_vents, hn]; rfl) ?_)))))
  refine lv_cons (ev_Call (ev_global gl1 (fun _ => .glob _ rfl) ⟨_, rfl, gl2, lv_cons (ev_cell (x := "known") (c := L' + 1) c1 (lv_cons (ev_cell (x := "name") (c := L' + 2) c2 (lv_nil ?_))))⟩))
  refine c_line hG hl (n := n) (R'.le (by omega)) ⟨epk, hK⟩ hsz fun Ln σ₁ l₁ hLn hLn' => lv_nil ⟨len_ok rfl, _, rfl, rfl, ?_⟩
  refine tl_cons (ts_bind (ts_local ?_))
  refine tl_cons (ts_bind (ts_local ?_))
  refine tl_nil ?_
  show SV G _ _ _ _ _ _ _
  have l01 := le.trans l₁
  have M₁ := M.le l01
  have H₁ := M₁.ents
  obtain ⟨ps, E, ep, s, hg, hE⟩ := id H₁
  have d1 := l₁ _ _ c1
  have d2 := l₁ _ _ c2
  have hK₁ := l₁ _ _ hK
  clear hE hg c1 c2 hK l₁
  refine sv_cons (sv_Assign (ev_Tuple ?_))
  refine lv_cons (ev_m1 (M_spot hG) (ev_local (x := "sigs") ⟨sg, ps, rfl, s, ev_cell (x := "name") (c := L' + 2) d2 (c_spot hG R1 H₁ hn ?_)⟩))
  refine lv_cons (ev_m1 (M_parent hG) (ev_local (x := "sigs") ⟨sg, ps, rfl, s, ev_cell (x := "name") (c := L' + 2) d2 (c_parent hG R1 H₁ hn ?_)⟩))
  refine lv_cons (ev_m1 (M_supers hG) (ev_local (x := "sigs") ⟨sg, ps, rfl, s, ev_cell (x := "name") (c := L' + 2) d2 (c_supers hG R1 H₁ hn ?_)⟩))
  refine lv_cons (ev_m1 (M_mult hG) (ev_local (x := "sigs") ⟨sg, ps, rfl, s, ev_cell (x := "name") (c := L' + 2) d2 (c_mult hG R1 H₁ hn ?_)⟩))
  refine lv_cons (ev_m1 (M_facts hG) (ev_local (x := "sigs") ⟨sg, ps, rfl, s, ev_cell (x := "name") (c := L' + 2) d2 (c_facts hG R1 H₁ hn ?_)⟩))
  refine lv_nil ⟨len_ok rfl, ?_⟩
  refine sv_cons (sv_If (bv_Or (bv_Compare (ev_local (x := "told") (ev_Tuple ?_)))))
  refine lv_cons (ev_Subscript (ev_local (x := "item") (ev_int (op_item_tup (d := .int it.spot) (by decide) (by decide) rfl ?_))))
  refine lv_cons (ev_Subscript (ev_local (x := "item") (ev_int (op_item_tup (d := .str it.parent) (by decide) (by decide) rfl ?_))))
  refine lv_cons (ev_Subscript (ev_local (x := "item") (ev_int (op_item_tup (d := .tup (it.supers.map .str)) (by decide) (by decide) rfl ?_))))
  refine lv_cons (ev_Subscript (ev_local (x := "item") (ev_int (op_item_tup (d := .str it.mult) (by decide) (by decide) rfl ?_))))
  refine lv_cons (ev_Subscript (ev_local (x := "item") (ev_int (op_item_tup (d := .tup it.facts) (by decide) (by decide) rfl ?_))))
  refine lv_nil ⟨len_ok rfl, op_ne_sameT R' fTold ⟨_, rfl, ?_⟩⟩
  rw [if_neg (by decide)]
  refine bv_Or (bv_Not (bv_plain (ev_m1 (M_has hG) (ev_local (x := "sigs") ⟨sg, ps, rfl, s, ev_cell (x := "name") (c := L' + 2) d2 (c_has hG R1 H₁ ?_)⟩))))
  rw [hn]
  refine ⟨true, rfl, ?_⟩
  rw [if_neg (by decide)]
  refine bv_Or_nil ?_
  rw [if_neg (by decide)]
  refine sv_nil ?_
  refine sv_cons (sv_If (bv_Compare (ev_Tuple ?_)))
  refine lv_cons (ev_m1 (M_is_abstract hG) (ev_local (x := "sigs") ⟨sg, ps, rfl, s, ev_cell (x := "name") (c := L' + 2) d2 (c_is_abstract hG R1 H₁ hn ?_)⟩))
  refine lv_cons (ev_m1 (M_is_subset hG) (ev_local (x := "sigs") ⟨sg, ps, rfl, s, ev_cell (x := "name") (c := L' + 2) d2 (c_is_subset hG R1 H₁ hn (by omega) ?_)⟩))
  refine lv_nil ⟨len_ok rfl, ev_Tuple ?_⟩
  refine lv_cons (ev_Subscript (ev_local (x := "item") (ev_int (op_item_tup (d := .bool it.abs) (by decide) (by decide) rfl ?_))))
  refine lv_cons (ev_Compare (ev_Subscript (ev_local (x := "item") (ev_int (op_item_tup (d := .tup (it.supers.map .str)) (by decide) (by decide) rfl ?_)))))
  refine ev_Tuple (lv_nil ⟨len_ok rfl, op_ne_nilT R' (fSup.le (by decide)) ?_⟩)
  rw [List.isEmpty_map]
  refine lv_nil ⟨len_ok rfl, op_ne_sameT R' ((Fit.tup (n := 0) fun d hd => ?_).le (by decide)) ⟨_, rfl, ?_⟩⟩
  · simp only [List.mem_cons, List.mem_nil_iff, or_false] at hd
    rcases hd with rfl | rfl <;> exact .bool _
  rw [if_neg (by decide)]
  refine sv_nil ?_
  refine sv_cons (sv_If (bv_Or (bv_Compare (ev_m1 (M_above hG) (ev_local (x := "sigs") ⟨sg, ps, rfl, s, ev_cell (x := "name") (c := L' + 2) d2 (c_above hG R2 H₁ hl hsz fun D₂ σ₂ l₂ hD₂ hD₂' => ?_)⟩)))))
  refine ev_local (x := "line") (op_ne_same R' hD₂' (l₂ _ _ hLn') fLine ⟨_, rfl, ?_⟩)
  rw [if_neg (by decide)]
  refine bv_Or (bv_Compare (ev_m1 (M_top hG) (ev_local (x := "sigs") ⟨sg, ps, rfl, s.le l₂, ev_cell (x := "name") (c := L' + 2) (l₂ _ _ d2) (c_top hG R3 (H₁.le l₂) hn hl hsz (by omega) fun σ₃ l₃ => ?_)⟩)))
  have l23 := l₂.trans l₃
  refine ev_det2 (fun d σ' => d = .str (if it.supers.isEmpty then (name :: line).getLastD "" else "") ∧ Le σ₃ σ') ?_ ?_
  · refine ev_IfExp (bv_Compare (ev_Subscript (ev_local (x := "item") (ev_int (op_item_tup (d := .tup (it.supers.map .str)) (by decide) (by decide) rfl ?_)))))
    refine ev_Tuple (lv_nil ⟨len_ok rfl, op_ne_nilT R' (fSup.le (by decide)) ⟨_, rfl, ?_⟩⟩)
    rw [List.isEmpty_map]
    cases q : it.supers.isEmpty with
    | false =>
      rw [if_pos (by decide)]
      exact ev_str ⟨rfl, Le.refl _⟩
    | true =>
      rw [if_neg (by decide)]
      refine ev_Subscript (ev_BinOp (ev_List (lv_cons (ev_cell (x := "name") (c := L' + 2) (l23 _ _ d2) (lv_nil ⟨len_ok rfl, fun B hB => ?_⟩)))))
      have lB := Le.set (o := .list [.str name]) hB
      refine ev_local (x := "line") (op_add_list (St.set_same ..) (lB _ _ (l23 _ _ hLn')) (by simp; rw [sizeLine_eq]; omega) fun C hC => ?_)
      refine ev_neg (ev_int ⟨1, rfl, op_item_list_neg (d := .str ((name :: line).getLastD "")) (St.set_same ..) (by decide) ?_ ?_ ?_ (by decide)⟩)
      · simp; omega
      · have e : ([V.str name] ++ line.map V.str) = (name :: line).map V.str := rfl
        rw [e, List.length_map, List.getElem?_map]
        have e2 : ((-1 : Int) + ((name :: line).length : Nat)).toNat = (name :: line).length - 1 := by simp; omega
        rw [e2, ← List.getLast?_eq_getElem?]
        simp [List.getLast?_cons]
      · exact ⟨rfl, lB.trans (Le.set hC)⟩
  rintro _ σ₄ ⟨rfl, l₄⟩
  refine op_ne_str ⟨_, rfl, ?_⟩
  rw [decide_eq_true rfl, if_neg (by decide)]
  refine bv_Or_nil ?_
  rw [if_neg (by decide)]
  refine sv_nil ?_
  have l14 := l23.trans l₄
  clear hD₂ hD₂' l₂ l₃ l23 l₄
  have M₄ := M₁.le l14
  have H₄ := M₄.ents
  have s₄ := s.le l14
  have e1 := l14 _ _ d1
  have e2 := l14 _ _ d2
  have hK₄ := l14 _ _ hK₁
  have l04 := l01.trans l14
  clear M₁ H₁ s d1 d2 hK₁ hLn' l14 l01
  refine sv_cons (sv_If (bv_Compare (ev_m1 (M_children hG) (ev_local (x := "sigs") ⟨sg, ps, rfl, s₄, ev_cell (x := "name") (c := L' + 2) e2 (c_children hG R2 H₄ M₄.stands (fun x hx => mem_gets hx) (by omega) fun D₅ σ₅ l₅ hD₅ hD₅' => ?_)⟩))))
  have hks : (vents es).map (·.1) = keysOf es := by unfold vents keysOf; rw [List.map_map]; rfl
  have hvl : (vents es).length = (keysOf es).length := by rw [← hks, List.length_map]
  refine ev_Over (default : Str) (ie_keys R'.handled (ev_cell (x := "known") (c := L' + 1) (l₅ _ _ e1) ⟨kn, epk, _, rfl, l₅ _ _ hK₄, keysOf es, V.str, (fun x => decide (((gets es x).map It.parent) = some name)), V.str,
      ⟨hvl, fun j d hj => by rw [hks, List.getD_eq_getElem?_getD, List.getD_eq_getElem?_getD, List.getElem?_eq_getElem (by rw [← hvl]; exact hj)]; rfl, fun σ' l' => l' _ _ (l₅ _ _ hK₄), by rw [sizeLine_eq]; omega, fun C y σ₆ hy l₆ => ?_⟩, fun D₆ σ₆ l₆ hD₆ hD₆' => ?_⟩))
  · obtain ⟨t, ht⟩ := mem_gets hy
    have l56 := l₅.trans l₆
    refine ts_Name (ts_local (qv_one (bv_Compare (ev_known hG (i := 5) ⟨epk, l56 _ _ hK₄⟩ ht (fun k h => ev_cell (x := "known") (c := L' + 1) (l56 _ _ e1) h) (fun k h => ev_local (x := "other") h) (fun k h => ev_int h) (by decide) (by decide) rfl rfl ?_))))
    refine ev_cell (x := "name") (c := L' + 2) (l56 _ _ e2) (op_eq_str ⟨_, rfl, ?_, ?_⟩)
    · rw [ht]; simp
    · by_cases q : t.parent = name
      · simp only [q, decide_true, if_true]
        exact ev_local (x := "other") ⟨rfl, Le.refl _⟩
      · simp only [q, decide_false, Bool.false_eq_true, if_false]
        exact Le.refl _
  refine op_ne_same R' (l₆ _ _ hD₅') hD₆' (fun d hd => ?_) ⟨_, rfl, ?_⟩
  · obtain ⟨x, hx, rfl⟩ := List.mem_map.mp hd
    obtain ⟨t, ht⟩ := mem_gets (List.mem_filter.mp hx).1
    exact fStr x t ht
  rw [if_neg (by decide)]
  refine sv_nil ?_
  have l46 := l₅.trans l₆
  have M₆ := M₄.le l46
  have H₆ := M₆.ents
  have s₆ := s₄.le l46
  have f1 := l46 _ _ e1
  have f2 := l46 _ _ e2
  have hK₆ := l46 _ _ hK₄
  have l06 := l04.trans l46
  clear M₄ H₄ s₄ e1 e2 hK₄ l04 l46 l₅ l₆ hD₅ hD₅' hD₆ hD₆'
  refine sv_cons (sv_AssignSwap (names := ["over", "near"]) R'.handled ?_)
  refine ev_Tuple (lv_cons (ev_m1 (M_all_above hG) (ev_local (x := "sigs") ⟨sg, ps, rfl, s₆, ev_cell (x := "name") (c := L' + 2) f2 (c_all_above hG R3 H₆ W hn fun Ov σ₇ over l₇ hO hO' AB => ?_)⟩)))
  refine lv_cons (ev_Call (ev_global gr1 (fun _ => .glob _ rfl) ⟨_, rfl, gr2, lv_cons (ev_local (x := "item") (lv_nil (c_right_above hG (t := it) R1 (by omega) fun Nr σ₈ l₈ hN hN' => ?_)))⟩))
  refine lv_nil ⟨len_ok rfl, _, rfl, rfl, ?_⟩
  refine tl_cons (ts_bind (ts_local ?_))
  refine tl_cons (ts_bind (ts_local ?_))
  refine tl_nil ?_
  show SV G _ _ _ _ _ _ _
  have okey : ∀ x ∈ over, ∃ t, gets es x = some t := fun x hx => ((AB.mem x).mp hx).key W
  have ol : over.length ≤ 60 := by
    have := nodup_le (ys := es.map (·.1)) AB.nd fun x hx => let ⟨t, ht⟩ := okey x hx; gets_mem ht
    rw [List.length_map] at this; omega
  have l78 := l₇.trans l₈
  have hO₈ := l₈ _ _ hO'
  have l08 := l06.trans l78
  refine sv_cons (sv_Return (ev_And (ev_Compare (ev_upto (ev_local (x := "over") ?_)))))
  refine ev_Call (ev_builtin bn1 bn2 rfl ⟨_, rfl, .builtin _, lv_cons (ev_local (x := "near") (lv_nil (opc_len_list hN' (by rw [List.length_map, sizeLine_eq]; omega) ?_)))⟩)
  refine ⟨Ov, _, _, rfl, rfl, hO₈, by rw [List.length_map, sizeLine_eq]; omega, fun B hB => ?_⟩
  have htk : (over.map V.str).take (it.direct.map V.str).length = it.direct.map V.str := by
    obtain ⟨u, hu⟩ := AB.pre
    rw [← hu, List.map_append, List.take_left']
    rfl
  rw [htk]
  have lB := Le.set (o := .list (it.direct.map .str)) hB
  refine ev_local (x := "near") (op_eq_same R' (St.set_same ..) (lB _ _ hN') (fun d hd => ?_) ⟨true, rfl, ?_⟩)
  · obtain ⟨x, hx, rfl⟩ := List.mem_map.mp hd
    obtain ⟨t, ht⟩ := W.dir _ _ hn _ hx
    exact fStr x t ht
  rw [if_pos rfl]
  refine ev_Compare (ev_Call (ev_builtin bs1 bs2 rfl ⟨_, rfl, .builtin _, lv_cons (ev_local (x := "over") (lv_nil (opc_sorted_list (lB _ _ hO₈) (by omega) fun B₂ ys hB₂ hp₁ hs₁ => ?_)))⟩))
  have lB₂ := Le.set (o := .list (ys.map .str)) hB₂
  have l9 := lB.trans lB₂
  refine ev_Call (ev_builtin bs1 bs2 rfl ⟨_, rfl, .builtin _, lv_cons (ev_Call (ev_global go1 (fun _ => .glob _ rfl) ⟨_, rfl, go2, ?_⟩))⟩)
  refine lv_cons (ev_cell (x := "known") (c := L' + 1) (l9 _ _ (l78 _ _ f1)) (lv_cons (ev_cell (x := "name") (c := L' + 2) (l9 _ _ (l78 _ _ f2)) (lv_nil ?_))))
  refine c_over hG W r hr m hm hn (n := n) (R'.le (by omega)) ⟨epk, l9 _ _ (l78 _ _ hK₆)⟩ fun D₃ ep₃ gs σ₃ l₃ hD₃ hD₃' gnd gmem => ?_
  have hperm : over.Perm (gs.map (·.1)) := (List.perm_ext_iff_of_nodup AB.nd gnd).mpr fun x => by rw [AB.mem, gmem]
  have hgl : gs.length = over.length := by have := hperm.length_eq; simpa using this.symm
  refine lv_nil (opc_sorted_dict R'.handled hD₃' (by omega) fun B₃ zs hB₃ hp₂ hs₂ => ?_)
  have eyz : zs = ys := perm_sorted (hp₂.trans (hperm.symm.trans hp₁.symm)) (sorted_pair hs₂) (sorted_pair hs₁)
  subst eyz
  have lB₃ := Le.set (o := .list (zs.map .str)) hB₃
  refine op_eq_same R' (lB₃ _ _ (l₃ _ _ (St.set_same ..))) (St.set_same ..) (fun d hd => ?_) ?_
  · obtain ⟨x, hx, rfl⟩ := List.mem_map.mp hd
    obtain ⟨t, ht⟩ := okey x (hp₁.mem_iff.mp hx)
    exact fStr x t ht
  exact h _ (((l08.trans l9).trans l₃).trans lB₃)
end
end Mine
namespace Mine
structure Pure (found : List Item) (seq : List Str) : Prop where
  good : Good found seq
  rank : ∃ r : Str → Nat, (∀ x, r x < 8) ∧ ∀ x t, gets (entsOf found) x = some t → ∀ y ∈ t.direct, r y < r x
  line : ∀ x t, gets (entsOf found) x = some t → ∃ line, Line (entsOf found) x line ∧ line.length ≤ 8
  fit : ∀ x t, gets (entsOf found) x = some t → Fit t.V 60
  size : (entsOf found).length ≤ 60
  noZ : gets (entsOf found) "Z" = none
  ffit : ∀ f ∈ (allF (entsOf found) seq).1, Fit f.V 60
  ofit : ∀ p ∈ opsOf found, Fit (oV p) 60
  slen : seq.length ≤ 60
  olen : (opsOf found).length ≤ 60
def Item.isSig : Item → Bool
  | .sig _ => true
  | _ => false
def Item.isOpn : Item → Bool
  | .opn _ _ _ => true
  | _ => false
def Item.opn1 : Item → Mine.V
  | .opn _ s alias => oV (orderName alias, s)
  | _ => .none
theorem sig_flat : ∀ l : List Item, (l.filter Item.isSig).flatMap (fun x => (vents x.ents).map pairV) = (vents (entsOf l)).map pairV
  | [] => rfl
  | x :: r => by
    have ih := sig_flat r
    have e : (vents (entsOf (x :: r))).map pairV = (vents x.ents).map pairV ++ (vents (entsOf r)).map pairV := by
      unfold entsOf vents; rw [List.flatMap_cons, List.map_append, List.map_append]
    rw [e, List.filter_cons]
    cases x with
    | sig t => rw [if_pos (show (Item.sig t).isSig = true from rfl), List.flatMap_cons, ih]
    | opn a b c => rw [if_neg (show ¬ (Item.opn a b c).isSig = true by simp [Item.isSig]), ih]; rfl
    | other a => rw [if_neg (show ¬ (Item.other a).isSig = true by simp [Item.isSig]), ih]; rfl
theorem known_list (found : List Item) : ((List.range found.length).filter fun i => (found.getD i (.other 0)).isSig).flatMap (fun i => (vents (found.getD i (.other 0)).ents).map pairV) = (vents (entsOf found)).map pairV := by
  have e2 : ((List.range found.length).filter fun i => (found.getD i (.other 0)).isSig).flatMap (fun i => (vents (found.getD i (.other 0)).ents).map pairV) = (((List.range found.length).map (fun i => found.getD i (.other 0))).filter Item.isSig).flatMap (fun x => (vents x.ents).map pairV) := by
    rw [List.filter_map, List.flatMap_map]; rfl
  rw [e2, range_get]
  exact sig_flat found
theorem opened_list (found : List Item) : (found.filter Item.isOpn).map Item.opn1 = (opsOf found).map oV := by
  induction found with
  | nil => rfl
  | cons x r ih =>
    rw [List.filter_cons]
    cases x with
    | opn a b c => simpa [Item.isOpn, Item.opn1, opsOf, Item.ops] using ih
    | sig t => simpa [Item.isOpn, opsOf, Item.ops] using ih
    | other a => simpa [Item.isOpn, opsOf, Item.ops] using ih
end Mine
namespace Mine
@[irreducible] def bodyOf (K : Frag) (a : Addr) : List Stmt := match K.lookup a with | some ⟨_, _, .func fd, _⟩ => (match fd.body with | .stmts b => b | _ => []) | _ => []
@[irreducible] def scopeOf (K : Frag) (a : Addr) : Scope := match K.lookup a with | some ⟨_, _, .func fd, _⟩ => fd.scope | _ => ⟨.module, [], false, false, []⟩
theorem Le.none {σ σ' : St} (x : Le σ σ') {a : Addr} (h : σ' a = none) : σ a = none := by
  cases e : σ a with
  | none => rfl
  | some o => rw [x _ _ e] at h; cases h
theorem ints_len : ∀ {vs : List Value} {ns : List Int}, IntsAre vs ns → vs.length = ns.length
  | _, _, .nil => rfl
  | _, _, .cons _ _ r => by simp [ints_len r]
section
variable {G : Amb} {A : Around} {env : Env} {L : Addr} {ρ : Loc} {σ : St} {X : Value → Shared → Prop}
theorem sv_open {K : Frag} {f g : Addr} {oc : Value} {od : Option Addr} {osl : Array (Option Value)} {name qual q : Str} {params : Arguments} {body : List Stmt} {scope : Scope} {dV kV doc pm cdv cd ct : Value} {an : Option Addr} {cs : List (Str × Addr)} {k : AF → Loc → St → Prop}
    (ho : K.lookup f = some ⟨oc, od, .func (fnOf name qual params body scope dV kV doc pm an cdv ct), osl⟩)
    (h : SV G A (envX q scope L g cd cs) ρ σ (execs body (envX q scope L g cd cs)) k X) : SV G A (envX q (scopeOf K f) L g cd cs) ρ σ (execs (bodyOf K f) (envX q (scopeOf K f) L g cd cs)) k X := by
  have e1 : bodyOf K f = body := by unfold bodyOf; rw [ho]
  have e2 : scopeOf K f = scope := by unfold scopeOf; rw [ho]
  rw [e1, e2]; exact h
theorem G_model (hG : IsG G) : G.mg "_law_model" = some (.ref 275) ∧ CK G (.ref 275) := ⟨hG.glob _ _ (by rw [hG.K]; rfl), .inr (by rw [hG.K]; rfl)⟩
theorem G_fieldsL (hG : IsG G) : G.mg "_law_fields" = some (.ref 306) ∧ CK G (.ref 306) := ⟨hG.glob _ _ (by rw [hG.K]; rfl), .inr (by rw [hG.K]; rfl)⟩
theorem G_told (hG : IsG G) : G.mg "_law_is_told" = some (.ref 311) ∧ CK G (.ref 311) := ⟨hG.glob _ _ (by rw [hG.K]; rfl), .inr (by rw [hG.K]; rfl)⟩
theorem G_cls (hG : IsG G) : G.mg "Signatures" = some (.ref 248) ∧ CK G (.ref 248) := ⟨hG.glob _ _ (by rw [hG.K]; rfl), .inr (by rw [hG.K]; rfl)⟩
theorem B_dict (hG : IsG G) : G.mg "dict" = none ∧ G.mb "dict" = some (.type "dict") := B_name hG rfl rfl (by decide)
set_option maxHeartbeats 4000000 in
set_option maxRecDepth 20000 in
theorem sv_law (hG : IsG G) (R : Room A 60) {a : Addr} {vs : List Value} {ns : List Int} (hl : G.h₀.IsList a vs.toArray) (hi : IntsAre vs ns) (hn : ns.length ≤ 63)
    (P : ∀ found its sigs, Drawn found its sigs → ∃ seq, Pure found seq) {f : Addr} {cd : Value} :
    SV G A (envX "law" (scopeOf (heapK G.w.params) 316) L f cd []) [("script", .ref a)] (fun _ => none) (execs (bodyOf (heapK G.w.params) 316) (envX "law" (scopeOf (heapK G.w.params) 316) L f cd [])) (fun φ _ _ => φ = .ret (.bool true)) never := by
  obtain ⟨bi1, bi2⟩ := B_int hG
  obtain ⟨bd1, bd2⟩ := B_dict hG
  obtain ⟨br1, br2⟩ := B_range hG
  obtain ⟨gm1, gm2⟩ := G_model hG
  obtain ⟨gs1, gs2⟩ := G_seq hG
  obtain ⟨gf1, gf2⟩ := G_fieldsL hG
  obtain ⟨gt1, gt2⟩ := G_told hG
  obtain ⟨gc1, gc2⟩ := G_cls hG
  have hvs := ints_len hi
  refine sv_open (K := heapK G.w.params) (f := 316) (by rfl) ?_
  refine sv_cons (sv_Assign (ev_Dict fun Hd ep hHd => pv_cons (ev_str ⟨_, rfl, ?_⟩)))
  refine ev_Over (0 : Int) (ie_list R.handled (ev_upto0 hl hi (by rw [sizeLine_eq]; omega) (ev_local (x := "script") ⟨rfl, ev_int ⟨50, rfl, fun Sl hSl => ⟨Sl, _, rfl, St.set_same .., ns.take 50, V.int, (fun _ => true), (fun i => .int (i % 1000003)), ⟨by simp, fun j d hj => getD_map d _ _ _ (by simpa using hj), fun σ' l' => l' _ _ (St.set_same ..), ?_, fun C i σ₂ hi l₂ => ?_⟩, fun D σ₁ l₁ hD hD' => ?_⟩⟩⟩)))
  · rw [List.length_take, sizeLine_eq]; omega
  · refine ts_Name (ts_local (qv_nil ⟨rfl, ?_⟩))
    rw [if_pos rfl]
    exact ev_BinOp (ev_Call (ev_builtin bi1 bi2 rfl ⟨_, rfl, .type _, lv_cons (ev_local (x := "cell") (lv_nil (opc_int_int (ev_int (op_mod_int (by decide) ⟨rfl, Le.refl _⟩)))))⟩))
  rw [List.filter_eq_self.mpr (fun _ _ => rfl)] at hD'
  have hH₁ : σ₁ Hd = some (.sdict ep []) := l₁ _ _ (Le.set hSl _ _ (St.set_same ..))
  have hDH : D ≠ Hd := fun q => by rw [q, Le.set hSl _ _ (St.set_same (fun _ => none) Hd (.sdict ep []))] at hD; cases hD
  refine pv_cons (ev_str ⟨_, rfl, ev_int (pv_nil ⟨hH₁, fun ep' => ?_⟩)⟩)
  have hv : vmerge [] [(("cells" : Str), V.ref D), ("at", .int 0)] = [(("cells" : Str), V.ref D), ("at", .int ((0 : Nat) : Int))] := by rfl
  rw [hv]
  have HH : Hand (σ₁.set Hd (.sdict ep' [("cells", V.ref D), ("at", .int ((0 : Nat) : Int))])) Hd D ((ns.take 50).map fun i => i % 1000003) 0 := ⟨ep', 0, Nat.le_refl _, by simp; omega, St.set_same .., by rw [St.set_ne _ _ hDH, hD', List.map_map]; rfl⟩
  generalize σ₁.set Hd (.sdict ep' [("cells", V.ref D), ("at", .int ((0 : Nat) : Int))]) = σ₂ at *
  refine sv_cons (sv_Assign (ev_Call (ev_global gm1 (fun _ => .glob _ rfl) ⟨_, rfl, gm2, lv_cons (ev_local (x := "hand") (lv_nil ?_))⟩)))
  refine c_model hG (R.le (by omega : 0 + 4 ≤ 60)) HH (by omega) fun Im σ₃ found its sigs m₃ hIt hIt' dr => ?_
  obtain ⟨seq, pu⟩ := P _ _ _ dr
  clear HH hH₁ hD hD' l₁ m₃ hIt
  have W := pu.good.W
  have hfs : found.length ≤ 100 := pu.good.size
  refine sv_cons (sv_Assign (ev_Call (ev_builtin bd1 bd2 rfl ⟨_, rfl, .type _, lv_cons ?_⟩)))
  have hkl := known_list found
  refine ev_Comp2 (ie_list R.handled (ev_local (x := "items") ⟨Im, _, rfl, hIt', (fun i => (found.getD i (.other 0)).isSig), (fun i => (vents (found.getD i (.other 0)).ents).map pairV), fun σ' l' => l' _ _ hIt', ?_, fun C i σ₄ l₄ hi => ?_, fun Kl σ₄ l₄ hKl hKl' => ?_⟩))
  · rw [List.length_map, hkl]
    unfold vents
    rw [List.length_map, List.length_map, sizeLine_eq]; have := W.size; omega
  · rw [List.length_map] at hi
    dsimp only
    rw [getD_mapE _ _ _ hi, getD_eq _ _ _ hi]
    generalize found[i] = x
    obtain ⟨tv, hv, h0⟩ := x.head
    refine ts_Name (ts_local (qv_one (bv_Compare (ev_Subscript (ev_local (x := "item") (ev_int ?_))))))
    rw [hv]
    refine op_item_tup (by decide) (by decide) h0 (ev_str (op_eq_str ⟨_, rfl, ?_⟩))
    cases x with
    | opn a b c => exact ⟨by (show decide (("open" : Str) = "sig") = false; decide), Le.refl _, fun q => absurd (show decide (("open" : Str) = "sig") = true from q) (by decide)⟩
    | other a => exact ⟨by (show decide (("fact" : Str) = "sig") = false; decide), Le.refl _, fun q => absurd (show decide (("fact" : Str) = "sig") = true from q) (by decide)⟩
    | sig t =>
      refine ⟨by (show decide (("sig" : Str) = "sig") = true; decide), Le.refl _, fun _ => ?_⟩
      rw [← hv]
      refine ie_tup R.handled (ev_Subscript (ev_local (x := "item") (ev_int (op_item_tup (d := .tup (t.names.map .str)) (by decide) (by decide) rfl ⟨_, rfl, ?_, Le.refl _, fun _ => trivial, fun j σ₅ l₅ hj => ?_⟩))))
      · simp [Item.ents, vents]
      rw [List.length_map] at hj
      dsimp only
      rw [getD_mapE _ _ _ hj]
      refine ts_Name (ts_local ⟨⟨rfl, trivial⟩, ev_Tuple (lv_cons (ev_local (x := "name") (lv_cons (ev_local (x := "item") (lv_nil ⟨len_ok rfl, ?_, Le.refl _⟩)))))⟩)
      simp [Item.ents, vents, pairV, List.getElem?_map, List.getElem?_eq_getElem hj, Item.V]
  rw [List.length_map, hkl] at hKl'
  refine lv_nil (opc_dict_pairs R.handled ?_ ?_ hKl' fun Kd epk hKd => ?_)
  · unfold vents; rw [List.map_map]; exact W.keys
  · unfold vents; rw [List.length_map, sizeLine_eq]; have := W.size; omega
  have lK := Le.set (o := .sdict epk (vents (entsOf found))) hKd
  have hI₄ := lK _ _ (l₄ _ _ hIt')
  have hK₄ : (σ₄.set Kd (.sdict epk (vents (entsOf found)))) Kd = some (.sdict epk (vents (entsOf found))) := St.set_same ..
  generalize σ₄.set Kd (.sdict epk (vents (entsOf found))) = σ₅ at *
  clear hKl hKl' hkl lK l₄ hKd hIt'
  refine sv_cons (sv_Over (Item.other 0) (ie_list R.handled (ev_local (x := "items") ⟨Im, _, rfl, hI₄, found, Item.V, Item.isOpn, Item.opn1, ⟨by simp, fun j d hj => getD_map d _ _ _ (by simpa using hj), fun σ' l' => l' _ _ hI₄, by rw [sizeLine_eq]; omega, fun C x σ₆ hx l₆ => ?_⟩, fun Od σ₆ l₆ hO hO' => ?_⟩)))
  · obtain ⟨tv, hv, h0⟩ := x.head
    refine ts_Name (ts_local (qv_one (bv_Compare (ev_Subscript (ev_local (x := "item") (ev_int ?_))))))
    rw [hv]
    refine op_item_tup (by decide) (by decide) h0 (ev_str (op_eq_str ⟨_, rfl, ?_⟩))
    cases x with
    | sig t => exact ⟨by (show decide (("sig" : Str) = "open") = false; decide), by rw [if_neg (by (show ¬ decide (("sig" : Str) = "open") = true; decide))]; exact Le.refl _⟩
    | other t => exact ⟨by (show decide (("fact" : Str) = "open") = false; decide), by rw [if_neg (by (show ¬ decide (("fact" : Str) = "open") = true; decide))]; exact Le.refl _⟩
    | opn sp s al =>
      refine ⟨by (show decide (("open" : Str) = "open") = true; decide), ?_⟩
      rw [if_pos (by (show decide (("open" : Str) = "open") = true; decide)), ← hv]
      refine ev_Tuple (lv_cons (ev_det2 (fun d σ' => d = .str (orderName al) ∧ σ' = σ₆) ?_ ?_))
      · refine ev_IfExp (bv_Compare (ev_Subscript (ev_local (x := "item") (ev_int (op_item_tup (d := .str al) (by decide) (by decide) rfl (ev_str (op_ne_str ⟨_, rfl, ?_⟩)))))))
        by_cases q : al = ""
        · rw [decide_eq_true q, if_neg (by decide)]
          exact ev_str ⟨by unfold orderName; rw [if_pos q], rfl⟩
        · rw [decide_eq_false q, if_pos (by decide)]
          exact ev_Subscript (ev_local (x := "item") (ev_int (op_item_tup (d := .str al) (by decide) (by decide) rfl ⟨by unfold orderName; rw [if_neg q], rfl⟩)))
      · rintro _ _ ⟨rfl, rfl⟩
        exact lv_cons (ev_Subscript (ev_Subscript (ev_local (x := "item") (ev_int (op_item_tup (d := .tup [.str s]) (by decide) (by decide) rfl (ev_int (op_item_tup (d := .str s) (by decide) (by decide) rfl (lv_nil ⟨len_ok rfl, rfl, Le.refl _⟩))))))))
  rw [opened_list] at hO'
  have hI₆ := l₆ _ _ hI₄
  have hK₆ := l₆ _ _ hK₄
  clear hO l₆ hI₄ hK₄
  refine sv_cons (sv_AssignSwap (names := ["sigs", "sequence", "due"]) R.handled (ev_Tuple (lv_cons (ev_Call (ev_global gc1 (fun _ => .glob _ rfl) ⟨_, rfl, gc2, lv_cons (ev_local (x := "items") (lv_nil ?_))⟩)))))
  refine c_new hG (R.le (by omega : 0 + 6 ≤ 60)) hI₆ pu.good fun sg σ₇ hsg l₇ M₇ => ?_
  have hK₇ := l₇ _ _ hK₆
  refine lv_cons (ev_Call (ev_global gs1 (fun _ => .glob _ rfl) ⟨_, rfl, gs2, lv_cons (ev_local (x := "known") (lv_nil ?_))⟩))
  refine c_sequence hG (R.le (by omega : 0 + 3 ≤ 60)) ⟨epk, hK₇⟩ W pu.good.pf fun Sq σ₈ l₈ hSq hSq' => ?_
  refine lv_cons (ev_Call (ev_global gf1 (fun _ => .glob _ rfl) ⟨_, rfl, gf2, lv_cons (ev_local (x := "known") (lv_nil ?_))⟩))
  refine c_fieldsL hG (R.le (by omega : 0 + 4 ≤ 60)) ⟨epk, l₈ _ _ hK₇⟩ W pu.good.pf pu.good.inn pu.good.len fun Du σ₉ l₉ hDu hDu' => ?_
  refine lv_nil ⟨len_ok rfl, _, rfl, rfl, ?_⟩
  refine tl_cons (ts_bind (ts_local (tl_cons (ts_bind (ts_local (tl_cons (ts_bind (ts_local (tl_nil ?_)))))))))
  have M₉ := (M₇.le l₈).le l₉
  have hK₉ := l₉ _ _ (l₈ _ _ hK₇)
  have hO₉ := l₉ _ _ (l₈ _ _ (l₇ _ _ hO'))
  have hS₉ := l₉ _ _ hSq'
  clear M₇ hK₇ hO' hSq hSq' hDu l₇ l₈ l₉ hsg hK₆ hI₆
  obtain ⟨r, hr8, hr⟩ := pu.rank
  have hsl := pu.slen
  have hlen := pu.good.len
  refine sv_cons (sv_For PassesOwn.never (ie_range R.handled ?_))
  refine ev_Call (ev_builtin br1 br2 rfl ⟨_, rfl, .type _, lv_cons (ev_int (lv_nil (opc_range fun Rg hRg => ⟨Rg, 2, rfl, St.set_same .., by omega, ?_⟩)))⟩)
  have lR := Le.set (o := .range 0 2) hRg
  refine ⟨fun i ρ' σ' => Sub [("script", .ref a), ("hand", .ref Hd), ("items", .ref Im), ("known", .ref Kd), ("opened", .ref Od), ("due", .ref Du), ("sequence", .ref Sq), ("sigs", .ref sg)] ρ' ∧ Le σ₉ σ',
    ⟨⟨rfl, rfl, rfl, rfl, rfl, rfl, rfl, rfl, trivial⟩, lR⟩, fun _ _ _ _ => trivial, ?_, ?_⟩
  · rintro i ρ₁ σ₁ _ ⟨hs, le⟩
    refine TS.sub ?_ hs
    refine ts_Name (ts_local (gen_k fun kk hkk => ?_))
    have M₁ := M₉.le le
    obtain ⟨ps, _, s₁, _⟩ := M₁.stands
    refine sv_cons (sv_If (bv_Or (bv_Compare (ev_m0 (M_names hG) (ev_local (x := "sigs") ⟨sg, ps, rfl, s₁, c_names hG (R.le (by omega : 0 + 1 ≤ 60)) M₁.ordered (by rw [List.length_map, sizeLine_eq]; omega) fun D₁ hD₁ => ?_⟩)))))
    have a1 := le.trans (Le.set (o := .list (seq.map .str)) hD₁)
    refine ev_local (x := "sequence") (op_ne_same R (St.set_same ..) (a1 _ _ hS₉) (fun d hd => ?_) ⟨_, rfl, ?_⟩)
    · obtain ⟨x, hx, rfl⟩ := List.mem_map.mp hd
      obtain ⟨t, ht⟩ := pu.good.inn x hx
      exact .str (W.ok _ _ ht)
    rw [if_neg (by decide)]
    generalize σ₁.set D₁ (.list (seq.map .str)) = σ₂ at *
    have M₂ := M₉.le a1
    obtain ⟨ps₂, _, s₂, _⟩ := M₂.stands
    refine bv_Or (bv_Compare (ev_m0 (M_fields hG) (ev_local (x := "sigs") ⟨sg, ps₂, rfl, s₂, c_fields hG (R.le (by omega : 0 + 1 ≤ 60)) M₂.fields (by rw [List.length_map, sizeLine_eq]; omega) fun D₂ hD₂ => ?_⟩)))
    have a2 := a1.trans (Le.set (o := .list ((allF (entsOf found) seq).1.map Fd.V)) hD₂)
    refine ev_local (x := "due") (op_ne_same R (St.set_same ..) (a2 _ _ hDu') (fun d hd => ?_) ⟨_, rfl, ?_⟩)
    · obtain ⟨x, hx, rfl⟩ := List.mem_map.mp hd
      exact pu.ffit x hx
    rw [if_neg (by decide)]
    generalize σ₂.set D₂ (.list ((allF (entsOf found) seq).1.map Fd.V)) = σ₃ at *
    have M₃ := M₉.le a2
    obtain ⟨ps₃, _, s₃, _⟩ := M₃.stands
    refine bv_Or (bv_Compare (ev_m0 (M_orders hG) (ev_local (x := "sigs") ⟨sg, ps₃, rfl, s₃, c_orders hG (R.le (by omega : 0 + 1 ≤ 60)) M₃.opened (by rw [List.length_map, sizeLine_eq]; have := pu.olen; omega) fun D₃ hD₃ => ?_⟩)))
    have a3 := a2.trans (Le.set (o := .list ((opsOf found).map oV)) hD₃)
    refine ev_local (x := "opened") (op_ne_same R (St.set_same ..) (a3 _ _ hO₉) (fun d hd => ?_) ⟨_, rfl, ?_⟩)
    · obtain ⟨x, hx, rfl⟩ := List.mem_map.mp hd
      exact pu.ofit x hx
    rw [if_neg (by decide)]
    generalize σ₃.set D₃ (.list ((opsOf found).map oV)) = σ₄ at *
    have M₄ := M₉.le a3
    obtain ⟨ps₄, _, s₄, _⟩ := M₄.stands
    refine bv_Or (bv_plain (ev_m1 (M_has hG) (ev_local (x := "sigs") ⟨sg, ps₄, rfl, s₄, ev_str (c_has hG (R.le (by omega : 0 + 1 ≤ 60)) M₄.ents ⟨_, rfl, ?_⟩)⟩)))
    rw [pu.noZ, if_neg (by decide)]
    refine bv_Or_nil ?_
    rw [if_neg (by decide)]
    refine sv_nil ?_
    clear hD₁ hD₂ hD₃ M₁ M₂ M₃ s₁ s₂ s₃ a1 a2
    refine sv_cons (sv_For PassesOwn.never (ie_list R.handled (ev_local (x := "sequence") ⟨Sq, _, rfl, a3 _ _ hS₉, ?_⟩)))
    refine ⟨fun i ρ' σ' => Sub [("script", .ref a), ("hand", .ref Hd), ("items", .ref Im), ("known", .ref Kd), ("opened", .ref Od), ("due", .ref Du), ("sequence", .ref Sq), ("sigs", .ref sg)] ρ' ∧ Le σ₉ σ',
      ⟨⟨rfl, rfl, rfl, rfl, rfl, rfl, rfl, rfl, trivial⟩, a3⟩, fun i ρ σ' h => h.2 _ _ hS₉, ?_, ?_⟩
    · rintro j ρ₂ σ₅ hj ⟨hs₂, l₅⟩
      rw [List.length_map] at hj
      refine TS.sub ?_ hs₂
      dsimp only
      rw [getD_mapE _ _ _ hj]
      obtain ⟨t, ht⟩ := pu.good.inn _ (List.getElem_mem hj)
      generalize seq[j] = name at ht ⊢
      obtain ⟨line, hln, hll⟩ := pu.line _ _ ht
      refine ts_Name (ts_local (gen_k fun kk' hkk' => ?_))
      refine sv_cons (sv_If (bv_Not (bv_plain (ev_Call (ev_global gt1 (fun _ => .glob _ rfl) ⟨_, rfl, gt2, lv_cons (ev_local (x := "sigs") (lv_cons (ev_local (x := "known") (lv_cons (ev_local (x := "name") (lv_nil ?_))))))⟩)))))
      refine c_told hG W r hr (hr8 name) (n := 0) (R.le (by omega)) (M₉.le l₅) ⟨epk, l₅ _ _ hK₉⟩ ht hln (by omega) (pu.fit _ _ ht) pu.size fun σ₆ l₆ => ⟨_, rfl, ?_⟩
      rw [if_neg (by decide)]
      refine sv_nil ?_
      have l56 := l₅.trans l₆
      have M₆ := M₉.le l56
      obtain ⟨ps₆, _, s₆, _⟩ := M₆.stands
      have hkl : (keysOf (entsOf found)).length ≤ 100 := by unfold keysOf; rw [List.length_map]; exact W.size
      refine sv_cons (sv_Expr (ev_MCall (ev_m1 (M_children hG) (ev_local (x := "sigs") ⟨sg, ps₆, rfl, s₆, ev_local (x := "name") (c_children hG (R.le (by omega : 0 + 2 ≤ 60)) M₆.ents M₆.stands (fun x hx => mem_gets hx) (by omega) fun D₅ σ₇ l₇ hD₅ hD₅' => ?_)⟩))))
      refine gm_list PySem.F.slot_list_append PySem.F.type_list_append hD₅' ⟨.builtin _, lv_cons (ev_str (lv_nil (opc_append hD₅' ?_ ⟨rfl, ?_⟩)))⟩
      · rw [List.length_map, sizeLine_eq]; have := List.length_filter_le (fun x => decide (((gets (entsOf found) x).map It.parent) = some name)) (keysOf (entsOf found)); omega
      have l67 := (l56.trans l₇).setL (o := .list ((((keysOf (entsOf found)).filter fun x => decide (((gets (entsOf found) x).map It.parent) = some name)).map .str) ++ [.str "Z"])) (l56.none hD₅)
      generalize σ₇.set D₅ _ = σ₈ at l67 ⊢
      have M₈ := M₉.le l67
      obtain ⟨ps₈, _, s₈, _⟩ := M₈.stands
      refine sv_cons (sv_Expr (ev_MCall (ev_m1 (M_above hG) (ev_local (x := "sigs") ⟨sg, ps₈, rfl, s₈, ev_local (x := "name") (c_above hG (R.le (by omega : 0 + 2 ≤ 60)) M₈.ents hln (by omega) fun D₆ σ₁₀ l₁₀ hD₆ hD₆' => ?_)⟩))))
      refine gm_list PySem.F.slot_list_append PySem.F.type_list_append hD₆' ⟨.builtin _, lv_cons (ev_str (lv_nil (opc_append hD₆' (by rw [List.length_map, sizeLine_eq]; omega) ⟨rfl, ?_⟩)))⟩
      exact sv_nilK hkk' ⟨⟨rfl, rfl, rfl, rfl, rfl, rfl, rfl, rfl, trivial⟩, (l67.trans l₁₀).setL (l67.none hD₆)⟩
    rintro ρ₂ σ₅ ⟨hs₂, l₅⟩
    refine SV.sub ?_ hs₂
    clear hs₂
    have M₅ := M₉.le l₅
    obtain ⟨ps₅, _, s₅, _⟩ := M₅.stands
    refine sv_cons (sv_Expr (ev_MCall (ev_m0 (M_names hG) (ev_local (x := "sigs") ⟨sg, ps₅, rfl, s₅, c_names hG (R.le (by omega : 0 + 1 ≤ 60)) M₅.ordered (by rw [List.length_map, sizeLine_eq]; omega) fun D₁ hD₁ => ?_⟩))))
    refine gm_list PySem.F.slot_list_append PySem.F.type_list_append (St.set_same ..) ⟨.builtin _, lv_cons (ev_str (lv_nil (opc_append (St.set_same ..) (by rw [List.length_map, sizeLine_eq]; omega) ⟨rfl, ?_⟩)))⟩
    have b1 := (l₅.setL (o := .list (seq.map .str)) (l₅.none hD₁)).setL (o := .list (seq.map .str ++ [.str "Z"])) (l₅.none hD₁)
    generalize St.set (σ₅.set D₁ _) D₁ _ = σ₆ at b1 ⊢
    have M₆ := M₉.le b1
    obtain ⟨ps₆, _, s₆, _⟩ := M₆.stands
    refine sv_cons (sv_Expr (ev_MCall (ev_m0 (M_fields hG) (ev_local (x := "sigs") ⟨sg, ps₆, rfl, s₆, c_fields hG (R.le (by omega : 0 + 1 ≤ 60)) M₆.fields (by rw [List.length_map, sizeLine_eq]; omega) fun D₂ hD₂ => ?_⟩))))
    refine gm_list PySem.F.slot_list_append PySem.F.type_list_append (St.set_same ..) ⟨.builtin _, lv_cons (ev_Tuple (lv_cons (ev_str (lv_cons (ev_str (lv_cons (ev_str (lv_cons (ev_none (lv_cons (ev_int (lv_cons (ev_neg (ev_int ⟨_, rfl, lv_nil ⟨len_ok rfl, lv_nil (opc_append (St.set_same ..) (by rw [List.length_map, sizeLine_eq]; omega) ⟨rfl, ?_⟩)⟩⟩))))))))))))))⟩
    have b2 := (b1.setL (o := .list ((allF (entsOf found) seq).1.map Fd.V)) (b1.none hD₂)).setL (o := .list ((allF (entsOf found) seq).1.map Fd.V ++ [.tup [.str "z", .str "Z", .str "", .none, .int 0, .int (-1)]])) (b1.none hD₂)
    generalize St.set (σ₆.set D₂ _) D₂ _ = σ₇ at b2 ⊢
    have M₇ := M₉.le b2
    obtain ⟨ps₇, _, s₇, _⟩ := M₇.stands
    refine sv_cons (sv_Expr (ev_MCall (ev_m0 (M_orders hG) (ev_local (x := "sigs") ⟨sg, ps₇, rfl, s₇, c_orders hG (R.le (by omega : 0 + 1 ≤ 60)) M₇.opened (by rw [List.length_map, sizeLine_eq]; have := pu.olen; omega) fun D₃ hD₃ => ?_⟩))))
    refine gm_list PySem.F.slot_list_append PySem.F.type_list_append (St.set_same ..) ⟨.builtin _, lv_cons (ev_Tuple (lv_cons (ev_str (lv_cons (ev_str (lv_nil ⟨len_ok rfl, lv_nil (opc_append (St.set_same ..) (by rw [List.length_map, sizeLine_eq]; have := pu.olen; omega) ⟨rfl, ?_⟩)⟩))))))⟩
    exact sv_nilK hkk ⟨⟨rfl, rfl, rfl, rfl, rfl, rfl, rfl, rfl, trivial⟩, (b2.setL (b2.none hD₃)).setL (b2.none hD₃)⟩
  · rintro ρ₁ σ₁ ⟨hs, le⟩
    exact SV.sub (sv_cons (sv_Return (ev_bool rfl))) hs
end
end Mine
namespace Mine
structure Rk (es : Ens) (r : Str → Nat) : Prop where
  dn : ∀ x t, gets es x = some t → ∀ y ∈ t.direct, r y < r x
  key : ∀ x t, gets es x = some t → ∀ y ∈ t.direct, ∃ t', gets es y = some t'
theorem min_ex (r : Str → Nat) : ∀ (l : List Str), l ≠ [] → ∃ x ∈ l, ∀ y ∈ l, r x ≤ r y
  | [], h => absurd rfl h
  | [a], _ => ⟨a, by simp, fun y hy => by rw [List.mem_singleton.mp hy]; exact Nat.le_refl _⟩
  | a :: b :: l, _ => by
    obtain ⟨x, hx, hm⟩ := min_ex r (b :: l) (by simp)
    by_cases q : r a ≤ r x
    · refine ⟨a, by simp, fun y hy => ?_⟩
      rcases List.mem_cons.mp hy with rfl | hy
      · exact Nat.le_refl _
      · exact Nat.le_trans q (hm y hy)
    · refine ⟨x, List.mem_cons_of_mem _ hx, fun y hy => ?_⟩
      rcases List.mem_cons.mp hy with rfl | hy
      · omega
      · exact hm y hy
theorem pf_ex {es : Ens} {r : Str → Nat} (H : Rk es r) : ∀ (n : Nat) (rest found : List Str), rest.length = n → (∀ x ∈ rest, ∃ t, gets es x = some t) → (∀ x ∈ rest, ∀ y ∈ dirs es x, y ∈ found ∨ y ∈ rest) →
    ∃ out, PF es found rest out ∧ ∃ q, out = found ++ q ∧ q.Perm rest
  | 0, rest, found, hl, _, _ => by
    have : rest = [] := List.eq_nil_of_length_eq_zero hl
    subst this
    exact ⟨found, .done, [], by simp, .nil⟩
  | n + 1, rest, found, hl, hk, hd => by
    have hne : rest ≠ [] := fun q => by rw [q] at hl; simp at hl
    obtain ⟨m, hm, hmin⟩ := min_ex r rest hne
    have hr : ready es found m = true := by
      unfold ready
      rw [List.all_eq_true]
      intro y hy
      rw [decide_eq_true_eq]
      rcases hd m hm y hy with h | h
      · exact h
      · obtain ⟨t, ht⟩ := hk m hm
        have hy' : y ∈ t.direct := by unfold dirs at hy; rw [ht] at hy; exact hy
        have := H.dn m t ht y hy'
        have := hmin y h
        omega
    obtain ⟨x, hx⟩ : ∃ x, rest.find? (ready es found) = some x := by
      cases q : rest.find? (ready es found) with
      | some x => exact ⟨x, rfl⟩
      | none => exact absurd hr (by simpa using List.find?_eq_none.mp q m hm)
    have hxm := List.mem_of_find?_eq_some hx
    obtain ⟨out, hp, q, he, hq⟩ := pf_ex H n (rest.erase x) (found ++ [x]) (by rw [List.length_erase_of_mem hxm, hl]; rfl) (fun y hy => hk y (List.mem_of_mem_erase hy)) (fun y hy z hz => by
      rcases hd y (List.mem_of_mem_erase hy) z hz with h | h
      · exact .inl (by simp [h])
      · by_cases e : z = x
        · exact .inl (by simp [e])
        · exact .inr ((List.mem_erase_of_ne e).mpr h))
    exact ⟨out, .step hx hp, x :: q, by rw [he]; simp, (hq.cons x).trans (List.perm_cons_erase hxm).symm⟩
theorem line_ex {es : Ens} {r : Str → Nat} (H : Rk es r) : ∀ (n : Nat) (x : Str) (t : It), r x ≤ n → gets es x = some t → ∃ line, Line es x line ∧ line.length ≤ n
  | n, x, t, hn, ht => by
    by_cases q : t.parent = ""
    · exact ⟨[], .nil ht q, Nat.zero_le _⟩
    · have hp : t.parent ∈ t.direct := by unfold It.direct; rw [if_neg q]; simp
      have h1 := H.dn x t ht _ hp
      obtain ⟨t', ht'⟩ := H.key x t ht _ hp
      cases n with
      | zero => omega
      | succ n =>
        obtain ⟨l, hl, hll⟩ := line_ex H n _ t' (by omega) ht'
        exact ⟨t.parent :: l, .cons ht q hl, by simp; omega⟩
theorem Up.rank {es : Ens} {r : Str → Nat} (H : Rk es r) {a b : Str} (h : Up es a b) : r b < r a := by
  induction h with
  | one ha hb => exact H.dn _ _ ha _ hb
  | more _ hb hc ih => exact Nat.lt_trans (H.dn _ _ hb _ hc) ih
theorem gets_iff {es : Ens} (hn : (es.map (·.1)).Nodup) {x : Str} {t : It} : gets es x = some t ↔ (x, t) ∈ es := by
  induction es with
  | nil => simp [gets]
  | cons p r ih =>
    obtain ⟨y, u⟩ := p
    rw [List.map_cons, List.nodup_cons] at hn
    unfold gets
    by_cases q : x = y
    · subst q
      rw [if_pos rfl]
      constructor
      · intro h; cases h; simp
      · intro h
        rcases List.mem_cons.mp h with h | h
        · cases h; rfl
        · exact absurd (List.mem_map.mpr ⟨_, h, rfl⟩) hn.1
    · rw [if_neg q, ih hn.2, List.mem_cons]
      constructor
      · exact .inr
      · rintro (h | h)
        · cases h; exact absurd rfl q
        · exact h
def prs (es : Ens) (seq : List Str) : List (Str × Str) := seq.flatMap fun x => (rowsOf es x).flatMap fun r => r.names.map fun n => (x, n)
theorem foldRow_pairs (x : Str) : ∀ (rows : List Rw) (st : FS), ((rows.foldl (stepRow x) st).1).map (fun f => (f.name, f.field)) = st.1.map (fun f => (f.name, f.field)) ++ rows.flatMap fun r => r.names.map fun n => (x, n)
  | [], st => by simp
  | r :: rows, st => by
    rw [List.foldl_cons, foldRow_pairs x rows, List.flatMap_cons]
    unfold stepRow
    rw [List.map_append, List.map_map, List.append_assoc]
    rfl
theorem allF_pairs_from (es : Ens) : ∀ (seq : List Str) (st : FS), ((seq.foldl (stepName es) st).1).map (fun f => (f.name, f.field)) = st.1.map (fun f => (f.name, f.field)) ++ prs es seq
  | [], st => by simp [prs]
  | x :: seq, st => by
    rw [List.foldl_cons, allF_pairs_from es seq]
    unfold stepName prs
    rw [foldRow_pairs, List.flatMap_cons, List.append_assoc]
theorem allF_pairs (es : Ens) (seq : List Str) : ((allF es seq).1).map (fun f => (f.name, f.field)) = prs es seq := by
  unfold allF; rw [allF_pairs_from]; rfl
theorem foldRow_mem (x : Str) (P : Fd → Prop) : ∀ (rows : List Rw) (st : FS), (∀ f ∈ st.1, P f) → (∀ r ∈ rows, ∀ n ∈ r.names, ∀ g, P (one r x g n)) → ∀ f ∈ (rows.foldl (stepRow x) st).1, P f
  | [], st, h, _ => h
  | r :: rows, st, h, hr => by
    rw [List.foldl_cons]
    refine foldRow_mem x P rows _ ?_ (fun q hq => hr q (by simp [hq]))
    intro f hf
    unfold stepRow at hf
    rcases List.mem_append.mp hf with hf | hf
    · exact h f hf
    · obtain ⟨n, hn, rfl⟩ := List.mem_map.mp hf
      exact hr r (by simp) n hn _
theorem allF_mem_from (es : Ens) (P : Fd → Prop) : ∀ (seq : List Str) (st : FS), (∀ f ∈ st.1, P f) → (∀ x ∈ seq, ∀ r ∈ rowsOf es x, ∀ n ∈ r.names, ∀ g, P (one r x g n)) → ∀ f ∈ (seq.foldl (stepName es) st).1, P f
  | [], st, h, _ => h
  | x :: seq, st, h, hr => by
    rw [List.foldl_cons]
    exact allF_mem_from es P seq _ (foldRow_mem x P _ _ h (hr x (by simp))) (fun y hy => hr y (by simp [hy]))
theorem allF_mem {es : Ens} {seq : List Str} (P : Fd → Prop) (hr : ∀ x ∈ seq, ∀ r ∈ rowsOf es x, ∀ n ∈ r.names, ∀ g, P (one r x g n)) : ∀ f ∈ (allF es seq).1, P f :=
  allF_mem_from es P seq _ (fun f hf => by cases hf) hr
theorem okf_of {es : Ens} {seq : List Str} (hnd : (prs es seq).Nodup) (h1 : ∀ f ∈ (allF es seq).1, gets es f.field = none ∧ ∃ t, gets es f.name = some t)
    (h2 : ∀ f ∈ (allF es seq).1, ∀ g ∈ (allF es seq).1, f.field = g.field → ¬ Up es f.name g.name) : OKF es (allF es seq).1 := by
  intro i hi
  have hm := List.getElem_mem hi
  obtain ⟨a, b⟩ := h1 _ hm
  refine ⟨a, b, fun g hg he => ⟨fun hn => ?_, h2 _ hm _ (List.mem_of_mem_take hg) he.symm⟩⟩
  rw [← allF_pairs] at hnd
  obtain ⟨j, hj, e⟩ := List.getElem_of_mem hg
  have hji : j < i := by rw [List.length_take] at hj; omega
  have hjl : j < (allF es seq).1.length := by omega
  rw [List.getElem_take] at e
  have hp := List.pairwise_iff_getElem.mp hnd j i (by simpa using hjl) (by simpa using hi) hji
  apply hp
  rw [List.getElem_map, List.getElem_map, e]
  exact Prod.ext hn he
end Mine
namespace Mine
def ents0 (its : List It) : Ens := its.flatMap fun t => t.names.map fun x => (x, t)
theorem flatMap_perm {α β : Type} (f : α → List β) {l₁ l₂ : List α} (h : l₁.Perm l₂) : (l₁.flatMap f).Perm (l₂.flatMap f) := h.flatMap_right f
theorem ents_map (its : List It) : entsOf (its.map .sig) = ents0 its := by
  unfold entsOf ents0; rw [List.flatMap_map]; rfl
theorem ents_opn (sigs : List Str) : ∀ l : List Nat, entsOf (l.map fun i => opnOf i (sigs.getD i "")) = []
  | [] => rfl
  | i :: l => by
    have := ents_opn sigs l
    unfold entsOf at *
    rw [List.map_cons, List.flatMap_cons, this]; rfl
theorem ops_sig : ∀ its : List It, opsOf (its.map .sig) = []
  | [] => rfl
  | t :: l => by
    have := ops_sig l
    unfold opsOf at *
    rw [List.map_cons, List.flatMap_cons, this]; rfl
theorem ents_append (a b : List Item) : entsOf (a ++ b) = entsOf a ++ entsOf b := by unfold entsOf; rw [List.flatMap_append]
theorem ops_append (a b : List Item) : opsOf (a ++ b) = opsOf a ++ opsOf b := by unfold opsOf; rw [List.flatMap_append]
theorem Drawn.ents {found its sigs} (d : Drawn found its sigs) : (entsOf found).Perm (ents0 its) := by
  have := flatMap_perm Item.ents d.perm
  have e : entsOf (its.map .sig ++ (List.range sigs.length).map (fun i => opnOf i (sigs.getD i "")) ++ [.other 80]) = ents0 its := by
    rw [ents_append, ents_append, ents_map, ents_opn]
    show ents0 its ++ [] ++ [] = _
    simp
  rw [← e]; exact this
theorem Drawn.ops {found its sigs} (d : Drawn found its sigs) : (opsOf found).Perm ((List.range sigs.length).map fun i => (orderName (if i = 0 then "" else "o"), sigs.getD i "")) := by
  have := flatMap_perm Item.ops d.perm
  have e : opsOf (its.map .sig ++ (List.range sigs.length).map (fun i => opnOf i (sigs.getD i "")) ++ [.other 80]) = (List.range sigs.length).map fun i => (orderName (if i = 0 then "" else "o"), sigs.getD i "") := by
    rw [ops_append, ops_append, ops_sig]
    show [] ++ opsOf _ ++ [] = _
    rw [List.nil_append, List.append_nil]
    generalize List.range sigs.length = l
    induction l with
    | nil => rfl
    | cons i l ih =>
      rw [List.map_cons, List.map_cons, ← ih]; rfl
  rw [← e]; exact this
theorem ents0_keys (its : List It) : (ents0 its).map (·.1) = (eldersOf its).map (·.1) := by
  unfold ents0 eldersOf
  rw [List.map_flatMap, List.map_flatMap]
  apply congrArg (fun f => List.flatMap f its)
  funext t
  unfold eldOf
  rw [List.map_map, List.map_map]; rfl
theorem Chain.all {its : List It} (c : Chain its) : ∃ m, m ≤ 8 ∧ (eldersOf its).map (·.1) = (List.range m).map letter := by
  obtain ⟨m, hm, e⟩ := c.keys its.length (Nat.le_refl _)
  rw [List.take_length] at e
  exact ⟨m, by have := c.len; omega, e⟩
theorem letters_nodup (m : Nat) (h : m ≤ 8) : ((List.range m).map letter).Nodup := by
  refine List.Pairwise.map _ (R := fun a b => a ≠ b ∧ a < 8 ∧ b < 8) (fun a b ⟨h1, h2, h3⟩ q => h1 (letter_inj h2 h3 q)) ?_
  refine List.Pairwise.imp_of_mem (R := (· ≠ ·)) ?_ List.nodup_range
  intro a b ha hb hab
  rw [List.mem_range] at ha hb
  exact ⟨hab, by omega, by omega⟩
theorem Chain.nodup {its : List It} (c : Chain its) : ((ents0 its).map (·.1)).Nodup := by
  obtain ⟨m, hm, e⟩ := c.all
  rw [ents0_keys, e]; exact letters_nodup m hm
def idx (its : List It) (x : Str) : Nat := its.findIdx fun t => decide (x ∈ t.names)
theorem ents0_mem {its : List It} {x : Str} {t : It} : (x, t) ∈ ents0 its ↔ t ∈ its ∧ x ∈ t.names := by
  unfold ents0
  rw [List.mem_flatMap]
  constructor
  · rintro ⟨u, hu, h⟩
    obtain ⟨y, hy, e⟩ := List.mem_map.mp h
    cases e
    exact ⟨hu, hy⟩
  · rintro ⟨hu, h⟩
    exact ⟨t, hu, List.mem_map.mpr ⟨x, h, rfl⟩⟩
theorem eld_mem {its : List It} {x : Str} {b : Bool} : (x, b) ∈ eldersOf its ↔ ∃ t ∈ its, x ∈ t.names ∧ b = !t.supers.isEmpty := by
  unfold eldersOf eldOf
  rw [List.mem_flatMap]
  constructor
  · rintro ⟨u, hu, h⟩
    obtain ⟨y, hy, e⟩ := List.mem_map.mp h
    cases e
    exact ⟨u, hu, hy, rfl⟩
  · rintro ⟨u, hu, h, rfl⟩
    exact ⟨u, hu, List.mem_map.mpr ⟨x, h, rfl⟩⟩
theorem eld_key {its : List It} {x : Str} : x ∈ (eldersOf its).map (·.1) ↔ ∃ t ∈ its, x ∈ t.names := by
  constructor
  · intro h
    obtain ⟨⟨y, b⟩, hm, rfl⟩ := List.mem_map.mp h
    obtain ⟨t, ht, hx, _⟩ := eld_mem.mp hm
    exact ⟨t, ht, hx⟩
  · rintro ⟨t, ht, hx⟩
    exact List.mem_map.mpr ⟨(x, _), eld_mem.mpr ⟨t, ht, hx, rfl⟩, rfl⟩
theorem Chain.uniq {its : List It} (c : Chain its) {i j : Nat} (hi : i < its.length) (hj : j < its.length) {x : Str} (h1 : x ∈ its[i].names) (h2 : x ∈ its[j].names) : i = j := by
  have key : ∀ i j (hi : i < its.length) (hj : j < its.length), i < j → x ∈ its[i].names → x ∈ its[j].names → False := by
    intro i j hi hj hij h1 h2
    have ct := c.take (j + 1)
    obtain ⟨m, hm, e⟩ := ct.all
    have hn : ((eldersOf (its.take (j + 1))).map (·.1)).Nodup := by rw [e]; exact letters_nodup m hm
    rw [elders_take hj, List.map_append, List.nodup_append] at hn
    refine hn.2.2 x ?_ x ?_ rfl
    · exact eld_key.mpr ⟨its[i], by rw [List.mem_take_iff_getElem]; exact ⟨i, by omega, rfl⟩, h1⟩
    · unfold eldOf; rw [List.map_map]; exact List.mem_map.mpr ⟨x, h2, rfl⟩
  rcases Nat.lt_trichotomy i j with h | h | h
  · exact (key i j hi hj h h1 h2).elim
  · exact h
  · exact (key j i hj hi h h2 h1).elim
theorem Chain.idx_of {its : List It} (c : Chain its) {j : Nat} (hj : j < its.length) {x : Str} (h : x ∈ its[j].names) : idx its x = j := by
  have hlt : idx its x < its.length := List.findIdx_lt_length_of_exists ⟨its[j], List.getElem_mem hj, by simpa using h⟩
  have hx : x ∈ (its[idx its x]'hlt).names := by
    have := List.findIdx_getElem (xs := its) (p := fun (t : It) => decide (x ∈ t.names)) (w := hlt)
    exact of_decide_eq_true this
  exact c.uniq hlt hj hx h
theorem direct_mem {t : It} {y : Str} : y ∈ t.direct ↔ (y = t.parent ∧ t.parent ≠ "") ∨ y ∈ t.supers := by
  unfold It.direct
  by_cases q : t.parent = ""
  · simp [q]
  · simp [q]
theorem ItemOk.above {j : Nat} {el : List (Str × Bool)} {t : It} (o : ItemOk j el t) {y : Str} (h : y ∈ t.direct) : y ∈ el.map (·.1) := by
  rcases direct_mem.mp h with ⟨rfl, hp⟩ | h
  · rcases o.parent with e | e
    · exact absurd e hp
    · exact List.mem_map.mpr ⟨_, e, rfl⟩
  · exact o.sub y h
section
variable {found : List Item} {its : List It} {sigs : List Str}
theorem Drawn.nodup (d : Drawn found its sigs) : ((entsOf found).map (·.1)).Nodup := (d.ents.map (·.1)).nodup_iff.mpr d.chain.nodup
theorem Drawn.gets (d : Drawn found its sigs) {x : Str} {t : It} : gets (entsOf found) x = some t ↔ ∃ j, ∃ h : j < its.length, t = its[j] ∧ x ∈ its[j].names := by
  rw [gets_iff d.nodup, d.ents.mem_iff, ents0_mem]
  constructor
  · rintro ⟨h1, h2⟩
    obtain ⟨j, hj, rfl⟩ := List.getElem_of_mem h1
    exact ⟨j, hj, rfl, h2⟩
  · rintro ⟨j, hj, rfl, h2⟩
    exact ⟨List.getElem_mem hj, h2⟩
theorem Drawn.up (d : Drawn found its sigs) {j : Nat} (hj : j < its.length) {y : Str} (h : y ∈ its[j].direct) : ∃ i, ∃ hi : i < its.length, i < j ∧ y ∈ its[i].names := by
  obtain ⟨t, ht, hy⟩ := eld_key.mp ((d.chain.ok j hj).1.above h)
  rw [List.mem_take_iff_getElem] at ht
  obtain ⟨i, hi, rfl⟩ := ht
  exact ⟨i, by omega, by omega, hy⟩
theorem Drawn.rk (d : Drawn found its sigs) : Rk (entsOf found) (idx its) where
  dn := fun x t ht y hy => by
    obtain ⟨j, hj, rfl, hx⟩ := d.gets.mp ht
    obtain ⟨i, hi, hij, hy'⟩ := d.up hj hy
    rw [d.chain.idx_of hj hx, d.chain.idx_of hi hy']; exact hij
  key := fun x t ht y hy => by
    obtain ⟨j, hj, rfl, hx⟩ := d.gets.mp ht
    obtain ⟨i, hi, hij, hy'⟩ := d.up hj hy
    exact ⟨its[i], d.gets.mpr ⟨i, hi, rfl, hy'⟩⟩
theorem Drawn.keyIn (d : Drawn found its sigs) {x : Str} (h : x ∈ (entsOf found).map (·.1)) : x ∈ (eldersOf its).map (·.1) := by
  rw [← ents0_keys]; exact (d.ents.map (·.1)).mem_iff.mp h
theorem Drawn.esize (d : Drawn found its sigs) : (entsOf found).length ≤ 8 := by
  have h1 := (d.ents.map (·.1)).length_eq
  obtain ⟨m, hm, e⟩ := d.chain.all
  rw [ents0_keys, e] at h1
  simp at h1; omega
theorem Drawn.wf (d : Drawn found its sigs) : WF (entsOf found) where
  size := by have := d.esize; omega
  keys := d.nodup
  sup := fun x t ht => by
    obtain ⟨j, hj, rfl, hx⟩ := d.gets.mp ht
    exact (d.chain.ok j hj).1.two
  dir := fun x t ht => d.rk.key x t ht
  dnd := fun x t ht => by
    obtain ⟨j, hj, rfl, hx⟩ := d.gets.mp ht
    have o := (d.chain.ok j hj).1
    unfold It.direct
    by_cases q : its[j].parent = ""
    · rw [if_pos q]; exact o.nd
    · rw [if_neg q]
      have : its[j].supers = [] := by
        by_cases z : its[j].supers = []
        · exact z
        · exact absurd (o.part z).1 q
      rw [this]; simp
  ok := fun x t ht => d.chain.eld_ok (d.keyIn (gets_mem ht))
theorem fname_inj {n m i j : Nat} (hn : n < 4) (hm : m < 4) (hi : i < 4) (hj : j < 4) (h : fname n i = fname m j) : n = m ∧ i = j := by
  have a : ∀ a, a < 16 → ∀ b, b < 16 → fname (a / 4) (a % 4) = fname (b / 4) (b % 4) → a = b := by decide +kernel
  have h1 : (4 * n + i) / 4 = n := by omega
  have h2 : (4 * n + i) % 4 = i := by omega
  have h3 : (4 * m + j) / 4 = m := by omega
  have h4 : (4 * m + j) % 4 = j := by omega
  have := a (4 * n + i) (by omega) (4 * m + j) (by omega) (by rw [h1, h2, h3, h4]; exact h)
  omega
theorem fname_letter {n i j : Nat} (hn : n < 4) (hi : i < 4) (hj : j < 8) : fname n i ≠ letter j := by
  have a : ∀ n, n < 4 → ∀ i, i < 4 → ∀ j, j < 8 → fname n i ≠ letter j := by decide +kernel
  exact a n hn i hi j hj
theorem letter_Z {j : Nat} (hj : j < 8) : letter j ≠ "Z" := by
  have a : ∀ j, j < 8 → letter j ≠ "Z" := by decide +kernel
  exact a j hj
theorem Drawn.rows (d : Drawn found its sigs) {x : Str} {r : Rw} (h : r ∈ rowsOf (entsOf found) x) {n : Str} (hn : n ∈ r.names) :
    ∃ j, ∃ hj : j < its.length, x ∈ its[j].names ∧ ∃ lap, ∃ hl : lap < its[j].rows.length, r = its[j].rows[lap] ∧ lap < 2 ∧ RowOk j lap r ∧ ∃ k, k < 2 ∧ n = fname j (2 * lap + k) := by
  unfold rowsOf at h
  cases q : Mine.gets (entsOf found) x with
  | none => rw [q] at h; simp at h
  | some t =>
    rw [q] at h
    obtain ⟨j, hj, rfl, hx⟩ := d.gets.mp q
    have h' : r ∈ its[j].rows := h
    obtain ⟨lap, hl, rfl⟩ := List.getElem_of_mem h'
    obtain ⟨r1, r2⟩ := (d.chain.ok j hj).1.rows
    have ro := r2 lap hl
    obtain ⟨m, m1, m2, e⟩ := ro.names
    rw [e] at hn
    obtain ⟨k, hk, rfl⟩ := List.mem_map.mp hn
    rw [List.mem_range] at hk
    exact ⟨j, hj, hx, lap, hl, rfl, by omega, ro, k, by omega, rfl⟩
theorem nodup_flatMap {α β : Type} {f : α → List β} : ∀ {l : List α}, (∀ x ∈ l, (f x).Nodup) → (l.Pairwise fun x y => ∀ a ∈ f x, a ∉ f y) → (l.flatMap f).Nodup
  | [], _, _ => by simp
  | x :: l, h1, h2 => by
    rw [List.flatMap_cons, List.nodup_append]
    rw [List.pairwise_cons] at h2
    refine ⟨h1 x (by simp), nodup_flatMap (fun y hy => h1 y (by simp [hy])) h2.2, ?_⟩
    intro a ha b hb q
    subst q
    obtain ⟨y, hy, hb⟩ := List.mem_flatMap.mp hb
    exact h2.1 y hy a ha hb
theorem prs_nodup (d : Drawn found its sigs) {seq : List Str} (hs : seq.Nodup) : (prs (entsOf found) seq).Nodup := by
  unfold prs
  refine nodup_flatMap (fun x hx => ?_) ?_
  · refine nodup_flatMap (fun r hr => ?_) ?_
    · have hnn : r.names.Nodup := by
        cases q : r.names with
        | nil => simp
        | cons n l =>
          obtain ⟨j, hj, _, lap, hl, _, hlap, ro, _⟩ := d.rows hr (n := n) (by rw [q]; simp)
          obtain ⟨m, m1, m2, e⟩ := ro.names
          rw [← q, e]
          have hj4 : j < 4 := by have := d.chain.len; omega
          refine List.Pairwise.map _ (R := fun a b => a ≠ b ∧ a < 2 ∧ b < 2) (fun a b ⟨h1, h2, h3⟩ z => h1 (by have := (fname_inj hj4 hj4 (by omega) (by omega) z).2; omega)) ?_
          refine List.Pairwise.imp_of_mem (R := (· ≠ ·)) ?_ List.nodup_range
          intro a b ha hb hab
          rw [List.mem_range] at ha hb
          exact ⟨hab, by omega, by omega⟩
      exact List.Pairwise.map _ (fun a b h z => h (by cases z; rfl)) hnn
    · unfold rowsOf
      cases q : Mine.gets (entsOf found) x with
      | none => simp
      | some t =>
        obtain ⟨j, hj, rfl, hx'⟩ := d.gets.mp q
        show (its[j].rows).Pairwise _
        rw [List.pairwise_iff_getElem]
        intro a b ha hb hab p hp hp'
        obtain ⟨n, hn, rfl⟩ := List.mem_map.mp hp
        obtain ⟨n', hn', e⟩ := List.mem_map.mp hp'
        cases e
        obtain ⟨r1, r2⟩ := (d.chain.ok j hj).1.rows
        obtain ⟨m, m1, m2, e⟩ := (r2 a ha).names
        obtain ⟨m', m1', m2', e'⟩ := (r2 b hb).names
        rw [e] at hn
        rw [e'] at hn'
        obtain ⟨k, hk, rfl⟩ := List.mem_map.mp hn
        obtain ⟨k', hk', e2⟩ := List.mem_map.mp hn'
        rw [List.mem_range] at hk hk'
        have hj4 : j < 4 := by have := d.chain.len; omega
        have := (fname_inj hj4 hj4 (by omega) (by omega) e2).2
        omega
  · refine List.Pairwise.imp (R := (· ≠ ·)) ?_ hs
    intro x y hxy p hp hp'
    obtain ⟨r, _, hp⟩ := List.mem_flatMap.mp hp
    obtain ⟨n, _, rfl⟩ := List.mem_map.mp hp
    obtain ⟨r', _, hp'⟩ := List.mem_flatMap.mp hp'
    obtain ⟨n', _, e⟩ := List.mem_map.mp hp'
    cases e
    exact hxy rfl
theorem len_flatMap {α β : Type} {f : α → List β} {b : Nat} : ∀ {l : List α}, (∀ x ∈ l, (f x).length ≤ b) → (l.flatMap f).length ≤ l.length * b
  | [], _ => by simp
  | x :: l, h => by
    rw [List.flatMap_cons, List.length_append, List.length_cons, Nat.succ_mul]
    have := len_flatMap (f := f) (b := b) (l := l) fun y hy => h y (by simp [hy])
    have := h x (by simp)
    omega
theorem pure_all : ∀ found its sigs, Drawn found its sigs → ∃ seq, Pure found seq := by
  intro found its sigs d
  have W := d.wf
  have rk := d.rk
  have hes := d.esize
  obtain ⟨seq, hp, q, he, hq⟩ := pf_ex rk _ (keysOf (entsOf found)) [] rfl (fun x hx => mem_gets hx) (fun x hx y hy => .inr (by
    obtain ⟨t, ht⟩ := mem_gets hx
    unfold dirs at hy
    rw [ht] at hy
    obtain ⟨t', ht'⟩ := rk.key x t ht y hy
    exact gets_mem ht'))
  rw [List.nil_append] at he
  subst he
  have hsm : ∀ x ∈ seq, ∃ t, Mine.gets (entsOf found) x = some t := fun x hx => mem_gets (hq.mem_iff.mp hx)
  have hsn : seq.Nodup := hq.nodup_iff.mpr W.keys
  have hsl : seq.length ≤ 8 := by
    have := hq.length_eq
    unfold keysOf at this
    rw [List.length_map] at this
    omega
  have hkl : ∀ x t, Mine.gets (entsOf found) x = some t → ∃ j, j < 8 ∧ x = letter j := fun x t ht => d.chain.eld_mem (d.keyIn (gets_mem ht))
  have hid : ∀ x t, Mine.gets (entsOf found) x = some t → idx its x < 4 := fun x t ht => by
    obtain ⟨j, hj, rfl, hx⟩ := d.gets.mp ht
    rw [d.chain.idx_of hj hx]; have := d.chain.len; omega
  have hlen : (allF (entsOf found) seq).1.length ≤ 32 := by
    have e := congrArg List.length (allF_pairs (entsOf found) seq)
    rw [List.length_map] at e
    rw [e]
    unfold prs
    have h := len_flatMap (f := fun x => (rowsOf (entsOf found) x).flatMap fun r => r.names.map fun n => (x, n)) (b := 4) (l := seq) fun x hx => by
      obtain ⟨t, ht⟩ := hsm x hx
      obtain ⟨j, hj, rfl, hx'⟩ := d.gets.mp ht
      have hr : rowsOf (entsOf found) x = its[j].rows := by unfold rowsOf; rw [ht]; rfl
      rw [hr]
      obtain ⟨r1, r2⟩ := (d.chain.ok j hj).1.rows
      have h := len_flatMap (f := fun r : Rw => r.names.map fun n => (x, n)) (b := 2) (l := its[j].rows) fun r hr => by
        obtain ⟨lap, hl, rfl⟩ := List.getElem_of_mem hr
        obtain ⟨m, m1, m2, e⟩ := (r2 lap hl).names
        rw [List.length_map, e, List.length_map, List.length_range]; exact m2
      omega
    omega
  have hmem : ∀ f ∈ (allF (entsOf found) seq).1, (∃ t, Mine.gets (entsOf found) f.name = some t) ∧ (∃ k, k < 4 ∧ f.field = fname (idx its f.name) k) ∧ PyData.strOk f.mult = true ∧ Fit f.node 10 := by
    refine allF_mem _ fun x hx r hr n hn g => ?_
    obtain ⟨j, hj, hx', lap, hl, rfl, hlap, ro, k, hk, e⟩ := d.rows hr hn
    refine ⟨hsm x hx, ⟨2 * lap + k, by omega, ?_⟩, ro.mult, ro.node⟩
    show n = fname (idx its x) _
    rw [d.chain.idx_of hj hx', e]
  have hinn : ∀ p ∈ opsOf found, ∃ t, Mine.gets (entsOf found) p.2 = some t := fun p hp => by
    obtain ⟨i, hi, rfl⟩ := List.mem_map.mp (d.ops.mem_iff.mp hp)
    rw [List.mem_range] at hi
    have hs : sigs.getD i "" ∈ sigs := by rw [getD_eq _ _ _ hi]; exact List.getElem_mem hi
    obtain ⟨t, ht, hx⟩ := eld_key.mp (d.sin _ hs)
    obtain ⟨j, hj, rfl⟩ := List.getElem_of_mem ht
    exact ⟨_, d.gets.mpr ⟨j, hj, rfl, hx⟩⟩
  have hol : (opsOf found).length ≤ 2 := by
    rw [d.ops.length_eq, List.length_map, List.length_range]; exact d.slen
  refine ⟨seq, ⟨W, ?_, ?_, hp, hsm, ?_, by omega, hinn, ?_, ?_⟩, ⟨fun x => if idx its x < 8 then idx its x else 0, ?_, ?_⟩, ?_, ?_, by omega, ?_, ?_, ?_, by omega, by omega⟩
  · intro t ht
    have h := d.perm.mem_iff.mp ht
    rw [List.mem_append, List.mem_append] at h
    rcases h with (h | h) | h
    · obtain ⟨u, hu, e⟩ := List.mem_map.mp h
      cases e
      obtain ⟨j, hj, rfl⟩ := List.getElem_of_mem hu
      have o := (d.chain.ok j hj).1
      exact ⟨o.two, fun z => (o.part z).2⟩
    · obtain ⟨i, _, e⟩ := List.mem_map.mp h
      cases e
    · rw [List.mem_singleton] at h; cases h
  · intro x t ht hpar t' ht'
    obtain ⟨j, hj, rfl, hx⟩ := d.gets.mp ht
    rcases (d.chain.ok j hj).1.parent with e | e
    · exact absurd e hpar
    · obtain ⟨u, hu, hpu, hb⟩ := eld_mem.mp e
      rw [List.mem_take_iff_getElem] at hu
      obtain ⟨i, hi, rfl⟩ := hu
      have := d.gets.mpr ⟨i, by omega, rfl, hpu⟩
      rw [this] at ht'
      cases ht'
      have : its[i].supers.isEmpty = true := by
        cases z : its[i].supers.isEmpty with
        | true => rfl
        | false => rw [z] at hb; cases hb
      exact List.isEmpty_iff.mp this
  · refine okf_of (prs_nodup d hsn) (fun f hf => ?_) (fun f hf g hg e hu => ?_)
    · obtain ⟨⟨t, ht⟩, ⟨k, hk, e⟩, _⟩ := hmem f hf
      refine ⟨?_, t, ht⟩
      cases z : Mine.gets (entsOf found) f.field with
      | none => rfl
      | some u =>
        obtain ⟨j, hj, e2⟩ := hkl _ _ z
        exact absurd (e.symm.trans e2) (fname_letter (hid _ _ ht) hk hj)
    · obtain ⟨⟨t, ht⟩, ⟨k, hk, e1⟩, _⟩ := hmem f hf
      obtain ⟨⟨t', ht'⟩, ⟨k', hk', e2⟩, _⟩ := hmem g hg
      have := hu.rank rk
      have := (fname_inj (hid _ _ ht) (hid _ _ ht') hk hk' (e1.symm.trans (e.trans e2))).1
      omega
  · rw [(d.ops.map (·.1)).nodup_iff, List.map_map]
    have hl := d.slen
    have : sigs.length = 0 ∨ sigs.length = 1 ∨ sigs.length = 2 := by omega
    show ((List.range sigs.length).map fun i => orderName (if i = 0 then "" else "o")).Nodup
    rcases this with e | e | e <;> rw [e] <;> decide
  · have h := d.perm.length_eq
    rw [List.length_append, List.length_append, List.length_map, List.length_map, List.length_range] at h
    have := d.chain.len
    have := d.slen
    simp at h
    omega
  · intro x
    dsimp only
    split <;> omega
  · intro x t ht y hy
    have h1 := rk.dn x t ht y hy
    have h2 := hid x t ht
    dsimp only
    rw [if_pos (by omega), if_pos (by omega)]
    exact h1
  · intro x t ht
    obtain ⟨line, h1, h2⟩ := line_ex rk _ x t (Nat.le_refl _) ht
    have := hid x t ht
    exact ⟨line, h1, by omega⟩
  · intro x t ht
    obtain ⟨j, hj, rfl, hx⟩ := d.gets.mp ht
    exact fit_sig d.chain hj
  · cases z : Mine.gets (entsOf found) "Z" with
    | none => rfl
    | some u =>
      obtain ⟨j, hj, e⟩ := hkl _ _ z
      exact absurd e.symm (letter_Z hj)
  · intro f hf
    obtain ⟨⟨t, ht⟩, ⟨k, hk, e⟩, hmu, hno⟩ := hmem f hf
    refine (Fit.tup (n := 10) fun d' hd => ?_).le (by decide)
    simp only [List.mem_cons, List.mem_nil_iff, or_false] at hd
    rcases hd with rfl | rfl | rfl | rfl | rfl | rfl
    · rw [e]; exact .str (fname_ok _ _ (hid _ _ ht) hk)
    · exact .str (W.ok _ _ ht)
    · exact .str hmu
    · exact hno
    · exact .int _
    · exact .int _
  · intro p hp
    obtain ⟨t, ht⟩ := hinn p hp
    refine (Fit.tup (n := 0) fun d' hd => ?_).le (by decide)
    simp only [List.mem_cons, List.mem_nil_iff, or_false] at hd
    rcases hd with rfl | rfl
    · obtain ⟨i, hi, rfl⟩ := List.mem_map.mp (d.ops.mem_iff.mp hp)
      refine .str ?_
      show PyData.strOk (orderName (if i = 0 then "" else "o")) = true
      split <;> decide +kernel
    · exact .str (W.ok _ _ ht)
end
end Mine
namespace Mine
theorem good_true {l : OpenLaw} {cl : Str → Option Addr} {mean : ExcName → Option Value} {args : List WData} {s₁ s' : Shared} (hk : ∀ b o, s₁.heap.get? b = some o → s'.heap.get? b = some o) (ho : s'.os = s₁.os) (hg : s'.gens = #[]) :
    GoodW l.row.claim cl mean args s₁ (Except.ok (Flow.ret (.bool true))) s' :=
  ⟨.inl ⟨.bool true, .bool true, [], rfl, fun _ => rfl, .bool true, by
    show (WShape.has l.row.records (.bool true) .bool && (WTm.eq .res (.lit (.bool true))).holds l.row.records { args := args, res := some (.bool true), after := args }) = true
    simp [WShape.has, WTm.holds, WTm.value, same]
    exact ⟨.bool, by simp [WShape.arms], rfl⟩, fun _ => ⟨.nil, fun a h => by cases h⟩⟩, hk, ho, hg⟩
theorem isG_of {p : Program} {loose : List Str} {mean : ExcName → Option Value} {w : World} {h : Heap} {mg mb : Str → Option Value} (X : (heapK w.params).In h) (T : Top p loose mean mg mb h)
    {G : Amb} (e1 : G.w = w) (e2 : G.h₀ = h) (e3 : G.K = heapK w.params) (e4 : G.mg = mg) (e5 : G.mb = mb) : IsG G where
  K := by rw [e3, e1]
  glob := fun x v e => by rw [e4]; exact mg_of X T.g (e3 ▸ e)
  noGlob := fun x e => by rw [e4]; exact mg_none_of X T.g (e3 ▸ e)
  boot := fun x v e n => by rw [e5]; exact (T.builtins x n).trans e
theorem sv_law' {G : Amb} {A : Around} {L : Addr} (hG : IsG G) (R : Room A 60) {a : Addr} {vs : List Value} {ns : List Int} (hl : G.h₀.IsList a vs.toArray) (hi : IntsAre vs ns) (hn : ns.length ≤ 63)
    (P : ∀ found its sigs, Drawn found its sigs → ∃ seq, Pure found seq) {f : Addr} {cd : Value}
    {oc : Value} {od : Option Addr} {osl : Array (Option Value)} {name qual : Str} {params : Arguments} {body : List Stmt} {scope : Scope} {dV kV doc pm cdv ct : Value} {an : Option Addr}
    (ho : (heapK G.w.params).lookup 316 = some ⟨oc, od, .func (fnOf name qual params body scope dV kV doc pm an cdv ct), osl⟩) :
    SV G A (envX "law" scope L f cd []) [("script", .ref a)] (fun _ => none) (execs body (envX "law" scope L f cd [])) (fun φ _ _ => φ = .ret (.bool true)) never := by
  have h := sv_law (L := L) hG R hl hi hn P (f := f) (cd := cd)
  have e1 : bodyOf (heapK G.w.params) 316 = body := by unfold bodyOf; rw [ho]
  have e2 : scopeOf (heapK G.w.params) 316 = scope := by unfold scopeOf; rw [ho]
  rw [e1, e2] at h; exact h
theorem of_law {p : Program} {loose : List Str} {mean : ExcName → Option Value} {prog : Program} {w : World} {h₀ : Heap} {mg mb : Str → Option Value} (X : (heapK w.params).In h₀) (T : Top p loose mean mg mb h₀)
    {A : Around} {L : Addr} {Q : Flow → Shared → Prop} {E : Value → Shared → Prop} {s : Shared} {m : Str → Option Value} {a : Addr} {vs : List Value} {ns : List Int}
    (F : Fr h₀ L s.heap m) (hm : m "script" = some (.ref a)) (hl : h₀.IsList a vs.toArray) (hi : IntsAre vs ns) (hn : ns.length ≤ 63) (R : Room A 60) {f : Addr} {cd : Value}
    {oc : Value} {od : Option Addr} {osl : Array (Option Value)} {name qual : Str} {params : Arguments} {body : List Stmt} {scope : Scope} {dV kV doc pm cdv ct : Value} {an : Option Addr}
    (ho : (heapK w.params).lookup 316 = some ⟨oc, od, .func (fnOf name qual params body scope dV kV doc pm an cdv ct), osl⟩)
    (hQ : ∀ h' tk, h₀.StaysIn h' → Q (.ret (.bool true)) { s with heap := h', toks := tk }) : wpAny (model prog w) A (execs body (envX "law" scope L f cd [])) Q E s := by
  refine of_SV (env := envX "law" scope L f cd []) X T.g T.b T.nolimit F (ρ := [("script", .ref a)]) (fun x d e => ?_) (fun G e1 e2 e3 e4 e5 e6 => ?_) hQ
  · have hx : x = "script" := by
      by_cases q : x = "script"
      · exact q
      · simp [Loc.get, q] at e
    subst hx
    have e2 : Loc.get [(("script" : Str), V.ref a)] "script" = some (.ref a) := rfl
    rw [e2] at e
    cases e
    exact ⟨_, hm, .ref _⟩
  · exact sv_law' (isG_of X T e2 e3 e4 e5 e6) R (by rw [e3]; exact hl) hi hn pure_all (by rw [e2]; exact ho)
theorem room_caller (env : Env) : Room (callerA.deeper env) 60 := ⟨rfl, by show callerA.depth + 1 + 60 < recursionLimit; decide, by show callerA.units + 3 + 8 * 60 + 80 < cLine; decide +kernel⟩
end Mine
set_option maxRecDepth 100000 in
set_option maxHeartbeats 8000000 in
theorem PySem.Challenge.cw_rr0082_02_holds : PySem.Challenge.rw_rr0082_02.Holds := by
  refine holds_law Mine.wellOnce fun said => ?_
  refine PySem.W.holds_open (q := Mine.vw) (loose := []) (Xt := Mine.XX) (XP := XL Mine.vw []) (Yf := Mine.HH.obs) (Ya := Mine.HH.val) (YP := Mine.HH.says) (N := 4302) Mine.hlOnce (Hook.of Mine.HH) (Hook.keeps Mine.HH)
    (fun s e => xl_of s (Bool.and_eq_true_iff.mp e).1) XL.keeps (by rfl) (by rfl) (by rfl) (fun s e => recFacts_of (Bool.and_eq_true_iff.mp e).2) (by rfl) said (by decide +kernel) ⟨rfl, rfl, rfl, rfl, rfl, by decide +kernel⟩ ?hw ?hc
  case hw => w_witness2
  w_strict (
    intro w s₀ s₁ mg mb G Y fa o pm cd doc dV kV ho hd hcd hD hmg hg args vals as hpre hlay hrd hwl hlo
    have KX := kIn_of Y
    have X := (Ground.X G).1
    have V := (Ground.X G).2
    refine Ground.open G ?_
    intro T B D TE TW
    try (refine guard_noD D (by decide +kernel) ?_; clear D)
    obtain ⟨_, _, M⟩ := bmod_of_top T
    have TA := at_of_top T
    try (obtain ⟨_, _, he, B0⟩ := based_of_top T rfl hmg ho hd; have he' : cd = _ := he; subst he'; clear he)
    clear hmg
    wrow_args hpre hlay hrd hwl hlo
    refine enter_call ?_
    w_top on
    try refine codeAny_mono ?_ (fun _ _ g => GoodW.toG g)
    have K0 := below_caller (Top.heap T)
    w_call any ho hd hcd hD T F
    rename Heap.IsList _ _ _ => hL
    rename IntsAre _ _ => hI
    rename List Int => ns
    have hn : ns.length ≤ 63 := by omega
    exact Mine.of_law KX T F rfl hL hI hn (Mine.room_caller _) rfl (fun h' tk hb => Mine.good_true hb rfl (by assumption)))
