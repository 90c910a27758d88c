import PyProof.Rows.All
import Wide.All
import OpenK.AllK
import Wide.FinOn
import KE.KDictOf
import KE.KDictSum
import KE.KRevSl
import PyProof.StrWalks
import PyProof.SliceStr2
import PyProof.EnumStmt
import PyProof.ExcAttrAll.Exception
import PySem.Challenge.RW_rr0082_01
set_option Elab.async false
set_option linter.unusedVariables false
section
open PySem PySem.W PyProof.Rows PySem.Calls
namespace Mine
def tops : List Stmt := PySem.Challenge.rw_rr0082_01.prog.main.body
def topAt (i : Nat) : Stmt := (tops[i]?).getD (.Pass ⟨0, 0, 0, 0⟩)
def inAt (i j : Nat) : Stmt := match topAt i with
  | .ClassDef _ _ _ b .. => (b[j]?).getD (.Pass ⟨0, 0, 0, 0⟩)
  | _ => .Pass ⟨0, 0, 0, 0⟩
def fArgs : Stmt → Arguments
  | .FunctionDef _ a .. => a
  | _ => { posonlyargs := [], args := [], vararg := none, kwonlyargs := [], kw_defaults := [], kwarg := none, defaults := [] }
def fBody : Stmt → List Stmt
  | .FunctionDef _ _ b .. => b
  | _ => []
def fScope : Stmt → Scope
  | .FunctionDef _ _ _ _ _ _ s .. => s
  | _ => { kind := .module, names := [], isGenerator := false, isCoroutine := false }
set_option maxRecDepth 100000 in
noncomputable def heapK (P : Params) : Frag :=
  [(2, { cls := Value.none, data := Data.dict #[{ hash := PyData.keyHash P (Str.ofString "type.__subclasses__.Exception.0"), key := Value.str (Str.ofString "type.__subclasses__.Exception.0") 230, val := Value.int 47 0 }, { hash := PyData.keyHash P (Str.ofString "type.__subclasses__.Exception.n"), key := Value.str (Str.ofString "type.__subclasses__.Exception.n") 231, val := Value.int 1 0 }] 2 }),
   (3, { cls := Value.type "dict", data := Data.dict #[{ hash := PyData.keyHash P (Str.ofString "__name__"), key := Value.str (Str.ofString "__name__") 165, val := Value.str (Str.ofString "law_rr0082_01") 514 }, { hash := PyData.keyHash P (Str.ofString "__doc__"), key := Value.str (Str.ofString "__doc__") 166, val := Value.none }, { hash := PyData.keyHash P (Str.ofString "__package__"), key := Value.str (Str.ofString "__package__") 167, val := Value.none }, { hash := PyData.keyHash P (Str.ofString "__loader__"), key := Value.str (Str.ofString "__loader__") 168, val := Value.builtin "__main__.__loader__#opaque" }, { hash := PyData.keyHash P (Str.ofString "__spec__"), key := Value.str (Str.ofString "__spec__") 169, val := Value.none }, { hash := PyData.keyHash P (Str.ofString "__annotations__"), key := Value.str (Str.ofString "__annotations__") 170, val := Value.ref 6 }, { hash := PyData.keyHash P (Str.ofString "__builtins__"), key := Value.str (Str.ofString "__builtins__") 171, val := Value.ref 4 }, { hash := PyData.keyHash P (Str.ofString "__file__"), key := Value.str (Str.ofString "__file__") 173, val := Value.str (Str.ofString "/claim/cut.py") 172 }, { hash := PyData.keyHash P (Str.ofString "__cached__"), key := Value.str (Str.ofString "__cached__") 174, val := Value.none }, { hash := PyData.keyHash P (Str.ofString "_wall"), key := Value.str (Str.ofString "_wall") 193, val := Value.ref 21 }, { hash := PyData.keyHash P (Str.ofString "FinderError"), key := Value.str (Str.ofString "FinderError") 233, val := Value.ref 47 }, { hash := PyData.keyHash P (Str.ofString "SpotFault"), key := Value.str (Str.ofString "SpotFault") 268, val := Value.ref 76 }, { hash := PyData.keyHash P (Str.ofString "KindFault"), key := Value.str (Str.ofString "KindFault") 284, val := Value.ref 88 }, { hash := PyData.keyHash P (Str.ofString "ORDERING"), key := Value.str (Str.ofString "ORDERING") 288, val := Value.str (Str.ofString "util/ordering") 287 }, { hash := PyData.keyHash P (Str.ofString "Signatures"), key := Value.str (Str.ofString "Signatures") 513, val := Value.ref 257 }, { hash := PyData.keyHash P (Str.ofString "_law_letters"), key := Value.str (Str.ofString "_law_letters") 517, val := Value.str (Str.ofString "ABCDEF") 516 }, { hash := PyData.keyHash P (Str.ofString "_law_dealt"), key := Value.str (Str.ofString "_law_dealt") 525, val := Value.ref 268 }, { hash := PyData.keyHash P (Str.ofString "_law_direct"), key := Value.str (Str.ofString "_law_direct") 531, val := Value.ref 273 }, { hash := PyData.keyHash P (Str.ofString "_law_first"), key := Value.str (Str.ofString "_law_first") 537, val := Value.ref 278 }, { hash := PyData.keyHash P (Str.ofString "_law_refused"), key := Value.str (Str.ofString "_law_refused") 545, val := Value.ref 285 }, { hash := PyData.keyHash P (Str.ofString "law"), key := Value.str (Str.ofString "law") 551, val := Value.ref 290 }] 21 }),
   (15, { cls := Value.type "tuple", data := Data.seq #[] }),
   (17, { cls := Value.type "tuple", data := Data.seq #[Value.str (Str.ofString "k") 190] }),
   (18, { cls := Value.type "tuple", data := Data.seq #[] }),
   (20, { cls := Value.type "code", data := Data.fields #[Value.str (Str.ofString "_wall") 187, Value.str (Str.ofString "_wall") 188, Value.str (Str.ofString "/claim/cut.py") 189, Value.int 1 0, Value.int 1 0, Value.int 0 0, Value.int 0 0, Value.int 3 0, Value.ref 15, Value.bool true, Value.int 181 0, Value.ref 16, Value.none, Value.ref 17, Value.ref 18, Value.ref 19, Value.int 191 0, Value.int 1 0, Value.str (Str.ofString "/claim/cut.py") 192] }),
   (21, { cls := Value.type "function", data := Data.func { name := Str.ofString "_wall", qualname := Str.ofString "_wall", params := fArgs (topAt 0), body := FuncBody.stmts (fBody (topAt 0)), scope := fScope (topAt 0), globals := 3, closure := [], defaults := Value.none, kwdefaults := Value.none, pyModule := Value.str (Str.ofString "__main__") 164, code := Value.ref 20 } }),
   (22, { cls := Value.type "tuple", data := Data.seq #[Value.type "Exception"] }),
   (25, { cls := Value.type "cell", data := Data.cell (some (Value.ref 47)) }),
   (30, { cls := Value.type "tuple", data := Data.seq #[Value.ref 25] }),
   (31, { cls := Value.type "tuple", data := Data.seq #[Value.str (Str.ofString "__class__") 211] }),
   (33, { cls := Value.type "tuple", data := Data.seq #[Value.str (Str.ofString "self") 212, Value.str (Str.ofString "what") 213] }),
   (34, { cls := Value.type "tuple", data := Data.seq #[] }),
   (36, { cls := Value.type "code", data := Data.fields #[Value.str (Str.ofString "__init__") 208, Value.str (Str.ofString "FinderError.__init__") 209, Value.str (Str.ofString "/claim/cut.py") 210, Value.int 7 0, Value.int 2 0, Value.int 0 0, Value.int 0 0, Value.int 3 0, Value.ref 31, Value.bool true, Value.int 181 0, Value.ref 32, Value.none, Value.ref 33, Value.ref 34, Value.ref 35, Value.int 214 0, Value.int 7 0, Value.str (Str.ofString "/claim/cut.py") 215] }),
   (37, { cls := Value.type "function", data := Data.func { name := Str.ofString "__init__", qualname := Str.ofString "FinderError.__init__", params := fArgs (inAt 2 0), body := FuncBody.stmts (fBody (inAt 2 0)), scope := fScope (inAt 2 0), globals := 3, closure := [(Str.ofString "__class__", 25)], defaults := Value.none, kwdefaults := Value.none, pyModule := Value.str (Str.ofString "relfinder.errors") 194, code := Value.ref 36, closureTuple := Value.ref 30 } }),
   (38, { cls := Value.type "tuple", data := Data.seq #[] }),
   (40, { cls := Value.type "tuple", data := Data.seq #[Value.str (Str.ofString "self") 220] }),
   (41, { cls := Value.type "tuple", data := Data.seq #[] }),
   (43, { cls := Value.type "code", data := Data.fields #[Value.str (Str.ofString "told") 217, Value.str (Str.ofString "FinderError.told") 218, Value.str (Str.ofString "/claim/cut.py") 219, Value.int 11 0, Value.int 1 0, Value.int 0 0, Value.int 0 0, Value.int 3 0, Value.ref 38, Value.bool true, Value.int 181 0, Value.ref 39, Value.none, Value.ref 40, Value.ref 41, Value.ref 42, Value.int 221 0, Value.int 11 0, Value.str (Str.ofString "/claim/cut.py") 222] }),
   (44, { cls := Value.type "function", data := Data.func { name := Str.ofString "told", qualname := Str.ofString "FinderError.told", params := fArgs (inAt 2 1), body := FuncBody.stmts (fBody (inAt 2 1)), scope := fScope (inAt 2 1), globals := 3, closure := [], defaults := Value.none, kwdefaults := Value.none, pyModule := Value.str (Str.ofString "relfinder.errors") 194, code := Value.ref 43 } }),
   (45, { cls := Value.type "tuple", data := Data.seq #[Value.str (Str.ofString "what") 224] }),
   (46, { cls := Value.type "dict", data := Data.dict #[{ hash := PyData.keyHash P (Str.ofString "__module__"), key := Value.str (Str.ofString "__module__") 203, val := Value.str (Str.ofString "relfinder.errors") 194 }, { hash := PyData.keyHash P (Str.ofString "__firstlineno__"), key := Value.str (Str.ofString "__firstlineno__") 207, val := Value.int 5 206 }, { hash := PyData.keyHash P (Str.ofString "__init__"), key := Value.str (Str.ofString "__init__") 216, val := Value.ref 37 }, { hash := PyData.keyHash P (Str.ofString "told"), key := Value.str (Str.ofString "told") 223, val := Value.ref 44 }, { hash := PyData.keyHash P (Str.ofString "__static_attributes__"), key := Value.str (Str.ofString "__static_attributes__") 225, val := Value.ref 45 }, { hash := PyData.keyHash P (Str.ofString "__weakref__"), key := Value.str (Str.ofString "__weakref__") 228, val := Value.ref 48 }, { hash := PyData.keyHash P (Str.ofString "__doc__"), key := Value.str (Str.ofString "__doc__") 229, val := Value.none }] 4 }),
   (47, { cls := Value.type "type", data := Data.cls { name := Str.ofString "FinderError", bases := [Value.type "Exception"], mro := [Value.ref 47, Value.type "Exception", Value.type "BaseException", Value.type "object"], ns := 46, qualname := Str.ofString "FinderError", subclasses := [Value.ref 76] }, slots := #[some (Value.ref 22), none, some (Value.str (Str.ofString "FinderError") 196), some (Value.str (Str.ofString "FinderError") 204), some (Value.builtin "Exception.__new__"), some (Value.bool true)] }),
   (48, { cls := Value.type "getset_descriptor", data := Data.fields #[Value.str (Str.ofString "__weakref__") 227, Value.ref 47, Value.builtin "ExceptionGroup.__weakref__", Value.none] }),
   (51, { cls := Value.type "tuple", data := Data.seq #[Value.ref 47] }),
   (54, { cls := Value.type "cell", data := Data.cell (some (Value.ref 76)) }),
   (59, { cls := Value.type "tuple", data := Data.seq #[Value.ref 54] }),
   (60, { cls := Value.type "tuple", data := Data.seq #[Value.str (Str.ofString "__class__") 249] }),
   (62, { cls := Value.type "tuple", data := Data.seq #[Value.str (Str.ofString "self") 250, Value.str (Str.ofString "what") 251, Value.str (Str.ofString "spot") 252] }),
   (63, { cls := Value.type "tuple", data := Data.seq #[] }),
   (65, { cls := Value.type "code", data := Data.fields #[Value.str (Str.ofString "__init__") 246, Value.str (Str.ofString "SpotFault.__init__") 247, Value.str (Str.ofString "/claim/cut.py") 248, Value.int 15 0, Value.int 3 0, Value.int 0 0, Value.int 0 0, Value.int 3 0, Value.ref 60, Value.bool true, Value.int 181 0, Value.ref 61, Value.none, Value.ref 62, Value.ref 63, Value.ref 64, Value.int 253 0, Value.int 15 0, Value.str (Str.ofString "/claim/cut.py") 254] }),
   (66, { cls := Value.type "function", data := Data.func { name := Str.ofString "__init__", qualname := Str.ofString "SpotFault.__init__", params := fArgs (inAt 3 0), body := FuncBody.stmts (fBody (inAt 3 0)), scope := fScope (inAt 3 0), globals := 3, closure := [(Str.ofString "__class__", 54)], defaults := Value.none, kwdefaults := Value.none, pyModule := Value.str (Str.ofString "relfinder.errors") 194, code := Value.ref 65, closureTuple := Value.ref 59 } }),
   (67, { cls := Value.type "tuple", data := Data.seq #[] }),
   (69, { cls := Value.type "tuple", data := Data.seq #[Value.str (Str.ofString "self") 259] }),
   (70, { cls := Value.type "tuple", data := Data.seq #[] }),
   (72, { cls := Value.type "code", data := Data.fields #[Value.str (Str.ofString "told") 256, Value.str (Str.ofString "SpotFault.told") 257, Value.str (Str.ofString "/claim/cut.py") 258, Value.int 19 0, Value.int 1 0, Value.int 0 0, Value.int 0 0, Value.int 3 0, Value.ref 67, Value.bool true, Value.int 181 0, Value.ref 68, Value.none, Value.ref 69, Value.ref 70, Value.ref 71, Value.int 260 0, Value.int 19 0, Value.str (Str.ofString "/claim/cut.py") 261] }),
   (73, { cls := Value.type "function", data := Data.func { name := Str.ofString "told", qualname := Str.ofString "SpotFault.told", params := fArgs (inAt 3 1), body := FuncBody.stmts (fBody (inAt 3 1)), scope := fScope (inAt 3 1), globals := 3, closure := [], defaults := Value.none, kwdefaults := Value.none, pyModule := Value.str (Str.ofString "relfinder.errors") 194, code := Value.ref 72 } }),
   (74, { cls := Value.type "tuple", data := Data.seq #[Value.str (Str.ofString "spot") 263] }),
   (75, { cls := Value.type "dict", data := Data.dict #[{ hash := PyData.keyHash P (Str.ofString "__module__"), key := Value.str (Str.ofString "__module__") 241, val := Value.str (Str.ofString "relfinder.errors") 194 }, { hash := PyData.keyHash P (Str.ofString "__firstlineno__"), key := Value.str (Str.ofString "__firstlineno__") 245, val := Value.int 13 244 }, { hash := PyData.keyHash P (Str.ofString "__init__"), key := Value.str (Str.ofString "__init__") 255, val := Value.ref 66 }, { hash := PyData.keyHash P (Str.ofString "told"), key := Value.str (Str.ofString "told") 262, val := Value.ref 73 }, { hash := PyData.keyHash P (Str.ofString "__static_attributes__"), key := Value.str (Str.ofString "__static_attributes__") 264, val := Value.ref 74 }, { hash := PyData.keyHash P (Str.ofString "__doc__"), key := Value.str (Str.ofString "__doc__") 266, val := Value.none }] 3 }),
   (76, { cls := Value.type "type", data := Data.cls { name := Str.ofString "SpotFault", bases := [Value.ref 47], mro := [Value.ref 76, Value.ref 47, Value.type "Exception", Value.type "BaseException", Value.type "object"], ns := 75, qualname := Str.ofString "SpotFault", subclasses := [Value.ref 88] }, slots := #[some (Value.ref 51), none, some (Value.str (Str.ofString "SpotFault") 234), some (Value.str (Str.ofString "SpotFault") 242), some (Value.builtin "Exception.__new__"), some (Value.bool true)] }),
   (79, { cls := Value.type "tuple", data := Data.seq #[Value.ref 76] }),
   (86, { cls := Value.type "tuple", data := Data.seq #[] }),
   (87, { cls := Value.type "dict", data := Data.dict #[{ hash := PyData.keyHash P (Str.ofString "__module__"), key := Value.str (Str.ofString "__module__") 276, val := Value.str (Str.ofString "relfinder.errors") 194 }, { hash := PyData.keyHash P (Str.ofString "__firstlineno__"), key := Value.str (Str.ofString "__firstlineno__") 280, val := Value.int 21 279 }, { hash := PyData.keyHash P (Str.ofString "__static_attributes__"), key := Value.str (Str.ofString "__static_attributes__") 281, val := Value.ref 86 }, { hash := PyData.keyHash P (Str.ofString "__doc__"), key := Value.str (Str.ofString "__doc__") 282, val := Value.none }] 2 }),
   (88, { cls := Value.type "type", data := Data.cls { name := Str.ofString "KindFault", bases := [Value.ref 76], mro := [Value.ref 88, Value.ref 76, Value.ref 47, Value.type "Exception", Value.type "BaseException", Value.type "object"], ns := 87, qualname := Str.ofString "KindFault" }, slots := #[some (Value.ref 79), none, some (Value.str (Str.ofString "KindFault") 269), some (Value.str (Str.ofString "KindFault") 277), some (Value.builtin "Exception.__new__"), some (Value.bool true)] }),
   (98, { cls := Value.type "tuple", data := Data.seq #[] }),
   (100, { cls := Value.type "tuple", data := Data.seq #[Value.str (Str.ofString "self") 304, Value.str (Str.ofString "items") 305, Value.str (Str.ofString "item") 306, Value.str (Str.ofString "name") 307] }),
   (101, { cls := Value.type "tuple", data := Data.seq #[] }),
   (103, { cls := Value.type "code", data := Data.fields #[Value.str (Str.ofString "__init__") 301, Value.str (Str.ofString "Signatures.__init__") 302, Value.str (Str.ofString "/claim/cut.py") 303, Value.int 27 0, Value.int 2 0, Value.int 0 0, Value.int 0 0, Value.int 3 0, Value.ref 98, Value.bool true, Value.int 181 0, Value.ref 99, Value.none, Value.ref 100, Value.ref 101, Value.ref 102, Value.int 308 0, Value.int 27 0, Value.str (Str.ofString "/claim/cut.py") 309] }),
   (104, { cls := Value.type "function", data := Data.func { name := Str.ofString "__init__", qualname := Str.ofString "Signatures.__init__", params := fArgs (inAt 7 0), body := FuncBody.stmts (fBody (inAt 7 0)), scope := fScope (inAt 7 0), globals := 3, closure := [], defaults := Value.none, kwdefaults := Value.none, pyModule := Value.str (Str.ofString "relfinder.sigs") 285, code := Value.ref 103 } }),
   (105, { cls := Value.type "tuple", data := Data.seq #[] }),
   (107, { cls := Value.type "tuple", data := Data.seq #[Value.str (Str.ofString "self") 314, Value.str (Str.ofString "item") 315, Value.str (Str.ofString "name") 316] }),
   (108, { cls := Value.type "tuple", data := Data.seq #[] }),
   (110, { cls := Value.type "code", data := Data.fields #[Value.str (Str.ofString "take_sig") 311, Value.str (Str.ofString "Signatures.take_sig") 312, Value.str (Str.ofString "/claim/cut.py") 313, Value.int 43 0, Value.int 2 0, Value.int 0 0, Value.int 0 0, Value.int 3 0, Value.ref 105, Value.bool true, Value.int 181 0, Value.ref 106, Value.none, Value.ref 107, Value.ref 108, Value.ref 109, Value.int 317 0, Value.int 43 0, Value.str (Str.ofString "/claim/cut.py") 318] }),
   (111, { cls := Value.type "function", data := Data.func { name := Str.ofString "take_sig", qualname := Str.ofString "Signatures.take_sig", params := fArgs (inAt 7 1), body := FuncBody.stmts (fBody (inAt 7 1)), scope := fScope (inAt 7 1), globals := 3, closure := [], defaults := Value.none, kwdefaults := Value.none, pyModule := Value.str (Str.ofString "relfinder.sigs") 285, code := Value.ref 110 } }),
   (112, { cls := Value.type "tuple", data := Data.seq #[] }),
   (114, { cls := Value.type "tuple", data := Data.seq #[Value.str (Str.ofString "self") 323, Value.str (Str.ofString "name") 324, Value.str (Str.ofString "other") 325] }),
   (115, { cls := Value.type "tuple", data := Data.seq #[] }),
   (117, { cls := Value.type "code", data := Data.fields #[Value.str (Str.ofString "look_above") 320, Value.str (Str.ofString "Signatures.look_above") 321, Value.str (Str.ofString "/claim/cut.py") 322, Value.int 52 0, Value.int 2 0, Value.int 0 0, Value.int 0 0, Value.int 3 0, Value.ref 112, Value.bool true, Value.int 181 0, Value.ref 113, Value.none, Value.ref 114, Value.ref 115, Value.ref 116, Value.int 326 0, Value.int 52 0, Value.str (Str.ofString "/claim/cut.py") 327] }),
   (118, { cls := Value.type "function", data := Data.func { name := Str.ofString "look_above", qualname := Str.ofString "Signatures.look_above", params := fArgs (inAt 7 2), body := FuncBody.stmts (fBody (inAt 7 2)), scope := fScope (inAt 7 2), globals := 3, closure := [], defaults := Value.none, kwdefaults := Value.none, pyModule := Value.str (Str.ofString "relfinder.sigs") 285, code := Value.ref 117 } }),
   (119, { cls := Value.type "tuple", data := Data.seq #[] }),
   (121, { cls := Value.type "tuple", data := Data.seq #[Value.str (Str.ofString "self") 332, Value.str (Str.ofString "name") 333] }),
   (122, { cls := Value.type "tuple", data := Data.seq #[] }),
   (124, { cls := Value.type "code", data := Data.fields #[Value.str (Str.ofString "direct") 329, Value.str (Str.ofString "Signatures.direct") 330, Value.str (Str.ofString "/claim/cut.py") 331, Value.int 59 0, Value.int 2 0, Value.int 0 0, Value.int 0 0, Value.int 3 0, Value.ref 119, Value.bool true, Value.int 181 0, Value.ref 120, Value.none, Value.ref 121, Value.ref 122, Value.ref 123, Value.int 334 0, Value.int 59 0, Value.str (Str.ofString "/claim/cut.py") 335] }),
   (125, { cls := Value.type "function", data := Data.func { name := Str.ofString "direct", qualname := Str.ofString "Signatures.direct", params := fArgs (inAt 7 3), body := FuncBody.stmts (fBody (inAt 7 3)), scope := fScope (inAt 7 3), globals := 3, closure := [], defaults := Value.none, kwdefaults := Value.none, pyModule := Value.str (Str.ofString "relfinder.sigs") 285, code := Value.ref 124 } }),
   (126, { cls := Value.type "tuple", data := Data.seq #[] }),
   (129, { cls := Value.type "code", data := Data.fields #[Value.str (Str.ofString "parents_first") 337, Value.str (Str.ofString "Signatures.parents_first") 338, Value.str (Str.ofString "/claim/cut.py") 339, Value.int 62 0, Value.int 1 0, Value.int 0 0, Value.int 0 0, Value.int 3 0, Value.ref 126, Value.bool true, Value.int 181 0, Value.ref 127, Value.none, Value.none, Value.none, Value.ref 128, Value.int 340 0, Value.int 62 0, Value.str (Str.ofString "/claim/cut.py") 341] }),
   (130, { cls := Value.type "function", data := Data.func { name := Str.ofString "parents_first", qualname := Str.ofString "Signatures.parents_first", params := fArgs (inAt 7 4), body := FuncBody.stmts (fBody (inAt 7 4)), scope := fScope (inAt 7 4), globals := 3, closure := [], defaults := Value.none, kwdefaults := Value.none, pyModule := Value.str (Str.ofString "relfinder.sigs") 285, code := Value.ref 129 } }),
   (131, { cls := Value.type "tuple", data := Data.seq #[] }),
   (133, { cls := Value.type "tuple", data := Data.seq #[Value.str (Str.ofString "self") 346, Value.str (Str.ofString "found") 347, Value.str (Str.ofString "group") 348, Value.str (Str.ofString "name") 349, Value.str (Str.ofString "spot") 350, Value.str (Str.ofString "is_disj") 351, Value.str (Str.ofString "fields") 352, Value.str (Str.ofString "mult") 353, Value.str (Str.ofString "node") 354, Value.str (Str.ofString "field") 355] }),
   (134, { cls := Value.type "tuple", data := Data.seq #[] }),
   (136, { cls := Value.type "code", data := Data.fields #[Value.str (Str.ofString "all_fields") 343, Value.str (Str.ofString "Signatures.all_fields") 344, Value.str (Str.ofString "/claim/cut.py") 345, Value.int 72 0, Value.int 1 0, Value.int 0 0, Value.int 0 0, Value.int 3 0, Value.ref 131, Value.bool true, Value.int 181 0, Value.ref 132, Value.none, Value.ref 133, Value.ref 134, Value.ref 135, Value.int 356 0, Value.int 72 0, Value.str (Str.ofString "/claim/cut.py") 357] }),
   (137, { cls := Value.type "function", data := Data.func { name := Str.ofString "all_fields", qualname := Str.ofString "Signatures.all_fields", params := fArgs (inAt 7 5), body := FuncBody.stmts (fBody (inAt 7 5)), scope := fScope (inAt 7 5), globals := 3, closure := [], defaults := Value.none, kwdefaults := Value.none, pyModule := Value.str (Str.ofString "relfinder.sigs") 285, code := Value.ref 136 } }),
   (138, { cls := Value.type "tuple", data := Data.seq #[] }),
   (140, { cls := Value.type "tuple", data := Data.seq #[Value.str (Str.ofString "self") 362, Value.str (Str.ofString "seen") 363, Value.str (Str.ofString "field") 364, Value.str (Str.ofString "name") 365, Value.str (Str.ofString "mult") 366, Value.str (Str.ofString "node") 367, Value.str (Str.ofString "spot") 368, Value.str (Str.ofString "group") 369, Value.str (Str.ofString "other") 370] }),
   (141, { cls := Value.type "tuple", data := Data.seq #[] }),
   (143, { cls := Value.type "code", data := Data.fields #[Value.str (Str.ofString "look_fields") 359, Value.str (Str.ofString "Signatures.look_fields") 360, Value.str (Str.ofString "/claim/cut.py") 361, Value.int 81 0, Value.int 1 0, Value.int 0 0, Value.int 0 0, Value.int 3 0, Value.ref 138, Value.bool true, Value.int 181 0, Value.ref 139, Value.none, Value.ref 140, Value.ref 141, Value.ref 142, Value.int 371 0, Value.int 81 0, Value.str (Str.ofString "/claim/cut.py") 372] }),
   (144, { cls := Value.type "function", data := Data.func { name := Str.ofString "look_fields", qualname := Str.ofString "Signatures.look_fields", params := fArgs (inAt 7 6), body := FuncBody.stmts (fBody (inAt 7 6)), scope := fScope (inAt 7 6), globals := 3, closure := [], defaults := Value.none, kwdefaults := Value.none, pyModule := Value.str (Str.ofString "relfinder.sigs") 285, code := Value.ref 143 } }),
   (145, { cls := Value.type "tuple", data := Data.seq #[] }),
   (148, { cls := Value.type "code", data := Data.fields #[Value.str (Str.ofString "take_order") 374, Value.str (Str.ofString "Signatures.take_order") 375, Value.str (Str.ofString "/claim/cut.py") 376, Value.int 91 0, Value.int 2 0, Value.int 0 0, Value.int 0 0, Value.int 3 0, Value.ref 145, Value.bool true, Value.int 181 0, Value.ref 146, Value.none, Value.none, Value.none, Value.ref 147, Value.int 377 0, Value.int 91 0, Value.str (Str.ofString "/claim/cut.py") 378] }),
   (149, { cls := Value.type "function", data := Data.func { name := Str.ofString "take_order", qualname := Str.ofString "Signatures.take_order", params := fArgs (inAt 7 7), body := FuncBody.stmts (fBody (inAt 7 7)), scope := fScope (inAt 7 7), globals := 3, closure := [], defaults := Value.none, kwdefaults := Value.none, pyModule := Value.str (Str.ofString "relfinder.sigs") 285, code := Value.ref 148 } }),
   (150, { cls := Value.type "tuple", data := Data.seq #[] }),
   (152, { cls := Value.type "tuple", data := Data.seq #[Value.str (Str.ofString "self") 383] }),
   (153, { cls := Value.type "tuple", data := Data.seq #[] }),
   (155, { cls := Value.type "code", data := Data.fields #[Value.str (Str.ofString "names") 380, Value.str (Str.ofString "Signatures.names") 381, Value.str (Str.ofString "/claim/cut.py") 382, Value.int 102 0, Value.int 1 0, Value.int 0 0, Value.int 0 0, Value.int 3 0, Value.ref 150, Value.bool true, Value.int 181 0, Value.ref 151, Value.none, Value.ref 152, Value.ref 153, Value.ref 154, Value.int 384 0, Value.int 102 0, Value.str (Str.ofString "/claim/cut.py") 385] }),
   (156, { cls := Value.type "function", data := Data.func { name := Str.ofString "names", qualname := Str.ofString "Signatures.names", params := fArgs (inAt 7 8), body := FuncBody.stmts (fBody (inAt 7 8)), scope := fScope (inAt 7 8), globals := 3, closure := [], defaults := Value.none, kwdefaults := Value.none, pyModule := Value.str (Str.ofString "relfinder.sigs") 285, code := Value.ref 155 } }),
   (157, { cls := Value.type "tuple", data := Data.seq #[] }),
   (159, { cls := Value.type "tuple", data := Data.seq #[Value.str (Str.ofString "self") 390, Value.str (Str.ofString "name") 391] }),
   (160, { cls := Value.type "tuple", data := Data.seq #[] }),
   (162, { cls := Value.type "code", data := Data.fields #[Value.str (Str.ofString "has") 387, Value.str (Str.ofString "Signatures.has") 388, Value.str (Str.ofString "/claim/cut.py") 389, Value.int 105 0, Value.int 2 0, Value.int 0 0, Value.int 0 0, Value.int 3 0, Value.ref 157, Value.bool true, Value.int 181 0, Value.ref 158, Value.none, Value.ref 159, Value.ref 160, Value.ref 161, Value.int 392 0, Value.int 105 0, Value.str (Str.ofString "/claim/cut.py") 393] }),
   (163, { cls := Value.type "function", data := Data.func { name := Str.ofString "has", qualname := Str.ofString "Signatures.has", params := fArgs (inAt 7 9), body := FuncBody.stmts (fBody (inAt 7 9)), scope := fScope (inAt 7 9), globals := 3, closure := [], defaults := Value.none, kwdefaults := Value.none, pyModule := Value.str (Str.ofString "relfinder.sigs") 285, code := Value.ref 162 } }),
   (164, { cls := Value.type "tuple", data := Data.seq #[] }),
   (166, { cls := Value.type "tuple", data := Data.seq #[Value.str (Str.ofString "self") 398, Value.str (Str.ofString "name") 399] }),
   (167, { cls := Value.type "tuple", data := Data.seq #[] }),
   (169, { cls := Value.type "code", data := Data.fields #[Value.str (Str.ofString "spot") 395, Value.str (Str.ofString "Signatures.spot") 396, Value.str (Str.ofString "/claim/cut.py") 397, Value.int 108 0, Value.int 2 0, Value.int 0 0, Value.int 0 0, Value.int 3 0, Value.ref 164, Value.bool true, Value.int 181 0, Value.ref 165, Value.none, Value.ref 166, Value.ref 167, Value.ref 168, Value.int 400 0, Value.int 108 0, Value.str (Str.ofString "/claim/cut.py") 401] }),
   (170, { cls := Value.type "function", data := Data.func { name := Str.ofString "spot", qualname := Str.ofString "Signatures.spot", params := fArgs (inAt 7 10), body := FuncBody.stmts (fBody (inAt 7 10)), scope := fScope (inAt 7 10), globals := 3, closure := [], defaults := Value.none, kwdefaults := Value.none, pyModule := Value.str (Str.ofString "relfinder.sigs") 285, code := Value.ref 169 } }),
   (171, { cls := Value.type "tuple", data := Data.seq #[] }),
   (173, { cls := Value.type "tuple", data := Data.seq #[Value.str (Str.ofString "self") 406, Value.str (Str.ofString "name") 407] }),
   (174, { cls := Value.type "tuple", data := Data.seq #[] }),
   (176, { cls := Value.type "code", data := Data.fields #[Value.str (Str.ofString "parent") 403, Value.str (Str.ofString "Signatures.parent") 404, Value.str (Str.ofString "/claim/cut.py") 405, Value.int 111 0, Value.int 2 0, Value.int 0 0, Value.int 0 0, Value.int 3 0, Value.ref 171, Value.bool true, Value.int 181 0, Value.ref 172, Value.none, Value.ref 173, Value.ref 174, Value.ref 175, Value.int 408 0, Value.int 111 0, Value.str (Str.ofString "/claim/cut.py") 409] }),
   (177, { cls := Value.type "function", data := Data.func { name := Str.ofString "parent", qualname := Str.ofString "Signatures.parent", params := fArgs (inAt 7 11), body := FuncBody.stmts (fBody (inAt 7 11)), scope := fScope (inAt 7 11), globals := 3, closure := [], defaults := Value.none, kwdefaults := Value.none, pyModule := Value.str (Str.ofString "relfinder.sigs") 285, code := Value.ref 176 } }),
   (178, { cls := Value.type "tuple", data := Data.seq #[] }),
   (180, { cls := Value.type "tuple", data := Data.seq #[Value.str (Str.ofString "self") 414, Value.str (Str.ofString "name") 415] }),
   (181, { cls := Value.type "tuple", data := Data.seq #[] }),
   (183, { cls := Value.type "code", data := Data.fields #[Value.str (Str.ofString "supers") 411, Value.str (Str.ofString "Signatures.supers") 412, Value.str (Str.ofString "/claim/cut.py") 413, Value.int 114 0, Value.int 2 0, Value.int 0 0, Value.int 0 0, Value.int 3 0, Value.ref 178, Value.bool true, Value.int 181 0, Value.ref 179, Value.none, Value.ref 180, Value.ref 181, Value.ref 182, Value.int 416 0, Value.int 114 0, Value.str (Str.ofString "/claim/cut.py") 417] }),
   (184, { cls := Value.type "function", data := Data.func { name := Str.ofString "supers", qualname := Str.ofString "Signatures.supers", params := fArgs (inAt 7 12), body := FuncBody.stmts (fBody (inAt 7 12)), scope := fScope (inAt 7 12), globals := 3, closure := [], defaults := Value.none, kwdefaults := Value.none, pyModule := Value.str (Str.ofString "relfinder.sigs") 285, code := Value.ref 183 } }),
   (185, { cls := Value.type "tuple", data := Data.seq #[] }),
   (187, { cls := Value.type "tuple", data := Data.seq #[Value.str (Str.ofString "self") 422, Value.str (Str.ofString "name") 423] }),
   (188, { cls := Value.type "tuple", data := Data.seq #[] }),
   (190, { cls := Value.type "code", data := Data.fields #[Value.str (Str.ofString "is_subset") 419, Value.str (Str.ofString "Signatures.is_subset") 420, Value.str (Str.ofString "/claim/cut.py") 421, Value.int 117 0, Value.int 2 0, Value.int 0 0, Value.int 0 0, Value.int 3 0, Value.ref 185, Value.bool true, Value.int 181 0, Value.ref 186, Value.none, Value.ref 187, Value.ref 188, Value.ref 189, Value.int 424 0, Value.int 117 0, Value.str (Str.ofString "/claim/cut.py") 425] }),
   (191, { cls := Value.type "function", data := Data.func { name := Str.ofString "is_subset", qualname := Str.ofString "Signatures.is_subset", params := fArgs (inAt 7 13), body := FuncBody.stmts (fBody (inAt 7 13)), scope := fScope (inAt 7 13), globals := 3, closure := [], defaults := Value.none, kwdefaults := Value.none, pyModule := Value.str (Str.ofString "relfinder.sigs") 285, code := Value.ref 190 } }),
   (192, { cls := Value.type "tuple", data := Data.seq #[] }),
   (194, { cls := Value.type "tuple", data := Data.seq #[Value.str (Str.ofString "self") 430, Value.str (Str.ofString "name") 431] }),
   (195, { cls := Value.type "tuple", data := Data.seq #[] }),
   (197, { cls := Value.type "code", data := Data.fields #[Value.str (Str.ofString "children") 427, Value.str (Str.ofString "Signatures.children") 428, Value.str (Str.ofString "/claim/cut.py") 429, Value.int 120 0, Value.int 2 0, Value.int 0 0, Value.int 0 0, Value.int 3 0, Value.ref 192, Value.bool true, Value.int 181 0, Value.ref 193, Value.none, Value.ref 194, Value.ref 195, Value.ref 196, Value.int 432 0, Value.int 120 0, Value.str (Str.ofString "/claim/cut.py") 433] }),
   (198, { cls := Value.type "function", data := Data.func { name := Str.ofString "children", qualname := Str.ofString "Signatures.children", params := fArgs (inAt 7 14), body := FuncBody.stmts (fBody (inAt 7 14)), scope := fScope (inAt 7 14), globals := 3, closure := [], defaults := Value.none, kwdefaults := Value.none, pyModule := Value.str (Str.ofString "relfinder.sigs") 285, code := Value.ref 197 } }),
   (199, { cls := Value.type "tuple", data := Data.seq #[] }),
   (201, { cls := Value.type "tuple", data := Data.seq #[Value.str (Str.ofString "self") 438, Value.str (Str.ofString "name") 439, Value.str (Str.ofString "found") 440] }),
   (202, { cls := Value.type "tuple", data := Data.seq #[] }),
   (204, { cls := Value.type "code", data := Data.fields #[Value.str (Str.ofString "above") 435, Value.str (Str.ofString "Signatures.above") 436, Value.str (Str.ofString "/claim/cut.py") 437, Value.int 123 0, Value.int 2 0, Value.int 0 0, Value.int 0 0, Value.int 3 0, Value.ref 199, Value.bool true, Value.int 181 0, Value.ref 200, Value.none, Value.ref 201, Value.ref 202, Value.ref 203, Value.int 441 0, Value.int 123 0, Value.str (Str.ofString "/claim/cut.py") 442] }),
   (205, { cls := Value.type "function", data := Data.func { name := Str.ofString "above", qualname := Str.ofString "Signatures.above", params := fArgs (inAt 7 15), body := FuncBody.stmts (fBody (inAt 7 15)), scope := fScope (inAt 7 15), globals := 3, closure := [], defaults := Value.none, kwdefaults := Value.none, pyModule := Value.str (Str.ofString "relfinder.sigs") 285, code := Value.ref 204 } }),
   (206, { cls := Value.type "tuple", data := Data.seq #[] }),
   (208, { cls := Value.type "tuple", data := Data.seq #[Value.str (Str.ofString "self") 447, Value.str (Str.ofString "name") 448] }),
   (209, { cls := Value.type "tuple", data := Data.seq #[] }),
   (211, { cls := Value.type "code", data := Data.fields #[Value.str (Str.ofString "top") 444, Value.str (Str.ofString "Signatures.top") 445, Value.str (Str.ofString "/claim/cut.py") 446, Value.int 130 0, Value.int 2 0, Value.int 0 0, Value.int 0 0, Value.int 3 0, Value.ref 206, Value.bool true, Value.int 181 0, Value.ref 207, Value.none, Value.ref 208, Value.ref 209, Value.ref 210, Value.int 449 0, Value.int 130 0, Value.str (Str.ofString "/claim/cut.py") 450] }),
   (212, { cls := Value.type "function", data := Data.func { name := Str.ofString "top", qualname := Str.ofString "Signatures.top", params := fArgs (inAt 7 16), body := FuncBody.stmts (fBody (inAt 7 16)), scope := fScope (inAt 7 16), globals := 3, closure := [], defaults := Value.none, kwdefaults := Value.none, pyModule := Value.str (Str.ofString "relfinder.sigs") 285, code := Value.ref 211 } }),
   (213, { cls := Value.type "tuple", data := Data.seq #[] }),
   (215, { cls := Value.type "tuple", data := Data.seq #[Value.str (Str.ofString "self") 455, Value.str (Str.ofString "name") 456, Value.str (Str.ofString "found") 457, Value.str (Str.ofString "waiting") 458, Value.str (Str.ofString "other") 459] }),
   (216, { cls := Value.type "tuple", data := Data.seq #[] }),
   (218, { cls := Value.type "code", data := Data.fields #[Value.str (Str.ofString "all_above") 452, Value.str (Str.ofString "Signatures.all_above") 453, Value.str (Str.ofString "/claim/cut.py") 454, Value.int 133 0, Value.int 2 0, Value.int 0 0, Value.int 0 0, Value.int 3 0, Value.ref 213, Value.bool true, Value.int 181 0, Value.ref 214, Value.none, Value.ref 215, Value.ref 216, Value.ref 217, Value.int 460 0, Value.int 133 0, Value.str (Str.ofString "/claim/cut.py") 461] }),
   (219, { cls := Value.type "function", data := Data.func { name := Str.ofString "all_above", qualname := Str.ofString "Signatures.all_above", params := fArgs (inAt 7 17), body := FuncBody.stmts (fBody (inAt 7 17)), scope := fScope (inAt 7 17), globals := 3, closure := [], defaults := Value.none, kwdefaults := Value.none, pyModule := Value.str (Str.ofString "relfinder.sigs") 285, code := Value.ref 218 } }),
   (220, { cls := Value.type "tuple", data := Data.seq #[] }),
   (222, { cls := Value.type "tuple", data := Data.seq #[Value.str (Str.ofString "self") 466, Value.str (Str.ofString "name") 467] }),
   (223, { cls := Value.type "tuple", data := Data.seq #[] }),
   (225, { cls := Value.type "code", data := Data.fields #[Value.str (Str.ofString "is_abstract") 463, Value.str (Str.ofString "Signatures.is_abstract") 464, Value.str (Str.ofString "/claim/cut.py") 465, Value.int 142 0, Value.int 2 0, Value.int 0 0, Value.int 0 0, Value.int 3 0, Value.ref 220, Value.bool true, Value.int 181 0, Value.ref 221, Value.none, Value.ref 222, Value.ref 223, Value.ref 224, Value.int 468 0, Value.int 142 0, Value.str (Str.ofString "/claim/cut.py") 469] }),
   (226, { cls := Value.type "function", data := Data.func { name := Str.ofString "is_abstract", qualname := Str.ofString "Signatures.is_abstract", params := fArgs (inAt 7 18), body := FuncBody.stmts (fBody (inAt 7 18)), scope := fScope (inAt 7 18), globals := 3, closure := [], defaults := Value.none, kwdefaults := Value.none, pyModule := Value.str (Str.ofString "relfinder.sigs") 285, code := Value.ref 225 } }),
   (227, { cls := Value.type "tuple", data := Data.seq #[] }),
   (229, { cls := Value.type "tuple", data := Data.seq #[Value.str (Str.ofString "self") 474, Value.str (Str.ofString "name") 475] }),
   (230, { cls := Value.type "tuple", data := Data.seq #[] }),
   (232, { cls := Value.type "code", data := Data.fields #[Value.str (Str.ofString "mult") 471, Value.str (Str.ofString "Signatures.mult") 472, Value.str (Str.ofString "/claim/cut.py") 473, Value.int 145 0, Value.int 2 0, Value.int 0 0, Value.int 0 0, Value.int 3 0, Value.ref 227, Value.bool true, Value.int 181 0, Value.ref 228, Value.none, Value.ref 229, Value.ref 230, Value.ref 231, Value.int 476 0, Value.int 145 0, Value.str (Str.ofString "/claim/cut.py") 477] }),
   (233, { cls := Value.type "function", data := Data.func { name := Str.ofString "mult", qualname := Str.ofString "Signatures.mult", params := fArgs (inAt 7 19), body := FuncBody.stmts (fBody (inAt 7 19)), scope := fScope (inAt 7 19), globals := 3, closure := [], defaults := Value.none, kwdefaults := Value.none, pyModule := Value.str (Str.ofString "relfinder.sigs") 285, code := Value.ref 232 } }),
   (234, { cls := Value.type "tuple", data := Data.seq #[] }),
   (236, { cls := Value.type "tuple", data := Data.seq #[Value.str (Str.ofString "self") 482] }),
   (237, { cls := Value.type "tuple", data := Data.seq #[] }),
   (239, { cls := Value.type "code", data := Data.fields #[Value.str (Str.ofString "fields") 479, Value.str (Str.ofString "Signatures.fields") 480, Value.str (Str.ofString "/claim/cut.py") 481, Value.int 148 0, Value.int 1 0, Value.int 0 0, Value.int 0 0, Value.int 3 0, Value.ref 234, Value.bool true, Value.int 181 0, Value.ref 235, Value.none, Value.ref 236, Value.ref 237, Value.ref 238, Value.int 483 0, Value.int 148 0, Value.str (Str.ofString "/claim/cut.py") 484] }),
   (240, { cls := Value.type "function", data := Data.func { name := Str.ofString "fields", qualname := Str.ofString "Signatures.fields", params := fArgs (inAt 7 20), body := FuncBody.stmts (fBody (inAt 7 20)), scope := fScope (inAt 7 20), globals := 3, closure := [], defaults := Value.none, kwdefaults := Value.none, pyModule := Value.str (Str.ofString "relfinder.sigs") 285, code := Value.ref 239 } }),
   (241, { cls := Value.type "tuple", data := Data.seq #[] }),
   (243, { cls := Value.type "tuple", data := Data.seq #[Value.str (Str.ofString "self") 489, Value.str (Str.ofString "name") 490] }),
   (244, { cls := Value.type "tuple", data := Data.seq #[] }),
   (246, { cls := Value.type "code", data := Data.fields #[Value.str (Str.ofString "facts") 486, Value.str (Str.ofString "Signatures.facts") 487, Value.str (Str.ofString "/claim/cut.py") 488, Value.int 151 0, Value.int 2 0, Value.int 0 0, Value.int 0 0, Value.int 3 0, Value.ref 241, Value.bool true, Value.int 181 0, Value.ref 242, Value.none, Value.ref 243, Value.ref 244, Value.ref 245, Value.int 491 0, Value.int 151 0, Value.str (Str.ofString "/claim/cut.py") 492] }),
   (247, { cls := Value.type "function", data := Data.func { name := Str.ofString "facts", qualname := Str.ofString "Signatures.facts", params := fArgs (inAt 7 21), body := FuncBody.stmts (fBody (inAt 7 21)), scope := fScope (inAt 7 21), globals := 3, closure := [], defaults := Value.none, kwdefaults := Value.none, pyModule := Value.str (Str.ofString "relfinder.sigs") 285, code := Value.ref 246 } }),
   (248, { cls := Value.type "tuple", data := Data.seq #[] }),
   (250, { cls := Value.type "tuple", data := Data.seq #[Value.str (Str.ofString "self") 497] }),
   (251, { cls := Value.type "tuple", data := Data.seq #[] }),
   (253, { cls := Value.type "code", data := Data.fields #[Value.str (Str.ofString "orders") 494, Value.str (Str.ofString "Signatures.orders") 495, Value.str (Str.ofString "/claim/cut.py") 496, Value.int 154 0, Value.int 1 0, Value.int 0 0, Value.int 0 0, Value.int 3 0, Value.ref 248, Value.bool true, Value.int 181 0, Value.ref 249, Value.none, Value.ref 250, Value.ref 251, Value.ref 252, Value.int 498 0, Value.int 154 0, Value.str (Str.ofString "/claim/cut.py") 499] }),
   (254, { cls := Value.type "function", data := Data.func { name := Str.ofString "orders", qualname := Str.ofString "Signatures.orders", params := fArgs (inAt 7 22), body := FuncBody.stmts (fBody (inAt 7 22)), scope := fScope (inAt 7 22), globals := 3, closure := [], defaults := Value.none, kwdefaults := Value.none, pyModule := Value.str (Str.ofString "relfinder.sigs") 285, code := Value.ref 253 } }),
   (255, { cls := Value.type "tuple", data := Data.seq #[Value.str (Str.ofString "entries") 501, Value.str (Str.ofString "opened") 502, Value.str (Str.ofString "ordered") 503, Value.str (Str.ofString "own_fields") 504, Value.str (Str.ofString "stands") 505] }),
   (256, { cls := Value.type "dict", data := Data.dict #[{ hash := PyData.keyHash P (Str.ofString "__module__"), key := Value.str (Str.ofString "__module__") 296, val := Value.str (Str.ofString "relfinder.sigs") 285 }, { hash := PyData.keyHash P (Str.ofString "__firstlineno__"), key := Value.str (Str.ofString "__firstlineno__") 300, val := Value.int 25 299 }, { hash := PyData.keyHash P (Str.ofString "__init__"), key := Value.str (Str.ofString "__init__") 310, val := Value.ref 104 }, { hash := PyData.keyHash P (Str.ofString "take_sig"), key := Value.str (Str.ofString "take_sig") 319, val := Value.ref 111 }, { hash := PyData.keyHash P (Str.ofString "look_above"), key := Value.str (Str.ofString "look_above") 328, val := Value.ref 118 }, { hash := PyData.keyHash P (Str.ofString "direct"), key := Value.str (Str.ofString "direct") 336, val := Value.ref 125 }, { hash := PyData.keyHash P (Str.ofString "parents_first"), key := Value.str (Str.ofString "parents_first") 342, val := Value.ref 130 }, { hash := PyData.keyHash P (Str.ofString "all_fields"), key := Value.str (Str.ofString "all_fields") 358, val := Value.ref 137 }, { hash := PyData.keyHash P (Str.ofString "look_fields"), key := Value.str (Str.ofString "look_fields") 373, val := Value.ref 144 }, { hash := PyData.keyHash P (Str.ofString "take_order"), key := Value.str (Str.ofString "take_order") 379, val := Value.ref 149 }, { hash := PyData.keyHash P (Str.ofString "names"), key := Value.str (Str.ofString "names") 386, val := Value.ref 156 }, { hash := PyData.keyHash P (Str.ofString "has"), key := Value.str (Str.ofString "has") 394, val := Value.ref 163 }, { hash := PyData.keyHash P (Str.ofString "spot"), key := Value.str (Str.ofString "spot") 402, val := Value.ref 170 }, { hash := PyData.keyHash P (Str.ofString "parent"), key := Value.str (Str.ofString "parent") 410, val := Value.ref 177 }, { hash := PyData.keyHash P (Str.ofString "supers"), key := Value.str (Str.ofString "supers") 418, val := Value.ref 184 }, { hash := PyData.keyHash P (Str.ofString "is_subset"), key := Value.str (Str.ofString "is_subset") 426, val := Value.ref 191 }, { hash := PyData.keyHash P (Str.ofString "children"), key := Value.str (Str.ofString "children") 434, val := Value.ref 198 }, { hash := PyData.keyHash P (Str.ofString "above"), key := Value.str (Str.ofString "above") 443, val := Value.ref 205 }, { hash := PyData.keyHash P (Str.ofString "top"), key := Value.str (Str.ofString "top") 451, val := Value.ref 212 }, { hash := PyData.keyHash P (Str.ofString "all_above"), key := Value.str (Str.ofString "all_above") 462, val := Value.ref 219 }, { hash := PyData.keyHash P (Str.ofString "is_abstract"), key := Value.str (Str.ofString "is_abstract") 470, val := Value.ref 226 }, { hash := PyData.keyHash P (Str.ofString "mult"), key := Value.str (Str.ofString "mult") 478, val := Value.ref 233 }, { hash := PyData.keyHash P (Str.ofString "fields"), key := Value.str (Str.ofString "fields") 485, val := Value.ref 240 }, { hash := PyData.keyHash P (Str.ofString "facts"), key := Value.str (Str.ofString "facts") 493, val := Value.ref 247 }, { hash := PyData.keyHash P (Str.ofString "orders"), key := Value.str (Str.ofString "orders") 500, val := Value.ref 254 }, { hash := PyData.keyHash P (Str.ofString "__static_attributes__"), key := Value.str (Str.ofString "__static_attributes__") 506, val := Value.ref 255 }, { hash := PyData.keyHash P (Str.ofString "__dict__"), key := Value.str (Str.ofString "__dict__") 508, val := Value.ref 258 }, { hash := PyData.keyHash P (Str.ofString "__weakref__"), key := Value.str (Str.ofString "__weakref__") 510, val := Value.ref 259 }, { hash := PyData.keyHash P (Str.ofString "__doc__"), key := Value.str (Str.ofString "__doc__") 511, val := Value.none }] 4 }),
   (257, { cls := Value.type "type", data := Data.cls { name := Str.ofString "Signatures", bases := [Value.type "object"], mro := [Value.ref 257, Value.type "object"], ns := 256, qualname := Str.ofString "Signatures" }, slots := #[none, none, some (Value.str (Str.ofString "Signatures") 289), some (Value.str (Str.ofString "Signatures") 297), some (Value.builtin "object.__new__"), some (Value.bool true)] }),
   (258, { cls := Value.type "getset_descriptor", data := Data.fields #[Value.str (Str.ofString "__dict__") 507, Value.ref 257, Value.builtin "function.__dict__", Value.builtin "function.__dict__#set"] }),
   (259, { cls := Value.type "getset_descriptor", data := Data.fields #[Value.str (Str.ofString "__weakref__") 509, Value.ref 257, Value.builtin "ExceptionGroup.__weakref__", Value.none] }),
   (262, { cls := Value.type "tuple", data := Data.seq #[] }),
   (264, { cls := Value.type "tuple", data := Data.seq #[Value.str (Str.ofString "deck") 521, Value.str (Str.ofString "many") 522] }),
   (265, { cls := Value.type "tuple", data := Data.seq #[] }),
   (267, { cls := Value.type "code", data := Data.fields #[Value.str (Str.ofString "_law_dealt") 518, Value.str (Str.ofString "_law_dealt") 519, Value.str (Str.ofString "/claim/cut.py") 520, Value.int 158 0, Value.int 2 0, Value.int 0 0, Value.int 0 0, Value.int 3 0, Value.ref 262, Value.bool true, Value.int 181 0, Value.ref 263, Value.none, Value.ref 264, Value.ref 265, Value.ref 266, Value.int 523 0, Value.int 158 0, Value.str (Str.ofString "/claim/cut.py") 524] }),
   (268, { cls := Value.type "function", data := Data.func { name := Str.ofString "_law_dealt", qualname := Str.ofString "_law_dealt", params := fArgs (topAt 10), body := FuncBody.stmts (fBody (topAt 10)), scope := fScope (topAt 10), globals := 3, closure := [], defaults := Value.none, kwdefaults := Value.none, pyModule := Value.str (Str.ofString "law_rr0082_01") 514, code := Value.ref 267 } }),
   (269, { cls := Value.type "tuple", data := Data.seq #[] }),
   (272, { cls := Value.type "code", data := Data.fields #[Value.str (Str.ofString "_law_direct") 526, Value.str (Str.ofString "_law_direct") 527, Value.str (Str.ofString "/claim/cut.py") 528, Value.int 163 0, Value.int 3 0, Value.int 0 0, Value.int 0 0, Value.int 3 0, Value.ref 269, Value.bool true, Value.int 181 0, Value.ref 270, Value.none, Value.none, Value.none, Value.ref 271, Value.int 529 0, Value.int 163 0, Value.str (Str.ofString "/claim/cut.py") 530] }),
   (273, { cls := Value.type "function", data := Data.func { name := Str.ofString "_law_direct", qualname := Str.ofString "_law_direct", params := fArgs (topAt 11), body := FuncBody.stmts (fBody (topAt 11)), scope := fScope (topAt 11), globals := 3, closure := [], defaults := Value.none, kwdefaults := Value.none, pyModule := Value.str (Str.ofString "law_rr0082_01") 514, code := Value.ref 272 } }),
   (274, { cls := Value.type "tuple", data := Data.seq #[] }),
   (277, { cls := Value.type "code", data := Data.fields #[Value.str (Str.ofString "_law_first") 532, Value.str (Str.ofString "_law_first") 533, Value.str (Str.ofString "/claim/cut.py") 534, Value.int 172 0, Value.int 2 0, Value.int 0 0, Value.int 0 0, Value.int 3 0, Value.ref 274, Value.bool true, Value.int 181 0, Value.ref 275, Value.none, Value.none, Value.none, Value.ref 276, Value.int 535 0, Value.int 172 0, Value.str (Str.ofString "/claim/cut.py") 536] }),
   (278, { cls := Value.type "function", data := Data.func { name := Str.ofString "_law_first", qualname := Str.ofString "_law_first", params := fArgs (topAt 12), body := FuncBody.stmts (fBody (topAt 12)), scope := fScope (topAt 12), globals := 3, closure := [], defaults := Value.none, kwdefaults := Value.none, pyModule := Value.str (Str.ofString "law_rr0082_01") 514, code := Value.ref 277 } }),
   (279, { cls := Value.type "tuple", data := Data.seq #[] }),
   (281, { cls := Value.type "tuple", data := Data.seq #[Value.str (Str.ofString "told") 541, Value.str (Str.ofString "fault") 542] }),
   (282, { cls := Value.type "tuple", data := Data.seq #[] }),
   (284, { cls := Value.type "code", data := Data.fields #[Value.str (Str.ofString "_law_refused") 538, Value.str (Str.ofString "_law_refused") 539, Value.str (Str.ofString "/claim/cut.py") 540, Value.int 177 0, Value.int 1 0, Value.int 0 0, Value.int 0 0, Value.int 3 0, Value.ref 279, Value.bool true, Value.int 181 0, Value.ref 280, Value.none, Value.ref 281, Value.ref 282, Value.ref 283, Value.int 543 0, Value.int 177 0, Value.str (Str.ofString "/claim/cut.py") 544] }),
   (285, { cls := Value.type "function", data := Data.func { name := Str.ofString "_law_refused", qualname := Str.ofString "_law_refused", params := fArgs (topAt 13), body := FuncBody.stmts (fBody (topAt 13)), scope := fScope (topAt 13), globals := 3, closure := [], defaults := Value.none, kwdefaults := Value.none, pyModule := Value.str (Str.ofString "law_rr0082_01") 514, code := Value.ref 284 } }),
   (286, { cls := Value.type "tuple", data := Data.seq #[] }),
   (289, { cls := Value.type "code", data := Data.fields #[Value.str (Str.ofString "law") 546, Value.str (Str.ofString "law") 547, Value.str (Str.ofString "/claim/cut.py") 548, Value.int 183 0, Value.int 1 0, Value.int 0 0, Value.int 0 0, Value.int 3 0, Value.ref 286, Value.bool true, Value.int 181 0, Value.ref 287, Value.none, Value.none, Value.none, Value.ref 288, Value.int 549 0, Value.int 183 0, Value.str (Str.ofString "/claim/cut.py") 550] }),
   (290, { cls := Value.type "function", data := Data.func { name := Str.ofString "law", qualname := Str.ofString "law", params := fArgs (topAt 14), body := FuncBody.stmts (fBody (topAt 14)), scope := fScope (topAt 14), globals := 3, closure := [], defaults := Value.none, kwdefaults := Value.none, pyModule := Value.str (Str.ofString "law_rr0082_01") 514, code := Value.ref 289 } })]
def vw : Program := PySem.W.view PySem.Challenge.rw_rr0082_01.prog [0, 2, 3, 4, 6, 7, 9, 10, 11, 12, 13, 14]
noncomputable def HH : Hook := kHook heapK [2, 3, 15, 17, 18, 20, 21, 22, 25, 30, 31, 33, 34, 36, 37, 38, 40, 41, 43, 44, 45, 46, 47, 48, 51, 54, 59, 60, 62, 63, 65, 66, 67, 69, 70, 72, 73, 74, 75, 76, 79, 86, 87, 88, 98, 100, 101, 103, 104, 105, 107, 108, 110, 111, 112, 114, 115, 117, 118, 119, 121, 122, 124, 125, 126, 129, 130, 131, 133, 134, 136, 137, 138, 140, 141, 143, 144, 145, 148, 149, 150, 152, 153, 155, 156, 157, 159, 160, 162, 163, 164, 166, 167, 169, 170, 171, 173, 174, 176, 177, 178, 180, 181, 183, 184, 185, 187, 188, 190, 191, 192, 194, 195, 197, 198, 199, 201, 202, 204, 205, 206, 208, 209, 211, 212, 213, 215, 216, 218, 219, 220, 222, 223, 225, 226, 227, 229, 230, 232, 233, 234, 236, 237, 239, 240, 241, 243, 244, 246, 247, 248, 250, 251, 253, 254, 255, 256, 257, 258, 259, 262, 264, 265, 267, 268, 269, 272, 273, 274, 277, 278, 279, 281, 282, 284, 285, 286, 289, 290] (fun _ => by kernel_rfl)
noncomputable abbrev XX : Shared → Bool := fun s => xlAt vw [] s && recOk (RowW.records PySem.Challenge.rw_rr0082_01.row.toRowW) s
noncomputable def ob4 (P : Params) : Obj := { cls := Value.type "tuple", data := Data.seq #[] }
noncomputable def ob5 (P : Params) : Obj := { cls := Value.none, data := Data.fields #[] }
noncomputable def ob6 (P : Params) : Obj := { cls := Value.type "code", data := Data.fields #[Value.str (Str.ofString "<module>") 182, Value.str (Str.ofString "<module>") 183, Value.str (Str.ofString "/claim/cut.py") 184, Value.int 1 0, Value.int 0 0, Value.int 0 0, Value.int 0 0, Value.int 0 0, Value.ref 11, Value.bool false, Value.int 181 0, Value.ref 12, Value.none, Value.none, Value.none, Value.none, Value.int 185 0, Value.int 1 0, Value.str (Str.ofString "/claim/cut.py") 186] }
noncomputable def ob7 (P : Params) : Obj := { cls := Value.type "frame", slots := #[some (Value.ref 13), some (Value.ref 3), some (Value.ref 3), none, some (Value.str (Str.ofString "__main__") 164), none, some (Value.ref 0)] }
noncomputable def hp7 (P : Params) : Heap := { objs := { toList := [boot_o_0 P, boot_o_1 P, boot_o_2 P, boot_o_3 P, boot_o_4 P, boot_o_5 P, boot_o_6 P, boot_o_7 P, boot_o_8 P, boot_o_9 P, boot_o_10 P, ob4 P, ob5 P, ob6 P, ob7 P] } }
noncomputable def tr8 (P : Params) : BT := BT.node (boot_o_0 P) (BT.node (boot_o_1 P) (BT.node (boot_o_3 P) (BT.node (boot_o_7 P) BT.nil BT.nil) (BT.node (ob4 P) BT.nil BT.nil)) (BT.node (boot_o_5 P) (BT.node (boot_o_9 P) BT.nil BT.nil) (BT.node (ob6 P) BT.nil BT.nil))) (BT.node (boot_o_2 P) (BT.node (boot_o_4 P) (BT.node (boot_o_8 P) BT.nil BT.nil) (BT.node (ob5 P) BT.nil BT.nil)) (BT.node (boot_o_6 P) (BT.node (boot_o_10 P) BT.nil BT.nil) (BT.node (ob7 P) BT.nil BT.nil)))
noncomputable def ob80 (P : Params) : Obj := { cls := Value.type "dict", data := Data.dict #[{ hash := PyData.keyHash P (Str.ofString "__name__"), key := Value.str (Str.ofString "__name__") 165, val := Value.str (Str.ofString "relfinder.sigs") 285 }, { hash := PyData.keyHash P (Str.ofString "__doc__"), key := Value.str (Str.ofString "__doc__") 166, val := Value.none }, { hash := PyData.keyHash P (Str.ofString "__package__"), key := Value.str (Str.ofString "__package__") 167, val := Value.none }, { hash := PyData.keyHash P (Str.ofString "__loader__"), key := Value.str (Str.ofString "__loader__") 168, val := Value.builtin "__main__.__loader__#opaque" }, { hash := PyData.keyHash P (Str.ofString "__spec__"), key := Value.str (Str.ofString "__spec__") 169, val := Value.none }, { hash := PyData.keyHash P (Str.ofString "__annotations__"), key := Value.str (Str.ofString "__annotations__") 170, val := Value.ref 6 }, { hash := PyData.keyHash P (Str.ofString "__builtins__"), key := Value.str (Str.ofString "__builtins__") 171, val := Value.ref 4 }, { hash := PyData.keyHash P (Str.ofString "__file__"), key := Value.str (Str.ofString "__file__") 173, val := Value.str (Str.ofString "/claim/cut.py") 172 }, { hash := PyData.keyHash P (Str.ofString "__cached__"), key := Value.str (Str.ofString "__cached__") 174, val := Value.none }, { hash := PyData.keyHash P (Str.ofString "_wall"), key := Value.str (Str.ofString "_wall") 193, val := Value.ref 21 }, { hash := PyData.keyHash P (Str.ofString "FinderError"), key := Value.str (Str.ofString "FinderError") 233, val := Value.ref 47 }, { hash := PyData.keyHash P (Str.ofString "SpotFault"), key := Value.str (Str.ofString "SpotFault") 268, val := Value.ref 76 }, { hash := PyData.keyHash P (Str.ofString "KindFault"), key := Value.str (Str.ofString "KindFault") 284, val := Value.ref 88 }, { hash := PyData.keyHash P (Str.ofString "ORDERING"), key := Value.str (Str.ofString "ORDERING") 288, val := Value.str (Str.ofString "util/ordering") 287 }] 14 }
noncomputable def ob13 (P : Params) : Obj := { cls := Value.type "tuple", data := Data.seq #[] }
noncomputable def ob29 (P : Params) : Obj := { cls := Value.type "tuple", data := Data.seq #[Value.str (Str.ofString "__class__") 211] }
noncomputable def ob64 (P : Params) : Obj := { cls := Value.type "tuple", data := Data.seq #[] }
noncomputable def ob51 (P : Params) : Obj := { cls := Value.type "type", data := Data.cls { name := Str.ofString "FinderError", bases := [Value.type "Exception"], mro := [Value.ref 47, Value.type "Exception", Value.type "BaseException", Value.type "object"], ns := 46, qualname := Str.ofString "FinderError", subclasses := [Value.ref 76] }, slots := #[some (Value.ref 22), none, some (Value.str (Str.ofString "FinderError") 196), some (Value.str (Str.ofString "FinderError") 204), some (Value.builtin "Exception.__new__"), some (Value.bool true)] }
noncomputable def ob83 (P : Params) : Obj := { cls := Value.type "tuple", data := Data.seq #[Value.ref 76] }
noncomputable def ob21 (P : Params) : Obj := { cls := Value.type "builtin_function_or_method", data := Data.fields #[Value.builtin "type.__prepare__", Value.type "type"] }
noncomputable def ob37 (P : Params) : Obj := { cls := Value.none, data := Data.fields #[] }
noncomputable def ob72 (P : Params) : Obj := { cls := Value.none, data := Data.func { name := Str.ofString "told", qualname := Str.ofString "SpotFault.told", params := fArgs (inAt 3 1), body := FuncBody.stmts (fBody (inAt 3 1)), scope := fScope (inAt 3 1), globals := 0, closure := [], defaults := Value.none, kwdefaults := Value.none } }
noncomputable def ob56 (P : Params) : Obj := { cls := Value.type "tuple", data := Data.seq #[] }
noncomputable def ob91 (P : Params) : Obj := { cls := Value.type "dict", data := Data.dict #[{ hash := PyData.keyHash P (Str.ofString "__module__"), key := Value.str (Str.ofString "__module__") 276, val := Value.str (Str.ofString "relfinder.errors") 194 }, { hash := PyData.keyHash P (Str.ofString "__firstlineno__"), key := Value.str (Str.ofString "__firstlineno__") 280, val := Value.int 21 279 }, { hash := PyData.keyHash P (Str.ofString "__static_attributes__"), key := Value.str (Str.ofString "__static_attributes__") 281, val := Value.ref 86 }, { hash := PyData.keyHash P (Str.ofString "__doc__"), key := Value.str (Str.ofString "__doc__") 282, val := Value.none }] 2 }
noncomputable def ob17 (P : Params) : Obj := { cls := Value.none, data := Data.func { name := Str.ofString "_wall", qualname := Str.ofString "_wall", params := fArgs (topAt 0), body := FuncBody.stmts (fBody (topAt 0)), scope := fScope (topAt 0), globals := 0, closure := [], defaults := Value.none, kwdefaults := Value.none } }
noncomputable def ob33 (P : Params) : Obj := { cls := Value.none, data := Data.func { name := Str.ofString "__init__", qualname := Str.ofString "FinderError.__init__", params := fArgs (inAt 2 0), body := FuncBody.stmts (fBody (inAt 2 0)), scope := fScope (inAt 2 0), globals := 0, closure := [], defaults := Value.none, kwdefaults := Value.none } }
noncomputable def ob68 (P : Params) : Obj := { cls := Value.type "tuple", data := Data.seq #[] }
noncomputable def ob52 (P : Params) : Obj := { cls := Value.type "tuple", data := Data.seq #[Value.ref 47] }
noncomputable def ob87 (P : Params) : Obj := { cls := Value.none, data := Data.fields #[] }
noncomputable def ob25 (P : Params) : Obj := { cls := Value.none, data := Data.fields #[Value.int 7 0, Value.int 4 0, Value.ref 36, Value.int 11 0, Value.int 4 0, Value.ref 43] }
noncomputable def ob41 (P : Params) : Obj := { cls := Value.type "code", data := Data.fields #[Value.str (Str.ofString "told") 217, Value.str (Str.ofString "FinderError.told") 218, Value.str (Str.ofString "/claim/cut.py") 219, Value.int 11 0, Value.int 1 0, Value.int 0 0, Value.int 0 0, Value.int 3 0, Value.ref 38, Value.bool true, Value.int 181 0, Value.ref 39, Value.none, Value.ref 40, Value.ref 41, Value.ref 42, Value.int 221 0, Value.int 11 0, Value.str (Str.ofString "/claim/cut.py") 222] }
noncomputable def ob76 (P : Params) : Obj := { cls := Value.type "dict", data := Data.dict #[{ hash := PyData.keyHash P (Str.ofString "__module__"), key := Value.str (Str.ofString "__module__") 241, val := Value.str (Str.ofString "relfinder.errors") 194 }, { hash := PyData.keyHash P (Str.ofString "__firstlineno__"), key := Value.str (Str.ofString "__firstlineno__") 245, val := Value.int 13 244 }, { hash := PyData.keyHash P (Str.ofString "__init__"), key := Value.str (Str.ofString "__init__") 255, val := Value.ref 66 }, { hash := PyData.keyHash P (Str.ofString "told"), key := Value.str (Str.ofString "told") 262, val := Value.ref 73 }, { hash := PyData.keyHash P (Str.ofString "__static_attributes__"), key := Value.str (Str.ofString "__static_attributes__") 264, val := Value.ref 74 }, { hash := PyData.keyHash P (Str.ofString "__doc__"), key := Value.str (Str.ofString "__doc__") 266, val := Value.none }] 3 }
noncomputable def ob60 (P : Params) : Obj := { cls := Value.type "tuple", data := Data.seq #[Value.ref 54] }
noncomputable def ob15 (P : Params) : Obj := { cls := Value.type "tuple", data := Data.seq #[Value.str (Str.ofString "k") 190] }
noncomputable def ob31 (P : Params) : Obj := { cls := Value.type "tuple", data := Data.seq #[Value.str (Str.ofString "self") 212, Value.str (Str.ofString "what") 213] }
noncomputable def ob66 (P : Params) : Obj := { cls := Value.type "code", data := Data.fields #[Value.str (Str.ofString "__init__") 246, Value.str (Str.ofString "SpotFault.__init__") 247, Value.str (Str.ofString "/claim/cut.py") 248, Value.int 15 0, Value.int 3 0, Value.int 0 0, Value.int 0 0, Value.int 3 0, Value.ref 60, Value.bool true, Value.int 181 0, Value.ref 61, Value.none, Value.ref 62, Value.ref 63, Value.ref 64, Value.int 253 0, Value.int 15 0, Value.str (Str.ofString "/claim/cut.py") 254] }
noncomputable def ob47 (P : Params) : Obj := { cls := Value.type "super", data := Data.fields #[Value.ref 47, Value.ref 47, Value.ref 47] }
noncomputable def ob85 (P : Params) : Obj := { cls := Value.type "dict", data := Data.dict #[{ hash := PyData.keyHash P (Str.ofString "__module__"), key := Value.str (Str.ofString "__module__") 276, val := Value.str (Str.ofString "relfinder.errors") 194 }, { hash := PyData.keyHash P (Str.ofString "__qualname__"), key := Value.str (Str.ofString "__qualname__") 278, val := Value.str (Str.ofString "KindFault") 277 }, { hash := PyData.keyHash P (Str.ofString "__firstlineno__"), key := Value.str (Str.ofString "__firstlineno__") 280, val := Value.int 21 279 }, { hash := PyData.keyHash P (Str.ofString "__static_attributes__"), key := Value.str (Str.ofString "__static_attributes__") 281, val := Value.ref 86 }] 4 }
noncomputable def ob23 (P : Params) : Obj := { cls := Value.type "cell", data := Data.cell (some (Value.ref 47)) }
noncomputable def ob39 (P : Params) : Obj := { cls := Value.type "tuple", data := Data.seq #[] }
noncomputable def ob74 (P : Params) : Obj := { cls := Value.type "function", data := Data.func { name := Str.ofString "told", qualname := Str.ofString "SpotFault.told", params := fArgs (inAt 3 1), body := FuncBody.stmts (fBody (inAt 3 1)), scope := fScope (inAt 3 1), globals := 3, closure := [], defaults := Value.none, kwdefaults := Value.none, pyModule := Value.str (Str.ofString "relfinder.errors") 194, code := Value.ref 72 } }
noncomputable def ob58 (P : Params) : Obj := { cls := Value.type "code", data := Data.fields #[Value.str (Str.ofString "SpotFault") 236, Value.str (Str.ofString "SpotFault") 237, Value.str (Str.ofString "/claim/cut.py") 238, Value.int 13 0, Value.int 0 0, Value.int 0 0, Value.int 0 0, Value.int 0 0, Value.ref 55, Value.bool false, Value.int 181 0, Value.ref 56, Value.none, Value.none, Value.none, Value.none, Value.int 239 0, Value.int 13 0, Value.str (Str.ofString "/claim/cut.py") 240] }
noncomputable def ob93 (P : Params) : Obj := { cls := Value.type "super", data := Data.fields #[Value.ref 88, Value.ref 88, Value.ref 88] }
noncomputable def ob19 (P : Params) : Obj := { cls := Value.type "function", data := Data.func { name := Str.ofString "_wall", qualname := Str.ofString "_wall", params := fArgs (topAt 0), body := FuncBody.stmts (fBody (topAt 0)), scope := fScope (topAt 0), globals := 3, closure := [], defaults := Value.none, kwdefaults := Value.none, pyModule := Value.str (Str.ofString "__main__") 164, code := Value.ref 20 } }
noncomputable def ob35 (P : Params) : Obj := { cls := Value.type "function", data := Data.func { name := Str.ofString "__init__", qualname := Str.ofString "FinderError.__init__", params := fArgs (inAt 2 0), body := FuncBody.stmts (fBody (inAt 2 0)), scope := fScope (inAt 2 0), globals := 3, closure := [(Str.ofString "__class__", 25)], defaults := Value.none, kwdefaults := Value.none, pyModule := Value.str (Str.ofString "relfinder.errors") 194, code := Value.ref 36, closureTuple := Value.ref 30 } }
noncomputable def ob70 (P : Params) : Obj := { cls := Value.type "tuple", data := Data.seq #[Value.str (Str.ofString "self") 259] }
noncomputable def ob54 (P : Params) : Obj := { cls := Value.type "dict", data := Data.dict #[{ hash := PyData.keyHash P (Str.ofString "__module__"), key := Value.str (Str.ofString "__module__") 241, val := Value.str (Str.ofString "relfinder.errors") 194 }, { hash := PyData.keyHash P (Str.ofString "__qualname__"), key := Value.str (Str.ofString "__qualname__") 243, val := Value.str (Str.ofString "SpotFault") 242 }, { hash := PyData.keyHash P (Str.ofString "__firstlineno__"), key := Value.str (Str.ofString "__firstlineno__") 245, val := Value.int 13 244 }, { hash := PyData.keyHash P (Str.ofString "__init__"), key := Value.str (Str.ofString "__init__") 255, val := Value.ref 66 }, { hash := PyData.keyHash P (Str.ofString "told"), key := Value.str (Str.ofString "told") 262, val := Value.ref 73 }, { hash := PyData.keyHash P (Str.ofString "__static_attributes__"), key := Value.str (Str.ofString "__static_attributes__") 264, val := Value.ref 74 }, { hash := PyData.keyHash P (Str.ofString "__classcell__"), key := Value.str (Str.ofString "__classcell__") 265, val := Value.ref 54 }] 7 }
noncomputable def ob89 (P : Params) : Obj := { cls := Value.type "frame", slots := #[some (Value.ref 84), some (Value.ref 3), some (Value.ref 81), none, some (Value.str (Str.ofString "relfinder.errors") 194), none, some (Value.ref 0)] }
noncomputable def ob27 (P : Params) : Obj := { cls := Value.type "frame", slots := #[some (Value.ref 28), some (Value.ref 3), some (Value.ref 24), none, some (Value.str (Str.ofString "relfinder.errors") 194), none, some (Value.ref 0)] }
noncomputable def ob43 (P : Params) : Obj := { cls := Value.type "tuple", data := Data.seq #[Value.str (Str.ofString "what") 224] }
noncomputable def ob78 (P : Params) : Obj := { cls := Value.type "super", data := Data.fields #[Value.ref 76, Value.ref 76, Value.ref 76] }
noncomputable def ob62 (P : Params) : Obj := { cls := Value.none, data := Data.fields #[] }
noncomputable def ob10 (P : Params) : Obj := { cls := Value.none, data := Data.dict #[{ hash := PyData.keyHash P (Str.ofString "type.__subclasses__.Exception.0"), key := Value.str (Str.ofString "type.__subclasses__.Exception.0") 230, val := Value.int 47 0 }, { hash := PyData.keyHash P (Str.ofString "type.__subclasses__.Exception.n"), key := Value.str (Str.ofString "type.__subclasses__.Exception.n") 231, val := Value.int 1 0 }] 2 }
noncomputable def ob14 (P : Params) : Obj := { cls := Value.none, data := Data.fields #[] }
noncomputable def ob30 (P : Params) : Obj := { cls := Value.none, data := Data.fields #[] }
noncomputable def ob65 (P : Params) : Obj := { cls := Value.none, data := Data.func { name := Str.ofString "__init__", qualname := Str.ofString "SpotFault.__init__", params := fArgs (inAt 3 0), body := FuncBody.stmts (fBody (inAt 3 0)), scope := fScope (inAt 3 0), globals := 0, closure := [], defaults := Value.none, kwdefaults := Value.none } }
noncomputable def ob46 (P : Params) : Obj := { cls := Value.type "getset_descriptor", data := Data.fields #[Value.str (Str.ofString "__weakref__") 227, Value.ref 47, Value.builtin "ExceptionGroup.__weakref__", Value.none] }
noncomputable def ob84 (P : Params) : Obj := { cls := Value.type "builtin_function_or_method", data := Data.fields #[Value.builtin "type.__prepare__", Value.type "type"] }
noncomputable def ob22 (P : Params) : Obj := { cls := Value.type "dict", data := Data.dict #[{ hash := PyData.keyHash P (Str.ofString "__module__"), key := Value.str (Str.ofString "__module__") 203, val := Value.str (Str.ofString "relfinder.errors") 194 }, { hash := PyData.keyHash P (Str.ofString "__qualname__"), key := Value.str (Str.ofString "__qualname__") 205, val := Value.str (Str.ofString "FinderError") 204 }, { hash := PyData.keyHash P (Str.ofString "__firstlineno__"), key := Value.str (Str.ofString "__firstlineno__") 207, val := Value.int 5 206 }, { hash := PyData.keyHash P (Str.ofString "__init__"), key := Value.str (Str.ofString "__init__") 216, val := Value.ref 37 }, { hash := PyData.keyHash P (Str.ofString "told"), key := Value.str (Str.ofString "told") 223, val := Value.ref 44 }, { hash := PyData.keyHash P (Str.ofString "__static_attributes__"), key := Value.str (Str.ofString "__static_attributes__") 225, val := Value.ref 45 }, { hash := PyData.keyHash P (Str.ofString "__classcell__"), key := Value.str (Str.ofString "__classcell__") 226, val := Value.ref 25 }] 7 }
noncomputable def ob38 (P : Params) : Obj := { cls := Value.type "tuple", data := Data.seq #[Value.str (Str.ofString "self") 220] }
noncomputable def ob73 (P : Params) : Obj := { cls := Value.type "code", data := Data.fields #[Value.str (Str.ofString "told") 256, Value.str (Str.ofString "SpotFault.told") 257, Value.str (Str.ofString "/claim/cut.py") 258, Value.int 19 0, Value.int 1 0, Value.int 0 0, Value.int 0 0, Value.int 3 0, Value.ref 67, Value.bool true, Value.int 181 0, Value.ref 68, Value.none, Value.ref 69, Value.ref 70, Value.ref 71, Value.int 260 0, Value.int 19 0, Value.str (Str.ofString "/claim/cut.py") 261] }
noncomputable def ob57 (P : Params) : Obj := { cls := Value.none, data := Data.fields #[Value.int 15 0, Value.int 4 0, Value.ref 65, Value.int 19 0, Value.int 4 0, Value.ref 72] }
noncomputable def ob92 (P : Params) : Obj := { cls := Value.type "type", data := Data.cls { name := Str.ofString "KindFault", bases := [Value.ref 76], mro := [Value.ref 88, Value.ref 76, Value.ref 47, Value.type "Exception", Value.type "BaseException", Value.type "object"], ns := 87, qualname := Str.ofString "KindFault" }, slots := #[some (Value.ref 79), none, some (Value.str (Str.ofString "KindFault") 269), some (Value.str (Str.ofString "KindFault") 277), some (Value.builtin "Exception.__new__"), some (Value.bool true)] }
noncomputable def ob81 (P : Params) : Obj := { cls := Value.none, data := Data.fields #[Value.int 1 0, Value.int 0 0, Value.ref 20, Value.int 5 0, Value.int 0 0, Value.ref 28, Value.int 13 0, Value.int 0 0, Value.ref 57, Value.int 21 0, Value.int 0 0, Value.ref 84] }
noncomputable def ob18 (P : Params) : Obj := { cls := Value.type "code", data := Data.fields #[Value.str (Str.ofString "_wall") 187, Value.str (Str.ofString "_wall") 188, Value.str (Str.ofString "/claim/cut.py") 189, Value.int 1 0, Value.int 1 0, Value.int 0 0, Value.int 0 0, Value.int 3 0, Value.ref 15, Value.bool true, Value.int 181 0, Value.ref 16, Value.none, Value.ref 17, Value.ref 18, Value.ref 19, Value.int 191 0, Value.int 1 0, Value.str (Str.ofString "/claim/cut.py") 192] }
noncomputable def ob34 (P : Params) : Obj := { cls := Value.type "code", data := Data.fields #[Value.str (Str.ofString "__init__") 208, Value.str (Str.ofString "FinderError.__init__") 209, Value.str (Str.ofString "/claim/cut.py") 210, Value.int 7 0, Value.int 2 0, Value.int 0 0, Value.int 0 0, Value.int 3 0, Value.ref 31, Value.bool true, Value.int 181 0, Value.ref 32, Value.none, Value.ref 33, Value.ref 34, Value.ref 35, Value.int 214 0, Value.int 7 0, Value.str (Str.ofString "/claim/cut.py") 215] }
noncomputable def ob69 (P : Params) : Obj := { cls := Value.none, data := Data.fields #[] }
noncomputable def ob53 (P : Params) : Obj := { cls := Value.type "builtin_function_or_method", data := Data.fields #[Value.builtin "type.__prepare__", Value.type "type"] }
noncomputable def ob88 (P : Params) : Obj := { cls := Value.type "code", data := Data.fields #[Value.str (Str.ofString "KindFault") 271, Value.str (Str.ofString "KindFault") 272, Value.str (Str.ofString "/claim/cut.py") 273, Value.int 21 0, Value.int 0 0, Value.int 0 0, Value.int 0 0, Value.int 0 0, Value.ref 82, Value.bool false, Value.int 181 0, Value.ref 83, Value.none, Value.none, Value.none, Value.none, Value.int 274 0, Value.int 21 0, Value.str (Str.ofString "/claim/cut.py") 275] }
noncomputable def ob26 (P : Params) : Obj := { cls := Value.type "code", data := Data.fields #[Value.str (Str.ofString "FinderError") 198, Value.str (Str.ofString "FinderError") 199, Value.str (Str.ofString "/claim/cut.py") 200, Value.int 5 0, Value.int 0 0, Value.int 0 0, Value.int 0 0, Value.int 0 0, Value.ref 26, Value.bool false, Value.int 181 0, Value.ref 27, Value.none, Value.none, Value.none, Value.none, Value.int 201 0, Value.int 5 0, Value.str (Str.ofString "/claim/cut.py") 202] }
noncomputable def ob42 (P : Params) : Obj := { cls := Value.type "function", data := Data.func { name := Str.ofString "told", qualname := Str.ofString "FinderError.told", params := fArgs (inAt 2 1), body := FuncBody.stmts (fBody (inAt 2 1)), scope := fScope (inAt 2 1), globals := 3, closure := [], defaults := Value.none, kwdefaults := Value.none, pyModule := Value.str (Str.ofString "relfinder.errors") 194, code := Value.ref 43 } }
noncomputable def ob82 (P : Params) : Obj := { cls := Value.type "type", data := Data.cls { name := Str.ofString "SpotFault", bases := [Value.ref 47], mro := [Value.ref 76, Value.ref 47, Value.type "Exception", Value.type "BaseException", Value.type "object"], ns := 75, qualname := Str.ofString "SpotFault", subclasses := [Value.ref 88] }, slots := #[some (Value.ref 51), none, some (Value.str (Str.ofString "SpotFault") 234), some (Value.str (Str.ofString "SpotFault") 242), some (Value.builtin "Exception.__new__"), some (Value.bool true)] }
noncomputable def ob61 (P : Params) : Obj := { cls := Value.type "tuple", data := Data.seq #[Value.str (Str.ofString "__class__") 249] }
noncomputable def ob16 (P : Params) : Obj := { cls := Value.type "tuple", data := Data.seq #[] }
noncomputable def ob32 (P : Params) : Obj := { cls := Value.type "tuple", data := Data.seq #[] }
noncomputable def ob67 (P : Params) : Obj := { cls := Value.type "function", data := Data.func { name := Str.ofString "__init__", qualname := Str.ofString "SpotFault.__init__", params := fArgs (inAt 3 0), body := FuncBody.stmts (fBody (inAt 3 0)), scope := fScope (inAt 3 0), globals := 3, closure := [(Str.ofString "__class__", 54)], defaults := Value.none, kwdefaults := Value.none, pyModule := Value.str (Str.ofString "relfinder.errors") 194, code := Value.ref 65, closureTuple := Value.ref 59 } }
noncomputable def ob48 (P : Params) : Obj := { cls := Value.type "builtin_function_or_method", data := Data.fields #[Value.builtin "object.__init_subclass__", Value.ref 47] }
noncomputable def ob86 (P : Params) : Obj := { cls := Value.type "tuple", data := Data.seq #[] }
noncomputable def ob24 (P : Params) : Obj := { cls := Value.type "tuple", data := Data.seq #[] }
noncomputable def ob40 (P : Params) : Obj := { cls := Value.none, data := Data.func { name := Str.ofString "told", qualname := Str.ofString "FinderError.told", params := fArgs (inAt 2 1), body := FuncBody.stmts (fBody (inAt 2 1)), scope := fScope (inAt 2 1), globals := 0, closure := [], defaults := Value.none, kwdefaults := Value.none } }
noncomputable def ob75 (P : Params) : Obj := { cls := Value.type "tuple", data := Data.seq #[Value.str (Str.ofString "spot") 263] }
noncomputable def ob59 (P : Params) : Obj := { cls := Value.type "frame", slots := #[some (Value.ref 57), some (Value.ref 3), some (Value.ref 53), none, some (Value.str (Str.ofString "relfinder.errors") 194), none, some (Value.ref 0)] }
noncomputable def ob94 (P : Params) : Obj := { cls := Value.type "builtin_function_or_method", data := Data.fields #[Value.builtin "object.__init_subclass__", Value.ref 88] }
noncomputable def ob20 (P : Params) : Obj := { cls := Value.type "tuple", data := Data.seq #[Value.type "Exception"] }
noncomputable def ob36 (P : Params) : Obj := { cls := Value.type "tuple", data := Data.seq #[] }
noncomputable def ob71 (P : Params) : Obj := { cls := Value.type "tuple", data := Data.seq #[] }
noncomputable def ob55 (P : Params) : Obj := { cls := Value.type "cell", data := Data.cell (some (Value.ref 76)) }
noncomputable def ob90 (P : Params) : Obj := { cls := Value.type "tuple", data := Data.seq #[] }
noncomputable def ob28 (P : Params) : Obj := { cls := Value.type "tuple", data := Data.seq #[Value.ref 25] }
noncomputable def ob44 (P : Params) : Obj := { cls := Value.type "dict", data := Data.dict #[{ hash := PyData.keyHash P (Str.ofString "__module__"), key := Value.str (Str.ofString "__module__") 203, val := Value.str (Str.ofString "relfinder.errors") 194 }, { hash := PyData.keyHash P (Str.ofString "__firstlineno__"), key := Value.str (Str.ofString "__firstlineno__") 207, val := Value.int 5 206 }, { hash := PyData.keyHash P (Str.ofString "__init__"), key := Value.str (Str.ofString "__init__") 216, val := Value.ref 37 }, { hash := PyData.keyHash P (Str.ofString "told"), key := Value.str (Str.ofString "told") 223, val := Value.ref 44 }, { hash := PyData.keyHash P (Str.ofString "__static_attributes__"), key := Value.str (Str.ofString "__static_attributes__") 225, val := Value.ref 45 }, { hash := PyData.keyHash P (Str.ofString "__weakref__"), key := Value.str (Str.ofString "__weakref__") 228, val := Value.ref 48 }, { hash := PyData.keyHash P (Str.ofString "__doc__"), key := Value.str (Str.ofString "__doc__") 229, val := Value.none }] 4 }
noncomputable def ob79 (P : Params) : Obj := { cls := Value.type "builtin_function_or_method", data := Data.fields #[Value.builtin "object.__init_subclass__", Value.ref 76] }
noncomputable def ob63 (P : Params) : Obj := { cls := Value.type "tuple", data := Data.seq #[Value.str (Str.ofString "self") 250, Value.str (Str.ofString "what") 251, Value.str (Str.ofString "spot") 252] }
noncomputable def tr94 (P : Params) : BT := BT.node (boot_o_0 P) (BT.node (boot_o_1 P) (BT.node (ob80 P) (BT.node (boot_o_7 P) (BT.node (ob13 P) (BT.node (ob29 P) (BT.node (ob64 P) BT.nil BT.nil) BT.nil) (BT.node (ob51 P) (BT.node (ob83 P) BT.nil BT.nil) BT.nil)) (BT.node (ob21 P) (BT.node (ob37 P) (BT.node (ob72 P) BT.nil BT.nil) BT.nil) (BT.node (ob56 P) (BT.node (ob91 P) BT.nil BT.nil) BT.nil))) (BT.node (ob4 P) (BT.node (ob17 P) (BT.node (ob33 P) (BT.node (ob68 P) BT.nil BT.nil) BT.nil) (BT.node (ob52 P) (BT.node (ob87 P) BT.nil BT.nil) BT.nil)) (BT.node (ob25 P) (BT.node (ob41 P) (BT.node (ob76 P) BT.nil BT.nil) BT.nil) (BT.node (ob60 P) BT.nil BT.nil)))) (BT.node (boot_o_5 P) (BT.node (boot_o_9 P) (BT.node (ob15 P) (BT.node (ob31 P) (BT.node (ob66 P) BT.nil BT.nil) BT.nil) (BT.node (ob47 P) (BT.node (ob85 P) BT.nil BT.nil) BT.nil)) (BT.node (ob23 P) (BT.node (ob39 P) (BT.node (ob74 P) BT.nil BT.nil) BT.nil) (BT.node (ob58 P) (BT.node (ob93 P) BT.nil BT.nil) BT.nil))) (BT.node (ob6 P) (BT.node (ob19 P) (BT.node (ob35 P) (BT.node (ob70 P) BT.nil BT.nil) BT.nil) (BT.node (ob54 P) (BT.node (ob89 P) BT.nil BT.nil) BT.nil)) (BT.node (ob27 P) (BT.node (ob43 P) (BT.node (ob78 P) BT.nil BT.nil) BT.nil) (BT.node (ob62 P) BT.nil BT.nil))))) (BT.node (ob10 P) (BT.node (boot_o_4 P) (BT.node (boot_o_8 P) (BT.node (ob14 P) (BT.node (ob30 P) (BT.node (ob65 P) BT.nil BT.nil) BT.nil) (BT.node (ob46 P) (BT.node (ob84 P) BT.nil BT.nil) BT.nil)) (BT.node (ob22 P) (BT.node (ob38 P) (BT.node (ob73 P) BT.nil BT.nil) BT.nil) (BT.node (ob57 P) (BT.node (ob92 P) BT.nil BT.nil) BT.nil))) (BT.node (ob81 P) (BT.node (ob18 P) (BT.node (ob34 P) (BT.node (ob69 P) BT.nil BT.nil) BT.nil) (BT.node (ob53 P) (BT.node (ob88 P) BT.nil BT.nil) BT.nil)) (BT.node (ob26 P) (BT.node (ob42 P) (BT.node (ob82 P) BT.nil BT.nil) BT.nil) (BT.node (ob61 P) BT.nil BT.nil)))) (BT.node (boot_o_6 P) (BT.node (boot_o_10 P) (BT.node (ob16 P) (BT.node (ob32 P) (BT.node (ob67 P) BT.nil BT.nil) BT.nil) (BT.node (ob48 P) (BT.node (ob86 P) BT.nil BT.nil) BT.nil)) (BT.node (ob24 P) (BT.node (ob40 P) (BT.node (ob75 P) BT.nil BT.nil) BT.nil) (BT.node (ob59 P) (BT.node (ob94 P) BT.nil BT.nil) BT.nil))) (BT.node (ob7 P) (BT.node (ob20 P) (BT.node (ob36 P) (BT.node (ob71 P) BT.nil BT.nil) BT.nil) (BT.node (ob55 P) (BT.node (ob90 P) BT.nil BT.nil) BT.nil)) (BT.node (ob28 P) (BT.node (ob44 P) (BT.node (ob79 P) BT.nil BT.nil) BT.nil) (BT.node (ob63 P) BT.nil BT.nil)))))
noncomputable def ob95 (P : Params) : Obj := { cls := Value.type "dict", data := Data.dict #[{ hash := PyData.keyHash P (Str.ofString "__name__"), key := Value.str (Str.ofString "__name__") 165, val := Value.str (Str.ofString "relfinder.sigs") 285 }, { hash := PyData.keyHash P (Str.ofString "__doc__"), key := Value.str (Str.ofString "__doc__") 166, val := Value.none }, { hash := PyData.keyHash P (Str.ofString "__package__"), key := Value.str (Str.ofString "__package__") 167, val := Value.none }, { hash := PyData.keyHash P (Str.ofString "__loader__"), key := Value.str (Str.ofString "__loader__") 168, val := Value.builtin "__main__.__loader__#opaque" }, { hash := PyData.keyHash P (Str.ofString "__spec__"), key := Value.str (Str.ofString "__spec__") 169, val := Value.none }, { hash := PyData.keyHash P (Str.ofString "__annotations__"), key := Value.str (Str.ofString "__annotations__") 170, val := Value.ref 6 }, { hash := PyData.keyHash P (Str.ofString "__builtins__"), key := Value.str (Str.ofString "__builtins__") 171, val := Value.ref 4 }, { hash := PyData.keyHash P (Str.ofString "__file__"), key := Value.str (Str.ofString "__file__") 173, val := Value.str (Str.ofString "/claim/cut.py") 172 }, { hash := PyData.keyHash P (Str.ofString "__cached__"), key := Value.str (Str.ofString "__cached__") 174, val := Value.none }, { hash := PyData.keyHash P (Str.ofString "_wall"), key := Value.str (Str.ofString "_wall") 193, val := Value.ref 21 }, { hash := PyData.keyHash P (Str.ofString "FinderError"), key := Value.str (Str.ofString "FinderError") 233, val := Value.ref 47 }, { hash := PyData.keyHash P (Str.ofString "SpotFault"), key := Value.str (Str.ofString "SpotFault") 268, val := Value.ref 76 }, { hash := PyData.keyHash P (Str.ofString "KindFault"), key := Value.str (Str.ofString "KindFault") 284, val := Value.ref 88 }, { hash := PyData.keyHash P (Str.ofString "ORDERING"), key := Value.str (Str.ofString "ORDERING") 288, val := Value.str (Str.ofString "util/ordering") 287 }, { hash := PyData.keyHash P (Str.ofString "Signatures"), key := Value.str (Str.ofString "Signatures") 513, val := Value.ref 257 }] 15 }
noncomputable def ob133 (P : Params) : Obj := { cls := Value.none, data := Data.fields #[] }
noncomputable def ob261 (P : Params) : Obj := { cls := Value.type "tuple", data := Data.seq #[Value.str (Str.ofString "entries") 501, Value.str (Str.ofString "opened") 502, Value.str (Str.ofString "ordered") 503, Value.str (Str.ofString "own_fields") 504, Value.str (Str.ofString "stands") 505] }
noncomputable def ob197 (P : Params) : Obj := { cls := Value.type "function", data := Data.func { name := Str.ofString "is_subset", qualname := Str.ofString "Signatures.is_subset", params := fArgs (inAt 7 13), body := FuncBody.stmts (fBody (inAt 7 13)), scope := fScope (inAt 7 13), globals := 3, closure := [], defaults := Value.none, kwdefaults := Value.none, pyModule := Value.str (Str.ofString "relfinder.sigs") 285, code := Value.ref 190 } }
noncomputable def ob101 (P : Params) : Obj := { cls := Value.none, data := Data.fields #[Value.int 27 0, Value.int 4 0, Value.ref 103, Value.int 43 0, Value.int 4 0, Value.ref 110, Value.int 52 0, Value.int 4 0, Value.ref 117, Value.int 59 0, Value.int 4 0, Value.ref 124, Value.int 62 0, Value.int 4 0, Value.ref 129, Value.int 72 0, Value.int 4 0, Value.ref 136, Value.int 81 0, Value.int 4 0, Value.ref 143, Value.int 91 0, Value.int 4 0, Value.ref 148, Value.int 102 0, Value.int 4 0, Value.ref 155, Value.int 105 0, Value.int 4 0, Value.ref 162, Value.int 108 0, Value.int 4 0, Value.ref 169, Value.int 111 0, Value.int 4 0, Value.ref 176, Value.int 114 0, Value.int 4 0, Value.ref 183, Value.int 117 0, Value.int 4 0, Value.ref 190, Value.int 120 0, Value.int 4 0, Value.ref 197, Value.int 123 0, Value.int 4 0, Value.ref 204, Value.int 130 0, Value.int 4 0, Value.ref 211, Value.int 133 0, Value.int 4 0, Value.ref 218, Value.int 142 0, Value.int 4 0, Value.ref 225, Value.int 145 0, Value.int 4 0, Value.ref 232, Value.int 148 0, Value.int 4 0, Value.ref 239, Value.int 151 0, Value.int 4 0, Value.ref 246, Value.int 154 0, Value.int 4 0, Value.ref 253] }
noncomputable def ob165 (P : Params) : Obj := { cls := Value.type "tuple", data := Data.seq #[Value.str (Str.ofString "self") 390, Value.str (Str.ofString "name") 391] }
noncomputable def ob229 (P : Params) : Obj := { cls := Value.type "tuple", data := Data.seq #[] }
noncomputable def ob149 (P : Params) : Obj := { cls := Value.type "code", data := Data.fields #[Value.str (Str.ofString "look_fields") 359, Value.str (Str.ofString "Signatures.look_fields") 360, Value.str (Str.ofString "/claim/cut.py") 361, Value.int 81 0, Value.int 1 0, Value.int 0 0, Value.int 0 0, Value.int 3 0, Value.ref 138, Value.bool true, Value.int 181 0, Value.ref 139, Value.none, Value.ref 140, Value.ref 141, Value.ref 142, Value.int 371 0, Value.int 81 0, Value.str (Str.ofString "/claim/cut.py") 372] }
noncomputable def ob213 (P : Params) : Obj := { cls := Value.none, data := Data.fields #[] }
noncomputable def ob117 (P : Params) : Obj := { cls := Value.type "function", data := Data.func { name := Str.ofString "take_sig", qualname := Str.ofString "Signatures.take_sig", params := fArgs (inAt 7 1), body := FuncBody.stmts (fBody (inAt 7 1)), scope := fScope (inAt 7 1), globals := 3, closure := [], defaults := Value.none, kwdefaults := Value.none, pyModule := Value.str (Str.ofString "relfinder.sigs") 285, code := Value.ref 110 } }
noncomputable def ob181 (P : Params) : Obj := { cls := Value.none, data := Data.func { name := Str.ofString "parent", qualname := Str.ofString "Signatures.parent", params := fArgs (inAt 7 11), body := FuncBody.stmts (fBody (inAt 7 11)), scope := fScope (inAt 7 11), globals := 0, closure := [], defaults := Value.none, kwdefaults := Value.none } }
noncomputable def ob245 (P : Params) : Obj := { cls := Value.type "code", data := Data.fields #[Value.str (Str.ofString "fields") 479, Value.str (Str.ofString "Signatures.fields") 480, Value.str (Str.ofString "/claim/cut.py") 481, Value.int 148 0, Value.int 1 0, Value.int 0 0, Value.int 0 0, Value.int 3 0, Value.ref 234, Value.bool true, Value.int 181 0, Value.ref 235, Value.none, Value.ref 236, Value.ref 237, Value.ref 238, Value.int 483 0, Value.int 148 0, Value.str (Str.ofString "/claim/cut.py") 484] }
noncomputable def ob141 (P : Params) : Obj := { cls := Value.none, data := Data.func { name := Str.ofString "all_fields", qualname := Str.ofString "Signatures.all_fields", params := fArgs (inAt 7 5), body := FuncBody.stmts (fBody (inAt 7 5)), scope := fScope (inAt 7 5), globals := 0, closure := [], defaults := Value.none, kwdefaults := Value.none } }
noncomputable def ob205 (P : Params) : Obj := { cls := Value.type "tuple", data := Data.seq #[] }
noncomputable def ob109 (P : Params) : Obj := { cls := Value.type "code", data := Data.fields #[Value.str (Str.ofString "__init__") 301, Value.str (Str.ofString "Signatures.__init__") 302, Value.str (Str.ofString "/claim/cut.py") 303, Value.int 27 0, Value.int 2 0, Value.int 0 0, Value.int 0 0, Value.int 3 0, Value.ref 98, Value.bool true, Value.int 181 0, Value.ref 99, Value.none, Value.ref 100, Value.ref 101, Value.ref 102, Value.int 308 0, Value.int 27 0, Value.str (Str.ofString "/claim/cut.py") 309] }
noncomputable def ob173 (P : Params) : Obj := { cls := Value.type "tuple", data := Data.seq #[] }
noncomputable def ob237 (P : Params) : Obj := { cls := Value.none, data := Data.func { name := Str.ofString "mult", qualname := Str.ofString "Signatures.mult", params := fArgs (inAt 7 19), body := FuncBody.stmts (fBody (inAt 7 19)), scope := fScope (inAt 7 19), globals := 0, closure := [], defaults := Value.none, kwdefaults := Value.none } }
noncomputable def ob157 (P : Params) : Obj := { cls := Value.none, data := Data.fields #[] }
noncomputable def ob221 (P : Params) : Obj := { cls := Value.type "tuple", data := Data.seq #[Value.str (Str.ofString "self") 455, Value.str (Str.ofString "name") 456, Value.str (Str.ofString "found") 457, Value.str (Str.ofString "waiting") 458, Value.str (Str.ofString "other") 459] }
noncomputable def ob125 (P : Params) : Obj := { cls := Value.type "tuple", data := Data.seq #[] }
noncomputable def ob189 (P : Params) : Obj := { cls := Value.type "code", data := Data.fields #[Value.str (Str.ofString "supers") 411, Value.str (Str.ofString "Signatures.supers") 412, Value.str (Str.ofString "/claim/cut.py") 413, Value.int 114 0, Value.int 2 0, Value.int 0 0, Value.int 0 0, Value.int 3 0, Value.ref 178, Value.bool true, Value.int 181 0, Value.ref 179, Value.none, Value.ref 180, Value.ref 181, Value.ref 182, Value.int 416 0, Value.int 114 0, Value.str (Str.ofString "/claim/cut.py") 417] }
noncomputable def ob253 (P : Params) : Obj := { cls := Value.type "function", data := Data.func { name := Str.ofString "facts", qualname := Str.ofString "Signatures.facts", params := fArgs (inAt 7 21), body := FuncBody.stmts (fBody (inAt 7 21)), scope := fScope (inAt 7 21), globals := 3, closure := [], defaults := Value.none, kwdefaults := Value.none, pyModule := Value.str (Str.ofString "relfinder.sigs") 285, code := Value.ref 246 } }
noncomputable def ob137 (P : Params) : Obj := { cls := Value.type "tuple", data := Data.seq #[] }
noncomputable def ob265 (P : Params) : Obj := { cls := Value.type "getset_descriptor", data := Data.fields #[Value.str (Str.ofString "__weakref__") 509, Value.ref 257, Value.builtin "ExceptionGroup.__weakref__", Value.none] }
noncomputable def ob201 (P : Params) : Obj := { cls := Value.type "tuple", data := Data.seq #[] }
noncomputable def ob105 (P : Params) : Obj := { cls := Value.none, data := Data.fields #[] }
noncomputable def ob169 (P : Params) : Obj := { cls := Value.type "function", data := Data.func { name := Str.ofString "has", qualname := Str.ofString "Signatures.has", params := fArgs (inAt 7 9), body := FuncBody.stmts (fBody (inAt 7 9)), scope := fScope (inAt 7 9), globals := 3, closure := [], defaults := Value.none, kwdefaults := Value.none, pyModule := Value.str (Str.ofString "relfinder.sigs") 285, code := Value.ref 162 } }
noncomputable def ob233 (P : Params) : Obj := { cls := Value.type "tuple", data := Data.seq #[] }
noncomputable def ob153 (P : Params) : Obj := { cls := Value.none, data := Data.func { name := Str.ofString "take_order", qualname := Str.ofString "Signatures.take_order", params := fArgs (inAt 7 7), body := FuncBody.stmts (fBody (inAt 7 7)), scope := fScope (inAt 7 7), globals := 0, closure := [], defaults := Value.none, kwdefaults := Value.none } }
noncomputable def ob217 (P : Params) : Obj := { cls := Value.type "code", data := Data.fields #[Value.str (Str.ofString "top") 444, Value.str (Str.ofString "Signatures.top") 445, Value.str (Str.ofString "/claim/cut.py") 446, Value.int 130 0, Value.int 2 0, Value.int 0 0, Value.int 0 0, Value.int 3 0, Value.ref 206, Value.bool true, Value.int 181 0, Value.ref 207, Value.none, Value.ref 208, Value.ref 209, Value.ref 210, Value.int 449 0, Value.int 130 0, Value.str (Str.ofString "/claim/cut.py") 450] }
noncomputable def ob121 (P : Params) : Obj := { cls := Value.type "tuple", data := Data.seq #[] }
noncomputable def ob185 (P : Params) : Obj := { cls := Value.none, data := Data.fields #[] }
noncomputable def ob249 (P : Params) : Obj := { cls := Value.type "tuple", data := Data.seq #[Value.str (Str.ofString "self") 489, Value.str (Str.ofString "name") 490] }
noncomputable def ob145 (P : Params) : Obj := { cls := Value.none, data := Data.fields #[] }
noncomputable def ob209 (P : Params) : Obj := { cls := Value.none, data := Data.func { name := Str.ofString "above", qualname := Str.ofString "Signatures.above", params := fArgs (inAt 7 15), body := FuncBody.stmts (fBody (inAt 7 15)), scope := fScope (inAt 7 15), globals := 0, closure := [], defaults := Value.none, kwdefaults := Value.none } }
noncomputable def ob113 (P : Params) : Obj := { cls := Value.type "tuple", data := Data.seq #[Value.str (Str.ofString "self") 314, Value.str (Str.ofString "item") 315, Value.str (Str.ofString "name") 316] }
noncomputable def ob177 (P : Params) : Obj := { cls := Value.type "tuple", data := Data.seq #[] }
noncomputable def ob241 (P : Params) : Obj := { cls := Value.none, data := Data.fields #[] }
noncomputable def ob97 (P : Params) : Obj := { cls := Value.type "tuple", data := Data.seq #[] }
noncomputable def ob161 (P : Params) : Obj := { cls := Value.type "code", data := Data.fields #[Value.str (Str.ofString "names") 380, Value.str (Str.ofString "Signatures.names") 381, Value.str (Str.ofString "/claim/cut.py") 382, Value.int 102 0, Value.int 1 0, Value.int 0 0, Value.int 0 0, Value.int 3 0, Value.ref 150, Value.bool true, Value.int 181 0, Value.ref 151, Value.none, Value.ref 152, Value.ref 153, Value.ref 154, Value.int 384 0, Value.int 102 0, Value.str (Str.ofString "/claim/cut.py") 385] }
noncomputable def ob225 (P : Params) : Obj := { cls := Value.type "function", data := Data.func { name := Str.ofString "all_above", qualname := Str.ofString "Signatures.all_above", params := fArgs (inAt 7 17), body := FuncBody.stmts (fBody (inAt 7 17)), scope := fScope (inAt 7 17), globals := 3, closure := [], defaults := Value.none, kwdefaults := Value.none, pyModule := Value.str (Str.ofString "relfinder.sigs") 285, code := Value.ref 218 } }
noncomputable def ob129 (P : Params) : Obj := { cls := Value.none, data := Data.func { name := Str.ofString "direct", qualname := Str.ofString "Signatures.direct", params := fArgs (inAt 7 3), body := FuncBody.stmts (fBody (inAt 7 3)), scope := fScope (inAt 7 3), globals := 0, closure := [], defaults := Value.none, kwdefaults := Value.none } }
noncomputable def ob193 (P : Params) : Obj := { cls := Value.type "tuple", data := Data.seq #[Value.str (Str.ofString "self") 422, Value.str (Str.ofString "name") 423] }
noncomputable def ob257 (P : Params) : Obj := { cls := Value.type "tuple", data := Data.seq #[] }
noncomputable def ob135 (P : Params) : Obj := { cls := Value.type "code", data := Data.fields #[Value.str (Str.ofString "parents_first") 337, Value.str (Str.ofString "Signatures.parents_first") 338, Value.str (Str.ofString "/claim/cut.py") 339, Value.int 62 0, Value.int 1 0, Value.int 0 0, Value.int 0 0, Value.int 3 0, Value.ref 126, Value.bool true, Value.int 181 0, Value.ref 127, Value.none, Value.none, Value.none, Value.ref 128, Value.int 340 0, Value.int 62 0, Value.str (Str.ofString "/claim/cut.py") 341] }
noncomputable def ob263 (P : Params) : Obj := { cls := Value.type "type", data := Data.cls { name := Str.ofString "Signatures", bases := [Value.type "object"], mro := [Value.ref 257, Value.type "object"], ns := 256, qualname := Str.ofString "Signatures" }, slots := #[none, none, some (Value.str (Str.ofString "Signatures") 289), some (Value.str (Str.ofString "Signatures") 297), some (Value.builtin "object.__new__"), some (Value.bool true)] }
noncomputable def ob199 (P : Params) : Obj := { cls := Value.none, data := Data.fields #[] }
noncomputable def ob103 (P : Params) : Obj := { cls := Value.type "frame", slots := #[some (Value.ref 96), some (Value.ref 3), some (Value.ref 93), none, some (Value.str (Str.ofString "relfinder.sigs") 285), none, some (Value.ref 0)] }
noncomputable def ob167 (P : Params) : Obj := { cls := Value.none, data := Data.func { name := Str.ofString "has", qualname := Str.ofString "Signatures.has", params := fArgs (inAt 7 9), body := FuncBody.stmts (fBody (inAt 7 9)), scope := fScope (inAt 7 9), globals := 0, closure := [], defaults := Value.none, kwdefaults := Value.none } }
noncomputable def ob231 (P : Params) : Obj := { cls := Value.type "code", data := Data.fields #[Value.str (Str.ofString "is_abstract") 463, Value.str (Str.ofString "Signatures.is_abstract") 464, Value.str (Str.ofString "/claim/cut.py") 465, Value.int 142 0, Value.int 2 0, Value.int 0 0, Value.int 0 0, Value.int 3 0, Value.ref 220, Value.bool true, Value.int 181 0, Value.ref 221, Value.none, Value.ref 222, Value.ref 223, Value.ref 224, Value.int 468 0, Value.int 142 0, Value.str (Str.ofString "/claim/cut.py") 469] }
noncomputable def ob151 (P : Params) : Obj := { cls := Value.type "tuple", data := Data.seq #[] }
noncomputable def ob215 (P : Params) : Obj := { cls := Value.type "tuple", data := Data.seq #[] }
noncomputable def ob119 (P : Params) : Obj := { cls := Value.none, data := Data.fields #[] }
noncomputable def ob183 (P : Params) : Obj := { cls := Value.type "function", data := Data.func { name := Str.ofString "parent", qualname := Str.ofString "Signatures.parent", params := fArgs (inAt 7 11), body := FuncBody.stmts (fBody (inAt 7 11)), scope := fScope (inAt 7 11), globals := 3, closure := [], defaults := Value.none, kwdefaults := Value.none, pyModule := Value.str (Str.ofString "relfinder.sigs") 285, code := Value.ref 176 } }
noncomputable def ob247 (P : Params) : Obj := { cls := Value.type "tuple", data := Data.seq #[] }
noncomputable def ob143 (P : Params) : Obj := { cls := Value.type "function", data := Data.func { name := Str.ofString "all_fields", qualname := Str.ofString "Signatures.all_fields", params := fArgs (inAt 7 5), body := FuncBody.stmts (fBody (inAt 7 5)), scope := fScope (inAt 7 5), globals := 3, closure := [], defaults := Value.none, kwdefaults := Value.none, pyModule := Value.str (Str.ofString "relfinder.sigs") 285, code := Value.ref 136 } }
noncomputable def ob207 (P : Params) : Obj := { cls := Value.type "tuple", data := Data.seq #[Value.str (Str.ofString "self") 438, Value.str (Str.ofString "name") 439, Value.str (Str.ofString "found") 440] }
noncomputable def ob111 (P : Params) : Obj := { cls := Value.type "tuple", data := Data.seq #[] }
noncomputable def ob175 (P : Params) : Obj := { cls := Value.type "code", data := Data.fields #[Value.str (Str.ofString "spot") 395, Value.str (Str.ofString "Signatures.spot") 396, Value.str (Str.ofString "/claim/cut.py") 397, Value.int 108 0, Value.int 2 0, Value.int 0 0, Value.int 0 0, Value.int 3 0, Value.ref 164, Value.bool true, Value.int 181 0, Value.ref 165, Value.none, Value.ref 166, Value.ref 167, Value.ref 168, Value.int 400 0, Value.int 108 0, Value.str (Str.ofString "/claim/cut.py") 401] }
noncomputable def ob239 (P : Params) : Obj := { cls := Value.type "function", data := Data.func { name := Str.ofString "mult", qualname := Str.ofString "Signatures.mult", params := fArgs (inAt 7 19), body := FuncBody.stmts (fBody (inAt 7 19)), scope := fScope (inAt 7 19), globals := 3, closure := [], defaults := Value.none, kwdefaults := Value.none, pyModule := Value.str (Str.ofString "relfinder.sigs") 285, code := Value.ref 232 } }
noncomputable def ob159 (P : Params) : Obj := { cls := Value.type "tuple", data := Data.seq #[] }
noncomputable def ob223 (P : Params) : Obj := { cls := Value.none, data := Data.func { name := Str.ofString "all_above", qualname := Str.ofString "Signatures.all_above", params := fArgs (inAt 7 17), body := FuncBody.stmts (fBody (inAt 7 17)), scope := fScope (inAt 7 17), globals := 0, closure := [], defaults := Value.none, kwdefaults := Value.none } }
noncomputable def ob127 (P : Params) : Obj := { cls := Value.type "tuple", data := Data.seq #[Value.str (Str.ofString "self") 332, Value.str (Str.ofString "name") 333] }
noncomputable def ob191 (P : Params) : Obj := { cls := Value.type "tuple", data := Data.seq #[] }
noncomputable def ob255 (P : Params) : Obj := { cls := Value.none, data := Data.fields #[] }
noncomputable def ob139 (P : Params) : Obj := { cls := Value.type "tuple", data := Data.seq #[Value.str (Str.ofString "self") 346, Value.str (Str.ofString "found") 347, Value.str (Str.ofString "group") 348, Value.str (Str.ofString "name") 349, Value.str (Str.ofString "spot") 350, Value.str (Str.ofString "is_disj") 351, Value.str (Str.ofString "fields") 352, Value.str (Str.ofString "mult") 353, Value.str (Str.ofString "node") 354, Value.str (Str.ofString "field") 355] }
noncomputable def ob267 (P : Params) : Obj := { cls := Value.type "builtin_function_or_method", data := Data.fields #[Value.builtin "object.__init_subclass__", Value.ref 257] }
noncomputable def ob203 (P : Params) : Obj := { cls := Value.type "code", data := Data.fields #[Value.str (Str.ofString "children") 427, Value.str (Str.ofString "Signatures.children") 428, Value.str (Str.ofString "/claim/cut.py") 429, Value.int 120 0, Value.int 2 0, Value.int 0 0, Value.int 0 0, Value.int 3 0, Value.ref 192, Value.bool true, Value.int 181 0, Value.ref 193, Value.none, Value.ref 194, Value.ref 195, Value.ref 196, Value.int 432 0, Value.int 120 0, Value.str (Str.ofString "/claim/cut.py") 433] }
noncomputable def ob107 (P : Params) : Obj := { cls := Value.type "tuple", data := Data.seq #[] }
noncomputable def ob171 (P : Params) : Obj := { cls := Value.none, data := Data.fields #[] }
noncomputable def ob235 (P : Params) : Obj := { cls := Value.type "tuple", data := Data.seq #[Value.str (Str.ofString "self") 474, Value.str (Str.ofString "name") 475] }
noncomputable def ob155 (P : Params) : Obj := { cls := Value.type "function", data := Data.func { name := Str.ofString "take_order", qualname := Str.ofString "Signatures.take_order", params := fArgs (inAt 7 7), body := FuncBody.stmts (fBody (inAt 7 7)), scope := fScope (inAt 7 7), globals := 3, closure := [], defaults := Value.none, kwdefaults := Value.none, pyModule := Value.str (Str.ofString "relfinder.sigs") 285, code := Value.ref 148 } }
noncomputable def ob219 (P : Params) : Obj := { cls := Value.type "tuple", data := Data.seq #[] }
noncomputable def ob123 (P : Params) : Obj := { cls := Value.type "code", data := Data.fields #[Value.str (Str.ofString "look_above") 320, Value.str (Str.ofString "Signatures.look_above") 321, Value.str (Str.ofString "/claim/cut.py") 322, Value.int 52 0, Value.int 2 0, Value.int 0 0, Value.int 0 0, Value.int 3 0, Value.ref 112, Value.bool true, Value.int 181 0, Value.ref 113, Value.none, Value.ref 114, Value.ref 115, Value.ref 116, Value.int 326 0, Value.int 52 0, Value.str (Str.ofString "/claim/cut.py") 327] }
noncomputable def ob187 (P : Params) : Obj := { cls := Value.type "tuple", data := Data.seq #[] }
noncomputable def ob251 (P : Params) : Obj := { cls := Value.none, data := Data.func { name := Str.ofString "facts", qualname := Str.ofString "Signatures.facts", params := fArgs (inAt 7 21), body := FuncBody.stmts (fBody (inAt 7 21)), scope := fScope (inAt 7 21), globals := 0, closure := [], defaults := Value.none, kwdefaults := Value.none } }
noncomputable def ob147 (P : Params) : Obj := { cls := Value.type "tuple", data := Data.seq #[] }
noncomputable def ob211 (P : Params) : Obj := { cls := Value.type "function", data := Data.func { name := Str.ofString "above", qualname := Str.ofString "Signatures.above", params := fArgs (inAt 7 15), body := FuncBody.stmts (fBody (inAt 7 15)), scope := fScope (inAt 7 15), globals := 3, closure := [], defaults := Value.none, kwdefaults := Value.none, pyModule := Value.str (Str.ofString "relfinder.sigs") 285, code := Value.ref 204 } }
noncomputable def ob115 (P : Params) : Obj := { cls := Value.none, data := Data.func { name := Str.ofString "take_sig", qualname := Str.ofString "Signatures.take_sig", params := fArgs (inAt 7 1), body := FuncBody.stmts (fBody (inAt 7 1)), scope := fScope (inAt 7 1), globals := 0, closure := [], defaults := Value.none, kwdefaults := Value.none } }
noncomputable def ob179 (P : Params) : Obj := { cls := Value.type "tuple", data := Data.seq #[Value.str (Str.ofString "self") 406, Value.str (Str.ofString "name") 407] }
noncomputable def ob243 (P : Params) : Obj := { cls := Value.type "tuple", data := Data.seq #[] }
noncomputable def ob99 (P : Params) : Obj := { cls := Value.type "dict", data := Data.dict #[{ hash := PyData.keyHash P (Str.ofString "__module__"), key := Value.str (Str.ofString "__module__") 296, val := Value.str (Str.ofString "relfinder.sigs") 285 }, { hash := PyData.keyHash P (Str.ofString "__qualname__"), key := Value.str (Str.ofString "__qualname__") 298, val := Value.str (Str.ofString "Signatures") 297 }, { hash := PyData.keyHash P (Str.ofString "__firstlineno__"), key := Value.str (Str.ofString "__firstlineno__") 300, val := Value.int 25 299 }, { hash := PyData.keyHash P (Str.ofString "__init__"), key := Value.str (Str.ofString "__init__") 310, val := Value.ref 104 }, { hash := PyData.keyHash P (Str.ofString "take_sig"), key := Value.str (Str.ofString "take_sig") 319, val := Value.ref 111 }, { hash := PyData.keyHash P (Str.ofString "look_above"), key := Value.str (Str.ofString "look_above") 328, val := Value.ref 118 }, { hash := PyData.keyHash P (Str.ofString "direct"), key := Value.str (Str.ofString "direct") 336, val := Value.ref 125 }, { hash := PyData.keyHash P (Str.ofString "parents_first"), key := Value.str (Str.ofString "parents_first") 342, val := Value.ref 130 }, { hash := PyData.keyHash P (Str.ofString "all_fields"), key := Value.str (Str.ofString "all_fields") 358, val := Value.ref 137 }, { hash := PyData.keyHash P (Str.ofString "look_fields"), key := Value.str (Str.ofString "look_fields") 373, val := Value.ref 144 }, { hash := PyData.keyHash P (Str.ofString "take_order"), key := Value.str (Str.ofString "take_order") 379, val := Value.ref 149 }, { hash := PyData.keyHash P (Str.ofString "names"), key := Value.str (Str.ofString "names") 386, val := Value.ref 156 }, { hash := PyData.keyHash P (Str.ofString "has"), key := Value.str (Str.ofString "has") 394, val := Value.ref 163 }, { hash := PyData.keyHash P (Str.ofString "spot"), key := Value.str (Str.ofString "spot") 402, val := Value.ref 170 }, { hash := PyData.keyHash P (Str.ofString "parent"), key := Value.str (Str.ofString "parent") 410, val := Value.ref 177 }, { hash := PyData.keyHash P (Str.ofString "supers"), key := Value.str (Str.ofString "supers") 418, val := Value.ref 184 }, { hash := PyData.keyHash P (Str.ofString "is_subset"), key := Value.str (Str.ofString "is_subset") 426, val := Value.ref 191 }, { hash := PyData.keyHash P (Str.ofString "children"), key := Value.str (Str.ofString "children") 434, val := Value.ref 198 }, { hash := PyData.keyHash P (Str.ofString "above"), key := Value.str (Str.ofString "above") 443, val := Value.ref 205 }, { hash := PyData.keyHash P (Str.ofString "top"), key := Value.str (Str.ofString "top") 451, val := Value.ref 212 }, { hash := PyData.keyHash P (Str.ofString "all_above"), key := Value.str (Str.ofString "all_above") 462, val := Value.ref 219 }, { hash := PyData.keyHash P (Str.ofString "is_abstract"), key := Value.str (Str.ofString "is_abstract") 470, val := Value.ref 226 }, { hash := PyData.keyHash P (Str.ofString "mult"), key := Value.str (Str.ofString "mult") 478, val := Value.ref 233 }, { hash := PyData.keyHash P (Str.ofString "fields"), key := Value.str (Str.ofString "fields") 485, val := Value.ref 240 }, { hash := PyData.keyHash P (Str.ofString "facts"), key := Value.str (Str.ofString "facts") 493, val := Value.ref 247 }, { hash := PyData.keyHash P (Str.ofString "orders"), key := Value.str (Str.ofString "orders") 500, val := Value.ref 254 }, { hash := PyData.keyHash P (Str.ofString "__static_attributes__"), key := Value.str (Str.ofString "__static_attributes__") 506, val := Value.ref 255 }] 27 }
noncomputable def ob163 (P : Params) : Obj := { cls := Value.type "tuple", data := Data.seq #[] }
noncomputable def ob227 (P : Params) : Obj := { cls := Value.none, data := Data.fields #[] }
noncomputable def ob131 (P : Params) : Obj := { cls := Value.type "function", data := Data.func { name := Str.ofString "direct", qualname := Str.ofString "Signatures.direct", params := fArgs (inAt 7 3), body := FuncBody.stmts (fBody (inAt 7 3)), scope := fScope (inAt 7 3), globals := 3, closure := [], defaults := Value.none, kwdefaults := Value.none, pyModule := Value.str (Str.ofString "relfinder.sigs") 285, code := Value.ref 124 } }
noncomputable def ob195 (P : Params) : Obj := { cls := Value.none, data := Data.func { name := Str.ofString "is_subset", qualname := Str.ofString "Signatures.is_subset", params := fArgs (inAt 7 13), body := FuncBody.stmts (fBody (inAt 7 13)), scope := fScope (inAt 7 13), globals := 0, closure := [], defaults := Value.none, kwdefaults := Value.none } }
noncomputable def ob259 (P : Params) : Obj := { cls := Value.type "code", data := Data.fields #[Value.str (Str.ofString "orders") 494, Value.str (Str.ofString "Signatures.orders") 495, Value.str (Str.ofString "/claim/cut.py") 496, Value.int 154 0, Value.int 1 0, Value.int 0 0, Value.int 0 0, Value.int 3 0, Value.ref 248, Value.bool true, Value.int 181 0, Value.ref 249, Value.none, Value.ref 250, Value.ref 251, Value.ref 252, Value.int 498 0, Value.int 154 0, Value.str (Str.ofString "/claim/cut.py") 499] }
noncomputable def ob134 (P : Params) : Obj := { cls := Value.none, data := Data.func { name := Str.ofString "parents_first", qualname := Str.ofString "Signatures.parents_first", params := fArgs (inAt 7 4), body := FuncBody.stmts (fBody (inAt 7 4)), scope := fScope (inAt 7 4), globals := 0, closure := [], defaults := Value.none, kwdefaults := Value.none } }
noncomputable def ob262 (P : Params) : Obj := { cls := Value.type "dict", data := Data.dict #[{ hash := PyData.keyHash P (Str.ofString "__module__"), key := Value.str (Str.ofString "__module__") 296, val := Value.str (Str.ofString "relfinder.sigs") 285 }, { hash := PyData.keyHash P (Str.ofString "__firstlineno__"), key := Value.str (Str.ofString "__firstlineno__") 300, val := Value.int 25 299 }, { hash := PyData.keyHash P (Str.ofString "__init__"), key := Value.str (Str.ofString "__init__") 310, val := Value.ref 104 }, { hash := PyData.keyHash P (Str.ofString "take_sig"), key := Value.str (Str.ofString "take_sig") 319, val := Value.ref 111 }, { hash := PyData.keyHash P (Str.ofString "look_above"), key := Value.str (Str.ofString "look_above") 328, val := Value.ref 118 }, { hash := PyData.keyHash P (Str.ofString "direct"), key := Value.str (Str.ofString "direct") 336, val := Value.ref 125 }, { hash := PyData.keyHash P (Str.ofString "parents_first"), key := Value.str (Str.ofString "parents_first") 342, val := Value.ref 130 }, { hash := PyData.keyHash P (Str.ofString "all_fields"), key := Value.str (Str.ofString "all_fields") 358, val := Value.ref 137 }, { hash := PyData.keyHash P (Str.ofString "look_fields"), key := Value.str (Str.ofString "look_fields") 373, val := Value.ref 144 }, { hash := PyData.keyHash P (Str.ofString "take_order"), key := Value.str (Str.ofString "take_order") 379, val := Value.ref 149 }, { hash := PyData.keyHash P (Str.ofString "names"), key := Value.str (Str.ofString "names") 386, val := Value.ref 156 }, { hash := PyData.keyHash P (Str.ofString "has"), key := Value.str (Str.ofString "has") 394, val := Value.ref 163 }, { hash := PyData.keyHash P (Str.ofString "spot"), key := Value.str (Str.ofString "spot") 402, val := Value.ref 170 }, { hash := PyData.keyHash P (Str.ofString "parent"), key := Value.str (Str.ofString "parent") 410, val := Value.ref 177 }, { hash := PyData.keyHash P (Str.ofString "supers"), key := Value.str (Str.ofString "supers") 418, val := Value.ref 184 }, { hash := PyData.keyHash P (Str.ofString "is_subset"), key := Value.str (Str.ofString "is_subset") 426, val := Value.ref 191 }, { hash := PyData.keyHash P (Str.ofString "children"), key := Value.str (Str.ofString "children") 434, val := Value.ref 198 }, { hash := PyData.keyHash P (Str.ofString "above"), key := Value.str (Str.ofString "above") 443, val := Value.ref 205 }, { hash := PyData.keyHash P (Str.ofString "top"), key := Value.str (Str.ofString "top") 451, val := Value.ref 212 }, { hash := PyData.keyHash P (Str.ofString "all_above"), key := Value.str (Str.ofString "all_above") 462, val := Value.ref 219 }, { hash := PyData.keyHash P (Str.ofString "is_abstract"), key := Value.str (Str.ofString "is_abstract") 470, val := Value.ref 226 }, { hash := PyData.keyHash P (Str.ofString "mult"), key := Value.str (Str.ofString "mult") 478, val := Value.ref 233 }, { hash := PyData.keyHash P (Str.ofString "fields"), key := Value.str (Str.ofString "fields") 485, val := Value.ref 240 }, { hash := PyData.keyHash P (Str.ofString "facts"), key := Value.str (Str.ofString "facts") 493, val := Value.ref 247 }, { hash := PyData.keyHash P (Str.ofString "orders"), key := Value.str (Str.ofString "orders") 500, val := Value.ref 254 }, { hash := PyData.keyHash P (Str.ofString "__static_attributes__"), key := Value.str (Str.ofString "__static_attributes__") 506, val := Value.ref 255 }, { hash := PyData.keyHash P (Str.ofString "__dict__"), key := Value.str (Str.ofString "__dict__") 508, val := Value.ref 258 }, { hash := PyData.keyHash P (Str.ofString "__weakref__"), key := Value.str (Str.ofString "__weakref__") 510, val := Value.ref 259 }, { hash := PyData.keyHash P (Str.ofString "__doc__"), key := Value.str (Str.ofString "__doc__") 511, val := Value.none }] 4 }
noncomputable def ob198 (P : Params) : Obj := { cls := Value.type "tuple", data := Data.seq #[] }
noncomputable def ob102 (P : Params) : Obj := { cls := Value.type "code", data := Data.fields #[Value.str (Str.ofString "Signatures") 291, Value.str (Str.ofString "Signatures") 292, Value.str (Str.ofString "/claim/cut.py") 293, Value.int 25 0, Value.int 0 0, Value.int 0 0, Value.int 0 0, Value.int 0 0, Value.ref 94, Value.bool false, Value.int 181 0, Value.ref 95, Value.none, Value.none, Value.none, Value.none, Value.int 294 0, Value.int 25 0, Value.str (Str.ofString "/claim/cut.py") 295] }
noncomputable def ob166 (P : Params) : Obj := { cls := Value.type "tuple", data := Data.seq #[] }
noncomputable def ob230 (P : Params) : Obj := { cls := Value.none, data := Data.func { name := Str.ofString "is_abstract", qualname := Str.ofString "Signatures.is_abstract", params := fArgs (inAt 7 18), body := FuncBody.stmts (fBody (inAt 7 18)), scope := fScope (inAt 7 18), globals := 0, closure := [], defaults := Value.none, kwdefaults := Value.none } }
noncomputable def ob150 (P : Params) : Obj := { cls := Value.type "function", data := Data.func { name := Str.ofString "look_fields", qualname := Str.ofString "Signatures.look_fields", params := fArgs (inAt 7 6), body := FuncBody.stmts (fBody (inAt 7 6)), scope := fScope (inAt 7 6), globals := 3, closure := [], defaults := Value.none, kwdefaults := Value.none, pyModule := Value.str (Str.ofString "relfinder.sigs") 285, code := Value.ref 143 } }
noncomputable def ob214 (P : Params) : Obj := { cls := Value.type "tuple", data := Data.seq #[Value.str (Str.ofString "self") 447, Value.str (Str.ofString "name") 448] }
noncomputable def ob118 (P : Params) : Obj := { cls := Value.type "tuple", data := Data.seq #[] }
noncomputable def ob182 (P : Params) : Obj := { cls := Value.type "code", data := Data.fields #[Value.str (Str.ofString "parent") 403, Value.str (Str.ofString "Signatures.parent") 404, Value.str (Str.ofString "/claim/cut.py") 405, Value.int 111 0, Value.int 2 0, Value.int 0 0, Value.int 0 0, Value.int 3 0, Value.ref 171, Value.bool true, Value.int 181 0, Value.ref 172, Value.none, Value.ref 173, Value.ref 174, Value.ref 175, Value.int 408 0, Value.int 111 0, Value.str (Str.ofString "/claim/cut.py") 409] }
noncomputable def ob246 (P : Params) : Obj := { cls := Value.type "function", data := Data.func { name := Str.ofString "fields", qualname := Str.ofString "Signatures.fields", params := fArgs (inAt 7 20), body := FuncBody.stmts (fBody (inAt 7 20)), scope := fScope (inAt 7 20), globals := 3, closure := [], defaults := Value.none, kwdefaults := Value.none, pyModule := Value.str (Str.ofString "relfinder.sigs") 285, code := Value.ref 239 } }
noncomputable def ob142 (P : Params) : Obj := { cls := Value.type "code", data := Data.fields #[Value.str (Str.ofString "all_fields") 343, Value.str (Str.ofString "Signatures.all_fields") 344, Value.str (Str.ofString "/claim/cut.py") 345, Value.int 72 0, Value.int 1 0, Value.int 0 0, Value.int 0 0, Value.int 3 0, Value.ref 131, Value.bool true, Value.int 181 0, Value.ref 132, Value.none, Value.ref 133, Value.ref 134, Value.ref 135, Value.int 356 0, Value.int 72 0, Value.str (Str.ofString "/claim/cut.py") 357] }
noncomputable def ob206 (P : Params) : Obj := { cls := Value.none, data := Data.fields #[] }
noncomputable def ob110 (P : Params) : Obj := { cls := Value.type "function", data := Data.func { name := Str.ofString "__init__", qualname := Str.ofString "Signatures.__init__", params := fArgs (inAt 7 0), body := FuncBody.stmts (fBody (inAt 7 0)), scope := fScope (inAt 7 0), globals := 3, closure := [], defaults := Value.none, kwdefaults := Value.none, pyModule := Value.str (Str.ofString "relfinder.sigs") 285, code := Value.ref 103 } }
noncomputable def ob174 (P : Params) : Obj := { cls := Value.none, data := Data.func { name := Str.ofString "spot", qualname := Str.ofString "Signatures.spot", params := fArgs (inAt 7 10), body := FuncBody.stmts (fBody (inAt 7 10)), scope := fScope (inAt 7 10), globals := 0, closure := [], defaults := Value.none, kwdefaults := Value.none } }
noncomputable def ob238 (P : Params) : Obj := { cls := Value.type "code", data := Data.fields #[Value.str (Str.ofString "mult") 471, Value.str (Str.ofString "Signatures.mult") 472, Value.str (Str.ofString "/claim/cut.py") 473, Value.int 145 0, Value.int 2 0, Value.int 0 0, Value.int 0 0, Value.int 3 0, Value.ref 227, Value.bool true, Value.int 181 0, Value.ref 228, Value.none, Value.ref 229, Value.ref 230, Value.ref 231, Value.int 476 0, Value.int 145 0, Value.str (Str.ofString "/claim/cut.py") 477] }
noncomputable def ob158 (P : Params) : Obj := { cls := Value.type "tuple", data := Data.seq #[Value.str (Str.ofString "self") 383] }
noncomputable def ob222 (P : Params) : Obj := { cls := Value.type "tuple", data := Data.seq #[] }
noncomputable def ob126 (P : Params) : Obj := { cls := Value.none, data := Data.fields #[] }
noncomputable def ob190 (P : Params) : Obj := { cls := Value.type "function", data := Data.func { name := Str.ofString "supers", qualname := Str.ofString "Signatures.supers", params := fArgs (inAt 7 12), body := FuncBody.stmts (fBody (inAt 7 12)), scope := fScope (inAt 7 12), globals := 3, closure := [], defaults := Value.none, kwdefaults := Value.none, pyModule := Value.str (Str.ofString "relfinder.sigs") 285, code := Value.ref 183 } }
noncomputable def ob254 (P : Params) : Obj := { cls := Value.type "tuple", data := Data.seq #[] }
noncomputable def ob96 (P : Params) : Obj := { cls := Value.none, data := Data.fields #[Value.int 1 0, Value.int 0 0, Value.ref 20, Value.int 5 0, Value.int 0 0, Value.ref 28, Value.int 13 0, Value.int 0 0, Value.ref 57, Value.int 21 0, Value.int 0 0, Value.ref 84, Value.int 25 0, Value.int 0 0, Value.ref 96] }
noncomputable def ob138 (P : Params) : Obj := { cls := Value.none, data := Data.fields #[] }
noncomputable def ob266 (P : Params) : Obj := { cls := Value.type "super", data := Data.fields #[Value.ref 257, Value.ref 257, Value.ref 257] }
noncomputable def ob202 (P : Params) : Obj := { cls := Value.none, data := Data.func { name := Str.ofString "children", qualname := Str.ofString "Signatures.children", params := fArgs (inAt 7 14), body := FuncBody.stmts (fBody (inAt 7 14)), scope := fScope (inAt 7 14), globals := 0, closure := [], defaults := Value.none, kwdefaults := Value.none } }
noncomputable def ob106 (P : Params) : Obj := { cls := Value.type "tuple", data := Data.seq #[Value.str (Str.ofString "self") 304, Value.str (Str.ofString "items") 305, Value.str (Str.ofString "item") 306, Value.str (Str.ofString "name") 307] }
noncomputable def ob170 (P : Params) : Obj := { cls := Value.type "tuple", data := Data.seq #[] }
noncomputable def ob234 (P : Params) : Obj := { cls := Value.none, data := Data.fields #[] }
noncomputable def ob154 (P : Params) : Obj := { cls := Value.type "code", data := Data.fields #[Value.str (Str.ofString "take_order") 374, Value.str (Str.ofString "Signatures.take_order") 375, Value.str (Str.ofString "/claim/cut.py") 376, Value.int 91 0, Value.int 2 0, Value.int 0 0, Value.int 0 0, Value.int 3 0, Value.ref 145, Value.bool true, Value.int 181 0, Value.ref 146, Value.none, Value.none, Value.none, Value.ref 147, Value.int 377 0, Value.int 91 0, Value.str (Str.ofString "/claim/cut.py") 378] }
noncomputable def ob218 (P : Params) : Obj := { cls := Value.type "function", data := Data.func { name := Str.ofString "top", qualname := Str.ofString "Signatures.top", params := fArgs (inAt 7 16), body := FuncBody.stmts (fBody (inAt 7 16)), scope := fScope (inAt 7 16), globals := 3, closure := [], defaults := Value.none, kwdefaults := Value.none, pyModule := Value.str (Str.ofString "relfinder.sigs") 285, code := Value.ref 211 } }
noncomputable def ob122 (P : Params) : Obj := { cls := Value.none, data := Data.func { name := Str.ofString "look_above", qualname := Str.ofString "Signatures.look_above", params := fArgs (inAt 7 2), body := FuncBody.stmts (fBody (inAt 7 2)), scope := fScope (inAt 7 2), globals := 0, closure := [], defaults := Value.none, kwdefaults := Value.none } }
noncomputable def ob186 (P : Params) : Obj := { cls := Value.type "tuple", data := Data.seq #[Value.str (Str.ofString "self") 414, Value.str (Str.ofString "name") 415] }
noncomputable def ob250 (P : Params) : Obj := { cls := Value.type "tuple", data := Data.seq #[] }
noncomputable def ob146 (P : Params) : Obj := { cls := Value.type "tuple", data := Data.seq #[Value.str (Str.ofString "self") 362, Value.str (Str.ofString "seen") 363, Value.str (Str.ofString "field") 364, Value.str (Str.ofString "name") 365, Value.str (Str.ofString "mult") 366, Value.str (Str.ofString "node") 367, Value.str (Str.ofString "spot") 368, Value.str (Str.ofString "group") 369, Value.str (Str.ofString "other") 370] }
noncomputable def ob210 (P : Params) : Obj := { cls := Value.type "code", data := Data.fields #[Value.str (Str.ofString "above") 435, Value.str (Str.ofString "Signatures.above") 436, Value.str (Str.ofString "/claim/cut.py") 437, Value.int 123 0, Value.int 2 0, Value.int 0 0, Value.int 0 0, Value.int 3 0, Value.ref 199, Value.bool true, Value.int 181 0, Value.ref 200, Value.none, Value.ref 201, Value.ref 202, Value.ref 203, Value.int 441 0, Value.int 123 0, Value.str (Str.ofString "/claim/cut.py") 442] }
noncomputable def ob114 (P : Params) : Obj := { cls := Value.type "tuple", data := Data.seq #[] }
noncomputable def ob178 (P : Params) : Obj := { cls := Value.none, data := Data.fields #[] }
noncomputable def ob242 (P : Params) : Obj := { cls := Value.type "tuple", data := Data.seq #[Value.str (Str.ofString "self") 482] }
noncomputable def ob98 (P : Params) : Obj := { cls := Value.type "builtin_function_or_method", data := Data.fields #[Value.builtin "type.__prepare__", Value.type "type"] }
noncomputable def ob162 (P : Params) : Obj := { cls := Value.type "function", data := Data.func { name := Str.ofString "names", qualname := Str.ofString "Signatures.names", params := fArgs (inAt 7 8), body := FuncBody.stmts (fBody (inAt 7 8)), scope := fScope (inAt 7 8), globals := 3, closure := [], defaults := Value.none, kwdefaults := Value.none, pyModule := Value.str (Str.ofString "relfinder.sigs") 285, code := Value.ref 155 } }
noncomputable def ob226 (P : Params) : Obj := { cls := Value.type "tuple", data := Data.seq #[] }
noncomputable def ob130 (P : Params) : Obj := { cls := Value.type "code", data := Data.fields #[Value.str (Str.ofString "direct") 329, Value.str (Str.ofString "Signatures.direct") 330, Value.str (Str.ofString "/claim/cut.py") 331, Value.int 59 0, Value.int 2 0, Value.int 0 0, Value.int 0 0, Value.int 3 0, Value.ref 119, Value.bool true, Value.int 181 0, Value.ref 120, Value.none, Value.ref 121, Value.ref 122, Value.ref 123, Value.int 334 0, Value.int 59 0, Value.str (Str.ofString "/claim/cut.py") 335] }
noncomputable def ob194 (P : Params) : Obj := { cls := Value.type "tuple", data := Data.seq #[] }
noncomputable def ob258 (P : Params) : Obj := { cls := Value.none, data := Data.func { name := Str.ofString "orders", qualname := Str.ofString "Signatures.orders", params := fArgs (inAt 7 22), body := FuncBody.stmts (fBody (inAt 7 22)), scope := fScope (inAt 7 22), globals := 0, closure := [], defaults := Value.none, kwdefaults := Value.none } }
noncomputable def ob136 (P : Params) : Obj := { cls := Value.type "function", data := Data.func { name := Str.ofString "parents_first", qualname := Str.ofString "Signatures.parents_first", params := fArgs (inAt 7 4), body := FuncBody.stmts (fBody (inAt 7 4)), scope := fScope (inAt 7 4), globals := 3, closure := [], defaults := Value.none, kwdefaults := Value.none, pyModule := Value.str (Str.ofString "relfinder.sigs") 285, code := Value.ref 129 } }
noncomputable def ob264 (P : Params) : Obj := { cls := Value.type "getset_descriptor", data := Data.fields #[Value.str (Str.ofString "__dict__") 507, Value.ref 257, Value.builtin "function.__dict__", Value.builtin "function.__dict__#set"] }
noncomputable def ob200 (P : Params) : Obj := { cls := Value.type "tuple", data := Data.seq #[Value.str (Str.ofString "self") 430, Value.str (Str.ofString "name") 431] }
noncomputable def ob104 (P : Params) : Obj := { cls := Value.type "tuple", data := Data.seq #[] }
noncomputable def ob168 (P : Params) : Obj := { cls := Value.type "code", data := Data.fields #[Value.str (Str.ofString "has") 387, Value.str (Str.ofString "Signatures.has") 388, Value.str (Str.ofString "/claim/cut.py") 389, Value.int 105 0, Value.int 2 0, Value.int 0 0, Value.int 0 0, Value.int 3 0, Value.ref 157, Value.bool true, Value.int 181 0, Value.ref 158, Value.none, Value.ref 159, Value.ref 160, Value.ref 161, Value.int 392 0, Value.int 105 0, Value.str (Str.ofString "/claim/cut.py") 393] }
noncomputable def ob232 (P : Params) : Obj := { cls := Value.type "function", data := Data.func { name := Str.ofString "is_abstract", qualname := Str.ofString "Signatures.is_abstract", params := fArgs (inAt 7 18), body := FuncBody.stmts (fBody (inAt 7 18)), scope := fScope (inAt 7 18), globals := 3, closure := [], defaults := Value.none, kwdefaults := Value.none, pyModule := Value.str (Str.ofString "relfinder.sigs") 285, code := Value.ref 225 } }
noncomputable def ob152 (P : Params) : Obj := { cls := Value.none, data := Data.fields #[] }
noncomputable def ob216 (P : Params) : Obj := { cls := Value.none, data := Data.func { name := Str.ofString "top", qualname := Str.ofString "Signatures.top", params := fArgs (inAt 7 16), body := FuncBody.stmts (fBody (inAt 7 16)), scope := fScope (inAt 7 16), globals := 0, closure := [], defaults := Value.none, kwdefaults := Value.none } }
noncomputable def ob120 (P : Params) : Obj := { cls := Value.type "tuple", data := Data.seq #[Value.str (Str.ofString "self") 323, Value.str (Str.ofString "name") 324, Value.str (Str.ofString "other") 325] }
noncomputable def ob184 (P : Params) : Obj := { cls := Value.type "tuple", data := Data.seq #[] }
noncomputable def ob248 (P : Params) : Obj := { cls := Value.none, data := Data.fields #[] }
noncomputable def ob144 (P : Params) : Obj := { cls := Value.type "tuple", data := Data.seq #[] }
noncomputable def ob208 (P : Params) : Obj := { cls := Value.type "tuple", data := Data.seq #[] }
noncomputable def ob112 (P : Params) : Obj := { cls := Value.none, data := Data.fields #[] }
noncomputable def ob176 (P : Params) : Obj := { cls := Value.type "function", data := Data.func { name := Str.ofString "spot", qualname := Str.ofString "Signatures.spot", params := fArgs (inAt 7 10), body := FuncBody.stmts (fBody (inAt 7 10)), scope := fScope (inAt 7 10), globals := 3, closure := [], defaults := Value.none, kwdefaults := Value.none, pyModule := Value.str (Str.ofString "relfinder.sigs") 285, code := Value.ref 169 } }
noncomputable def ob240 (P : Params) : Obj := { cls := Value.type "tuple", data := Data.seq #[] }
noncomputable def ob160 (P : Params) : Obj := { cls := Value.none, data := Data.func { name := Str.ofString "names", qualname := Str.ofString "Signatures.names", params := fArgs (inAt 7 8), body := FuncBody.stmts (fBody (inAt 7 8)), scope := fScope (inAt 7 8), globals := 0, closure := [], defaults := Value.none, kwdefaults := Value.none } }
noncomputable def ob224 (P : Params) : Obj := { cls := Value.type "code", data := Data.fields #[Value.str (Str.ofString "all_above") 452, Value.str (Str.ofString "Signatures.all_above") 453, Value.str (Str.ofString "/claim/cut.py") 454, Value.int 133 0, Value.int 2 0, Value.int 0 0, Value.int 0 0, Value.int 3 0, Value.ref 213, Value.bool true, Value.int 181 0, Value.ref 214, Value.none, Value.ref 215, Value.ref 216, Value.ref 217, Value.int 460 0, Value.int 133 0, Value.str (Str.ofString "/claim/cut.py") 461] }
noncomputable def ob128 (P : Params) : Obj := { cls := Value.type "tuple", data := Data.seq #[] }
noncomputable def ob192 (P : Params) : Obj := { cls := Value.none, data := Data.fields #[] }
noncomputable def ob256 (P : Params) : Obj := { cls := Value.type "tuple", data := Data.seq #[Value.str (Str.ofString "self") 497] }
noncomputable def ob140 (P : Params) : Obj := { cls := Value.type "tuple", data := Data.seq #[] }
noncomputable def ob204 (P : Params) : Obj := { cls := Value.type "function", data := Data.func { name := Str.ofString "children", qualname := Str.ofString "Signatures.children", params := fArgs (inAt 7 14), body := FuncBody.stmts (fBody (inAt 7 14)), scope := fScope (inAt 7 14), globals := 3, closure := [], defaults := Value.none, kwdefaults := Value.none, pyModule := Value.str (Str.ofString "relfinder.sigs") 285, code := Value.ref 197 } }
noncomputable def ob108 (P : Params) : Obj := { cls := Value.none, data := Data.func { name := Str.ofString "__init__", qualname := Str.ofString "Signatures.__init__", params := fArgs (inAt 7 0), body := FuncBody.stmts (fBody (inAt 7 0)), scope := fScope (inAt 7 0), globals := 0, closure := [], defaults := Value.none, kwdefaults := Value.none } }
noncomputable def ob172 (P : Params) : Obj := { cls := Value.type "tuple", data := Data.seq #[Value.str (Str.ofString "self") 398, Value.str (Str.ofString "name") 399] }
noncomputable def ob236 (P : Params) : Obj := { cls := Value.type "tuple", data := Data.seq #[] }
noncomputable def ob156 (P : Params) : Obj := { cls := Value.type "tuple", data := Data.seq #[] }
noncomputable def ob220 (P : Params) : Obj := { cls := Value.none, data := Data.fields #[] }
noncomputable def ob124 (P : Params) : Obj := { cls := Value.type "function", data := Data.func { name := Str.ofString "look_above", qualname := Str.ofString "Signatures.look_above", params := fArgs (inAt 7 2), body := FuncBody.stmts (fBody (inAt 7 2)), scope := fScope (inAt 7 2), globals := 3, closure := [], defaults := Value.none, kwdefaults := Value.none, pyModule := Value.str (Str.ofString "relfinder.sigs") 285, code := Value.ref 117 } }
noncomputable def ob188 (P : Params) : Obj := { cls := Value.none, data := Data.func { name := Str.ofString "supers", qualname := Str.ofString "Signatures.supers", params := fArgs (inAt 7 12), body := FuncBody.stmts (fBody (inAt 7 12)), scope := fScope (inAt 7 12), globals := 0, closure := [], defaults := Value.none, kwdefaults := Value.none } }
noncomputable def ob252 (P : Params) : Obj := { cls := Value.type "code", data := Data.fields #[Value.str (Str.ofString "facts") 486, Value.str (Str.ofString "Signatures.facts") 487, Value.str (Str.ofString "/claim/cut.py") 488, Value.int 151 0, Value.int 2 0, Value.int 0 0, Value.int 0 0, Value.int 3 0, Value.ref 241, Value.bool true, Value.int 181 0, Value.ref 242, Value.none, Value.ref 243, Value.ref 244, Value.ref 245, Value.int 491 0, Value.int 151 0, Value.str (Str.ofString "/claim/cut.py") 492] }
noncomputable def ob148 (P : Params) : Obj := { cls := Value.none, data := Data.func { name := Str.ofString "look_fields", qualname := Str.ofString "Signatures.look_fields", params := fArgs (inAt 7 6), body := FuncBody.stmts (fBody (inAt 7 6)), scope := fScope (inAt 7 6), globals := 0, closure := [], defaults := Value.none, kwdefaults := Value.none } }
noncomputable def ob212 (P : Params) : Obj := { cls := Value.type "tuple", data := Data.seq #[] }
noncomputable def ob116 (P : Params) : Obj := { cls := Value.type "code", data := Data.fields #[Value.str (Str.ofString "take_sig") 311, Value.str (Str.ofString "Signatures.take_sig") 312, Value.str (Str.ofString "/claim/cut.py") 313, Value.int 43 0, Value.int 2 0, Value.int 0 0, Value.int 0 0, Value.int 3 0, Value.ref 105, Value.bool true, Value.int 181 0, Value.ref 106, Value.none, Value.ref 107, Value.ref 108, Value.ref 109, Value.int 317 0, Value.int 43 0, Value.str (Str.ofString "/claim/cut.py") 318] }
noncomputable def ob180 (P : Params) : Obj := { cls := Value.type "tuple", data := Data.seq #[] }
noncomputable def ob244 (P : Params) : Obj := { cls := Value.none, data := Data.func { name := Str.ofString "fields", qualname := Str.ofString "Signatures.fields", params := fArgs (inAt 7 20), body := FuncBody.stmts (fBody (inAt 7 20)), scope := fScope (inAt 7 20), globals := 0, closure := [], defaults := Value.none, kwdefaults := Value.none } }
noncomputable def ob100 (P : Params) : Obj := { cls := Value.type "tuple", data := Data.seq #[] }
noncomputable def ob164 (P : Params) : Obj := { cls := Value.none, data := Data.fields #[] }
noncomputable def ob228 (P : Params) : Obj := { cls := Value.type "tuple", data := Data.seq #[Value.str (Str.ofString "self") 466, Value.str (Str.ofString "name") 467] }
noncomputable def ob132 (P : Params) : Obj := { cls := Value.type "tuple", data := Data.seq #[] }
noncomputable def ob196 (P : Params) : Obj := { cls := Value.type "code", data := Data.fields #[Value.str (Str.ofString "is_subset") 419, Value.str (Str.ofString "Signatures.is_subset") 420, Value.str (Str.ofString "/claim/cut.py") 421, Value.int 117 0, Value.int 2 0, Value.int 0 0, Value.int 0 0, Value.int 3 0, Value.ref 185, Value.bool true, Value.int 181 0, Value.ref 186, Value.none, Value.ref 187, Value.ref 188, Value.ref 189, Value.int 424 0, Value.int 117 0, Value.str (Str.ofString "/claim/cut.py") 425] }
noncomputable def ob260 (P : Params) : Obj := { cls := Value.type "function", data := Data.func { name := Str.ofString "orders", qualname := Str.ofString "Signatures.orders", params := fArgs (inAt 7 22), body := FuncBody.stmts (fBody (inAt 7 22)), scope := fScope (inAt 7 22), globals := 3, closure := [], defaults := Value.none, kwdefaults := Value.none, pyModule := Value.str (Str.ofString "relfinder.sigs") 285, code := Value.ref 253 } }
noncomputable def tr267 (P : Params) : BT := BT.node (boot_o_0 P) (BT.node (boot_o_1 P) (BT.node (ob95 P) (BT.node (boot_o_7 P) (BT.node (ob13 P) (BT.node (ob29 P) (BT.node (ob64 P) (BT.node (ob133 P) (BT.node (ob261 P) BT.nil BT.nil) BT.nil) (BT.node (ob197 P) BT.nil BT.nil)) (BT.node (ob101 P) (BT.node (ob165 P) BT.nil BT.nil) (BT.node (ob229 P) BT.nil BT.nil))) (BT.node (ob51 P) (BT.node (ob83 P) (BT.node (ob149 P) BT.nil BT.nil) (BT.node (ob213 P) BT.nil BT.nil)) (BT.node (ob117 P) (BT.node (ob181 P) BT.nil BT.nil) (BT.node (ob245 P) BT.nil BT.nil)))) (BT.node (ob21 P) (BT.node (ob37 P) (BT.node (ob72 P) (BT.node (ob141 P) BT.nil BT.nil) (BT.node (ob205 P) BT.nil BT.nil)) (BT.node (ob109 P) (BT.node (ob173 P) BT.nil BT.nil) (BT.node (ob237 P) BT.nil BT.nil))) (BT.node (ob56 P) (BT.node (ob91 P) (BT.node (ob157 P) BT.nil BT.nil) (BT.node (ob221 P) BT.nil BT.nil)) (BT.node (ob125 P) (BT.node (ob189 P) BT.nil BT.nil) (BT.node (ob253 P) BT.nil BT.nil))))) (BT.node (ob4 P) (BT.node (ob17 P) (BT.node (ob33 P) (BT.node (ob68 P) (BT.node (ob137 P) (BT.node (ob265 P) BT.nil BT.nil) BT.nil) (BT.node (ob201 P) BT.nil BT.nil)) (BT.node (ob105 P) (BT.node (ob169 P) BT.nil BT.nil) (BT.node (ob233 P) BT.nil BT.nil))) (BT.node (ob52 P) (BT.node (ob87 P) (BT.node (ob153 P) BT.nil BT.nil) (BT.node (ob217 P) BT.nil BT.nil)) (BT.node (ob121 P) (BT.node (ob185 P) BT.nil BT.nil) (BT.node (ob249 P) BT.nil BT.nil)))) (BT.node (ob25 P) (BT.node (ob41 P) (BT.node (ob76 P) (BT.node (ob145 P) BT.nil BT.nil) (BT.node (ob209 P) BT.nil BT.nil)) (BT.node (ob113 P) (BT.node (ob177 P) BT.nil BT.nil) (BT.node (ob241 P) BT.nil BT.nil))) (BT.node (ob60 P) (BT.node (ob97 P) (BT.node (ob161 P) BT.nil BT.nil) (BT.node (ob225 P) BT.nil BT.nil)) (BT.node (ob129 P) (BT.node (ob193 P) BT.nil BT.nil) (BT.node (ob257 P) BT.nil BT.nil)))))) (BT.node (boot_o_5 P) (BT.node (boot_o_9 P) (BT.node (ob15 P) (BT.node (ob31 P) (BT.node (ob66 P) (BT.node (ob135 P) (BT.node (ob263 P) BT.nil BT.nil) BT.nil) (BT.node (ob199 P) BT.nil BT.nil)) (BT.node (ob103 P) (BT.node (ob167 P) BT.nil BT.nil) (BT.node (ob231 P) BT.nil BT.nil))) (BT.node (ob47 P) (BT.node (ob85 P) (BT.node (ob151 P) BT.nil BT.nil) (BT.node (ob215 P) BT.nil BT.nil)) (BT.node (ob119 P) (BT.node (ob183 P) BT.nil BT.nil) (BT.node (ob247 P) BT.nil BT.nil)))) (BT.node (ob23 P) (BT.node (ob39 P) (BT.node (ob74 P) (BT.node (ob143 P) BT.nil BT.nil) (BT.node (ob207 P) BT.nil BT.nil)) (BT.node (ob111 P) (BT.node (ob175 P) BT.nil BT.nil) (BT.node (ob239 P) BT.nil BT.nil))) (BT.node (ob58 P) (BT.node (ob93 P) (BT.node (ob159 P) BT.nil BT.nil) (BT.node (ob223 P) BT.nil BT.nil)) (BT.node (ob127 P) (BT.node (ob191 P) BT.nil BT.nil) (BT.node (ob255 P) BT.nil BT.nil))))) (BT.node (ob6 P) (BT.node (ob19 P) (BT.node (ob35 P) (BT.node (ob70 P) (BT.node (ob139 P) (BT.node (ob267 P) BT.nil BT.nil) BT.nil) (BT.node (ob203 P) BT.nil BT.nil)) (BT.node (ob107 P) (BT.node (ob171 P) BT.nil BT.nil) (BT.node (ob235 P) BT.nil BT.nil))) (BT.node (ob54 P) (BT.node (ob89 P) (BT.node (ob155 P) BT.nil BT.nil) (BT.node (ob219 P) BT.nil BT.nil)) (BT.node (ob123 P) (BT.node (ob187 P) BT.nil BT.nil) (BT.node (ob251 P) BT.nil BT.nil)))) (BT.node (ob27 P) (BT.node (ob43 P) (BT.node (ob78 P) (BT.node (ob147 P) BT.nil BT.nil) (BT.node (ob211 P) BT.nil BT.nil)) (BT.node (ob115 P) (BT.node (ob179 P) BT.nil BT.nil) (BT.node (ob243 P) BT.nil BT.nil))) (BT.node (ob62 P) (BT.node (ob99 P) (BT.node (ob163 P) BT.nil BT.nil) (BT.node (ob227 P) BT.nil BT.nil)) (BT.node (ob131 P) (BT.node (ob195 P) BT.nil BT.nil) (BT.node (ob259 P) BT.nil BT.nil))))))) (BT.node (ob10 P) (BT.node (boot_o_4 P) (BT.node (boot_o_8 P) (BT.node (ob14 P) (BT.node (ob30 P) (BT.node (ob65 P) (BT.node (ob134 P) (BT.node (ob262 P) BT.nil BT.nil) BT.nil) (BT.node (ob198 P) BT.nil BT.nil)) (BT.node (ob102 P) (BT.node (ob166 P) BT.nil BT.nil) (BT.node (ob230 P) BT.nil BT.nil))) (BT.node (ob46 P) (BT.node (ob84 P) (BT.node (ob150 P) BT.nil BT.nil) (BT.node (ob214 P) BT.nil BT.nil)) (BT.node (ob118 P) (BT.node (ob182 P) BT.nil BT.nil) (BT.node (ob246 P) BT.nil BT.nil)))) (BT.node (ob22 P) (BT.node (ob38 P) (BT.node (ob73 P) (BT.node (ob142 P) BT.nil BT.nil) (BT.node (ob206 P) BT.nil BT.nil)) (BT.node (ob110 P) (BT.node (ob174 P) BT.nil BT.nil) (BT.node (ob238 P) BT.nil BT.nil))) (BT.node (ob57 P) (BT.node (ob92 P) (BT.node (ob158 P) BT.nil BT.nil) (BT.node (ob222 P) BT.nil BT.nil)) (BT.node (ob126 P) (BT.node (ob190 P) BT.nil BT.nil) (BT.node (ob254 P) BT.nil BT.nil))))) (BT.node (ob96 P) (BT.node (ob18 P) (BT.node (ob34 P) (BT.node (ob69 P) (BT.node (ob138 P) (BT.node (ob266 P) BT.nil BT.nil) BT.nil) (BT.node (ob202 P) BT.nil BT.nil)) (BT.node (ob106 P) (BT.node (ob170 P) BT.nil BT.nil) (BT.node (ob234 P) BT.nil BT.nil))) (BT.node (ob53 P) (BT.node (ob88 P) (BT.node (ob154 P) BT.nil BT.nil) (BT.node (ob218 P) BT.nil BT.nil)) (BT.node (ob122 P) (BT.node (ob186 P) BT.nil BT.nil) (BT.node (ob250 P) BT.nil BT.nil)))) (BT.node (ob26 P) (BT.node (ob42 P) (BT.node (ob82 P) (BT.node (ob146 P) BT.nil BT.nil) (BT.node (ob210 P) BT.nil BT.nil)) (BT.node (ob114 P) (BT.node (ob178 P) BT.nil BT.nil) (BT.node (ob242 P) BT.nil BT.nil))) (BT.node (ob61 P) (BT.node (ob98 P) (BT.node (ob162 P) BT.nil BT.nil) (BT.node (ob226 P) BT.nil BT.nil)) (BT.node (ob130 P) (BT.node (ob194 P) BT.nil BT.nil) (BT.node (ob258 P) BT.nil BT.nil)))))) (BT.node (boot_o_6 P) (BT.node (boot_o_10 P) (BT.node (ob16 P) (BT.node (ob32 P) (BT.node (ob67 P) (BT.node (ob136 P) (BT.node (ob264 P) BT.nil BT.nil) BT.nil) (BT.node (ob200 P) BT.nil BT.nil)) (BT.node (ob104 P) (BT.node (ob168 P) BT.nil BT.nil) (BT.node (ob232 P) BT.nil BT.nil))) (BT.node (ob48 P) (BT.node (ob86 P) (BT.node (ob152 P) BT.nil BT.nil) (BT.node (ob216 P) BT.nil BT.nil)) (BT.node (ob120 P) (BT.node (ob184 P) BT.nil BT.nil) (BT.node (ob248 P) BT.nil BT.nil)))) (BT.node (ob24 P) (BT.node (ob40 P) (BT.node (ob75 P) (BT.node (ob144 P) BT.nil BT.nil) (BT.node (ob208 P) BT.nil BT.nil)) (BT.node (ob112 P) (BT.node (ob176 P) BT.nil BT.nil) (BT.node (ob240 P) BT.nil BT.nil))) (BT.node (ob59 P) (BT.node (ob94 P) (BT.node (ob160 P) BT.nil BT.nil) (BT.node (ob224 P) BT.nil BT.nil)) (BT.node (ob128 P) (BT.node (ob192 P) BT.nil BT.nil) (BT.node (ob256 P) BT.nil BT.nil))))) (BT.node (ob7 P) (BT.node (ob20 P) (BT.node (ob36 P) (BT.node (ob71 P) (BT.node (ob140 P) BT.nil BT.nil) (BT.node (ob204 P) BT.nil BT.nil)) (BT.node (ob108 P) (BT.node (ob172 P) BT.nil BT.nil) (BT.node (ob236 P) BT.nil BT.nil))) (BT.node (ob55 P) (BT.node (ob90 P) (BT.node (ob156 P) BT.nil BT.nil) (BT.node (ob220 P) BT.nil BT.nil)) (BT.node (ob124 P) (BT.node (ob188 P) BT.nil BT.nil) (BT.node (ob252 P) BT.nil BT.nil)))) (BT.node (ob28 P) (BT.node (ob44 P) (BT.node (ob79 P) (BT.node (ob148 P) BT.nil BT.nil) (BT.node (ob212 P) BT.nil BT.nil)) (BT.node (ob116 P) (BT.node (ob180 P) BT.nil BT.nil) (BT.node (ob244 P) BT.nil BT.nil))) (BT.node (ob63 P) (BT.node (ob100 P) (BT.node (ob164 P) BT.nil BT.nil) (BT.node (ob228 P) BT.nil BT.nil)) (BT.node (ob132 P) (BT.node (ob196 P) BT.nil BT.nil) (BT.node (ob260 P) BT.nil BT.nil)))))))
noncomputable def ob351 (P : Params) : Obj := { cls := Value.type "dict", data := Data.dict #[{ hash := PyData.keyHash P (Str.ofString "__name__"), key := Value.str (Str.ofString "__name__") 165, val := Value.str (Str.ofString "law_rr0082_01") 514 }, { hash := PyData.keyHash P (Str.ofString "__doc__"), key := Value.str (Str.ofString "__doc__") 166, val := Value.none }, { hash := PyData.keyHash P (Str.ofString "__package__"), key := Value.str (Str.ofString "__package__") 167, val := Value.none }, { hash := PyData.keyHash P (Str.ofString "__loader__"), key := Value.str (Str.ofString "__loader__") 168, val := Value.builtin "__main__.__loader__#opaque" }, { hash := PyData.keyHash P (Str.ofString "__spec__"), key := Value.str (Str.ofString "__spec__") 169, val := Value.none }, { hash := PyData.keyHash P (Str.ofString "__annotations__"), key := Value.str (Str.ofString "__annotations__") 170, val := Value.ref 6 }, { hash := PyData.keyHash P (Str.ofString "__builtins__"), key := Value.str (Str.ofString "__builtins__") 171, val := Value.ref 4 }, { hash := PyData.keyHash P (Str.ofString "__file__"), key := Value.str (Str.ofString "__file__") 173, val := Value.str (Str.ofString "/claim/cut.py") 172 }, { hash := PyData.keyHash P (Str.ofString "__cached__"), key := Value.str (Str.ofString "__cached__") 174, val := Value.none }, { hash := PyData.keyHash P (Str.ofString "_wall"), key := Value.str (Str.ofString "_wall") 193, val := Value.ref 21 }, { hash := PyData.keyHash P (Str.ofString "FinderError"), key := Value.str (Str.ofString "FinderError") 233, val := Value.ref 47 }, { hash := PyData.keyHash P (Str.ofString "SpotFault"), key := Value.str (Str.ofString "SpotFault") 268, val := Value.ref 76 }, { hash := PyData.keyHash P (Str.ofString "KindFault"), key := Value.str (Str.ofString "KindFault") 284, val := Value.ref 88 }, { hash := PyData.keyHash P (Str.ofString "ORDERING"), key := Value.str (Str.ofString "ORDERING") 288, val := Value.str (Str.ofString "util/ordering") 287 }, { hash := PyData.keyHash P (Str.ofString "Signatures"), key := Value.str (Str.ofString "Signatures") 513, val := Value.ref 257 }, { hash := PyData.keyHash P (Str.ofString "_law_letters"), key := Value.str (Str.ofString "_law_letters") 517, val := Value.str (Str.ofString "ABCDEF") 516 }, { hash := PyData.keyHash P (Str.ofString "_law_dealt"), key := Value.str (Str.ofString "_law_dealt") 525, val := Value.ref 268 }, { hash := PyData.keyHash P (Str.ofString "_law_direct"), key := Value.str (Str.ofString "_law_direct") 531, val := Value.ref 273 }, { hash := PyData.keyHash P (Str.ofString "_law_first"), key := Value.str (Str.ofString "_law_first") 537, val := Value.ref 278 }, { hash := PyData.keyHash P (Str.ofString "_law_refused"), key := Value.str (Str.ofString "_law_refused") 545, val := Value.ref 285 }, { hash := PyData.keyHash P (Str.ofString "law"), key := Value.str (Str.ofString "law") 551, val := Value.ref 290 }] 21 }
noncomputable def ob378 (P : Params) : Obj := { cls := Value.none, data := Data.fields #[] }
noncomputable def ob362 (P : Params) : Obj := { cls := Value.none, data := Data.func { name := Str.ofString "_law_direct", qualname := Str.ofString "_law_direct", params := fArgs (topAt 11), body := FuncBody.stmts (fBody (topAt 11)), scope := fScope (topAt 11), globals := 0, closure := [], defaults := Value.none, kwdefaults := Value.none } }
noncomputable def ob354 (P : Params) : Obj := { cls := Value.none, data := Data.fields #[] }
noncomputable def ob370 (P : Params) : Obj := { cls := Value.type "tuple", data := Data.seq #[] }
noncomputable def ob366 (P : Params) : Obj := { cls := Value.none, data := Data.fields #[] }
noncomputable def ob358 (P : Params) : Obj := { cls := Value.type "code", data := Data.fields #[Value.str (Str.ofString "_law_dealt") 518, Value.str (Str.ofString "_law_dealt") 519, Value.str (Str.ofString "/claim/cut.py") 520, Value.int 158 0, Value.int 2 0, Value.int 0 0, Value.int 0 0, Value.int 3 0, Value.ref 262, Value.bool true, Value.int 181 0, Value.ref 263, Value.none, Value.ref 264, Value.ref 265, Value.ref 266, Value.int 523 0, Value.int 158 0, Value.str (Str.ofString "/claim/cut.py") 524] }
noncomputable def ob374 (P : Params) : Obj := { cls := Value.none, data := Data.func { name := Str.ofString "_law_refused", qualname := Str.ofString "_law_refused", params := fArgs (topAt 13), body := FuncBody.stmts (fBody (topAt 13)), scope := fScope (topAt 13), globals := 0, closure := [], defaults := Value.none, kwdefaults := Value.none } }
noncomputable def ob380 (P : Params) : Obj := { cls := Value.type "code", data := Data.fields #[Value.str (Str.ofString "law") 546, Value.str (Str.ofString "law") 547, Value.str (Str.ofString "/claim/cut.py") 548, Value.int 183 0, Value.int 1 0, Value.int 0 0, Value.int 0 0, Value.int 3 0, Value.ref 286, Value.bool true, Value.int 181 0, Value.ref 287, Value.none, Value.none, Value.none, Value.ref 288, Value.int 549 0, Value.int 183 0, Value.str (Str.ofString "/claim/cut.py") 550] }
noncomputable def ob364 (P : Params) : Obj := { cls := Value.type "function", data := Data.func { name := Str.ofString "_law_direct", qualname := Str.ofString "_law_direct", params := fArgs (topAt 11), body := FuncBody.stmts (fBody (topAt 11)), scope := fScope (topAt 11), globals := 3, closure := [], defaults := Value.none, kwdefaults := Value.none, pyModule := Value.str (Str.ofString "law_rr0082_01") 514, code := Value.ref 272 } }
noncomputable def ob356 (P : Params) : Obj := { cls := Value.type "tuple", data := Data.seq #[] }
noncomputable def ob372 (P : Params) : Obj := { cls := Value.type "tuple", data := Data.seq #[Value.str (Str.ofString "told") 541, Value.str (Str.ofString "fault") 542] }
noncomputable def ob368 (P : Params) : Obj := { cls := Value.type "code", data := Data.fields #[Value.str (Str.ofString "_law_first") 532, Value.str (Str.ofString "_law_first") 533, Value.str (Str.ofString "/claim/cut.py") 534, Value.int 172 0, Value.int 2 0, Value.int 0 0, Value.int 0 0, Value.int 3 0, Value.ref 274, Value.bool true, Value.int 181 0, Value.ref 275, Value.none, Value.none, Value.none, Value.ref 276, Value.int 535 0, Value.int 172 0, Value.str (Str.ofString "/claim/cut.py") 536] }
noncomputable def ob360 (P : Params) : Obj := { cls := Value.type "tuple", data := Data.seq #[] }
noncomputable def ob376 (P : Params) : Obj := { cls := Value.type "function", data := Data.func { name := Str.ofString "_law_refused", qualname := Str.ofString "_law_refused", params := fArgs (topAt 13), body := FuncBody.stmts (fBody (topAt 13)), scope := fScope (topAt 13), globals := 3, closure := [], defaults := Value.none, kwdefaults := Value.none, pyModule := Value.str (Str.ofString "law_rr0082_01") 514, code := Value.ref 284 } }
noncomputable def ob379 (P : Params) : Obj := { cls := Value.none, data := Data.func { name := Str.ofString "law", qualname := Str.ofString "law", params := fArgs (topAt 14), body := FuncBody.stmts (fBody (topAt 14)), scope := fScope (topAt 14), globals := 0, closure := [], defaults := Value.none, kwdefaults := Value.none } }
noncomputable def ob363 (P : Params) : Obj := { cls := Value.type "code", data := Data.fields #[Value.str (Str.ofString "_law_direct") 526, Value.str (Str.ofString "_law_direct") 527, Value.str (Str.ofString "/claim/cut.py") 528, Value.int 163 0, Value.int 3 0, Value.int 0 0, Value.int 0 0, Value.int 3 0, Value.ref 269, Value.bool true, Value.int 181 0, Value.ref 270, Value.none, Value.none, Value.none, Value.ref 271, Value.int 529 0, Value.int 163 0, Value.str (Str.ofString "/claim/cut.py") 530] }
noncomputable def ob355 (P : Params) : Obj := { cls := Value.type "tuple", data := Data.seq #[Value.str (Str.ofString "deck") 521, Value.str (Str.ofString "many") 522] }
noncomputable def ob371 (P : Params) : Obj := { cls := Value.none, data := Data.fields #[] }
noncomputable def ob352 (P : Params) : Obj := { cls := Value.none, data := Data.fields #[Value.int 1 0, Value.int 0 0, Value.ref 20, Value.int 5 0, Value.int 0 0, Value.ref 28, Value.int 13 0, Value.int 0 0, Value.ref 57, Value.int 21 0, Value.int 0 0, Value.ref 84, Value.int 25 0, Value.int 0 0, Value.ref 96, Value.int 158 0, Value.int 0 0, Value.ref 267, Value.int 163 0, Value.int 0 0, Value.ref 272, Value.int 172 0, Value.int 0 0, Value.ref 277, Value.int 177 0, Value.int 0 0, Value.ref 284, Value.int 183 0, Value.int 0 0, Value.ref 289] }
noncomputable def ob367 (P : Params) : Obj := { cls := Value.none, data := Data.func { name := Str.ofString "_law_first", qualname := Str.ofString "_law_first", params := fArgs (topAt 12), body := FuncBody.stmts (fBody (topAt 12)), scope := fScope (topAt 12), globals := 0, closure := [], defaults := Value.none, kwdefaults := Value.none } }
noncomputable def ob359 (P : Params) : Obj := { cls := Value.type "function", data := Data.func { name := Str.ofString "_law_dealt", qualname := Str.ofString "_law_dealt", params := fArgs (topAt 10), body := FuncBody.stmts (fBody (topAt 10)), scope := fScope (topAt 10), globals := 3, closure := [], defaults := Value.none, kwdefaults := Value.none, pyModule := Value.str (Str.ofString "law_rr0082_01") 514, code := Value.ref 267 } }
noncomputable def ob375 (P : Params) : Obj := { cls := Value.type "code", data := Data.fields #[Value.str (Str.ofString "_law_refused") 538, Value.str (Str.ofString "_law_refused") 539, Value.str (Str.ofString "/claim/cut.py") 540, Value.int 177 0, Value.int 1 0, Value.int 0 0, Value.int 0 0, Value.int 3 0, Value.ref 279, Value.bool true, Value.int 181 0, Value.ref 280, Value.none, Value.ref 281, Value.ref 282, Value.ref 283, Value.int 543 0, Value.int 177 0, Value.str (Str.ofString "/claim/cut.py") 544] }
noncomputable def ob381 (P : Params) : Obj := { cls := Value.type "function", data := Data.func { name := Str.ofString "law", qualname := Str.ofString "law", params := fArgs (topAt 14), body := FuncBody.stmts (fBody (topAt 14)), scope := fScope (topAt 14), globals := 3, closure := [], defaults := Value.none, kwdefaults := Value.none, pyModule := Value.str (Str.ofString "law_rr0082_01") 514, code := Value.ref 289 } }
noncomputable def ob365 (P : Params) : Obj := { cls := Value.type "tuple", data := Data.seq #[] }
noncomputable def ob357 (P : Params) : Obj := { cls := Value.none, data := Data.func { name := Str.ofString "_law_dealt", qualname := Str.ofString "_law_dealt", params := fArgs (topAt 10), body := FuncBody.stmts (fBody (topAt 10)), scope := fScope (topAt 10), globals := 0, closure := [], defaults := Value.none, kwdefaults := Value.none } }
noncomputable def ob373 (P : Params) : Obj := { cls := Value.type "tuple", data := Data.seq #[] }
noncomputable def ob353 (P : Params) : Obj := { cls := Value.type "tuple", data := Data.seq #[] }
noncomputable def ob369 (P : Params) : Obj := { cls := Value.type "function", data := Data.func { name := Str.ofString "_law_first", qualname := Str.ofString "_law_first", params := fArgs (topAt 12), body := FuncBody.stmts (fBody (topAt 12)), scope := fScope (topAt 12), globals := 3, closure := [], defaults := Value.none, kwdefaults := Value.none, pyModule := Value.str (Str.ofString "law_rr0082_01") 514, code := Value.ref 277 } }
noncomputable def ob361 (P : Params) : Obj := { cls := Value.none, data := Data.fields #[] }
noncomputable def ob377 (P : Params) : Obj := { cls := Value.type "tuple", data := Data.seq #[] }
noncomputable def tr381 (P : Params) : BT := BT.node (boot_o_0 P) (BT.node (boot_o_1 P) (BT.node (ob351 P) (BT.node (boot_o_7 P) (BT.node (ob13 P) (BT.node (ob29 P) (BT.node (ob64 P) (BT.node (ob133 P) (BT.node (ob261 P) BT.nil BT.nil) BT.nil) (BT.node (ob197 P) BT.nil BT.nil)) (BT.node (ob101 P) (BT.node (ob165 P) (BT.node (ob378 P) BT.nil BT.nil) BT.nil) (BT.node (ob229 P) BT.nil BT.nil))) (BT.node (ob51 P) (BT.node (ob83 P) (BT.node (ob149 P) (BT.node (ob362 P) BT.nil BT.nil) BT.nil) (BT.node (ob213 P) BT.nil BT.nil)) (BT.node (ob117 P) (BT.node (ob181 P) BT.nil BT.nil) (BT.node (ob245 P) BT.nil BT.nil)))) (BT.node (ob21 P) (BT.node (ob37 P) (BT.node (ob72 P) (BT.node (ob141 P) (BT.node (ob354 P) BT.nil BT.nil) BT.nil) (BT.node (ob205 P) BT.nil BT.nil)) (BT.node (ob109 P) (BT.node (ob173 P) BT.nil BT.nil) (BT.node (ob237 P) BT.nil BT.nil))) (BT.node (ob56 P) (BT.node (ob91 P) (BT.node (ob157 P) (BT.node (ob370 P) BT.nil BT.nil) BT.nil) (BT.node (ob221 P) BT.nil BT.nil)) (BT.node (ob125 P) (BT.node (ob189 P) BT.nil BT.nil) (BT.node (ob253 P) BT.nil BT.nil))))) (BT.node (ob4 P) (BT.node (ob17 P) (BT.node (ob33 P) (BT.node (ob68 P) (BT.node (ob137 P) (BT.node (ob265 P) BT.nil BT.nil) BT.nil) (BT.node (ob201 P) BT.nil BT.nil)) (BT.node (ob105 P) (BT.node (ob169 P) BT.nil BT.nil) (BT.node (ob233 P) BT.nil BT.nil))) (BT.node (ob52 P) (BT.node (ob87 P) (BT.node (ob153 P) (BT.node (ob366 P) BT.nil BT.nil) BT.nil) (BT.node (ob217 P) BT.nil BT.nil)) (BT.node (ob121 P) (BT.node (ob185 P) BT.nil BT.nil) (BT.node (ob249 P) BT.nil BT.nil)))) (BT.node (ob25 P) (BT.node (ob41 P) (BT.node (ob76 P) (BT.node (ob145 P) (BT.node (ob358 P) BT.nil BT.nil) BT.nil) (BT.node (ob209 P) BT.nil BT.nil)) (BT.node (ob113 P) (BT.node (ob177 P) BT.nil BT.nil) (BT.node (ob241 P) BT.nil BT.nil))) (BT.node (ob60 P) (BT.node (ob97 P) (BT.node (ob161 P) (BT.node (ob374 P) BT.nil BT.nil) BT.nil) (BT.node (ob225 P) BT.nil BT.nil)) (BT.node (ob129 P) (BT.node (ob193 P) BT.nil BT.nil) (BT.node (ob257 P) BT.nil BT.nil)))))) (BT.node (boot_o_5 P) (BT.node (boot_o_9 P) (BT.node (ob15 P) (BT.node (ob31 P) (BT.node (ob66 P) (BT.node (ob135 P) (BT.node (ob263 P) BT.nil BT.nil) BT.nil) (BT.node (ob199 P) BT.nil BT.nil)) (BT.node (ob103 P) (BT.node (ob167 P) (BT.node (ob380 P) BT.nil BT.nil) BT.nil) (BT.node (ob231 P) BT.nil BT.nil))) (BT.node (ob47 P) (BT.node (ob85 P) (BT.node (ob151 P) (BT.node (ob364 P) BT.nil BT.nil) BT.nil) (BT.node (ob215 P) BT.nil BT.nil)) (BT.node (ob119 P) (BT.node (ob183 P) BT.nil BT.nil) (BT.node (ob247 P) BT.nil BT.nil)))) (BT.node (ob23 P) (BT.node (ob39 P) (BT.node (ob74 P) (BT.node (ob143 P) (BT.node (ob356 P) BT.nil BT.nil) BT.nil) (BT.node (ob207 P) BT.nil BT.nil)) (BT.node (ob111 P) (BT.node (ob175 P) BT.nil BT.nil) (BT.node (ob239 P) BT.nil BT.nil))) (BT.node (ob58 P) (BT.node (ob93 P) (BT.node (ob159 P) (BT.node (ob372 P) BT.nil BT.nil) BT.nil) (BT.node (ob223 P) BT.nil BT.nil)) (BT.node (ob127 P) (BT.node (ob191 P) BT.nil BT.nil) (BT.node (ob255 P) BT.nil BT.nil))))) (BT.node (ob6 P) (BT.node (ob19 P) (BT.node (ob35 P) (BT.node (ob70 P) (BT.node (ob139 P) (BT.node (ob267 P) BT.nil BT.nil) BT.nil) (BT.node (ob203 P) BT.nil BT.nil)) (BT.node (ob107 P) (BT.node (ob171 P) BT.nil BT.nil) (BT.node (ob235 P) BT.nil BT.nil))) (BT.node (ob54 P) (BT.node (ob89 P) (BT.node (ob155 P) (BT.node (ob368 P) BT.nil BT.nil) BT.nil) (BT.node (ob219 P) BT.nil BT.nil)) (BT.node (ob123 P) (BT.node (ob187 P) BT.nil BT.nil) (BT.node (ob251 P) BT.nil BT.nil)))) (BT.node (ob27 P) (BT.node (ob43 P) (BT.node (ob78 P) (BT.node (ob147 P) (BT.node (ob360 P) BT.nil BT.nil) BT.nil) (BT.node (ob211 P) BT.nil BT.nil)) (BT.node (ob115 P) (BT.node (ob179 P) BT.nil BT.nil) (BT.node (ob243 P) BT.nil BT.nil))) (BT.node (ob62 P) (BT.node (ob99 P) (BT.node (ob163 P) (BT.node (ob376 P) BT.nil BT.nil) BT.nil) (BT.node (ob227 P) BT.nil BT.nil)) (BT.node (ob131 P) (BT.node (ob195 P) BT.nil BT.nil) (BT.node (ob259 P) BT.nil BT.nil))))))) (BT.node (ob10 P) (BT.node (boot_o_4 P) (BT.node (boot_o_8 P) (BT.node (ob14 P) (BT.node (ob30 P) (BT.node (ob65 P) (BT.node (ob134 P) (BT.node (ob262 P) BT.nil BT.nil) BT.nil) (BT.node (ob198 P) BT.nil BT.nil)) (BT.node (ob102 P) (BT.node (ob166 P) (BT.node (ob379 P) BT.nil BT.nil) BT.nil) (BT.node (ob230 P) BT.nil BT.nil))) (BT.node (ob46 P) (BT.node (ob84 P) (BT.node (ob150 P) (BT.node (ob363 P) BT.nil BT.nil) BT.nil) (BT.node (ob214 P) BT.nil BT.nil)) (BT.node (ob118 P) (BT.node (ob182 P) BT.nil BT.nil) (BT.node (ob246 P) BT.nil BT.nil)))) (BT.node (ob22 P) (BT.node (ob38 P) (BT.node (ob73 P) (BT.node (ob142 P) (BT.node (ob355 P) BT.nil BT.nil) BT.nil) (BT.node (ob206 P) BT.nil BT.nil)) (BT.node (ob110 P) (BT.node (ob174 P) BT.nil BT.nil) (BT.node (ob238 P) BT.nil BT.nil))) (BT.node (ob57 P) (BT.node (ob92 P) (BT.node (ob158 P) (BT.node (ob371 P) BT.nil BT.nil) BT.nil) (BT.node (ob222 P) BT.nil BT.nil)) (BT.node (ob126 P) (BT.node (ob190 P) BT.nil BT.nil) (BT.node (ob254 P) BT.nil BT.nil))))) (BT.node (ob352 P) (BT.node (ob18 P) (BT.node (ob34 P) (BT.node (ob69 P) (BT.node (ob138 P) (BT.node (ob266 P) BT.nil BT.nil) BT.nil) (BT.node (ob202 P) BT.nil BT.nil)) (BT.node (ob106 P) (BT.node (ob170 P) BT.nil BT.nil) (BT.node (ob234 P) BT.nil BT.nil))) (BT.node (ob53 P) (BT.node (ob88 P) (BT.node (ob154 P) (BT.node (ob367 P) BT.nil BT.nil) BT.nil) (BT.node (ob218 P) BT.nil BT.nil)) (BT.node (ob122 P) (BT.node (ob186 P) BT.nil BT.nil) (BT.node (ob250 P) BT.nil BT.nil)))) (BT.node (ob26 P) (BT.node (ob42 P) (BT.node (ob82 P) (BT.node (ob146 P) (BT.node (ob359 P) BT.nil BT.nil) BT.nil) (BT.node (ob210 P) BT.nil BT.nil)) (BT.node (ob114 P) (BT.node (ob178 P) BT.nil BT.nil) (BT.node (ob242 P) BT.nil BT.nil))) (BT.node (ob61 P) (BT.node (ob98 P) (BT.node (ob162 P) (BT.node (ob375 P) BT.nil BT.nil) BT.nil) (BT.node (ob226 P) BT.nil BT.nil)) (BT.node (ob130 P) (BT.node (ob194 P) BT.nil BT.nil) (BT.node (ob258 P) BT.nil BT.nil)))))) (BT.node (boot_o_6 P) (BT.node (boot_o_10 P) (BT.node (ob16 P) (BT.node (ob32 P) (BT.node (ob67 P) (BT.node (ob136 P) (BT.node (ob264 P) BT.nil BT.nil) BT.nil) (BT.node (ob200 P) BT.nil BT.nil)) (BT.node (ob104 P) (BT.node (ob168 P) (BT.node (ob381 P) BT.nil BT.nil) BT.nil) (BT.node (ob232 P) BT.nil BT.nil))) (BT.node (ob48 P) (BT.node (ob86 P) (BT.node (ob152 P) (BT.node (ob365 P) BT.nil BT.nil) BT.nil) (BT.node (ob216 P) BT.nil BT.nil)) (BT.node (ob120 P) (BT.node (ob184 P) BT.nil BT.nil) (BT.node (ob248 P) BT.nil BT.nil)))) (BT.node (ob24 P) (BT.node (ob40 P) (BT.node (ob75 P) (BT.node (ob144 P) (BT.node (ob357 P) BT.nil BT.nil) BT.nil) (BT.node (ob208 P) BT.nil BT.nil)) (BT.node (ob112 P) (BT.node (ob176 P) BT.nil BT.nil) (BT.node (ob240 P) BT.nil BT.nil))) (BT.node (ob59 P) (BT.node (ob94 P) (BT.node (ob160 P) (BT.node (ob373 P) BT.nil BT.nil) BT.nil) (BT.node (ob224 P) BT.nil BT.nil)) (BT.node (ob128 P) (BT.node (ob192 P) BT.nil BT.nil) (BT.node (ob256 P) BT.nil BT.nil))))) (BT.node (ob7 P) (BT.node (ob20 P) (BT.node (ob36 P) (BT.node (ob71 P) (BT.node (ob140 P) (BT.node (ob353 P) BT.nil BT.nil) BT.nil) (BT.node (ob204 P) BT.nil BT.nil)) (BT.node (ob108 P) (BT.node (ob172 P) BT.nil BT.nil) (BT.node (ob236 P) BT.nil BT.nil))) (BT.node (ob55 P) (BT.node (ob90 P) (BT.node (ob156 P) (BT.node (ob369 P) BT.nil BT.nil) BT.nil) (BT.node (ob220 P) BT.nil BT.nil)) (BT.node (ob124 P) (BT.node (ob188 P) BT.nil BT.nil) (BT.node (ob252 P) BT.nil BT.nil)))) (BT.node (ob28 P) (BT.node (ob44 P) (BT.node (ob79 P) (BT.node (ob148 P) (BT.node (ob361 P) BT.nil BT.nil) BT.nil) (BT.node (ob212 P) BT.nil BT.nil)) (BT.node (ob116 P) (BT.node (ob180 P) BT.nil BT.nil) (BT.node (ob244 P) BT.nil BT.nil))) (BT.node (ob63 P) (BT.node (ob100 P) (BT.node (ob164 P) (BT.node (ob377 P) BT.nil BT.nil) BT.nil) (BT.node (ob228 P) BT.nil BT.nil)) (BT.node (ob132 P) (BT.node (ob196 P) BT.nil BT.nil) (BT.node (ob260 P) BT.nil BT.nil)))))))
noncomputable def hp382 (P : Params) : Heap := { objs := { toList := [boot_o_0 P, boot_o_1 P, ob10 P, ob351 P, boot_o_4 P, boot_o_5 P, boot_o_6 P, boot_o_7 P, boot_o_8 P, boot_o_9 P, boot_o_10 P, ob4 P, ob352 P, ob6 P, ob7 P, ob13 P, ob14 P, ob15 P, ob16 P, ob17 P, ob18 P, ob19 P, ob20 P, ob21 P, ob22 P, ob23 P, ob24 P, ob25 P, ob26 P, ob27 P, ob28 P, ob29 P, ob30 P, ob31 P, ob32 P, ob33 P, ob34 P, ob35 P, ob36 P, ob37 P, ob38 P, ob39 P, ob40 P, ob41 P, ob42 P, ob43 P, ob44 P, ob51 P, ob46 P, ob47 P, ob48 P, ob52 P, ob53 P, ob54 P, ob55 P, ob56 P, ob57 P, ob58 P, ob59 P, ob60 P, ob61 P, ob62 P, ob63 P, ob64 P, ob65 P, ob66 P, ob67 P, ob68 P, ob69 P, ob70 P, ob71 P, ob72 P, ob73 P, ob74 P, ob75 P, ob76 P, ob82 P, ob78 P, ob79 P, ob83 P, ob84 P, ob85 P, ob86 P, ob87 P, ob88 P, ob89 P, ob90 P, ob91 P, ob92 P, ob93 P, ob94 P, ob97 P, ob98 P, ob99 P, ob100 P, ob101 P, ob102 P, ob103 P, ob104 P, ob105 P, ob106 P, ob107 P, ob108 P, ob109 P, ob110 P, ob111 P, ob112 P, ob113 P, ob114 P, ob115 P, ob116 P, ob117 P, ob118 P, ob119 P, ob120 P, ob121 P, ob122 P, ob123 P, ob124 P, ob125 P, ob126 P, ob127 P, ob128 P, ob129 P, ob130 P, ob131 P, ob132 P, ob133 P, ob134 P, ob135 P, ob136 P, ob137 P, ob138 P, ob139 P, ob140 P, ob141 P, ob142 P, ob143 P, ob144 P, ob145 P, ob146 P, ob147 P, ob148 P, ob149 P, ob150 P, ob151 P, ob152 P, ob153 P, ob154 P, ob155 P, ob156 P, ob157 P, ob158 P, ob159 P, ob160 P, ob161 P, ob162 P, ob163 P, ob164 P, ob165 P, ob166 P, ob167 P, ob168 P, ob169 P, ob170 P, ob171 P, ob172 P, ob173 P, ob174 P, ob175 P, ob176 P, ob177 P, ob178 P, ob179 P, ob180 P, ob181 P, ob182 P, ob183 P, ob184 P, ob185 P, ob186 P, ob187 P, ob188 P, ob189 P, ob190 P, ob191 P, ob192 P, ob193 P, ob194 P, ob195 P, ob196 P, ob197 P, ob198 P, ob199 P, ob200 P, ob201 P, ob202 P, ob203 P, ob204 P, ob205 P, ob206 P, ob207 P, ob208 P, ob209 P, ob210 P, ob211 P, ob212 P, ob213 P, ob214 P, ob215 P, ob216 P, ob217 P, ob218 P, ob219 P, ob220 P, ob221 P, ob222 P, ob223 P, ob224 P, ob225 P, ob226 P, ob227 P, ob228 P, ob229 P, ob230 P, ob231 P, ob232 P, ob233 P, ob234 P, ob235 P, ob236 P, ob237 P, ob238 P, ob239 P, ob240 P, ob241 P, ob242 P, ob243 P, ob244 P, ob245 P, ob246 P, ob247 P, ob248 P, ob249 P, ob250 P, ob251 P, ob252 P, ob253 P, ob254 P, ob255 P, ob256 P, ob257 P, ob258 P, ob259 P, ob260 P, ob261 P, ob262 P, ob263 P, ob264 P, ob265 P, ob266 P, ob267 P, ob353 P, ob354 P, ob355 P, ob356 P, ob357 P, ob358 P, ob359 P, ob360 P, ob361 P, ob362 P, ob363 P, ob364 P, ob365 P, ob366 P, ob367 P, ob368 P, ob369 P, ob370 P, ob371 P, ob372 P, ob373 P, ob374 P, ob375 P, ob376 P, ob377 P, ob378 P, ob379 P, ob380 P, ob381 P] } }
noncomputable def env2 : Env := { scope := Challenge.rw_rr0082_01.row.toRowW.1.main.scope, locals := mainNs, globals := mainNs, cells := [], code := Value.ref 13, frame := some 14 }
noncomputable abbrev PRG : Program := PySem.Challenge.rw_rr0082_01.row.prog
noncomputable abbrev BDY : List Stmt := behindTheImports PRG
noncomputable abbrev COD : Code := Code.body BDY env2
set_option maxRecDepth 100000 in
set_option maxHeartbeats 0 in
theorem hd_pre (w : World) (os : OsState) : topGo treeTable PRG w 11 (some (Value.ref 6)) 12 ⟨boot_heap w.params, #[], boot_drawn, boot_toks, os⟩ (topStub PRG) = some ((Shared.mk (hp7 w.params) #[] {} 187 os), ⟨denote treeTable COD, COD, { line := 0, col := 0, endLine := 0, endCol := 0 }, [topFrame { line := 0, col := 0, endLine := 0, endCol := 0 }]⟩) := by kernel_rfl
set_option maxRecDepth 100000 in
set_option maxHeartbeats 0 in
theorem hd_block (w : World) (os : OsState) : segRun treeTable PRG w 11 (some (Value.ref 6)) 1 1 (Shared.mk (hp7 w.params) #[] {} 187 os) (blockOf BDY env2 COD { line := 0, col := 0, endLine := 0, endCol := 0 } [topFrame { line := 0, col := 0, endLine := 0, endCol := 0 }]) = some (.next, (SharedT.mk (tr8 w.params) 15 {} #[] {} 187 os).abs, COD, { line := 0, col := 0, endLine := 0, endCol := 0 }) := by kernel_rfl
noncomputable abbrev STS0 : List Stmt := (BDY.drop 0).take 7
set_option maxRecDepth 100000 in
set_option maxHeartbeats 0 in
theorem hd_run0 (w : World) (os : OsState) : segRunT treeTable PRG w 11 (some (Value.ref 6)) 1 852 (SharedT.mk (tr8 w.params) 15 {} #[] {} 187 os) (piecesOf STS0 env2 COD { line := 0, col := 0, endLine := 0, endCol := 0 } [topFrame { line := 0, col := 0, endLine := 0, endCol := 0 }]) = some (.next, (SharedT.mk (tr94 w.params) 91 {} #[] {} 289 os), COD, { line := 24, col := 0, endLine := 24, endCol := 8 }) := by kernel_rfl
noncomputable abbrev STS1 : List Stmt := (BDY.drop 7).take 1
set_option maxRecDepth 100000 in
set_option maxHeartbeats 0 in
theorem hd_run1 (w : World) (os : OsState) : segRunT treeTable PRG w 11 (some (Value.ref 6)) 1 943 (SharedT.mk (tr94 w.params) 91 {} #[] {} 289 os) (piecesOf STS1 env2 COD { line := 24, col := 0, endLine := 24, endCol := 8 } [topFrame { line := 0, col := 0, endLine := 0, endCol := 0 }]) = some (.next, (SharedT.mk (tr267 w.params) 262 {} #[] {} 514 os), COD, { line := 25, col := 0, endLine := 155, endCol := 16 }) := by kernel_rfl
noncomputable abbrev STS2 : List Stmt := (BDY.drop 8).take 7
set_option maxRecDepth 100000 in
set_option maxHeartbeats 0 in
theorem hd_run2 (w : World) (os : OsState) : segRunT treeTable PRG w 11 (some (Value.ref 6)) 1 157 (SharedT.mk (tr267 w.params) 262 {} #[] {} 514 os) (piecesOf STS2 env2 COD { line := 25, col := 0, endLine := 155, endCol := 16 } [topFrame { line := 0, col := 0, endLine := 0, endCol := 0 }]) = some (.next, (SharedT.mk (tr381 w.params) 291 {} #[] {} 552 os), COD, { line := 183, col := 0, endLine := 205, endCol := 16 }) := by kernel_rfl
set_option maxRecDepth 100000 in
set_option maxHeartbeats 0 in
theorem hd_fin (w : World) (os : OsState) : topRun treeTable PRG w 11 (some (Value.ref 6)) 2 (SharedT.mk (tr381 w.params) 291 {} #[] {} 552 os).abs ⟨doneF .next, COD, { line := 183, col := 0, endLine := 205, endCol := 16 }, [topFrame { line := 0, col := 0, endLine := 0, endCol := 0 }]⟩ = some (Shared.mk (hp382 w.params) #[] {} 552 os) := by kernel_rfl
theorem hd_body : BDY = (STS0 ++ (STS1 ++ (STS2 ++ []))) := by rfl
set_option maxRecDepth 100000 in
set_option maxHeartbeats 0 in
theorem hd_run (w : World) (os : OsState) : topRun treeTable PRG w 11 (some (Value.ref 6)) (12 + (1 + (852 + (943 + (157 + 2))))) ⟨boot_heap w.params, #[], boot_drawn, boot_toks, os⟩ (topStub PRG) = some (Shared.mk (hp382 w.params) #[] {} 552 os) := by
  refine go_top (hd_pre w os) (piece_block (hd_block w os) ?_)
  rw [hd_body]
  exact piece_app (segRun_of (hd_run0 w os)) (piece_app (segRun_of (hd_run1 w os)) (piece_app (segRun_of (hd_run2 w os)) (hd_fin w os)))
set_option maxRecDepth 100000 in
set_option maxHeartbeats 0 in
theorem hd_size (w : World) : ((boot_heap w.params).isNs mainGlobals && (#[] : Array GenState).size == 0, (boot_heap w.params).objs.size, (boot_heap w.params).nsMap mainGlobals "__annotations__") = (true, 11, (some (Value.ref 6))) := by kernel_rfl
set_option maxRecDepth 100000 in
set_option maxHeartbeats 0 in
theorem hd_kept (w : World) (os : OsState) : (staticsOk (importedModules PRG.main.body) (boot_heap w.params) (hp382 w.params) && namesBound PRG (hp382 w.params) && gensDone (Shared.mk (hp382 w.params) #[] {} 552 os) && laidKept (boot_heap w.params) (hp382 w.params)) = true := by kernel_rfl
set_option maxRecDepth 100000 in
set_option maxHeartbeats 0 in
theorem hd_seen (w : World) (os : OsState) : openSeen vw [] (importedModules PRG.main.body) XX true (Shared.mk (hp382 w.params) #[] {} 552 os) = openGood vw [] := by kernel_rfl
set_option maxRecDepth 100000 in
set_option maxHeartbeats 0 in
theorem hd_val (w : World) (os : OsState) : HH.obs (Shared.mk (hp382 w.params) #[] {} 552 os) = HH.val w := by kernel_rfl
theorem hlOnce : LeftO PRG vw [] XX HH.obs HH.val 4302 := LeftO.of_pieces (H₁ := hp382) (boot_open (by rfl) (by decide) (fun _ => rfl)) hd_size hd_run (by decide) (fun w => funext fun os => Prod.ext (hd_kept w os) (Prod.ext (hd_seen w os) (hd_val w os)))
set_option maxRecDepth 100000 in
set_option maxHeartbeats 0 in
theorem wellOnce : PySem.Challenge.rw_rr0082_01.wellSaid = true := by kernel_rfl
end Mine
namespace Mine
inductive V where
  | none
  | bool (b : Bool)
  | int (i : Int)
  | str (x : Str)
  | ref (a : Addr)
  | tup (vs : List V)
  | glob (v : Value)
inductive AObj where
  | list (vs : List V)
  | sdict (ep : Nat) (es : List (Str × V))
  | tdict (ks : List (List Str))
  | inst (C dx : Addr)
  | attrs (es : List (Str × V))
  | cell (v : Option V)
  | range (a b : Int)
abbrev tupOf (xs : Array Value) (n : Nat) : Obj := { cls := .type "tuple", dict := none, data := .seq xs n, slots := #[] }
mutual
inductive Rep (h : Heap) : Value → V → Prop
  | none : Rep h .none .none
  | bool (b) : Rep h (.bool b) (.bool b)
  | int (i t) : Rep h (.int i t) (.int i)
  | str (x t) : Rep h (.str x t) (.str x)
  | ref (a) : Rep h (.ref a) (.ref a)
  | tup {a n vs ds} : h.get? a = some (tupOf vs n) → RepAll h vs.toList ds → Rep h (.ref a) (.tup ds)
  | glob (v) : handedIn v = true → Rep h v (.glob v)
inductive RepAll (h : Heap) : List Value → List V → Prop
  | nil : RepAll h [] []
  | cons {v vs d ds} : Rep h v d → RepAll h vs ds → RepAll h (v :: vs) (d :: ds)
end
def TupK (h h' : Heap) : Prop := ∀ a xs n, h.get? a = some (tupOf xs n) → h'.get? a = some (tupOf xs n)
theorem TupK.refl (h : Heap) : TupK h h := fun _ _ _ e => e
theorem TupK.trans {a b c : Heap} (x : TupK a b) (y : TupK b c) : TupK a c := fun p xs n e => y p xs n (x p xs n e)
theorem TupK.of_keeps {h h' : Heap} (k : ∀ b o, h.get? b = some o → h'.get? b = some o) : TupK h h' := fun a _ _ e => k a _ e
mutual
theorem Rep.mono {h h' : Heap} (k : TupK h h') : ∀ {v d}, Rep h v d → Rep h' v d
  | _, _, .none => .none
  | _, _, .bool b => .bool b
  | _, _, .int i t => .int i t
  | _, _, .str x t => .str x t
  | _, _, .ref a => .ref a
  | _, _, .tup e r => .tup (k _ _ _ e) (RepAll.mono k r)
  | _, _, .glob v e => .glob v e
theorem RepAll.mono {h h' : Heap} (k : TupK h h') : ∀ {vs ds}, RepAll h vs ds → RepAll h' vs ds
  | _, _, .nil => .nil
  | _, _, .cons a r => .cons (Rep.mono k a) (RepAll.mono k r)
end
def V.Inv (h : Heap) : V → (Value → Prop) → Prop
  | .none, C => C .none
  | .bool b, C => C (.bool b)
  | .int i, C => ∀ t, C (.int i t)
  | .str x, C => ∀ t, C (.str x t)
  | .ref a, C => C (.ref a)
  | .tup ds, C => ∀ a n vs, h.get? a = some (tupOf vs n) → RepAll h vs.toList ds → C (.ref a)
  | .glob w, C => handedIn w = true → C w
@[elab_as_elim] theorem Rep.elim {h : Heap} {v d} {C : Value → Prop} (r : Rep h v d) (k : d.Inv h C) : C v := by
  cases r
  · exact k
  · exact k
  · exact k _
  · exact k _
  · exact k
  · rename_i e r; exact k _ _ _ e r
  · rename_i e; exact k e
theorem Rep.handed {h : Heap} {v d} (r : Rep h v d) : handedIn v = true := by
  cases r <;> first | rfl | assumption
theorem RepAll.length {h : Heap} : ∀ {vs ds}, RepAll h vs ds → vs.length = ds.length
  | _, _, .nil => rfl
  | _, _, .cons _ r => by simp [RepAll.length r]
theorem RepAll.append {h : Heap} {ws es} (y : RepAll h ws es) : ∀ {vs ds}, RepAll h vs ds → RepAll h (vs ++ ws) (ds ++ es)
  | _, _, .nil => y
  | _, _, .cons a r => .cons a (RepAll.append y r)
theorem RepAll.get {h : Heap} : ∀ {vs : List Value} {ds : List V} (_ : RepAll h vs ds) (i : Nat) {d : V}, ds[i]? = some d → ∃ v, vs[i]? = some v ∧ Rep h v d
  | _, _, .nil, i, d, e => by simp at e
  | _, _, .cons a r, 0, d, e => by simp at e; subst e; exact ⟨_, rfl, a⟩
  | _, _, .cons a r, i + 1, d, e => RepAll.get r i (by simpa using e)
theorem RepAll.get' {h : Heap} : ∀ {vs : List Value} {ds : List V} (_ : RepAll h vs ds) (i : Nat) {v : Value}, vs[i]? = some v → ∃ d, ds[i]? = some d ∧ Rep h v d
  | _, _, .nil, i, d, e => by simp at e
  | _, _, .cons a r, 0, d, e => by simp at e; subst e; exact ⟨_, rfl, a⟩
  | _, _, .cons a r, i + 1, d, e => RepAll.get' r i (by simpa using e)
theorem RepAll.take {h : Heap} : ∀ {vs : List Value} {ds : List V} (_ : RepAll h vs ds) (i : Nat), RepAll h (vs.take i) (ds.take i)
  | _, _, .nil, i => by simp; exact .nil
  | _, _, .cons a r, 0 => by simp; exact .nil
  | _, _, .cons a r, i + 1 => by simpa using .cons a (RepAll.take r i)
theorem RepAll.snoc {h : Heap} {v d vs ds} (y : RepAll h vs ds) (x : Rep h v d) : RepAll h (vs ++ [v]) (ds ++ [d]) := RepAll.append (.cons x .nil) y
theorem RepAll.reverse {h : Heap} : ∀ {vs : List Value} {ds : List V} (_ : RepAll h vs ds), RepAll h vs.reverse ds.reverse
  | _, _, .nil => .nil
  | _, _, .cons a r => by simpa using (RepAll.reverse r).snoc a
abbrev St := Addr → Option AObj
def St.set (σ : St) (a : Addr) (o : AObj) : St := fun b => if b = a then some o else σ b
@[simp] theorem St.set_same (σ : St) (a : Addr) (o : AObj) : σ.set a o a = some o := by simp [St.set]
theorem St.set_ne (σ : St) {a b : Addr} (o : AObj) (h : b ≠ a) : σ.set a o b = σ b := by simp [St.set, h]
theorem St.keep {σ : St} {a b : Addr} {o : AObj} {x : Option AObj} (h : b ≠ a) (e : σ b = x) : σ.set a o b = x := (St.set_ne σ o h).trans e
theorem len_ok {n : Nat} (h : Nat.ble n 1000 = true) : n ≤ sizeLine := Nat.le_trans (Nat.le_of_ble_eq_true h) (by rw [sizeLine_eq]; decide)
abbrev Loc := List (Str × V)
def Loc.put : Loc → Str → V → Loc
  | [], x, d => [(x, d)]
  | (y, e) :: r, x, d => if x = y then (y, d) :: r else (y, e) :: Loc.put r x d
def Loc.get : Loc → Str → Option V
  | [], _ => Option.none
  | (y, e) :: r, x => if x = y then some e else Loc.get r x
theorem Loc.get_put (ρ : Loc) (x y : Str) (d : V) : (ρ.put x d).get y = if y = x then some d else ρ.get y := by
  induction ρ with
  | nil => simp [Loc.put, Loc.get]
  | cons p r ih =>
    obtain ⟨z, e⟩ := p
    unfold Loc.put
    by_cases h : x = z
    · subst h
      simp only [if_true, Loc.get]
      by_cases h2 : y = x <;> simp [h2]
    · simp only [if_neg h, Loc.get, ih]
      by_cases h2 : y = z
      · subst h2; simp [Ne.symm h]
      · simp [h2]
section
variable (prog : Program) (w : World)
structure AttrRep (h : Heap) (e : DictEntry) (p : Str × V) : Prop where
  key : ∃ t, e.key = .str p.1 t
  hash : e.hash = PyData.keyHash w.params p.1
  val : Rep h e.val p.2
inductive AttrsRep (h : Heap) : List DictEntry → List (Str × V) → Prop
  | nil : AttrsRep h [] []
  | cons {e p es ps} : AttrRep w h e p → AttrsRep h es ps → AttrsRep h (e :: es) (p :: ps)
def RepObj (h : Heap) (a : Addr) : AObj → Prop
  | .list ds => ∃ vs n, h.get? a = some (listOf vs n) ∧ RepAll h vs.toList ds
  | .sdict ep es => ∃ kvs, h.DictAt (strKind prog w) a kvs ep ∧ kvs.map (·.1) = es.map (·.1) ∧ RepAll h (kvs.map (·.2)) (es.map (·.2))
  | .tdict ks => ∃ xs, h.DictOfH (tupleKind (strKind prog w)) a xs ∧ xs.map (·.1) = ks ∧ ∀ x ∈ xs, ∃ vs n, h.get? x.2.1 = some (tupOf vs n)
  | .inst C dx => h.get? a = some (instObj C dx)
  | .attrs es => ∃ ds n, h.get? a = some (dictOf ds n) ∧ AttrsRep w h ds es
  | .range x y => ∃ t u v, h.get? a = some { cls := .type "range", dict := none, data := .fields #[.int x t, .int y u, .int 1 v], slots := #[] }
  | .cell d => ∃ o v, h.get? a = some o ∧ o.data = .cell v ∧ (match d with | some d => ∃ u, v = some u ∧ Rep h u d | Option.none => True)
end
end Mine
namespace Mine
structure Amb where
  prog : Program
  w : World
  h₀ : Heap
  K : Frag
  X : K.In h₀
  mg : Str → Option Value
  mb : Str → Option Value
  ng : h₀.Ns mainGlobals mg
  nb : h₀.Ns builtinsNs mb
  lim : h₀.NoLimit
structure FrameRep (h : Heap) (L : Addr) (ρ : Loc) : Prop where
  ns : ∃ m, h.Ns L m ∧ ∀ x d, ρ.get x = some d → ∃ v, m x = some v ∧ Rep h v d
structure S (G : Amb) (L : Addr) (ρ : Loc) (σ : St) (h : Heap) : Prop where
  base : G.h₀.StaysIn h
  obj : ∀ a o, σ a = some o → RepObj G.prog G.w h a o
  new : ∀ a, σ a ≠ none → G.h₀.objs.size ≤ a
  frame : FrameRep h L ρ
  off : σ L = none
  above : G.h₀.objs.size ≤ L
structure Ext (σ : St) (h h' : Heap) (σ' : St) : Prop where
  tup : TupK h h'
  keep : ∀ a o, σ a = none → h.get? a = some o → h'.get? a = some o
  dom : ∀ a, σ a = none → σ' a ≠ none → h.get? a = none
  alive : ∀ a o, h.get? a = some o → ∃ o', h'.get? a = some o'
theorem Ext.refl (σ : St) (h : Heap) : Ext σ h h σ := ⟨TupK.refl h, fun _ _ _ x => x, fun _ e n => absurd e n, fun _ o e => ⟨o, e⟩⟩
theorem Ext.ns {σ σ' : St} {h h' : Heap} (x : Ext σ h h' σ') (a : Addr) (m : Str → Option Value) (e : σ a = none) (n : h.Ns a m) : h'.Ns a m := n.at' fun o => x.keep a o e
theorem Ext.offO {σ σ' : St} {h h' : Heap} (x : Ext σ h h' σ') {a : Addr} {o : Obj} (e : σ a = none) (ho : h.get? a = some o) : σ' a = none := by
  cases q : σ' a with
  | none => rfl
  | some o =>
    have := x.dom a e (by rw [q]; simp)
    rw [this] at ho; cases ho
theorem Ext.off {σ σ' : St} {h h' : Heap} (x : Ext σ h h' σ') {a : Addr} {m : Str → Option Value} (e : σ a = none) (n : h.Ns a m) : σ' a = none :=
  let ⟨_, _, _, ho, _⟩ := n; x.offO e ho
theorem Ext.trans {σ σ₁ σ₂ : St} {h h₁ h₂ : Heap} (x : Ext σ h h₁ σ₁) (y : Ext σ₁ h₁ h₂ σ₂) : Ext σ h h₂ σ₂ where
  tup := x.tup.trans y.tup
  keep := fun a o e n => y.keep a o (x.offO e n) (x.keep a o e n)
  dom := fun a e n => by
    by_cases q : σ₁ a = none
    · have := y.dom a q n
      cases r : h.get? a with
      | none => rfl
      | some o => obtain ⟨o', e'⟩ := x.alive a o r; rw [this] at e'; cases e'
    · exact x.dom a e q
  alive := fun a o e => let ⟨o₁, e₁⟩ := x.alive a o e; y.alive a o₁ e₁
theorem FrameRep.lt {h : Heap} {L : Addr} {ρ : Loc} (x : FrameRep h L ρ) : L < h.objs.size := let ⟨_, n, _⟩ := x.ns; n.lt
theorem FrameRep.ext {σ σ' : St} {h h' : Heap} {L : Addr} {ρ : Loc} (x : FrameRep h L ρ) (e : σ L = none) (y : Ext σ h h' σ') : FrameRep h' L ρ :=
  let ⟨m, n, r⟩ := x.ns
  ⟨m, y.ns L m e n, fun z d q => let ⟨v, a, b⟩ := r z d q; ⟨v, a, b.mono y.tup⟩⟩
theorem S.big {G : Amb} {L ρ σ h} (s : S G L ρ σ h) : G.h₀.objs.size < h.objs.size := Nat.lt_of_le_of_lt s.above s.frame.lt
theorem S.fresh {G : Amb} {L ρ σ h} (s : S G L ρ σ h) {a : Addr} (e : σ a ≠ none) : G.h₀.get? a = none := by
  cases q : G.h₀.get? a with
  | none => rfl
  | some o => exact absurd (Heap.lt_size q) (Nat.not_lt.mpr (s.new a e))
theorem S.notMod {G : Amb} {L ρ σ h} (s : S G L ρ σ h) {a : Addr} (e : σ a ≠ none) : (a == sysModules) = false :=
  beq_eq_false_iff_ne.mpr (Nat.ne_of_gt (Nat.lt_of_lt_of_le (modules_low G.lim) (s.new a e)))
theorem S.In {G : Amb} {L ρ σ h} (s : S G L ρ σ h) : G.K.In h := G.X.keeps s.base
theorem S.step {G : Amb} {L ρ σ σ' h h'} (s : S G L ρ σ h) (x : Ext σ h h' σ') (base : G.h₀.StaysIn h') (obj : ∀ a o, σ' a = some o → RepObj G.prog G.w h' a o)
    (new : ∀ a, σ' a ≠ none → G.h₀.objs.size ≤ a) : S G L ρ σ' h' := by
  obtain ⟨m, n, r⟩ := s.frame.ns
  exact ⟨base, obj, new, s.frame.ext s.off x, x.off s.off n, s.above⟩
theorem AttrRep.mono {w : World} {h h' : Heap} (k : TupK h h') {e p} (x : AttrRep w h e p) : AttrRep w h' e p := ⟨x.key, x.hash, x.val.mono k⟩
theorem AttrsRep.mono {w : World} {h h' : Heap} (k : TupK h h') {es ps} (x : AttrsRep w h es ps) : AttrsRep w h' es ps := by
  induction x with
  | nil => exact .nil
  | cons a _ ih => exact .cons (a.mono k) ih
theorem isTupleKey_mono {prog : Program} {w : World} {h h' : Heap} (k : TupK h h') {ks : List Str} {a : Addr} {vs n} (e : h.get? a = some (tupOf vs n)) (x : (tupleKind (strKind prog w)).is h ks a) : (tupleKind (strKind prog w)).is h' ks a := by
  obtain ⟨o, items, m, ho, hc, hd, hi⟩ := x
  exact ⟨o, items, m, by rw [ho] at e; cases e; exact k _ _ _ ho, hc, hd, hi⟩
theorem RepObj.mono {prog : Program} {w : World} {h h' : Heap} {a : Addr} {o : AObj} (k : TupK h h') (e : ∀ ob, h.get? a = some ob → h'.get? a = some ob) (x : RepObj prog w h a o) : RepObj prog w h' a o := by
  cases o with
  | list ds => obtain ⟨vs, n, ho, r⟩ := x; exact ⟨vs, n, e _ ho, r.mono k⟩
  | sdict ep es =>
    obtain ⟨kvs, ⟨o, es', ho, r⟩, hk, hv⟩ := x
    exact ⟨kvs, ⟨o, es', e _ ho, r⟩, hk, hv.mono k⟩
  | tdict ks =>
    obtain ⟨xs, ⟨o, es, ep, ho, hc, hd, he, hi, hn⟩, hk, ht⟩ := x
    exact ⟨xs, ⟨o, es, ep, e _ ho, hc, hd, he, fun y hy => let ⟨_, _, q⟩ := ht y hy; isTupleKey_mono k q (hi y hy), hn⟩, hk, fun y hy => let ⟨vs, n, q⟩ := ht y hy; ⟨vs, n, k _ _ _ q⟩⟩
  | inst C dx => exact e _ x
  | attrs es => obtain ⟨ds, n, ho, r⟩ := x; exact ⟨ds, n, e _ ho, r.mono k⟩
  | range y z => obtain ⟨t, u, v, ho⟩ := x; exact ⟨t, u, v, e _ ho⟩
  | cell d =>
    obtain ⟨o, v, ho, hd, r⟩ := x
    refine ⟨o, v, e _ ho, hd, ?_⟩
    cases d with
    | none => trivial
    | some d => obtain ⟨u, hu, r⟩ := r; exact ⟨u, hu, r.mono k⟩
def Tuple? (o : Obj) : Prop := o.cls = .type "tuple" ∧ ∃ xs n, o.data = .seq xs n
theorem RepObj.alive {prog : Program} {w : World} {h : Heap} {a : Addr} {o : AObj} (x : RepObj prog w h a o) : ∃ ob, h.get? a = some ob ∧ ¬ Tuple? ob := by
  cases o with
  | list ds => obtain ⟨vs, n, ho, r⟩ := x; exact ⟨_, ho, fun t => by have := t.1; simp at this⟩
  | sdict ep es => obtain ⟨kvs, ⟨o, es', ho, hc, hd, r⟩, hk, hv⟩ := x; exact ⟨_, ho, fun ⟨_, xs, n, t⟩ => by rw [hd] at t; cases t⟩
  | tdict ks => obtain ⟨xs, ⟨o, es, ep, ho, hc, hd, r⟩, hk, _⟩ := x; exact ⟨_, ho, fun ⟨_, xs, n, t⟩ => by rw [hd] at t; cases t⟩
  | inst C dx => exact ⟨_, x, fun ⟨_, xs, n, t⟩ => by cases t⟩
  | attrs es => obtain ⟨ds, n, ho, r⟩ := x; exact ⟨_, ho, fun ⟨_, xs, n, t⟩ => by cases t⟩
  | range y z => obtain ⟨t, u, v, ho⟩ := x; exact ⟨_, ho, fun ⟨_, xs, n, t⟩ => by cases t⟩
  | cell d => obtain ⟨o, v, ho, hd, r⟩ := x; exact ⟨_, ho, fun ⟨_, xs, n, t⟩ => by rw [hd] at t; cases t⟩
theorem Ext.keeps {σ : St} {h h' : Heap} (k : ∀ b o, h.get? b = some o → h'.get? b = some o) : Ext σ h h' σ :=
  ⟨.of_keeps k, fun a o _ n => k a o n, fun _ e n => absurd e n, fun a o e => ⟨o, k a o e⟩⟩
theorem S.keeps {G : Amb} {L ρ σ h h'} (s : S G L ρ σ h) (k : ∀ b o, h.get? b = some o → h'.get? b = some o) : S G L ρ σ h' :=
  s.step (.keeps k) (fun b o e => k b o (s.base b o e)) (fun a o e => (s.obj a o e).mono (.of_keeps k) (k a)) s.new
theorem tupK_sameBut {h h' : Heap} {a : Addr} {ob : Obj} (hs : Heap.SameBut a h h') (ha : h.get? a = some ob) (hc : ¬ Tuple? ob) : TupK h h' := fun b _ _ e => by
  refine (hs.2 b fun q => ?_).trans e
  subst q; rw [ha] at e; cases e; exact hc ⟨rfl, _, _, rfl⟩
theorem Ext.upd {prog : Program} {w : World} {σ : St} {h h' : Heap} {a : Addr} {o o' : AObj} (e : σ a = some o) (x : RepObj prog w h a o) (hs : Heap.SameBut a h h') (x' : RepObj prog w h' a o') : Ext σ h h' (σ.set a o') := by
  obtain ⟨ob, ho, hc⟩ := x.alive
  refine ⟨tupK_sameBut hs ho hc, fun b o2 q n => (hs.2 b (fun z => by rw [z, e] at q; cases q)).trans n, fun b q n => ?_, fun b ob' eb => ?_⟩
  · by_cases z : b = a
    · rw [z, e] at q; cases q
    · rw [St.set_ne _ _ z] at n; exact absurd q n
  · by_cases z : b = a
    · subst z; obtain ⟨o2, h2, _⟩ := x'.alive; exact ⟨o2, h2⟩
    · exact ⟨ob', (hs.2 b z).trans eb⟩
theorem S.upd {G : Amb} {L ρ σ h h'} {a : Addr} {o o' : AObj} (s : S G L ρ σ h) (e : σ a = some o) (hs : Heap.SameBut a h h') (x' : RepObj G.prog G.w h' a o') : S G L ρ (σ.set a o') h' := by
  have x := s.obj a o e
  have E := Ext.upd e x hs x'
  refine s.step E (fun b ob eb => (hs.2 b fun z => ?_).trans (s.base b ob eb)) (fun b ob eb => ?_) (fun b n => ?_)
  · have := s.fresh (a := a) (by rw [e]; simp); rw [← z, eb] at this; cases this
  · by_cases z : b = a
    · subst z; rw [St.set_same] at eb; cases eb; exact x'
    · rw [St.set_ne _ _ z] at eb
      exact (s.obj b ob eb).mono E.tup fun o2 h2 => (hs.2 b z).trans h2
  · by_cases z : b = a
    · subst z; exact s.new b (by rw [e]; simp)
    · rw [St.set_ne _ _ z] at n; exact s.new b n
theorem none_at_size (h : Heap) : h.get? h.objs.size = none := by
  cases q : h.get? h.objs.size with
  | none => rfl
  | some o => exact absurd (Heap.lt_size q) (Nat.lt_irrefl _)
theorem S.unused {G : Amb} {L ρ σ h} (s : S G L ρ σ h) {a : Addr} (e : h.get? a = none) : σ a = none := by
  cases q : σ a with
  | none => rfl
  | some o => obtain ⟨ob, ho, _⟩ := (s.obj a o q).alive; rw [e] at ho; cases ho
theorem Ext.new {σ : St} {h h' : Heap} {a : Addr} {o : AObj} (e : h.get? a = none) (k : ∀ b o, h.get? b = some o → h'.get? b = some o) : Ext σ h h' (σ.set a o) :=
  ⟨.of_keeps k, fun a o _ n => k a o n, fun b q n => by
    by_cases z : b = a
    · rw [z]; exact e
    · rw [St.set_ne _ _ z] at n; exact absurd q n, fun a o e => ⟨o, k a o e⟩⟩
theorem S.newAt {G : Amb} {L ρ σ h h'} {a : Addr} {o : AObj} (s : S G L ρ σ h) (e : h.get? a = none) (ha : G.h₀.objs.size ≤ a) (k : ∀ b o, h.get? b = some o → h'.get? b = some o)
    (x' : RepObj G.prog G.w h' a o) : S G L ρ (σ.set a o) h' := by
  refine s.step (.new e k) (fun b o q => k b o (s.base b o q)) (fun b ob eb => ?_) (fun b n => ?_)
  · by_cases z : b = a
    · subst z; rw [St.set_same] at eb; cases eb; exact x'
    · rw [St.set_ne _ _ z] at eb
      exact (s.obj b ob eb).mono (.of_keeps k) (k b)
  · by_cases z : b = a
    · rw [z]; exact ha
    · rw [St.set_ne _ _ z] at n; exact s.new b n
def Post (G : Amb) (L : Addr) (ρ : Loc) (σ : St) (s : Shared) (k : V → St → Prop) (v : Value) (s' : Shared) : Prop :=
  ∃ h' tk d σ', s' = { s with heap := h', toks := tk } ∧ Ext σ s.heap h' σ' ∧ S G L ρ σ' h' ∧ Rep h' v d ∧ k d σ'
theorem Post.mono {G : Amb} {L ρ σ s} {k k' : V → St → Prop} (f : ∀ d σ', k d σ' → k' d σ') {v s'} (x : Post G L ρ σ s k v s') : Post G L ρ σ s k' v s' :=
  let ⟨h', tk, d, σ', a, b, c, e, r⟩ := x; ⟨h', tk, d, σ', a, b, c, e, f _ _ r⟩
@[elab_as_elim] theorem Post.elim {G : Amb} {L ρ σ s} {k : V → St → Prop} {v s'} {C : Shared → Prop} (x : Post G L ρ σ s k v s') (h : ∀ h' tk d σ', Ext σ s.heap h' σ' → S G L ρ σ' h' → Rep h' v d → k d σ' → C { s with heap := h', toks := tk }) : C s' :=
  let ⟨h', tk, d, σ', a, b, c, e, r⟩ := x; a ▸ h h' tk d σ' b c e r
theorem Post.here {G : Amb} {L ρ σ} {s : Shared} {k : V → St → Prop} {v : Value} {d : V} (x : S G L ρ σ s.heap) (r : Rep s.heap v d) (h : k d σ) : Post G L ρ σ s k v s := ⟨s.heap, s.toks, d, σ, rfl, .refl .., x, r, h⟩
theorem Post.tok {G : Amb} {L ρ σ} {s : Shared} {n : Nat} {k : V → St → Prop} {v : Value} {d : V} (x : S G L ρ σ s.heap) (r : Rep s.heap v d) (h : k d σ) : Post G L ρ σ s k v { s with toks := n } := ⟨s.heap, n, d, σ, rfl, .refl .., x, r, h⟩
theorem Post.trans {G : Amb} {L ρ σ σ₁} {s : Shared} {h₁ tk} {k : V → St → Prop} {v s'} (x : Ext σ s.heap h₁ σ₁) (y : Post G L ρ σ₁ { s with heap := h₁, toks := tk } k v s') : Post G L ρ σ s k v s' :=
  let ⟨h', tk', d, σ', a, b, c, e, r⟩ := y; ⟨h', tk', d, σ', a, x.trans b, c, e, r⟩
def Op (G : Amb) (A : Around) (L : Addr) (ρ : Loc) (σ : St) (t : List Value → Sem Value) (ds : List V) (k : V → St → Prop) (X : Value → Shared → Prop) : Prop :=
  ∀ s vs, S G L ρ σ s.heap → RepAll s.heap vs ds → wpAny (model G.prog G.w) A (t vs) (Post G L ρ σ s k) X s
def EV (G : Amb) (A : Around) (env : Env) (ρ : Loc) (σ : St) (e : Expr) (k : V → St → Prop) (X : Value → Shared → Prop) : Prop :=
  ∀ s, S G env.locals ρ σ s.heap → wpAny (model G.prog G.w) A (eval e env) (Post G env.locals ρ σ s k) X s
end Mine
namespace Mine
inductive AF where
  | next | cont | brk
  | ret (d : V)
def FlowRep (h : Heap) : Flow → AF → Prop
  | .next, .next => True
  | .cont, .cont => True
  | .brk, .brk => True
  | .ret v, .ret d => Rep h v d
  | _, _ => False
structure ExtS (L : Addr) (σ : St) (h h' : Heap) (σ' : St) : Prop where
  tup : TupK h h'
  keep : ∀ a o, a ≠ L → σ a = none → h.get? a = some o → h'.get? a = some o
  dom : ∀ a, σ a = none → σ' a ≠ none → h.get? a = none
  alive : ∀ a o, h.get? a = some o → ∃ o', h'.get? a = some o'
theorem Ext.toS {L : Addr} {σ σ' : St} {h h' : Heap} (x : Ext σ h h' σ') : ExtS L σ h h' σ' := ⟨x.tup, fun a m _ => x.keep a m, x.dom, x.alive⟩
theorem ExtS.refl (L : Addr) (σ : St) (h : Heap) : ExtS L σ h h σ := (Ext.refl σ h).toS
theorem ExtS.offO {L : Addr} {σ σ' : St} {h h' : Heap} (x : ExtS L σ h h' σ') {a : Addr} {o : Obj} (e : σ a = none) (ho : h.get? a = some o) : σ' a = none := by
  cases q : σ' a with
  | none => rfl
  | some o =>
    have := x.dom a e (by rw [q]; simp)
    rw [this] at ho; cases ho
theorem ExtS.trans {L : Addr} {σ σ₁ σ₂ : St} {h h₁ h₂ : Heap} (x : ExtS L σ h h₁ σ₁) (y : ExtS L σ₁ h₁ h₂ σ₂) : ExtS L σ h h₂ σ₂ where
  tup := x.tup.trans y.tup
  keep := fun a o z e n => y.keep a o z (x.offO e n) (x.keep a o z e n)
  dom := fun a e n => by
    by_cases q : σ₁ a = none
    · have := y.dom a q n
      cases r : h.get? a with
      | none => rfl
      | some o => obtain ⟨o', e'⟩ := x.alive a o r; rw [this] at e'; cases e'
    · exact x.dom a e q
  alive := fun a o e => let ⟨o₁, e₁⟩ := x.alive a o e; y.alive a o₁ e₁
def PostS (G : Amb) (L : Addr) (σ : St) (s : Shared) (k : AF → Loc → St → Prop) (f : Flow) (s' : Shared) : Prop :=
  ∃ h' tk φ ρ' σ', s' = { s with heap := h', toks := tk } ∧ ExtS L σ s.heap h' σ' ∧ S G L ρ' σ' h' ∧ FlowRep h' f φ ∧ k φ ρ' σ'
@[elab_as_elim] theorem PostS.elim {G : Amb} {L σ s} {k : AF → Loc → St → Prop} {f s'} {C : Shared → Prop} (x : PostS G L σ s k f s') (h : ∀ h' tk φ ρ' σ', ExtS L σ s.heap h' σ' → S G L ρ' σ' h' → FlowRep h' f φ → k φ ρ' σ' → C { s with heap := h', toks := tk }) : C s' :=
  let ⟨h', tk, φ, ρ', σ', a, b, c, e, r⟩ := x; a ▸ h h' tk φ ρ' σ' b c e r
theorem PostS.trans {G : Amb} {L σ σ₁} {s : Shared} {h₁ tk} {k : AF → Loc → St → Prop} {f s'} (x : ExtS L σ s.heap h₁ σ₁) (y : PostS G L σ₁ { s with heap := h₁, toks := tk } k f s') : PostS G L σ s k f s' :=
  let ⟨h', tk', φ, ρ', σ', a, b, c, e, r⟩ := y; ⟨h', tk', φ, ρ', σ', a, x.trans b, c, e, r⟩
theorem PostS.mono {G : Amb} {L σ s} {k k' : AF → Loc → St → Prop} (f : ∀ φ ρ' σ', k φ ρ' σ' → k' φ ρ' σ') {v s'} (x : PostS G L σ s k v s') : PostS G L σ s k' v s' :=
  let ⟨h', tk, φ, ρ', σ', a, b, c, e, r⟩ := x; ⟨h', tk, φ, ρ', σ', a, b, c, e, f _ _ _ r⟩
def SV (G : Amb) (A : Around) (env : Env) (ρ : Loc) (σ : St) (t : Sem Flow) (k : AF → Loc → St → Prop) (X : Value → Shared → Prop) : Prop :=
  ∀ s, S G env.locals ρ σ s.heap → wpAny (model G.prog G.w) A t (PostS G env.locals σ s k) X s
section
variable {G : Amb} {A : Around} {env : Env} {ρ : Loc} {σ : St} {X : Value → Shared → Prop} {k : AF → Loc → St → Prop}
theorem EV.mono {e : Expr} {k k' : V → St → Prop} (h : EV G A env ρ σ e k X) (f : ∀ d σ', k d σ' → k' d σ') : EV G A env ρ σ e k' X :=
  fun s x => wpAny_mono (h s x) (fun _ _ p => p.mono f) fun _ _ e => e
theorem SV.mono {t} {k k' : AF → Loc → St → Prop} (h : SV G A env ρ σ t k X) (f : ∀ φ ρ' σ', k φ ρ' σ' → k' φ ρ' σ') : SV G A env ρ σ t k' X :=
  fun s x => wpAny_mono (h s x) (fun _ _ p => p.mono f) fun _ _ e => e
theorem sv_nil (h : k .next ρ σ) : SV G A env ρ σ (execs [] env) k X :=
  fun s x => wpAny_execs_nil ⟨s.heap, s.toks, .next, ρ, σ, rfl, .refl .., x, trivial, h⟩
theorem sv_cons {st : Stmt} {rest : List Stmt} (h : SV G A env ρ σ (exec st env) (fun φ ρ' σ' => match φ with | .next => SV G A env ρ' σ' (execs rest env) k X | φ => k φ ρ' σ') X) :
    SV G A env ρ σ (execs (st :: rest) env) k X := fun s x => by
  refine wpAny_execs_cons (wpAny_mono (h s x) (fun f s' p => ?_) fun _ _ e => e)
  refine p.elim fun h' tk φ ρ' σ' E x' r hk => ?_
  cases f <;> cases φ <;> first | exact r.elim | skip
  · exact wpAny_mono (hk _ x') (fun _ _ q => PostS.trans E q) fun _ _ e => e
  · exact ⟨h', tk, .brk, ρ', σ', rfl, E, x', r, hk⟩
  · exact ⟨h', tk, .cont, ρ', σ', rfl, E, x', r, hk⟩
  · exact ⟨h', tk, .ret _, ρ', σ', rfl, E, x', r, hk⟩
theorem sv_Return {e : Expr} {pos : Pos} (h : EV G A env ρ σ e (fun d σ' => k (.ret d) ρ σ') X) : SV G A env ρ σ (exec (.Return (some e) pos) env) k X := fun s x => by
  refine wpAny_Return_some (wpAny_mono (h s x) (fun v s' p => ?_) fun _ _ e => e)
  refine p.elim fun h' tk d σ' E x' r hk => ?_
  exact ⟨h', tk, .ret d, ρ, σ', rfl, E.toS, x', r, hk⟩
def BV (G : Amb) (A : Around) (env : Env) (ρ : Loc) (σ : St) (t : Sem Bool) (k : Bool → St → Prop) (X : Value → Shared → Prop) : Prop :=
  ∀ s, S G env.locals ρ σ s.heap → wpAny (model G.prog G.w) A t (fun b s' => Post G env.locals ρ σ s (fun d σ' => d = .bool b ∧ k b σ') (.bool b) s') X s
theorem sv_If {test : Expr} {body orelse : List Stmt} {pos : Pos}
    (h : BV G A env ρ σ (isTrue test env (eval test env)) (fun b σ' => if b = true then SV G A env ρ σ' (execs body env) k X else SV G A env ρ σ' (execs orelse env) k X) X) :
    SV G A env ρ σ (exec (.If test body orelse pos) env) k X := fun s x => by
  refine wpAny_If (wpAny_mono (h s x) (fun b s' p => ?_) fun _ _ e => e)
  refine p.elim fun h' tk d σ' E x' r q₉ => ?_; obtain ⟨rfl, hk⟩ := q₉
  cases b with
  | true => exact wpAny_mono (hk _ x') (fun _ _ q => PostS.trans E.toS q) fun _ _ e => e
  | false => exact wpAny_mono (hk _ x') (fun _ _ q => PostS.trans E.toS q) fun _ _ e => e
theorem sv_Expr {e : Expr} {pos : Pos} (h : EV G A env ρ σ e (fun d σ' => d = .none ∧ k .next ρ σ') X)
    (hi : interactive env = false := by rfl) (hs : swapsWith e none pos.line env = pure false := by rfl) : SV G A env ρ σ (exec (.Expr e pos) env) k X := fun s x => by
  refine wpAny_Expr (wpAny_mono (h s x) (fun v s' p => ?_) fun _ _ e => e) hi hs
  refine p.elim fun h' tk d σ' E x' r q₉ => ?_; obtain ⟨rfl, hk⟩ := q₉
  cases r
  exact ⟨h', tk, .next, ρ, σ', rfl, E.toS, x', trivial, hk⟩
theorem store_local {x : Str} {v : Value} {d : V} {Q : Unit → Shared → Prop} {s : Shared} (hk : env.scope.kind = .function) (hl : env.kindOf x = some .local) (z : S G env.locals ρ σ s.heap) (r : Rep s.heap v d)
    (h : ∀ h', ExtS env.locals σ s.heap h' σ → S G env.locals (ρ.put x d) σ h' → TupK s.heap h' → Q () { s with heap := h', toks := s.toks + 1 }) :
    wpAny (model G.prog G.w) A (storeName env x v) Q X s := by
  obtain ⟨m, n, hm⟩ := z.frame.ns
  refine wpAny_storeName_local hl n (fun h' n' hs => ?_) (by rw [hk]; rfl)
  have tk : TupK s.heap h' := fun b _ _ e => by
    by_cases q : b = env.locals
    · subst q
      obtain ⟨oL, es, ep, hoL, hdL, r2⟩ := id n
      rw [hoL] at e; cases e
      cases hdL
    · exact (hs.2 b q).trans e
  refine h h' ⟨tk, fun a o2 na e n2 => (hs.2 a na).trans n2, fun a e q => absurd e q, fun a o e => ?_⟩ ⟨fun b o e => ?_, fun a o e => ?_, z.new, ⟨_, n', fun y d' q => ?_⟩, z.off, z.above⟩ tk
  · by_cases q : a = env.locals
    · subst q; obtain ⟨o', _, _, ho', _⟩ := id n'; exact ⟨o', ho'⟩
    · exact ⟨o, (hs.2 a q).trans e⟩
  · refine (hs.2 b fun q => ?_).trans (z.base b o e)
    subst q; exact absurd (Heap.lt_size e) (Nat.not_lt.mpr z.above)
  · have q : a ≠ env.locals := fun q => by rw [q, z.off] at e; cases e
    exact (z.obj a o e).mono tk fun o2 h2 => (hs.2 a q).trans h2
  · rw [Loc.get_put] at q
    by_cases e : y = x
    · subst e; rw [if_pos rfl] at q; cases q
      exact ⟨v, by simp, r.mono tk⟩
    · rw [if_neg e] at q
      obtain ⟨v', e1, r1⟩ := hm y d' q
      exact ⟨v', by simp [e, e1], r1.mono tk⟩
theorem store_cell {x : Str} {v : Value} {d : V} {c : Addr} {d₀ : Option V} {Q : Unit → Shared → Prop} {s : Shared} (hk : env.scope.kind = .function) (hl : env.kindOf x = some .cell) (hc : env.cells.lookup x = some c)
    (hσ : σ c = some (.cell d₀)) (z : S G env.locals ρ σ s.heap) (r : Rep s.heap v d)
    (h : ∀ h', Ext σ s.heap h' (σ.set c (.cell (some d))) → S G env.locals ρ (σ.set c (.cell (some d))) h' → TupK s.heap h' → Q () { s with heap := h' }) :
    wpAny (model G.prog G.w) A (storeName env x v) Q X s := by
  obtain ⟨o, v0, ho, hd, r0⟩ := z.obj c _ hσ
  refine wpAny_storeName_cell hk hl hc ⟨o, ho, hd⟩ fun h' ⟨o', ho', hd'⟩ hs => ?_
  have tk : TupK s.heap h' := tupK_sameBut hs ho fun ⟨_, xs, n, t⟩ => by rw [hd] at t; cases t
  have x' : RepObj G.prog G.w h' c (.cell (some d)) := ⟨o', _, ho', hd', v, rfl, r.mono tk⟩
  exact h h' (Ext.upd hσ (z.obj c _ hσ) hs x') (z.upd hσ hs x') tk
theorem sv_Assign {x : Str} {pos' pos : Pos} {value : Expr} (h : EV G A env ρ σ value (fun d σ' => k .next (ρ.put x d) σ') X)
    (hk : env.scope.kind = .function := by rfl) (hl : env.kindOf x = some .local := by rfl)
    (hs : swapsWith value (some (.Name x pos')) pos.line env = pure false := by rfl) :
    SV G A env ρ σ (exec (.Assign [.Name x pos'] value pos) env) k X := fun s z => by
  refine wpAny_Assign_Name (wpAny_mono (h s z) (fun v s' p => ?_) fun _ _ e => e) hs
  refine p.elim fun h' tk d σ' E x' r hk' => ?_
  exact store_local hk hl x' r fun h2 E2 x2 _ => ⟨h2, _, .next, _, σ', rfl, E.toS.trans E2, x2, trivial, hk'⟩
end
end Mine
namespace Mine
section
variable {G : Amb} {A : Around} {env : Env} {ρ : Loc} {σ : St} {X : Value → Shared → Prop} {k : V → St → Prop}
theorem ev_int {i : Int} {c : Nat} {pos : Pos} (h : k (.int i) σ) : EV G A env ρ σ (.Constant (.int i) c pos) k X := fun s x => wpAny_Constant_int (.tok x (.int _ _) h)
theorem ev_str {i : Str} {c : Nat} {pos : Pos} (h : k (.str i) σ) : EV G A env ρ σ (.Constant (.str i) c pos) k X := fun s x => PySem.wpAny_Constant_str (.tok x (.str _ _) h)
theorem ev_bool {i : Bool} {c : Nat} {pos : Pos} (h : k (.bool i) σ) : EV G A env ρ σ (.Constant (.bool i) c pos) k X := fun s x => Constant_bool (.here x (.bool _) h)
theorem ev_none {c : Nat} {pos : Pos} (h : k .none σ) : EV G A env ρ σ (.Constant .none c pos) k X := fun s x => Constant_none (.here x .none h)
theorem ev_local {x : Str} {pos : Pos} {d : V} (h : k d σ) (hv : ρ.get x = some d := by rfl) (hk : env.scope.kind = .function := by rfl) (hl : env.kindOf x = some .local := by rfl)
    (hd : (x == ("__debug__" : Str)) = false := by decide) : EV G A env ρ σ (.Name x pos) k X := fun s z => by
  obtain ⟨m, n, hm⟩ := z.frame.ns
  obtain ⟨v, e, r⟩ := hm x d hv
  exact wpAny_Name (wpAny_loadName_local hk hl n e (.here z r h)) hd
theorem ev_cell {x : Str} {pos : Pos} {d : V} {c : Addr} (hσ : σ c = some (.cell (some d))) (h : k d σ) (hc : env.cells.lookup x = some c := by rfl) (hk : env.scope.kind = .function := by rfl) (hl : env.kindOf x = some .cell := by rfl)
    (hd : (x == ("__debug__" : Str)) = false := by decide) : EV G A env ρ σ (.Name x pos) k X := fun s z => by
  obtain ⟨o, v, ho, e, u, rfl, r⟩ := z.obj c _ hσ
  exact wpAny_Name (wpAny_loadName_cell hk hl hc ⟨o, ho, e⟩ (.here z r h)) hd
theorem ev_global {x : Str} {pos : Pos} {v : Value} {d : V} (hv : G.mg x = some v) (hr : ∀ h, Rep h v d) (h : k d σ) (hg : env.globals = mainGlobals := by rfl) (hk : env.scope.kind = .function := by rfl) (hl : env.kindOf x = some .globalImplicit := by rfl)
    (hd : (x == ("__debug__" : Str)) = false := by decide) : EV G A env ρ σ (.Name x pos) k X := fun s z =>
  Name_function_global hk hl (loadGlobal_global (hg ▸ G.ng.keeps z.base) hv (.here z (hr _) h)) hd
theorem ev_builtin {x : Str} {pos : Pos} {v : Value} (hn : G.mg x = none) (hv : G.mb x = some v) (hh : handedIn v = true) (h : k (.glob v) σ) (hg : env.globals = mainGlobals := by rfl) (hb : env.builtins = builtinsNs := by rfl) (hk : env.scope.kind = .function := by rfl) (hl : env.kindOf x = some .globalImplicit := by rfl)
    (hd : (x == ("__debug__" : Str)) = false := by decide) : EV G A env ρ σ (.Name x pos) k X := fun s z =>
  Name_function_global hk hl (loadGlobal_builtin (hg ▸ G.ng.keeps z.base) hn (hb ▸ G.nb.keeps z.base) hv (.here z (.glob _ hh) h)) hd
def Op2 (G : Amb) (A : Around) (L : Addr) (ρ : Loc) (σ : St) (f : Value → Value → Sem Value) (a b : V) (k : V → St → Prop) (X : Value → Shared → Prop) : Prop :=
  ∀ s u v, S G L ρ σ s.heap → Rep s.heap u a → Rep s.heap v b → wpAny (model G.prog G.w) A (f u v) (Post G L ρ σ s k) X s
def OpL (G : Amb) (A : Around) (L : Addr) (ρ : Loc) (σ : St) (f : List Value → Sem Value) (ds : List V) (k : V → St → Prop) (X : Value → Shared → Prop) : Prop :=
  ∀ s vs, S G L ρ σ s.heap → RepAll s.heap vs ds → wpAny (model G.prog G.w) A (f vs) (Post G L ρ σ s k) X s
theorem two {l r : Expr} {f : Value → Value → Sem Value} (h : EV G A env ρ σ l (fun a σ₁ => EV G A env ρ σ₁ r (fun b σ₂ => Op2 G A env.locals ρ σ₂ f a b k X) X) X) {s : Shared} (x : S G env.locals ρ σ s.heap) :
    wpAny (model G.prog G.w) A (eval l env) (fun u s₁ => wpAny (model G.prog G.w) A (eval r env) (fun v s₂ => wpAny (model G.prog G.w) A (f u v) (Post G env.locals ρ σ s k) X s₂) X s₁) X s := by
  refine wpAny_mono (h s x) (fun u s₁ p => ?_) fun _ _ e => e
  refine p.elim fun h₁ t₁ a σ₁ E₁ x₁ r₁ q₁ => ?_
  refine wpAny_mono (q₁ _ x₁) (fun v s₂ p => ?_) fun _ _ e => e
  refine p.elim fun h₂ t₂ b σ₂ E₂ x₂ r₂ q₂ => ?_
  exact wpAny_mono (q₂ _ u v x₂ (r₁.mono E₂.tup) r₂) (fun _ _ q => Post.trans (E₁.trans E₂) q) fun _ _ e => e
theorem ev_BinOp {l r : Expr} {op : Operator} {pos : Pos} (h : EV G A env ρ σ l (fun a σ₁ => EV G A env ρ σ₁ r (fun b σ₂ => Op2 G A env.locals ρ σ₂ (binaryOp op) a b k X) X) X) :
    EV G A env ρ σ (.BinOp l op r pos) k X := fun _ x => wpAny_BinOp (two h x)
theorem ev_Compare {l r : Expr} {op : CmpOp} {pos : Pos} (h : EV G A env ρ σ l (fun a σ₁ => EV G A env ρ σ₁ r (fun b σ₂ => Op2 G A env.locals ρ σ₂ (compareOp op) a b k X) X) X)
    (hm : behindInMarks op r = false := by with_unfolding_all rfl) : EV G A env ρ σ (.Compare l [op] [r] pos) k X := fun _ x => wpAny_Compare1 (two h x) hm
theorem ev_Subscript {l r : Expr} {pos : Pos} (h : EV G A env ρ σ l (fun a σ₁ => EV G A env ρ σ₁ r (fun b σ₂ => Op2 G A env.locals ρ σ₂ (subscriptTail l r) a b k X) X) X) :
    EV G A env ρ σ (.Subscript l r pos) k X := fun _ x => Subscript_ (two h x)
theorem bv_Compare {l r : Expr} {op : CmpOp} {pos : Pos} {whole : Sem Value} {kb : Bool → St → Prop}
    (h : EV G A env ρ σ l (fun a σ₁ => EV G A env ρ σ₁ r (fun b σ₂ => Op2 G A env.locals ρ σ₂ (compareOp op) a b (fun d σ₃ => ∃ c, d = .bool c ∧ kb c σ₃) X) X) X)
    (hm : behindInMarks op r = false := by with_unfolding_all rfl) : BV G A env ρ σ (isTrue (.Compare l [op] [r] pos) env whole) kb X := fun s x => by
  refine wpAny_isTrue_Compare1 ?_ hm
  refine wpAny_mono (h s x) (fun u s₁ p => ?_) fun _ _ e => e
  refine p.elim fun h₁ t₁ a σ₁ E₁ x₁ r₁ q₁ => ?_
  refine wpAny_mono (q₁ _ x₁) (fun v s₂ p => ?_) fun _ _ e => e
  refine p.elim fun h₂ t₂ b σ₂ E₂ x₂ r₂ q₂ => ?_
  refine wpAny_mono (q₂ _ u v x₂ (r₁.mono E₂.tup) r₂) (fun c s₃ p => ?_) fun _ _ e => e
  refine p.elim fun h₃ t₃ d σ₃ E₃ x₃ r₃ q₉ => ?_; obtain ⟨c', rfl, q₃⟩ := q₉
  cases r₃
  exact wpAny_truthy_bool ⟨h₃, t₃, _, σ₃, rfl, (E₁.trans E₂).trans E₃, x₃, .bool _, rfl, q₃⟩
theorem bv_plain {e : Expr} {kb : Bool → St → Prop} (h : EV G A env ρ σ e (fun d σ' => ∃ b, d = .bool b ∧ kb b σ') X)
    (he : isTrue e env (eval e env) = (do let v ← eval e env; standAt e.pos; holding [v] (truthy v)) := by rfl) : BV G A env ρ σ (isTrue e env (eval e env)) kb X := fun s x => by
  refine isTrue_plain (wpAny_mono (h s x) (fun u s₁ p => ?_) fun _ _ e => e) he
  refine p.elim fun h₁ t₁ a σ₁ E₁ x₁ r₁ q₉ => ?_; obtain ⟨b, rfl, q₁⟩ := q₉
  cases r₁
  exact wpAny_truthy_bool ⟨h₁, t₁, _, σ₁, rfl, E₁, x₁, .bool _, rfl, q₁⟩
theorem bv_end {s : Shared} {h₁ t₁ σ₁} {b : Bool} {kb : Bool → St → Prop} (E₁ : Ext σ s.heap h₁ σ₁) (x₁ : S G env.locals ρ σ₁ h₁) (q : kb b σ₁) :
    Post G env.locals ρ σ s (fun d σ' => d = .bool b ∧ kb b σ') (.bool b) { s with heap := h₁, toks := t₁ } := ⟨h₁, t₁, _, σ₁, rfl, E₁, x₁, .bool _, rfl, q⟩
theorem bv_And_nil {pos : Pos} {whole : Sem Value} {kb : Bool → St → Prop} (h : kb true σ) : BV G A env ρ σ (isTrue (.BoolOp .And [] pos) env whole) kb X := fun s x => isTrue_and_nil (bv_end (.refl ..) x h)
theorem bv_Or_nil {pos : Pos} {whole : Sem Value} {kb : Bool → St → Prop} (h : kb false σ) : BV G A env ρ σ (isTrue (.BoolOp .Or [] pos) env whole) kb X := fun s x => isTrue_or_nil (bv_end (.refl ..) x h)
theorem bv_And {e : Expr} {rest : List Expr} {pos : Pos} {whole : Sem Value} {kb : Bool → St → Prop}
    (h : BV G A env ρ σ (isTrue e env (eval e env)) (fun b σ' => if b = true then BV G A env ρ σ' (isTrue (.BoolOp .And rest pos) env whole) kb X else kb false σ') X) : BV G A env ρ σ (isTrue (.BoolOp .And (e :: rest) pos) env whole) kb X := fun s x => by
  refine isTrue_and (wpAny_mono (h s x) (fun b s₁ p => ?_) fun _ _ e => e)
  refine p.elim fun h₁ t₁ a σ₁ E₁ x₁ r₁ q₉ => ?_; obtain ⟨rfl, q₁⟩ := q₉
  cases b with
  | true => exact wpAny_mono (q₁ _ x₁) (fun _ _ q => Post.trans E₁ q) fun _ _ e => e
  | false => exact bv_end E₁ x₁ q₁
theorem bv_Or {e : Expr} {rest : List Expr} {pos : Pos} {whole : Sem Value} {kb : Bool → St → Prop}
    (h : BV G A env ρ σ (isTrue e env (eval e env)) (fun b σ' => if b = true then kb true σ' else BV G A env ρ σ' (isTrue (.BoolOp .Or rest pos) env whole) kb X) X) : BV G A env ρ σ (isTrue (.BoolOp .Or (e :: rest) pos) env whole) kb X := fun s x => by
  refine isTrue_or (wpAny_mono (h s x) (fun b s₁ p => ?_) fun _ _ e => e)
  refine p.elim fun h₁ t₁ a σ₁ E₁ x₁ r₁ q₉ => ?_; obtain ⟨rfl, q₁⟩ := q₉
  cases b with
  | true => exact bv_end E₁ x₁ q₁
  | false => exact wpAny_mono (q₁ _ x₁) (fun _ _ q => Post.trans E₁ q) fun _ _ e => e
theorem ev_IfExp {test body orelse : Expr} {pos : Pos} (h : BV G A env ρ σ (isTrue test env (eval test env)) (fun b σ' => if b = true then EV G A env ρ σ' body k X else EV G A env ρ σ' orelse k X) X) :
    EV G A env ρ σ (.IfExp test body orelse pos) k X := fun s x => by
  refine wpAny_IfExp (wpAny_mono (h s x) (fun b s₁ p => ?_) fun _ _ e => e)
  refine p.elim fun h₁ t₁ a σ₁ E₁ x₁ r₁ q₉ => ?_; obtain ⟨rfl, q₁⟩ := q₉
  cases b with
  | true => exact wpAny_mono (q₁ _ x₁) (fun _ _ q => Post.trans E₁ q) fun _ _ e => e
  | false => exact wpAny_mono (q₁ _ x₁) (fun _ _ q => Post.trans E₁ q) fun _ _ e => e
def PostL (G : Amb) (L : Addr) (ρ : Loc) (σ : St) (s : Shared) (k : List V → St → Prop) (vs : List Value) (s' : Shared) : Prop :=
  ∃ h' tk ds σ', s' = { s with heap := h', toks := tk } ∧ Ext σ s.heap h' σ' ∧ S G L ρ σ' h' ∧ RepAll h' vs ds ∧ k ds σ'
@[elab_as_elim] theorem PostL.elim {G : Amb} {L ρ σ s} {k : List V → St → Prop} {v s'} {C : Shared → Prop} (x : PostL G L ρ σ s k v s') (h : ∀ h' tk d σ', Ext σ s.heap h' σ' → S G L ρ σ' h' → RepAll h' v d → k d σ' → C { s with heap := h', toks := tk }) : C s' :=
  let ⟨h', tk, d, σ', a, b, c, e, r⟩ := x; a ▸ h h' tk d σ' b c e r
def LV (G : Amb) (A : Around) (env : Env) (ρ : Loc) (σ : St) (pos : Pos) (es : List Expr) (k : List V → St → Prop) (X : Value → Shared → Prop) : Prop :=
  ∀ s, S G env.locals ρ σ s.heap → wpAny (model G.prog G.w) A (spliced (backTo pos (starEach es env))) (PostL G env.locals ρ σ s k) X s
theorem lv_nil {pos : Pos} {k : List V → St → Prop} (h : k [] σ) : LV G A env ρ σ pos [] k X := fun s x => args_nil ⟨s.heap, s.toks, [], σ, rfl, .refl .., x, .nil, h⟩
theorem lv_cons {pos : Pos} {e : Expr} {es : List Expr} {k : List V → St → Prop} (h : EV G A env ρ σ e (fun d σ₁ => LV G A env ρ σ₁ pos es (fun ds σ₂ => k (d :: ds) σ₂) X) X)
    (he : starEach (e :: es) env = (false, eval e env) :: starEach es env := by rfl) : LV G A env ρ σ pos (e :: es) k X := fun s x => by
  refine args_cons (wpAny_mono (h s x) (fun u s₁ p => ?_) fun _ _ e => e) he
  refine p.elim fun h₁ t₁ a σ₁ E₁ x₁ r₁ q₁ => ?_
  refine wpAny_mono (q₁ _ x₁) (fun v s₂ p => ?_) fun _ _ e => e
  refine p.elim fun h₂ t₂ b σ₂ E₂ x₂ r₂ q₂ => ?_
  exact ⟨h₂, t₂, a :: b, σ₂, rfl, E₁.trans E₂, x₂, .cons (r₁.mono E₂.tup) r₂, q₂⟩
theorem lv_then {pos : Pos} {es : List Expr} {f : List Value → Sem Value} (h : LV G A env ρ σ pos es (fun ds σ' => OpL G A env.locals ρ σ' f ds k X) X) {s : Shared} (x : S G env.locals ρ σ s.heap) :
    wpAny (model G.prog G.w) A (spliced (backTo pos (starEach es env))) (fun vs s₁ => wpAny (model G.prog G.w) A (f vs) (Post G env.locals ρ σ s k) X s₁) X s := by
  refine wpAny_mono (h s x) (fun u s₁ p => ?_) fun _ _ e => e
  refine p.elim fun h₁ t₁ a σ₁ E₁ x₁ r₁ q₁ => ?_
  exact wpAny_mono (q₁ _ _ x₁ r₁) (fun _ _ q => Post.trans E₁ q) fun _ _ e => e
theorem new_tuple {ds : List V} (h : k (.tup ds) σ) (hsz : ds.length ≤ sizeLine := by exact len_ok rfl) : OpL G A env.locals ρ σ newTuple ds k X := fun s vs x r => by
  refine wpAny_newObj_type (T := "tuple") ?_ (by show vs.toArray.size ≤ sizeLine; rw [List.size_toArray, r.length]; exact hsz)
  have kp : ∀ b o, s.heap.get? b = some o → (s.heap.push { cls := .type "tuple", dict := none, data := .seq vs.toArray }).get? b = some o := fun b o e => Heap.get?_push_of_some _ e
  exact ⟨_, s.toks, .tup ds, σ, rfl, .keeps kp, x.keeps kp, .tup (vs := vs.toArray) (n := 0) (Heap.get?_push_size _ rfl) (r.mono (.of_keeps kp)), h⟩
theorem new_list {ds : List V} (h : ∀ a, σ a = none → k (.ref a) (σ.set a (.list ds))) (hsz : ds.length ≤ sizeLine := by exact len_ok rfl) : OpL G A env.locals ρ σ newList ds k X := fun s vs x r => by
  refine wpAny_newObj_type (T := "list") ?_ (by show vs.toArray.size ≤ sizeLine; rw [List.size_toArray, r.length]; exact hsz)
  have kp : ∀ b o, s.heap.get? b = some o → (s.heap.push { cls := .type "list", dict := none, data := .seq vs.toArray }).get? b = some o := fun b o e => Heap.get?_push_of_some _ e
  have hn := Mine.none_at_size s.heap
  exact ⟨_, s.toks, _, _, rfl, .new hn kp, x.newAt (o := .list ds) hn (Nat.le_of_lt x.big) kp ⟨vs.toArray, 0, Heap.get?_push_size _ rfl, r.mono (.of_keeps kp)⟩, .ref _, h _ (x.unused hn)⟩
theorem ev_Tuple {es : List Expr} {c : Nat} {pos : Pos} (h : LV G A env ρ σ pos es (fun ds σ' => ds.length ≤ sizeLine ∧ k (.tup ds) σ') X) : EV G A env ρ σ (.Tuple es c pos) k X := fun _ x => by
  refine Tuple_ (lv_then (fun s z => wpAny_mono (h s z) (fun vs s' p => ?_) fun _ _ e => e) x)
  obtain ⟨h₁, t₁, a, σ₁, e, E₁, x₁, r₁, q₁, q₂⟩ := p
  exact ⟨h₁, t₁, a, σ₁, e, E₁, x₁, r₁, new_tuple q₂ q₁⟩
theorem ev_List {es : List Expr} {pos : Pos} (h : LV G A env ρ σ pos es (fun ds σ' => ds.length ≤ sizeLine ∧ ∀ a, σ' a = none → k (.ref a) (σ'.set a (.list ds))) X) : EV G A env ρ σ (.List es pos) k X := fun _ x => by
  refine List_ (lv_then (fun s z => wpAny_mono (h s z) (fun vs s' p => ?_) fun _ _ e => e) x)
  obtain ⟨h₁, t₁, a, σ₁, e, E₁, x₁, r₁, q₁, q₂⟩ := p
  exact ⟨h₁, t₁, a, σ₁, e, E₁, x₁, r₁, new_list q₂ q₁⟩
end
end Mine
namespace Mine
mutual
def V.P : V → PyData
  | .none => .none | .bool b => .bool b | .int i => .int i | .str x => .str x
  | .tup vs => .tuple (V.Ps vs)
  | .ref _ => .none | .glob _ => .none
def V.Ps : List V → List PyData
  | [] => []
  | v :: vs => V.P v :: V.Ps vs
end
mutual
def V.data : V → Bool
  | .none => true | .bool _ => true | .int _ => true | .str _ => true
  | .tup vs => V.datas vs
  | .ref _ => false | .glob _ => false
def V.datas : List V → Bool
  | [] => true
  | v :: vs => V.data v && V.datas vs
end
mutual
theorem Rep.reads {h : Heap} : ∀ {v d}, Rep h v d → d.data = true → ∃ as, Reads h v d.P as
  | _, _, .none, _ => ⟨_, .none⟩
  | _, _, .bool b, _ => ⟨_, .bool b⟩
  | _, _, .int i t, _ => ⟨_, .int i t⟩
  | _, _, .str x t, _ => ⟨_, .str x t⟩
  | _, _, .ref a, e => by simp [V.data] at e
  | _, _, .tup ho r, e => by
    obtain ⟨as, q⟩ := RepAll.reads r (by simpa [V.data] using e)
    exact ⟨as, by rw [V.P]; exact .tuple ho rfl rfl q⟩
  | _, _, .glob v _, e => by simp [V.data] at e
theorem RepAll.reads {h : Heap} : ∀ {vs ds}, RepAll h vs ds → V.datas ds = true → ∃ as, ReadsAll h vs (V.Ps ds) as
  | _, _, .nil, _ => ⟨_, .nil⟩
  | _, _, .cons a r, e => by
    simp only [V.datas, Bool.and_eq_true] at e
    obtain ⟨as, q⟩ := Rep.reads a e.1
    obtain ⟨bs, q'⟩ := RepAll.reads r e.2
    exact ⟨_, by rw [V.Ps]; exact .cons q q'⟩
end
structure Room (A : Around) (n : Nat) : Prop where
  handled : A.handled = none
  depth : A.depth + n < recursionLimit
  units : A.units + 8 * n + 80 < cLine
section
variable {G : Amb} {A : Around} {L : Addr} {ρ : Loc} {σ : St} {X : Value → Shared → Prop} {k : V → St → Prop}
theorem op_add_int {a b : Int} (h : k (.int (a + b)) σ) : Op2 G A L ρ σ (binaryOp .Add) (.int a) (.int b) k X := fun s u v x r₁ r₂ => by
  refine r₁.elim fun _ => ?_; refine r₂.elim fun _ => ?_; exact add_int (.tok x (.int _ _) h)
theorem op_mul_int {a b : Int} (hm : IntMulOk a b) (h : k (.int (a * b)) σ) : Op2 G A L ρ σ (binaryOp .Mult) (.int a) (.int b) k X := fun s u v x r₁ r₂ => by
  refine r₁.elim fun _ => ?_; refine r₂.elim fun _ => ?_; exact mul_int (hm := hm) (.tok x (.int _ _) h)
theorem op_mod_int {a b : Int} (hb : 0 < b) (h : k (.int (a % b)) σ) : Op2 G A L ρ σ (binaryOp .Mod) (.int a) (.int b) k X := fun s u v x r₁ r₂ => by
  refine r₁.elim fun _ => ?_; refine r₂.elim fun _ => ?_
  refine mod_int' (by omega) (.tok x (.int _ _) ?_)
  rw [Int.fmod_eq_emod_of_nonneg a (by omega)]; exact h
theorem op_floordiv_int {a b : Int} (hb : 0 < b) (hl : b < 2 ^ 30) (hp : Builtin.divisionGoesByPylong a b = false) (h : k (.int (a / b)) σ) : Op2 G A L ρ σ (binaryOp .FloorDiv) (.int a) (.int b) k X := fun s u v x r₁ r₂ => by
  refine r₁.elim fun _ => ?_; refine r₂.elim fun _ => ?_
  refine floordiv_int (by omega) (.tok x (.int _ _) ?_) (.inl hp)
  rw [Int.fdiv_eq_ediv_of_nonneg a (by omega)]; exact h
theorem op_lt_int {a b : Int} (h : k (.bool (decide (a < b))) σ) : Op2 G A L ρ σ (compareOp .Lt) (.int a) (.int b) k X := fun s u v x r₁ r₂ => by
  refine r₁.elim fun _ => ?_; refine r₂.elim fun _ => ?_; exact PyProof.Rows.lt_int (.here x (.bool _) h)
theorem op_gt_int {a b : Int} (h : k (.bool (decide (b < a))) σ) : Op2 G A L ρ σ (compareOp .Gt) (.int a) (.int b) k X := fun s u v x r₁ r₂ => by
  refine r₁.elim fun _ => ?_; refine r₂.elim fun _ => ?_; exact PyProof.Rows.gt_int (.here x (.bool _) h)
theorem op_le_int {a b : Int} (h : k (.bool (decide (a ≤ b))) σ) : Op2 G A L ρ σ (compareOp .LtE) (.int a) (.int b) k X := fun s u v x r₁ r₂ => by
  refine r₁.elim fun _ => ?_; refine r₂.elim fun _ => ?_; exact le_int (.here x (.bool _) h)
theorem op_eq_int {a b : Int} (h : k (.bool (decide (a = b))) σ) : Op2 G A L ρ σ (compareOp .Eq) (.int a) (.int b) k X := fun s u v x r₁ r₂ => by
  refine r₁.elim fun _ => ?_; refine r₂.elim fun _ => ?_; exact eq_int (.here x (.bool _) (by rw [show (a == b) = decide (a = b) from rfl]; exact h))
theorem op_ne_int {a b : Int} (h : k (.bool (!decide (a = b))) σ) : Op2 G A L ρ σ (compareOp .NotEq) (.int a) (.int b) k X := fun s u v x r₁ r₂ => by
  refine r₁.elim fun _ => ?_; refine r₂.elim fun _ => ?_; exact ne_int (.here x (.bool _) (by rw [show (a != b) = !decide (a = b) from rfl]; exact h))
theorem op_eq_str {a b : Str} (h : k (.bool (decide (a = b))) σ) : Op2 G A L ρ σ (compareOp .Eq) (.str a) (.str b) k X := fun s u v x r₁ r₂ => by
  refine r₁.elim fun _ => ?_; refine r₂.elim fun _ => ?_; exact eq_str (.here x (.bool _) (by rw [show (a == b) = decide (a = b) from by by_cases q : a = b <;> simp [q]]; exact h))
theorem op_ne_str {a b : Str} (h : k (.bool (!decide (a = b))) σ) : Op2 G A L ρ σ (compareOp .NotEq) (.str a) (.str b) k X := fun s u v x r₁ r₂ => by
  refine r₁.elim fun _ => ?_; refine r₂.elim fun _ => ?_; exact ne_str (.here x (.bool _) (by rw [show (a != b) = !decide (a = b) from by by_cases q : a = b <;> simp [q]]; exact h))
theorem op_eq_data {a b : V} {n : Nat} (R : Room A n) (ha : a.data = true) (hb : b.data = true) (sa : SeqAt.shaped a.P = true) (sb : SeqAt.shaped b.P = true) (h : k (.bool (PyData.eqv a.P b.P)) σ) : Op2 G A L ρ σ (compareOp .Eq) a b k X := fun s u v x r₁ r₂ => by
  obtain ⟨as, q₁⟩ := r₁.reads ha
  obtain ⟨bs, q₂⟩ := r₂.reads hb
  exact eq_dataH q₁ q₂ sa sb (by have := R.units; omega) (.here x (.bool _) h)
theorem op_ne_data {a b : V} {n : Nat} (R : Room A n) (ha : a.data = true) (hb : b.data = true) (sa : SeqAt.shaped a.P = true) (sb : SeqAt.shaped b.P = true) (h : k (.bool (!PyData.eqv a.P b.P)) σ) : Op2 G A L ρ σ (compareOp .NotEq) a b k X := fun s u v x r₁ r₂ => by
  obtain ⟨as, q₁⟩ := r₁.reads ha
  obtain ⟨bs, q₂⟩ := r₂.reads hb
  exact ne_dataH q₁ q₂ sa sb (by have := R.units; omega) (.here x (.bool _) h)
theorem S.list {h : Heap} {a : Addr} {ds : List V} (x : S G L ρ σ h) (e : σ a = some (.list ds)) : ∃ vs n, h.get? a = some (listOf vs n) ∧ RepAll h vs.toList ds := x.obj a _ e
theorem isList_of {h : Heap} {a : Addr} {vs : Array Value} {n : Nat} (e : h.get? a = some (listOf vs n)) : h.IsList a vs := ⟨_, e, rfl, n, rfl⟩
theorem list_reads {h : Heap} {a : Addr} {ds : List V} (x : S G L ρ σ h) (e : σ a = some (.list ds)) (hd : V.datas ds = true) : ∃ as, Reads h (.ref a) (.list (V.Ps ds)) as := by
  obtain ⟨vs, n, ho, r⟩ := x.list e
  obtain ⟨as, q⟩ := r.reads hd
  exact ⟨_, .list ho rfl rfl q⟩
theorem op_eq_list {a b : Addr} {xs ys : List V} {n : Nat} (R : Room A n) (ea : σ a = some (.list xs)) (eb : σ b = some (.list ys)) (ha : V.datas xs = true) (hb : V.datas ys = true)
    (sa : SeqAt.shaped (.list (V.Ps xs)) = true) (sb : SeqAt.shaped (.list (V.Ps ys)) = true) (h : k (.bool (PyData.eqv (.list (V.Ps xs)) (.list (V.Ps ys)))) σ) : Op2 G A L ρ σ (compareOp .Eq) (.ref a) (.ref b) k X := fun s u v x r₁ r₂ => by
  refine r₁.elim ?_; refine r₂.elim ?_
  obtain ⟨as, q₁⟩ := list_reads x ea ha
  obtain ⟨bs, q₂⟩ := list_reads x eb hb
  exact eq_dataH q₁ q₂ sa sb (by have := R.units; omega) (.here x (.bool _) h)
theorem op_ne_list {a b : Addr} {xs ys : List V} {n : Nat} (R : Room A n) (ea : σ a = some (.list xs)) (eb : σ b = some (.list ys)) (ha : V.datas xs = true) (hb : V.datas ys = true)
    (sa : SeqAt.shaped (.list (V.Ps xs)) = true) (sb : SeqAt.shaped (.list (V.Ps ys)) = true) (h : k (.bool (!PyData.eqv (.list (V.Ps xs)) (.list (V.Ps ys)))) σ) : Op2 G A L ρ σ (compareOp .NotEq) (.ref a) (.ref b) k X := fun s u v x r₁ r₂ => by
  refine r₁.elim ?_; refine r₂.elim ?_
  obtain ⟨as, q₁⟩ := list_reads x ea ha
  obtain ⟨bs, q₂⟩ := list_reads x eb hb
  exact ne_dataH q₁ q₂ sa sb (by have := R.units; omega) (.here x (.bool _) h)
theorem repAll_strs {h : Heap} : ∀ {vs : List Value} {xs : List Str}, RepAll h vs (xs.map .str) → ∀ y ∈ vs, ∃ z t, y = .str z t
  | _, [], .nil, _, hy => nomatch hy
  | _, _ :: _, .cons a r, y, hy => by
    rcases List.mem_cons.mp hy with rfl | hy
    · cases a; exact ⟨_, _, rfl⟩
    · exact repAll_strs r y hy
def isStr (x : Str) : Value → Bool
  | .str z _ => z.cps.toList == x.cps.toList
  | _ => false
theorem any_isStr {h : Heap} (x : Str) : ∀ {vs : List Value} {xs : List Str}, RepAll h vs (xs.map .str) → vs.any (isStr x) = decide (x ∈ xs)
  | _, [], .nil => by simp
  | _, z :: xs, .cons a r => by
    cases a with
    | str _ t =>
      rw [List.any_cons, any_isStr x r]
      have e : isStr x (.str z t) = decide (x = z) := by
        show (z.cps.toList == x.cps.toList) = _
        rw [toList_beq]
        by_cases q : x = z
        · subst q; simp
        · have : ¬ z = x := fun w => q w.symm
          simp [q, this]
      rw [e]
      by_cases q : x = z <;> simp [q]
theorem eqGives_str {x : Str} {t : Tok} {vs : List Value} {xs : List Str} {h : Heap} (r : RepAll h vs (xs.map .str)) : ∀ y, y ∈ vs.toArray → PySem.MeetsSeq.EqGives y (.str x t) (isStr x y) := fun y hy => by
  obtain ⟨z, u, rfl⟩ := repAll_strs r y (by simpa using hy)
  exact PySem.SeqRoads2.EqGives.str z x u t
theorem op_in_strs {a : Addr} {x : Str} {xs : List Str} (ea : σ a = some (.list (xs.map .str))) (h : k (.bool (decide (x ∈ xs))) σ) : Op2 G A L ρ σ (compareOp .In) (.str x) (.ref a) k X := fun s u v z r₁ r₂ => by
  refine r₁.elim fun _ => ?_; refine r₂.elim ?_
  obtain ⟨vs, n, ho, r⟩ := z.list ea
  refine PySem.SeqRoads2.in_list (isStr x) (fun y hy => eqGives_str r y (by simpa using hy)) ho (.here z (.bool _) ?_)
  rw [← Array.any_toList, any_isStr x r]; exact h
theorem op_notIn_strs {a : Addr} {x : Str} {xs : List Str} (ea : σ a = some (.list (xs.map .str))) (h : k (.bool (!decide (x ∈ xs))) σ) : Op2 G A L ρ σ (compareOp .NotIn) (.str x) (.ref a) k X := fun s u v z r₁ r₂ => by
  refine r₁.elim fun _ => ?_; refine r₂.elim ?_
  obtain ⟨vs, n, ho, r⟩ := z.list ea
  refine PySem.SeqRoads2.notIn_list (isStr x) (fun y hy => eqGives_str r y (by simpa using hy)) ho (.here z (.bool _) ?_)
  rw [← Array.any_toList, any_isStr x r]; exact h
theorem op_in_ints {x : Int} {xs : List Int} (h : k (.bool (decide (x ∈ xs))) σ) : Op2 G A L ρ σ (compareOp .In) (.int x) (.tup (xs.map .int)) k X := fun s u v z r₁ r₂ => by
  refine r₁.elim fun _ => ?_
  refine r₂.elim fun a n vs ho r => ?_
  ·
    have hi : ∀ {l : List Value} {ys : List Int}, RepAll s.heap l (ys.map .int) → IntsAre l ys := by
      intro l ys q
      induction ys generalizing l with
      | nil => cases q; exact .nil
      | cons y ys ih => cases q with | cons a r => cases a; exact .cons _ _ (ih r)
    refine in_tuple_ints ⟨_, ho, rfl, n, rfl⟩ (hi r) (.here z (.bool _) ?_)
    have e : (xs.any fun y => y == x) = decide (x ∈ xs) := by
      rw [Bool.eq_iff_iff]; simp only [List.any_eq_true, beq_iff_eq, decide_eq_true_eq]
      exact ⟨fun ⟨y, a, b⟩ => b ▸ a, fun q => ⟨x, q, rfl⟩⟩
    rw [e]; exact h
theorem op_item_list {e₁ e₂ : Expr} {a : Addr} {ds : List V} {i : Int} {d : V} (ea : σ a = some (.list ds)) (h0 : 0 ≤ i) (hi : i < 2 ^ 63) (hd : ds[i.toNat]? = some d) (h : k d σ)
    (hs : ∀ t, subscripted e₂ false (.ref a) (.int i t) = operate [.ref a, .int i t] (getItem (.ref a) (.int i t)) := by intro _; with_unfolding_all rfl) : Op2 G A L ρ σ (subscriptTail e₁ e₂) (.ref a) (.int i) k X := fun s u v z r₁ r₂ => by
  refine r₁.elim ?_; refine r₂.elim fun _ => ?_
  obtain ⟨vs, n, ho, r⟩ := z.list ea
  obtain ⟨w, hw, rw'⟩ := r.get i.toNat hd
  exact tail_any (isList_of ho).typeIs slot_list_getitem.lookup (wpAny_getItem_list (isList_of ho) h0 hi (by simpa using hw) (.here z rw' h)) (hs _)
theorem op_item_tup {e₁ e₂ : Expr} {ds : List V} {i : Int} {d : V} (h0 : 0 ≤ i) (hi : i < 2 ^ 63) (hd : ds[i.toNat]? = some d) (h : k d σ)
    (hs : ∀ a t, subscripted e₂ false (.ref a) (.int i t) = operate [.ref a, .int i t] (getItem (.ref a) (.int i t)) := by intro _ _; with_unfolding_all rfl) : Op2 G A L ρ σ (subscriptTail e₁ e₂) (.tup ds) (.int i) k X := fun s u v z r₁ r₂ => by
  refine r₂.elim fun _ => ?_
  refine r₁.elim fun a n vs ho r => ?_
  ·
    obtain ⟨w, hw, rw'⟩ := r.get i.toNat hd
    have hl : vs.size = ds.length := by simpa using r.length
    have ht : IsTup s.heap a vs := ⟨_, ho, rfl, n, rfl⟩
    have hlt : i.toNat < ds.length := (List.getElem?_eq_some_iff.mp hd).1
    refine tail_any ht.typeIs slot_tuple_getitem.lookup (getItem_tuple (j := i.toNat) ht (by omega) hi ?_ (by simpa using hw) (.here z rw' h)) (hs _ _)
    unfold seqIndex?
    have e1 : ¬ i < 0 := by omega
    have e2 : i < (vs.size : Int) := by rw [hl]; omega
    simp [e1, h0, e2]
end
end Mine
namespace Mine
def OpC (G : Amb) (A : Around) (L : Addr) (ρ : Loc) (σ : St) (f : Value) (ds : List V) (k : V → St → Prop) (X : Value → Shared → Prop) : Prop :=
  ∀ s vs, S G L ρ σ s.heap → RepAll s.heap vs ds → wpAny (model G.prog G.w) A (call f vs) (Post G L ρ σ s k) X s
def CK (G : Amb) (f : Value) : Prop := (∀ a, f ≠ .ref a) ∨ keepIn G.K f = true
theorem CK.looks {G : Amb} {M : Model} {f : Value} (x : CK G f) (h : Heap) (X : G.K.In h) : ∃ k, (k = Keeper.frame ∨ k = Keeper.machine ∨ k = Keeper.boundFrame) ∧ Looks M h (keeperOf f) k := by
  rcases x with x | x
  · refine ⟨.machine, .inr (.inl rfl), Looks.of_pure ?_⟩
    cases f <;> first | rfl | exact absurd rfl (x _)
  · exact keeps_K x h X
theorem CK.builtin {G : Amb} (id : String) : CK G (.builtin id) := .inl fun _ e => by cases e
theorem CK.type {G : Amb} (id : String) : CK G (.type id) := .inl fun _ e => by cases e
section
variable {G : Amb} {A : Around} {env : Env} {L : Addr} {ρ : Loc} {σ : St} {X : Value → Shared → Prop} {k : V → St → Prop}
theorem callWith0 {pos : Pos} {f : Value} {fv : List Value} {fd : List V} (hf : CK G f) (h : OpC G A env.locals ρ σ f fd k X) {s : Shared} (x : S G env.locals ρ σ s.heap) (r : RepAll s.heap fv fd) :
    wpAny (model G.prog G.w) A (callWith pos f fv (backTo pos (starEach [] env)) []) (Post G env.locals ρ σ s k) X s :=
  callWith_of (P := G.K.In) rfl (hf.looks) (evalArgs_nil3 ⟨x.In, by simpa using h s fv x r⟩)
theorem callWith1 {pos : Pos} {f : Value} {fv : List Value} {fd : List V} {e : Expr} {rest : List Expr} (hf : CK G f) (h : LV G A env ρ σ pos (e :: rest) (fun ds σ' => OpC G A env.locals ρ σ' f (fd ++ ds) k X) X)
    (he : starEach (e :: rest) env = (false, eval e env) :: starEach rest env := by rfl) (hplain : (backTo pos (starEach rest env)).any (·.1) = false := by rfl)
    {s : Shared} (x : S G env.locals ρ σ s.heap) (r : RepAll s.heap fv fd) :
    wpAny (model G.prog G.w) A (callWith pos f fv (backTo pos (starEach (e :: rest) env)) []) (Post G env.locals ρ σ s k) X s := by
  have h' := h s x
  rw [he] at h' ⊢
  refine callWith_of (P := G.K.In) (by show ((false || (backTo pos (starEach rest env)).any (·.1)) || false) = false; rw [hplain]; rfl) (hf.looks) (evalArgs_plain (wpAny_mono h' (fun vs s₁ p => ?_) fun _ _ e => e))
  refine p.elim fun h₁ t₁ ds σ₁ E₁ x₁ r₁ q₁ => ?_
  exact ⟨x₁.In, wpAny_mono (q₁ _ (fv ++ vs) x₁ (RepAll.append r₁ (r.mono E₁.tup))) (fun _ _ q => Post.trans E₁ q) fun _ _ e => e⟩
theorem ev_Call {func : Expr} {e : Expr} {rest : List Expr} {pos : Pos} (h : EV G A env ρ σ func (fun d σ₁ => ∃ f, d = .glob f ∧ CK G f ∧ LV G A env ρ σ₁ pos (e :: rest) (fun ds σ₂ => OpC G A env.locals ρ σ₂ f ds k X) X) X)
    (he : eval (.Call func (e :: rest) [] pos) env = (do callWith pos (← eval func env) [] (backTo pos (starEach (e :: rest) env)) (backToKw pos (keywordEach [] env))) := by rfl)
    (hs : starEach (e :: rest) env = (false, eval e env) :: starEach rest env := by rfl) (hplain : (backTo pos (starEach rest env)).any (·.1) = false := by rfl) :
    EV G A env ρ σ (.Call func (e :: rest) [] pos) k X := fun s x => by
  refine Call_ (wpAny_mono (h s x) (fun v s₁ p => ?_) fun _ _ e => e) he
  refine p.elim fun h₁ t₁ d σ₁ E₁ x₁ r₁ q₉ => ?_; obtain ⟨f, rfl, hf, q⟩ := q₉
  cases r₁
  exact wpAny_mono (callWith1 (fd := []) hf q hs hplain x₁ .nil) (fun _ _ q => Post.trans E₁ q) fun _ _ e => e
def GM (G : Amb) (A : Around) (L : Addr) (ρ : Loc) (σ : St) (name : Str) (d : V) (k : Value → List V → Prop) (X : Value → Shared → Prop) : Prop :=
  ∀ s v (pl : Sem Bool), S G L ρ σ s.heap → Rep s.heap v d → wpAny (model G.prog G.w) A (getMethod v name pl) (fun fx s' => s' = s ∧ ∃ fd, RepAll s.heap fx.2 fd ∧ k fx.1 fd) X s
theorem ev_MCall0 {o : Expr} {name : Str} {apos pos : Pos} {pl : Sem Bool} (h : EV G A env ρ σ o (fun d σ₁ => GM G A env.locals ρ σ₁ name d (fun f fd => CK G f ∧ OpC G A env.locals ρ σ₁ f fd k X) X) X)
    (he : eval (.Call (.Attribute o name apos) [] [] pos) env = (do
      let ov ← eval o env
      standAt apos.atName
      let (f, first) ← holding [ov] (getMethod ov name pl)
      callWith pos f first (backTo pos (starEach [] env)) []) := by rfl) : EV G A env ρ σ (.Call (.Attribute o name apos) [] [] pos) k X := fun s x => by
  refine MethodCall_ (pl := pl) (wpAny_mono (h s x) (fun v s₁ p => ?_) fun _ _ e => e) he
  refine p.elim fun h₁ t₁ d σ₁ E₁ x₁ r₁ q => ?_
  refine wpAny_mono (q _ v pl x₁ r₁) (fun fx s₂ p => ?_) fun _ _ e => e
  obtain ⟨rfl, fd, rf, hf, q⟩ := p
  exact wpAny_mono (callWith0 hf q x₁ rf) (fun _ _ q => Post.trans E₁ q) fun _ _ e => e
theorem ev_MCall {o : Expr} {name : Str} {apos pos : Pos} {e : Expr} {rest : List Expr} {pl : Sem Bool}
    (h : EV G A env ρ σ o (fun d σ₁ => GM G A env.locals ρ σ₁ name d (fun f fd => CK G f ∧ LV G A env ρ σ₁ pos (e :: rest) (fun ds σ₂ => OpC G A env.locals ρ σ₂ f (fd ++ ds) k X) X) X) X)
    (he : eval (.Call (.Attribute o name apos) (e :: rest) [] pos) env = (do
      let ov ← eval o env
      standAt apos.atName
      let (f, first) ← holding [ov] (getMethod ov name pl)
      callWith pos f first (backTo pos (starEach (e :: rest) env)) []) := by rfl)
    (hs : starEach (e :: rest) env = (false, eval e env) :: starEach rest env := by rfl) (hplain : (backTo pos (starEach rest env)).any (·.1) = false := by rfl) :
    EV G A env ρ σ (.Call (.Attribute o name apos) (e :: rest) [] pos) k X := fun s x => by
  refine MethodCall_ (pl := pl) (wpAny_mono (h s x) (fun v s₁ p => ?_) fun _ _ e => e) he
  refine p.elim fun h₁ t₁ d σ₁ E₁ x₁ r₁ q => ?_
  refine wpAny_mono (q _ v pl x₁ r₁) (fun fx s₂ p => ?_) fun _ _ e => e
  obtain ⟨rfl, fd, rf, hf, q⟩ := p
  exact wpAny_mono (callWith1 hf q hs hplain x₁ rf) (fun _ _ q => Post.trans E₁ q) fun _ _ e => e
theorem gm_list {name : Str} {id : String} {a : Addr} {ds : List V} {k : Value → List V → Prop} (slot : Slot "list" name id) (hty : typeOf (.builtin id) = pure (.type "method_descriptor")) (ea : σ a = some (.list ds))
    (h : k (.builtin id) [.ref a]) : GM G A L ρ σ name (.ref a) k X := fun s v pl x r => by
  cases r
  obtain ⟨vs, n, ho, _⟩ := x.list ea
  exact getMethod_builtin (isList_of ho).typeIs PySem.F.plainAttrs_list slot hty (fun b e => by cases e; exact ⟨_, ho, rfl⟩) ⟨rfl, _, .cons (.ref a) .nil, h⟩
theorem gm_dict {name : Str} {id : String} {a : Addr} {ep : Nat} {es : List (Str × V)} {k : Value → List V → Prop} (slot : Slot "dict" name id) (hty : typeOf (.builtin id) = pure (.type "method_descriptor")) (ea : σ a = some (.sdict ep es))
    (h : k (.builtin id) [.ref a]) : GM G A L ρ σ name (.ref a) k X := fun s v pl x r => by
  cases r
  obtain ⟨kvs, hd, _, _⟩ := x.obj a _ ea
  exact getMethod_builtin hd.dictOf.typeIs PySem.F.plainAttrs_dict slot hty hd.dictOf.mapOf.noDict ⟨rfl, _, .cons (.ref a) .nil, h⟩
theorem attrs_get {w : World} {h : Heap} {name : Str} : ∀ {es : List DictEntry} {ps : List (Str × V)}, AttrsRep w h es ps → (match ps.find? (fun p => p.1 == name) with
    | some p => ∃ v, getL name es = some (some v) ∧ Rep h v p.2
    | none => getL name es = some none)
  | _, _, .nil => rfl
  | _, _, .cons (e := e) (p := p) (es := es) (ps := ps) a r => by
    obtain ⟨t, ht⟩ := a.key
    have ih := attrs_get (name := name) r
    have hk : e.key.isStr name = (p.1 == name) := by rw [ht]; rfl
    rw [List.find?_cons]
    unfold getL at ih ⊢
    rw [List.find?_cons, hk]
    cases q : p.1 == name with
    | true => exact ⟨_, rfl, a.val⟩
    | false =>
      have hr : e.refKey = false := by unfold DictEntry.refKey; rw [ht]
      rw [List.any_cons, hr, Bool.false_or]
      exact ih
theorem S.instAt {h : Heap} {a dx C : Addr} {ps : List (Str × V)} (x : S G L ρ σ h) (ea : σ a = some (.inst C dx)) (ed : σ dx = some (.attrs ps)) : ∃ es n, InstAt h a (instObj C dx) C (some (dictOf es n)) ∧ AttrsRep G.w h es ps ∧ h.get? dx = some (dictOf es n) := by
  obtain ⟨es, n, ho, r⟩ := x.obj dx _ ed
  exact ⟨es, n, ⟨x.obj a _ ea, rfl, rfl, ho⟩, r, ho⟩
theorem gm_inst {name : Str} {a dx C f : Addr} {ps : List (Str × V)} {k : Value → List V → Prop} (ea : σ a = some (.inst C dx)) (ed : σ dx = some (.attrs ps)) (hno : ps.find? (fun p => p.1 == name) = none)
    (hg : plainGet G.K C name = true) (hf : findIn G.K (.ref C) name = some (some (.ref f))) (ht : isFn G.K (.ref f) = true) (h : k (.ref f) [.ref a]) : GM G A L ρ σ name (.ref a) k X := fun s v pl x r => by
  cases r
  obtain ⟨es, n, I, r, ho⟩ := x.instAt ea ed
  have q := attrs_get (name := name) r
  rw [hno] at q
  exact method_fn x.In I (plainGet_of hg).1 (plainGet_of hg).2 hf (beq_iff_eq.mp ht) (by show (lookIn name (dictOf es n)).map _ = _; rw [lookIn_dict, q]; rfl) ⟨rfl, _, .cons (.ref a) .nil, h⟩
theorem ev_Attr {e : Expr} {name : Str} {pos : Pos} (h : EV G A env ρ σ e (fun d σ₁ => ∃ a C dx ps p attr, d = .ref a ∧ σ₁ a = some (.inst C dx) ∧ σ₁ dx = some (.attrs ps) ∧ ps.find? (fun p => p.1 == name) = some p ∧
      plainGet G.K C name = true ∧ hasDictIn G.K C = true ∧ findIn G.K (.ref C) name = some attr ∧ noGet G.K attr = true ∧ k p.2 σ₁) X)
    (he : eval (.Attribute e name pos) env = (do
      let o ← eval e env
      standAt pos.atName
      let r ← holding [o] (getAttr o name true)
      letTemporaryGo e o r
      pure r) := by with_unfolding_all rfl) : EV G A env ρ σ (.Attribute e name pos) k X := fun s x => by
  refine Attribute_any_ (wpAny_mono (h s x) (fun v s₁ p => ?_) fun _ _ e => e) he
  refine p.elim fun h₁ t₁ d σ₁ E₁ x₁ r₁ q₉ => ?_; obtain ⟨a, C, dx, ps, p, attr, rfl, ea, ed, hp, hg, hh, ha, hn, q⟩ := q₉
  cases r₁
  obtain ⟨es, n, I, r, ho⟩ := x₁.instAt ea ed
  have z := attrs_get (name := name) r
  rw [hp] at z
  obtain ⟨w, hw, rw'⟩ := z
  exact get_value x₁.In I (plainGet_of hg).1 (findObj_own hh ha hn (by rw [lookIn_dict]; exact hw)) rw'.handed (Post.trans E₁ (.tok x₁ rw' q))
end
end Mine
namespace Mine
section
variable {G : Amb} {A : Around} {env : Env} {L : Addr} {ρ : Loc} {σ : St} {X : Value → Shared → Prop} {k : V → St → Prop}
theorem repAll_one {h : Heap} {vs : List Value} {d : V} (r : RepAll h vs [d]) : ∃ v, vs = [v] ∧ Rep h v d := by
  cases r with | cons a r => cases r; exact ⟨_, rfl, a⟩
theorem repAll_two {h : Heap} {vs : List Value} {d e : V} (r : RepAll h vs [d, e]) : ∃ u v, vs = [u, v] ∧ Rep h u d ∧ Rep h v e := by
  cases r with | cons a r => obtain ⟨v, rfl, b⟩ := repAll_one r; exact ⟨_, _, rfl, a, b⟩
theorem mapSeq_push (xs : Array Value) (n : Nat) (f : Array Value → Array Value) : Obj.mapSeq f (listOf xs n) = listOf (f xs) (if (f xs).size == xs.size then n else n + 1) := rfl
theorem list_changed {s : Shared} {a : Addr} {ds ds' : List V} {vs : Array Value} {n : Nat} {f : Array Value → Array Value} (x : S G L ρ σ s.heap) (ea : σ a = some (.list ds)) (ho : s.heap.get? a = some (listOf vs n))
    (r : ∀ h, TupK s.heap h → RepAll h (f vs).toList ds') {v : Value} {d : V} {tk : Nat} (hv : ∀ h, TupK s.heap h → Rep h v d) (h : k d (σ.set a (.list ds'))) :
    Post G L ρ σ s k v { s with heap := s.heap.update a (Obj.mapSeq f), toks := tk } := by
  have hs : Heap.SameBut a s.heap (s.heap.update a (Obj.mapSeq f)) := Heap.SameBut.update ..
  have tkp : TupK s.heap (s.heap.update a (Obj.mapSeq f)) := tupK_sameBut hs ho fun ⟨c, _⟩ => by simp at c
  have hn : (s.heap.update a (Obj.mapSeq f)).get? a = some (listOf (f vs) (if (f vs).size == vs.size then n else n + 1)) := by
    rw [Heap.get?_update_self _ ho (by rw [mapSeq_push]; rfl), mapSeq_push]
  have x' : RepObj G.prog G.w (s.heap.update a (Obj.mapSeq f)) a (.list ds') := ⟨_, _, hn, r _ tkp⟩
  exact ⟨_, tk, d, _, rfl, Ext.upd ea (x.obj a _ ea) hs x', x.upd ea hs x', hv _ tkp, h⟩
theorem opc_append {a : Addr} {ds : List V} {d : V} (ea : σ a = some (.list ds)) (hsz : ds.length ≤ sizeLine) (h : k .none (σ.set a (.list (ds ++ [d])))) : OpC G A L ρ σ (.builtin "list.append") [.ref a, d] k X := fun s vs x r => by
  obtain ⟨u, v, rfl, r₁, r₂⟩ := repAll_two r
  refine r₁.elim ?_
  obtain ⟨ws, n, ho, rl⟩ := x.list ea
  have hl : ws.size = ds.length := by simpa using rl.length
  refine call_meets PySem.F.slot_list_append ⟨_, ho, rfl⟩ PySem.F.entry_list_append (PySem.F.args_list_append_2 _ _) (PySem.AutoListH.list_append_list_val_0 a ws n v (by omega)) ⟨ho, ?_⟩
  exact list_changed x ea ho (f := fun x => x.push v) (fun h t => by simpa using (rl.mono t).snoc (r₂.mono t)) (fun _ _ => .none) h
theorem opc_extend_tup {a : Addr} {ds es : List V} (ea : σ a = some (.list ds)) (hsz : ds.length + es.length ≤ sizeLine) (h : k .none (σ.set a (.list (ds ++ es)))) : OpC G A L ρ σ (.builtin "list.extend") [.ref a, .tup es] k X := fun s vs x r => by
  obtain ⟨u, v, rfl, r₁, r₂⟩ := repAll_two r
  refine r₁.elim ?_
  refine r₂.elim fun b m ys hb rb => ?_
  ·
    obtain ⟨ws, n, ho, rl⟩ := x.list ea
    have hl : ws.size = ds.length := by simpa using rl.length
    have hl2 : ys.size = es.length := by simpa using rb.length
    have door : ¬(!ws.isEmpty && Builtin.List.listTooLong (ws.size + ys.size)) = true := extend_door (by omega)
    exact call_meets PySem.F.slot_list_extend ⟨_, ho, rfl⟩ PySem.F.entry_list_extend (PySem.F.args_list_extend_2 _ _) (AutoSeq1.list_extend_list_tuple_0 a ws n b ys m door (by omega) (by omega))
      ⟨ho, hb, list_changed x ea ho (f := fun x => x ++ ys) (fun h t => by simpa using RepAll.append (rb.mono t) (rl.mono t)) (fun _ _ => .none) h⟩
theorem repAll_erase {h : Heap} : ∀ {vs : List Value} {ds : List V} (_ : RepAll h vs ds) (i : Nat), RepAll h (vs.eraseIdx i) (ds.eraseIdx i)
  | _, _, .nil, i => by simpa using RepAll.nil
  | _, _, .cons a r, 0 => by simpa using r
  | _, _, .cons a r, i + 1 => by simpa using RepAll.cons a (repAll_erase r i)
theorem toList_erase (xs : Array Value) (i : Nat) : (xs.eraseIdxIfInBounds i).toList = xs.toList.eraseIdx i := by
  unfold Array.eraseIdxIfInBounds
  split
  · simp
  · rename_i h
    rw [List.eraseIdx_of_length_le]
    simpa using h
theorem opc_pop_at {a : Addr} {ds : List V} {i : Int} {d : V} (ea : σ a = some (.list ds)) (hsz : ds.length ≤ sizeLine) (h0 : 0 ≤ i) (hd : ds[i.toNat]? = some d) (h : k d (σ.set a (.list (ds.eraseIdx i.toNat)))) :
    OpC G A L ρ σ (.builtin "list.pop") [.ref a, .int i] k X := fun s vs x r => by
  obtain ⟨u, v, rfl, r₁, r₂⟩ := repAll_two r
  refine r₁.elim ?_; refine r₂.elim fun _ => ?_
  obtain ⟨ws, n, ho, rl⟩ := x.list ea
  have hl : ws.size = ds.length := by simpa using rl.length
  obtain ⟨w, hw, rw'⟩ := rl.get _ hd
  have hlt : i.toNat < ds.length := (List.getElem?_eq_some_iff.mp hd).1
  have hk : seqIndex? i ws.size = some i.toNat := by
    unfold seqIndex?
    have e1 : ¬ i < 0 := by omega
    have e2 : i < (ws.size : Int) := by rw [hl]; omega
    simp [e1, h0, e2]
  have hfit : Builtin.List.listFitsIndex i = true := by
    unfold Builtin.List.listFitsIndex
    rw [sizeLine_eq] at hsz
    simp; omega
  exact call_meets PySem.F.slot_list_pop ⟨_, ho, rfl⟩ PySem.F.entry_list_pop (PySem.F.args_list_pop_2 _ _) (PySem.MeetsSeq.list_pop_at a ws n i _ i.toNat w hfit hk (by simpa using hw) (by omega))
    ⟨ho, list_changed x ea ho (f := fun xs => xs.eraseIdxIfInBounds i.toNat) (fun h t => by rw [toList_erase]; exact repAll_erase (rl.mono t) _) (fun _ t => rw'.mono t) h⟩
theorem map_eraseIdx' {α β : Type} (f : α → β) : ∀ (l : List α) (i : Nat), (l.eraseIdx i).map f = (l.map f).eraseIdx i
  | [], _ => by simp
  | _ :: _, 0 => by simp
  | a :: l, i + 1 => by simp [map_eraseIdx' f l i]
theorem isStr_at {h : Heap} {x : Str} {vs : List Value} {xs : List Str} (r : RepAll h vs (xs.map .str)) {m : Nat} {v : Value} (hv : vs[m]? = some v) : isStr x v = (xs[m]? == some x) := by
  obtain ⟨d, hd, rd⟩ := r.get' m hv
  rw [List.getElem?_map] at hd
  cases q : xs[m]? with
  | none => rw [q] at hd; cases hd
  | some z =>
    rw [q] at hd; cases hd; cases rd
    show (z.cps.toList == x.cps.toList) = _
    rw [toList_beq]; rfl
theorem opc_remove {a : Addr} {xs : List Str} {x : Str} (ea : σ a = some (.list (xs.map .str))) (hsz : xs.length ≤ sizeLine) (hx : x ∈ xs) (h : k .none (σ.set a (.list ((xs.erase x).map .str)))) :
    OpC G A L ρ σ (.builtin "list.remove") [.ref a, .str x] k X := fun s vs z r => by
  obtain ⟨u, v, rfl, r₁, r₂⟩ := repAll_two r
  refine r₁.elim ?_; refine r₂.elim fun _ => ?_
  obtain ⟨ws, n, ho, rl⟩ := z.list ea
  have hl : ws.size = xs.length := by simpa using rl.length
  have hj : xs.idxOf x < xs.length := List.idxOf_lt_length_of_mem hx
  refine call_meets PySem.F.slot_list_remove ⟨_, ho, rfl⟩ PySem.F.entry_list_remove (PySem.F.args_list_remove_2 _ _)
    (PySem.MeetsSeq.list_remove a ws n (.str x _) (isStr x) (fun y hy => eqGives_str rl y (by simpa using hy)) (xs.idxOf x) (by omega) ?_ ?_ (by omega))
    ⟨ho, list_changed z ea ho (f := fun xs' => xs'.eraseIdxIfInBounds (xs.idxOf x)) (fun h t => ?_) (fun _ _ => .none) h⟩
  · have e := isStr_at (x := x) rl (m := xs.idxOf x) (v := ws[xs.idxOf x]'(by omega)) (by simp [hl, hj])
    rw [e]
    simp [hj]
  · intro m hm hlt
    have e := isStr_at (x := x) rl (m := m) (v := ws[m]) (by simp [hm])
    rw [e]
    have : m < xs.length := by omega
    simp only [List.getElem?_eq_getElem this]
    have := List.not_of_lt_findIdx hlt
    simpa using this
  · rw [toList_erase]
    have e : (xs.erase x).map V.str = (xs.map V.str).eraseIdx (xs.idxOf x) := by
      rw [List.erase_eq_eraseIdx_of_idxOf (i := xs.idxOf x) rfl, map_eraseIdx']
    rw [e]; exact repAll_erase (rl.mono t) _
theorem op_add_list {a b : Addr} {xs ys : List V} (ea : σ a = some (.list xs)) (eb : σ b = some (.list ys)) (hsz : xs.length + ys.length ≤ sizeLine) (h : ∀ c, σ c = none → k (.ref c) (σ.set c (.list (xs ++ ys)))) :
    Op2 G A L ρ σ (binaryOp .Add) (.ref a) (.ref b) k X := fun s u v x r₁ r₂ => by
  refine r₁.elim ?_; refine r₂.elim ?_
  obtain ⟨vs, n, ho, ra⟩ := x.list ea
  obtain ⟨ws, m, ho2, rb⟩ := x.list eb
  have hl : vs.size = xs.length := by simpa using ra.length
  have hl2 : ws.size = ys.length := by simpa using rb.length
  refine concat_meets ⟨_, ho, rfl⟩ ⟨_, ho2, rfl⟩ noFill_list_add seq_list_add PySem.F.slot_list_add PySem.F.entry_list_add (PySem.F.args_list_add_2 _ _) (list_addW a b vs ws n m none none #[] #[] (by omega)) ⟨ho, ho2, ?_⟩
  have kp : ∀ b o, s.heap.get? b = some o → (s.heap.push { cls := .type "list", data := .seq (vs ++ ws) }).get? b = some o := fun b o e => Heap.get?_push_of_some _ e
  have hn := Mine.none_at_size s.heap
  exact ⟨_, s.toks, _, _, rfl, .new hn kp, x.newAt (o := .list (xs ++ ys)) hn (Nat.le_of_lt x.big) kp ⟨vs ++ ws, 0, Heap.get?_push_size _ rfl, by simpa using RepAll.append (rb.mono (.of_keeps kp)) (ra.mono (.of_keeps kp))⟩, .ref _, h _ (x.unused hn)⟩
theorem op_add_tup {xs ys : List V} (hsz : xs.length + ys.length ≤ sizeLine) (h : k (.tup (xs ++ ys)) σ) : Op2 G A L ρ σ (binaryOp .Add) (.tup xs) (.tup ys) k X := fun s u v x r₁ r₂ => by
  refine r₁.elim fun a n vs ho ra => ?_
  refine r₂.elim fun b m ws ho2 rb => ?_
  ·
    have hl : vs.size = xs.length := by simpa using ra.length
    have hl2 : ws.size = ys.length := by simpa using rb.length
    by_cases h1 : vs.isEmpty = true
    · have : xs = [] := by have : vs.size = 0 := by simpa using h1
                           rw [hl] at this; exact List.eq_nil_of_length_eq_zero this
      subst this
      exact concat_meets ⟨_, ho, rfl⟩ ⟨_, ho2, rfl⟩ noFill_tuple_add seq_tuple_add PySem.F.slot_tuple_add PySem.F.entry_tuple_add (PySem.F.args_tuple_add_2 _ _) (tuple_addW0 a b vs ws n m none none #[] #[] h1)
        ⟨ho, ho2, .here x (.tup ho2 rb) h⟩
    · by_cases h2 : ws.isEmpty = true
      · have : ys = [] := by have : ws.size = 0 := by simpa using h2
                             rw [hl2] at this; exact List.eq_nil_of_length_eq_zero this
        subst this
        exact concat_meets ⟨_, ho, rfl⟩ ⟨_, ho2, rfl⟩ noFill_tuple_add seq_tuple_add PySem.F.slot_tuple_add PySem.F.entry_tuple_add (PySem.F.args_tuple_add_2 _ _) (tuple_addW1 a b vs ws n m none none #[] #[] h1 h2)
          ⟨ho, ho2, .here x (.tup ho ra) (by simpa using h)⟩
      · refine concat_meets ⟨_, ho, rfl⟩ ⟨_, ho2, rfl⟩ noFill_tuple_add seq_tuple_add PySem.F.slot_tuple_add PySem.F.entry_tuple_add (PySem.F.args_tuple_add_2 _ _) (tuple_addW2 a b vs ws n m none none #[] #[] h1 h2 (by omega))
          ⟨ho, ho2, ?_⟩
        have kp : ∀ b o, s.heap.get? b = some o → (s.heap.push { cls := .type "tuple", data := .seq (vs ++ ws) }).get? b = some o := fun b o e => Heap.get?_push_of_some _ e
        exact ⟨_, s.toks, _, σ, rfl, .keeps kp, x.keeps kp, .tup (vs := vs ++ ws) (n := 0) (Heap.get?_push_size _ rfl) (by simpa using RepAll.append (rb.mono (.of_keeps kp)) (ra.mono (.of_keeps kp))), h⟩
theorem opc_list_of {s : Shared} {l : Addr} {T : String} {o : Obj} {items : Array Value} {n : Nat} {ds : List V} (x : S G L ρ σ s.heap) (hT : T = "list" ∨ T = "tuple") (ho : s.heap.get? l = some o) (hc : o.cls = .type T) (hd : o.data = .seq items n)
    (r : RepAll s.heap items.toList ds) (hsz : ds.length ≤ sizeLine) (h : ∀ c, σ c = none → k (.ref c) (σ.set c (.list ds))) : wpAny (model G.prog G.w) A (call (.type "list") [.ref l]) (Post G L ρ σ s k) X s := by
  have hl : items.size = ds.length := by simpa using r.length
  refine call_list_seq l hT ho hc hd (fun h' c' kp hD => ?_) (by omega)
  have hn := Mine.none_at_size s.heap
  exact ⟨h', s.toks, _, _, rfl, .new hn kp, x.newAt (o := .list ds) hn (Nat.le_of_lt x.big) kp ⟨items, c', hD, r.mono (.of_keeps kp)⟩, .ref _, h _ (x.unused hn)⟩
theorem opc_list_list {a : Addr} {ds : List V} (ea : σ a = some (.list ds)) (hsz : ds.length ≤ sizeLine) (h : ∀ c, σ c = none → k (.ref c) (σ.set c (.list ds))) : OpC G A L ρ σ (.type "list") [.ref a] k X := fun s vs x r => by
  obtain ⟨v, rfl, r₁⟩ := repAll_one r
  refine r₁.elim ?_
  obtain ⟨ws, n, ho, rl⟩ := x.list ea
  exact opc_list_of x (.inl rfl) ho rfl rfl rl hsz h
theorem opc_list_tup {ds : List V} (hsz : ds.length ≤ sizeLine) (h : ∀ c, σ c = none → k (.ref c) (σ.set c (.list ds))) : OpC G A L ρ σ (.type "list") [.tup ds] k X := fun s vs x r => by
  obtain ⟨v, rfl, r₁⟩ := repAll_one r
  refine r₁.elim fun a n ws ho rl => ?_
  exact opc_list_of x (.inr rfl) ho rfl rfl rl hsz h
theorem opc_tuple_tup {ds : List V} (h : k (.tup ds) σ) : OpC G A L ρ σ (.type "tuple") [.tup ds] k X := fun s vs x r => by
  obtain ⟨v, rfl, r₁⟩ := repAll_one r
  refine r₁.elim fun a n ws ho rl => ?_
  exact call_tuple_same ⟨_, ho, rfl, n, rfl⟩ (.here x (.tup ho rl) h)
theorem opc_len_list {a : Addr} {ds : List V} (ea : σ a = some (.list ds)) (hsz : ds.length ≤ sizeLine) (h : k (.int ds.length) σ) : OpC G A L ρ σ (.builtin "len") [.ref a] k X := fun s vs x r => by
  obtain ⟨v, rfl, r₁⟩ := repAll_one r
  refine r₁.elim ?_
  obtain ⟨ws, n, ho, rl⟩ := x.list ea
  have hl : ws.size = ds.length := by simpa using rl.length
  refine call_len_list (isList_of ho) (by rw [sizeLine_eq] at hsz; omega) ?_
  rw [hl]; exact .tok x (.int _ _) h
theorem opc_len_tup {ds : List V} (hsz : ds.length ≤ sizeLine) (h : k (.int ds.length) σ) : OpC G A L ρ σ (.builtin "len") [.tup ds] k X := fun s vs x r => by
  obtain ⟨v, rfl, r₁⟩ := repAll_one r
  refine r₁.elim fun a n ws ho rl => ?_
  ·
    have hl : ws.size = ds.length := by simpa using rl.length
    refine len_tuple (t := a) (items := ws) ⟨_, ho, rfl, n, rfl⟩ (by rw [sizeLine_eq] at hsz; omega) ?_
    rw [hl]; exact .tok x (.int _ _) h
theorem opc_abs {i : Int} (h : k (.int i.natAbs) σ) : OpC G A L ρ σ (.builtin "abs") [.int i] k X := fun s vs x r => by
  obtain ⟨v, rfl, r₁⟩ := repAll_one r
  refine r₁.elim fun _ => ?_
  refine call_abs_int fun u tk => .tok x (.int _ _) ?_
  have e : (if i < 0 then -i else i) = (i.natAbs : Int) := by split <;> omega
  rw [e]; exact h
end
end Mine
namespace Mine
inductive SD (h : Heap) : List (Str × Value) → List (Str × V) → Prop
  | nil : SD h [] []
  | cons {k v d xs es} : Rep h v d → SD h xs es → SD h ((k, v) :: xs) ((k, d) :: es)
theorem SD.of {h : Heap} : ∀ {kvs : List (Str × Value)} {es : List (Str × V)}, kvs.map (·.1) = es.map (·.1) → RepAll h (kvs.map (·.2)) (es.map (·.2)) → SD h kvs es
  | [], [], _, _ => .nil
  | [], _ :: _, e, _ => by simp at e
  | _ :: _, [], e, _ => by simp at e
  | (k, v) :: xs, (k', d) :: es, e, r => by
    simp only [List.map_cons, List.cons.injEq] at e
    obtain ⟨rfl, e⟩ := e
    cases r with | cons a r => exact .cons a (SD.of e r)
theorem SD.to {h : Heap} {kvs : List (Str × Value)} {es : List (Str × V)} (x : SD h kvs es) : kvs.map (·.1) = es.map (·.1) ∧ RepAll h (kvs.map (·.2)) (es.map (·.2)) := by
  induction x with
  | nil => exact ⟨rfl, .nil⟩
  | cons a _ ih => exact ⟨by simp [ih.1], .cons a ih.2⟩
theorem SD.length {h : Heap} {kvs : List (Str × Value)} {es : List (Str × V)} (x : SD h kvs es) : kvs.length = es.length := by
  induction x with | nil => rfl | cons _ _ ih => simp [ih]
theorem SD.mono {h h' : Heap} (t : TupK h h') {kvs : List (Str × Value)} {es : List (Str × V)} (x : SD h kvs es) : SD h' kvs es := by
  induction x with | nil => exact .nil | cons a _ ih => exact .cons (a.mono t) ih
theorem SD.get {h : Heap} {kvs : List (Str × Value)} {es : List (Str × V)} (x : SD h kvs es) (k : Str) : match Loc.get es k with
    | some d => ∃ v, valueAt kvs k = some v ∧ Rep h v d
    | none => valueAt kvs k = none := by
  induction x with
  | nil => rfl
  | @cons k' v d xs es a _ ih =>
    unfold Loc.get valueAt
    rw [List.find?_cons]
    by_cases q : k' = k
    · subst q; simp; exact a
    · have q' : ¬ k = k' := fun e => q e.symm
      simp only [q, q', if_false, decide_false]
      exact ih
def vput (es : List (Str × V)) (k : Str) (d : V) : List (Str × V) :=
  if es.any (fun kv => kv.1 = k) then es.map (fun kv => if kv.1 = k then (kv.1, d) else kv) else es ++ [(k, d)]
theorem SD.any {h : Heap} {kvs : List (Str × Value)} {es : List (Str × V)} (x : SD h kvs es) (k : Str) : kvs.any (fun kv => kv.1 = k) = es.any (fun kv => kv.1 = k) := by
  induction x with | nil => rfl | cons _ _ ih => simp only [List.any_cons, ih]
theorem SD.snoc {h : Heap} {kvs : List (Str × Value)} {es : List (Str × V)} (x : SD h kvs es) {k : Str} {v d} (r : Rep h v d) : SD h (kvs ++ [(k, v)]) (es ++ [(k, d)]) := by
  induction x with | nil => exact .cons r .nil | cons a _ ih => exact .cons a ih
theorem SD.replace {h : Heap} {kvs : List (Str × Value)} {es : List (Str × V)} (x : SD h kvs es) {k : Str} {v d} (r : Rep h v d) : SD h (kvs.map (fun kv => if kv.1 = k then (kv.1, v) else kv)) (es.map (fun kv => if kv.1 = k then (kv.1, d) else kv)) := by
  induction x with
  | nil => exact .nil
  | @cons k' v' d' xs es a _ ih =>
    simp only [List.map_cons]
    by_cases q : k' = k
    · simp only [q, if_true]; exact .cons r ih
    · simp only [q, if_false]; exact .cons a ih
theorem SD.stored {h : Heap} {kvs : List (Str × Value)} {es : List (Str × V)} (x : SD h kvs es) {k : Str} {v d} (r : Rep h v d) : SD h (PySem.stored kvs k v) (vput es k d) := by
  unfold PySem.stored vput
  rw [x.any k]
  split
  · exact x.replace r
  · exact x.snoc r
def vmerge (es more : List (Str × V)) : List (Str × V) := more.foldl (fun acc kv => vput acc kv.1 kv.2) es
theorem SD.merged {h : Heap} {more : List (Str × Value)} {ms : List (Str × V)} (y : SD h more ms) : ∀ {kvs : List (Str × Value)} {es : List (Str × V)}, SD h kvs es → SD h (PySem.merged kvs more) (vmerge es ms) := by
  induction y with
  | nil => exact fun x => x
  | cons a _ ih => exact fun x => ih (x.stored a)
section
variable {G : Amb} {A : Around} {env : Env} {L : Addr} {ρ : Loc} {σ : St} {X : Value → Shared → Prop} {k : V → St → Prop}
theorem S.sdict {h : Heap} {a : Addr} {es : List (Str × V)} (x : S G L ρ σ h) {ep : Nat} (e : σ a = some (.sdict ep es)) : ∃ kvs, h.DictOf (PySem.strKind G.prog G.w) a kvs ∧ SD h kvs es :=
  let ⟨kvs, hd, hk, hv⟩ := x.obj a _ e; ⟨kvs, hd.dictOf, .of hk hv⟩
theorem sdict_rep {prog : Program} {w : World} {h : Heap} {a : Addr} {kvs es} {ep : Nat} (hd : h.DictAt (PySem.strKind prog w) a kvs ep) (x : SD h kvs es) : RepObj prog w h a (.sdict ep es) := ⟨kvs, hd, x.to.1, x.to.2⟩
theorem key_str (prog : Program) (w : World) (x : Str) (t : Tok) : (PySem.strKind prog w).is x (.str x t) = true := by simp [PySem.strKind, Value.isStrOf]
theorem dict_no_tuple {prog : Program} {w : World} {h : Heap} {a : Addr} {kvs} (hd : h.DictOf (PySem.strKind prog w) a kvs) : ∃ o, h.get? a = some o ∧ ¬ Tuple? o := by
  obtain ⟨o, es, ep, ho, _, hdt, _⟩ := hd
  exact ⟨o, ho, fun ⟨_, xs, n, t⟩ => by rw [hdt] at t; cases t⟩
theorem sdict_changed {s : Shared} {a : Addr} {es es' : List (Str × V)} {kvs' : List (Str × Value)} {h' : Heap} {ep : Nat} (x : S G L ρ σ s.heap) (ea : σ a = some (.sdict ep es)) (hs : Heap.SameBut a s.heap h')
    (hd : h'.DictOf (PySem.strKind G.prog G.w) a kvs') (r : SD s.heap kvs' es') {v : Value} {d : V} {tk : Nat} (hv : Rep s.heap v d) (h : ∀ ep', k d (σ.set a (.sdict ep' es'))) :
    Post G L ρ σ s k v { s with heap := h', toks := tk } := by
  obtain ⟨kvs, hd0, _⟩ := x.sdict ea
  obtain ⟨o, ho, nt⟩ := dict_no_tuple hd0
  have tkp : TupK s.heap h' := tupK_sameBut hs ho nt
  obtain ⟨ep', hd'⟩ := hd.dictAt
  have x' : RepObj G.prog G.w h' a (.sdict ep' es') := sdict_rep hd' (r.mono tkp)
  exact ⟨_, tk, d, _, rfl, Ext.upd ea (x.obj a _ ea) hs x', x.upd ea hs x', hv.mono tkp, h _⟩
theorem op_in_sdict {a : Addr} {x : Str} {ep : Nat} {es : List (Str × V)} (ea : σ a = some (.sdict ep es)) (h : k (.bool (Loc.get es x).isSome) σ) : Op2 G A L ρ σ (compareOp .In) (.str x) (.ref a) k X := fun s u v z r₁ r₂ => by
  refine r₁.elim fun _ => ?_; refine r₂.elim ?_
  obtain ⟨kvs, hd, q⟩ := z.sdict ea
  refine wpAny_in_of (key_str ..) (z.notMod (by rw [ea]; simp)) hd.mapOf ?_
  have g := q.get x
  cases e : Loc.get es x with
  | none => rw [e] at g h; rw [g]; exact .tok z (.bool _) h
  | some d => rw [e] at g h; obtain ⟨v, e2, _⟩ := g; rw [e2]; exact .tok z (.bool _) h
theorem op_notIn_sdict {a : Addr} {x : Str} {ep : Nat} {es : List (Str × V)} (ea : σ a = some (.sdict ep es)) (h : k (.bool (!(Loc.get es x).isSome)) σ) : Op2 G A L ρ σ (compareOp .NotIn) (.str x) (.ref a) k X := fun s u v z r₁ r₂ => by
  refine r₁.elim fun _ => ?_; refine r₂.elim ?_
  obtain ⟨kvs, hd, q⟩ := z.sdict ea
  refine wpAny_notIn_of (key_str ..) (z.notMod (by rw [ea]; simp)) hd.mapOf ?_
  have g := q.get x
  cases e : Loc.get es x with
  | none => rw [e] at g h; rw [g]; exact .tok z (.bool _) h
  | some d => rw [e] at g h; obtain ⟨v, e2, _⟩ := g; rw [e2]; exact .tok z (.bool _) h
theorem op_item_sdict {e₁ e₂ : Expr} {a : Addr} {x : Str} {ep : Nat} {es : List (Str × V)} {d : V} (ea : σ a = some (.sdict ep es)) (hd : Loc.get es x = some d) (h : k d σ)
    (hs : ∀ t, subscripted e₂ false (.ref a) (.str x t) = operate [.ref a, .str x t] (getItem (.ref a) (.str x t)) := by intro _; with_unfolding_all rfl) : Op2 G A L ρ σ (subscriptTail e₁ e₂) (.ref a) (.str x) k X := fun s u v z r₁ r₂ => by
  refine r₁.elim ?_; refine r₂.elim fun _ => ?_
  obtain ⟨kvs, hm, q⟩ := z.sdict ea
  have g := q.get x
  rw [hd] at g
  obtain ⟨v, e2, r⟩ := g
  exact tail_any hm.typeIs slot_dict_getitem.lookup (wpAny_getItem_of (key_str ..) hm.mapOf e2 (.tok z r h)) (hs _)
def Op3 (G : Amb) (A : Around) (L : Addr) (ρ : Loc) (σ : St) (f : Value → Value → Value → Sem Unit) (a b c : V) (k : St → Prop) (X : Value → Shared → Prop) : Prop :=
  ∀ s u v w, S G L ρ σ s.heap → Rep s.heap u a → Rep s.heap v b → Rep s.heap w c → wpAny (model G.prog G.w) A (f u v w) (fun _ => Post G L ρ σ s (fun d σ' => d = .none ∧ k σ') .none) X s
theorem set_sdict {a : Addr} {x : Str} {ep : Nat} {es : List (Str × V)} {d : V} {k : St → Prop} (ea : σ a = some (.sdict ep es)) (hsz : es.length ≤ sizeLine) (h : ∀ ep', k (σ.set a (.sdict ep' (vput es x d)))) : Op3 G A L ρ σ setItem (.ref a) (.str x) d k X := fun s u v w z r₁ r₂ r₃ => by
  refine r₁.elim ?_; refine r₂.elim fun _ => ?_
  obtain ⟨kvs, hm, q⟩ := z.sdict ea
  exact wpAny_setItem_pairs (key_str ..) hm (fun h' hd hs => sdict_changed (tk := s.toks + 1) z ea hs hd (q.stored r₃) .none (fun ep' => ⟨rfl, h ep'⟩)) (by rw [q.length]; exact hsz)
theorem wpAny_setItem_list' {prog : Program} {w : World} {E : Value → Shared → Prop} {s : Shared} {l : Addr} {items : Array Value} {n : Nat} {k : Int} {t : Tok} {v : Value} {Q : Unit → Shared → Prop} (ho : s.heap.get? l = some (listOf items n))
    (h0 : 0 ≤ k) (hfit : k < 2 ^ 63) (hn : k < items.size)
    (hQ : Q () { s with heap := s.heap.update l (Obj.mapSeq (·.setIfInBounds k.toNat v)) }) :
    wpAny (model prog w) A (setItem (.ref l) (.int k t) v) Q E s := by
  have hl := isList_of ho
  unfold setItem
  try with_reducible refine wpAny_holding ?_
  first | refine wpAny_bind (wpAny_pure ?_) | skip
  refine wpAny_bind (wpAny_sequenceKey hl.typeIs (by decide) ?_)
  refine wpAny_bind (wpAny_callSpecial?_slot (name := Str.ofString "__setitem__") hl.typeIs slot_list_setitem
    (wpAny_call_entry slot_list_setitem hl.typeIs entry_list_setitem ?_ (args_list_setitem _ _ _)))
  show wpAny _ _ (Builtin.List.listSubscript? (.int k t) >>= _) _ _ s
  refine wpAny_bind (wpAny_listSubscript_int (fitsIndex_of h0 hfit) ?_)
  clear hfit
  obtain ⟨j, rfl⟩ := Int.eq_ofNat_of_zero_le h0
  have hj : j < items.size := by omega
  have hx' : items[j]? = some items[j] := Array.getElem?_eq_getElem hj
  show wpAny _ _ ((seqItemAt l j >>= fun r => pure (r.map (j, ·))) >>= _) _ _ s
  refine wpAny_bind (wpAny_bind (wpAny_seqItemAt ho rfl (wpAny_pure ?_)))
  rw [hx']
  show wpAny _ _ (setSeqItemAt l j v >>= _) _ _ s
  refine wpAny_bind (wpAny_setSeqItemAt ho rfl ?_)
  first
    | exact wpAny_bind (wpAny_pure (wpAny_pure ⟨.none, rfl, wpAny_pure hQ⟩))
    | exact wpAny_pure ⟨.none, rfl, wpAny_pure hQ⟩
theorem repAll_set {h : Heap} {v d} (x : Rep h v d) : ∀ {vs : List Value} {ds : List V} (_ : RepAll h vs ds) (i : Nat), RepAll h (vs.set i v) (ds.set i d)
  | _, _, .nil, i => by simpa using RepAll.nil
  | _, _, .cons a r, 0 => by simpa using RepAll.cons x r
  | _, _, .cons a r, i + 1 => by simpa using RepAll.cons a (repAll_set x r i)
theorem set_list {a : Addr} {ds : List V} {i : Int} {d : V} {k : St → Prop} (ea : σ a = some (.list ds)) (h0 : 0 ≤ i) (hj : i < ds.length) (hsz : i < 2 ^ 63) (h : k (σ.set a (.list (ds.set i.toNat d)))) : Op3 G A L ρ σ setItem (.ref a) (.int i) d k X := fun s u v w z r₁ r₂ r₃ => by
  refine r₁.elim ?_; refine r₂.elim fun _ => ?_
  obtain ⟨vs, n, ho, r⟩ := z.list ea
  have hl : vs.size = ds.length := by simpa using r.length
  have hj' : i < vs.size := by omega
  have P : Post G L ρ σ s (fun d σ' => d = .none ∧ k σ') .none { s with heap := s.heap.update a (Obj.mapSeq (·.setIfInBounds i.toNat w)), toks := s.toks } :=
    list_changed z ea ho (f := fun xs => xs.setIfInBounds i.toNat w) (fun h t => by
      rw [Array.toList_setIfInBounds]; exact repAll_set (r₃.mono t) (r.mono t) i.toNat) (fun _ _ => .none) ⟨rfl, h⟩
  exact wpAny_setItem_list' ho h0 hsz hj' P
theorem sv_AssignSub {o i value : Expr} {pos' pos : Pos} {k : AF → Loc → St → Prop}
    (h : EV G A env ρ σ value (fun d σ₁ => EV G A env ρ σ₁ o (fun a σ₂ => EV G A env ρ σ₂ i (fun b σ₃ => Op3 G A env.locals ρ σ₃ setItem a b d (fun σ₄ => k .next ρ σ₄) X) X) X) X)
    (hs : swapsWith value (some (.Subscript o i pos')) pos.line env = pure false := by rfl) : SV G A env ρ σ (exec (.Assign [.Subscript o i pos'] value pos) env) k X := fun s x => by
  refine wpAny_Assign_Subscript (wpAny_mono (h s x) (fun v s₁ p => ?_) fun _ _ e => e) hs
  refine p.elim fun h₁ t₁ d σ₁ E₁ x₁ r₁ q₁ => ?_
  refine wpAny_mono (q₁ _ x₁) (fun ov s₂ p => ?_) fun _ _ e => e
  refine p.elim fun h₂ t₂ a σ₂ E₂ x₂ r₂ q₂ => ?_
  refine wpAny_mono (q₂ _ x₂) (fun iv s₃ p => ?_) fun _ _ e => e
  refine p.elim fun h₃ t₃ b σ₃ E₃ x₃ r₃ q₃ => ?_
  refine wpAny_mono (q₃ _ ov iv v x₃ (r₂.mono E₃.tup) r₃ ((r₁.mono E₂.tup).mono E₃.tup)) (fun _ s₄ p => ?_) fun _ _ e => e
  refine p.elim fun h₄ t₄ _ σ₄ E₄ x₄ _ q₉ => ?_; obtain ⟨rfl, q₄⟩ := q₉
  exact ⟨h₄, t₄, .next, ρ, σ₄, rfl, (((E₁.trans E₂).trans E₃).trans E₄).toS, x₄, trivial, q₄⟩
theorem opc_update {a b : Addr} {ep eq : Nat} {es ms : List (Str × V)} (ea : σ a = some (.sdict ep es)) (eb : σ b = some (.sdict eq ms)) (hab : a ≠ b) (hsz : es.length + ms.length ≤ sizeLine) (h : ∀ ep', k .none (σ.set a (.sdict ep' (vmerge es ms)))) :
    OpC G A L ρ σ (.builtin "dict.update") [.ref a, .ref b] k X := fun s vs x r => by
  obtain ⟨u, v, rfl, r₁, r₂⟩ := repAll_two r
  refine r₁.elim ?_; refine r₂.elim ?_
  obtain ⟨kvs, hd, q⟩ := x.sdict ea
  obtain ⟨more, hd2, q2⟩ := x.sdict eb
  exact call_meetsIn PySem.F.slot_dict_update hd.typeIs PySem.F.entry_dict_update (PySem.F.args_dict_update_2 _ _) (meets_dict_update (PySem.strKind G.prog G.w) a b hab (x.notMod (by rw [eb]; simp)))
    ⟨kvs, more, hd, hd2, by rw [q.length, q2.length]; exact hsz, fun h' hd' _ hs => sdict_changed (tk := s.toks) x ea hs hd' (q2.merged q) .none h⟩
theorem ev_Dict0 {pos : Pos} (h : ∀ a ep, σ a = none → k (.ref a) (σ.set a (.sdict ep []))) : EV G A env ρ σ (.Dict [] [] pos) k X := fun s x => by
  refine wpAny_Dict_empty ?_
  have kp : ∀ b o, s.heap.get? b = some o → (s.heap.push { cls := .type "dict", data := .dict #[] }).get? b = some o := fun b o e => Heap.get?_push_of_some _ e
  have hn := Mine.none_at_size s.heap
  obtain ⟨ep, hd⟩ := (Heap.DictOf.new (knd := PySem.strKind G.prog G.w) s.heap).dictAt
  exact ⟨_, s.toks, _, _, rfl, .new hn kp, x.newAt (o := .sdict ep []) hn (Nat.le_of_lt x.big) kp (sdict_rep hd .nil), .ref _, h _ _ (x.unused hn)⟩
theorem ev_Dict0t {pos : Pos} (h : ∀ a, σ a = none → k (.ref a) (σ.set a (.tdict []))) : EV G A env ρ σ (.Dict [] [] pos) k X := fun s x => by
  refine wpAny_Dict_empty ?_
  have kp : ∀ b o, s.heap.get? b = some o → (s.heap.push { cls := .type "dict", data := .dict #[] }).get? b = some o := fun b o e => Heap.get?_push_of_some _ e
  have hn := Mine.none_at_size s.heap
  exact ⟨_, s.toks, _, _, rfl, .new hn kp, x.newAt (o := .tdict []) hn (Nat.le_of_lt x.big) kp ⟨[], Heap.DictOfH.new _, rfl, fun x hx => by simp at hx⟩, .ref _, h _ (x.unused hn)⟩
inductive KV (h : Heap) : List (Value × Value) → List (Str × V) → Prop
  | nil : KV h [] []
  | cons {k t v d xs es} : Rep h v d → KV h xs es → KV h ((.str k t, v) :: xs) ((k, d) :: es)
theorem KV.carries {prog : Program} {w : World} {h : Heap} {vs : List (Value × Value)} {es : List (Str × V)} (x : KV h vs es) : ∃ kvs, Carries (PySem.strKind prog w) vs kvs ∧ SD h kvs es := by
  induction x with
  | nil => exact ⟨[], trivial, .nil⟩
  | @cons k t v d xs es r _ ih => obtain ⟨kvs, c, q⟩ := ih; exact ⟨(k, v) :: kvs, ⟨key_str .., rfl, c⟩, .cons r q⟩
def PV (G : Amb) (A : Around) (env : Env) (ρ : Loc) (σ : St) (ks : List (Option Expr)) (vs : List Expr) (pos : Pos) (k : List (Str × V) → St → Prop) (X : Value → Shared → Prop) : Prop :=
  ∀ s, S G env.locals ρ σ s.heap → wpAny (model G.prog G.w) A (evalPairs (pairTrees ks vs env pos)) (fun xs s' => ∃ h' tk ds σ', s' = { s with heap := h', toks := tk } ∧ Ext σ s.heap h' σ' ∧ S G env.locals ρ σ' h' ∧ KV h' xs ds ∧ k ds σ') X s
theorem pv_nil {pos : Pos} {k : List (Str × V) → St → Prop} (h : k [] σ) : PV G A env ρ σ [] [] pos k X := fun s x => pairTrees_nil_walk ⟨s.heap, s.toks, [], σ, rfl, .refl .., x, .nil, h⟩
theorem pv_cons {e v : Expr} {ks : List (Option Expr)} {vs : List Expr} {pos : Pos} {k : List (Str × V) → St → Prop}
    (h : EV G A env ρ σ e (fun d σ₁ => ∃ x, d = .str x ∧ EV G A env ρ σ₁ v (fun c σ₂ => PV G A env ρ σ₂ ks vs pos (fun es σ₃ => k ((x, c) :: es) σ₃) X) X) X) : PV G A env ρ σ (some e :: ks) (v :: vs) pos k X := fun s x => by
  refine pairTrees_cons_walk (wpAny_mono (h s x) (fun kv s₁ p => ?_) fun _ _ e => e)
  refine p.elim fun h₁ t₁ d σ₁ E₁ x₁ r₁ q₉ => ?_; obtain ⟨y, rfl, q₁⟩ := q₉
  refine wpAny_mono (q₁ _ x₁) (fun vv s₂ p => ?_) fun _ _ e => e
  refine p.elim fun h₂ t₂ c σ₂ E₂ x₂ r₂ q₂ => ?_
  refine wpAny_mono (q₂ _ x₂) (fun xs s₃ p => ?_) fun _ _ e => e
  obtain ⟨h₃, t₃, ds, σ₃, rfl, E₃, x₃, r₃, q₃⟩ := p
  cases r₁
  exact ⟨h₃, t₃, _, σ₃, rfl, (E₁.trans E₂).trans E₃, x₃, .cons (r₂.mono E₃.tup) r₃, q₃⟩
theorem ev_Dict {ks : List (Option Expr)} {vs : List Expr} {pos : Pos} (h : ∀ a ep, σ a = none → PV G A env ρ (σ.set a (.sdict ep [])) ks vs pos (fun es σ' => σ' a = some (.sdict ep []) ∧ ∀ ep', k (.ref a) (σ'.set a (.sdict ep' (vmerge [] es)))) X)
    (hall : ks.all (·.isSome) = true := by rfl) (hl : ks.length = vs.length := by rfl) (h0 : ks ≠ [] := by simp) (hlen : ks.length ≤ 15 := by simp) : EV G A env ρ σ (.Dict ks vs pos) k X := fun s x => by
  have kp : ∀ b o, s.heap.get? b = some o → (s.heap.push { cls := .type "dict", data := .dict #[] }).get? b = some o := fun b o e => Heap.get?_push_of_some _ e
  have hn := Mine.none_at_size s.heap
  obtain ⟨ep, hd⟩ := (Heap.DictOf.new (knd := PySem.strKind G.prog G.w) s.heap).dictAt
  have x' : S G env.locals ρ (σ.set s.heap.objs.size (.sdict ep [])) _ := x.newAt (o := .sdict ep []) hn (Nat.le_of_lt x.big) kp (sdict_rep hd .nil)
  refine wpAny_Dict_walk (knd := PySem.strKind G.prog G.w) hall hl h0 hlen (wpAny_mono (h _ _ (x.unused hn) { s with heap := s.heap.push { cls := .type "dict", data := .dict #[] } } x') (fun xs s₁ p => ?_) fun _ _ e => e)
  obtain ⟨h₁, t₁, ds, σ₁, rfl, E₁, x₁, r₁, ea, q₁⟩ := p
  obtain ⟨kvs, hc, hq⟩ := r₁.carries (prog := G.prog) (w := G.w)
  obtain ⟨kv0, hd0, q0⟩ := x₁.sdict ea
  cases q0
  refine ⟨kvs, hc, hd0, fun h' hd hs => ?_⟩
  exact Post.trans (tk := t₁) ((Ext.new hn kp).trans E₁) (sdict_changed (s := { s with heap := h₁, toks := t₁ }) (tk := t₁ + xs.length) x₁ ea hs hd (hq.merged .nil) (.ref _) q₁)
theorem rep_strs_items {prog : Program} {w : World} {h : Heap} : ∀ {vs : List Value} {xs : List Str}, RepAll h vs (xs.map .str) → ItemsAre (PySem.strKind prog w) xs vs
  | _, [], .nil => .nil
  | _, _ :: _, .cons a r => by cases a; exact .cons (key_str ..) (rep_strs_items r)
theorem tup_key {prog : Program} {w : World} {h : Heap} {u : Value} {xs : List Str} (r : Rep h u (.tup (xs.map .str))) : ∃ b, u = .ref b ∧ (tupleKind (PySem.strKind prog w)).is h xs b ∧ ∃ vs n, h.get? b = some (tupOf vs n) := by
  cases r with
  | @tup b n vs _ ho ra => exact ⟨b, rfl, ⟨_, vs, n, ho, rfl, rfl, rep_strs_items ra⟩, vs, n, ho⟩
theorem atKey_isSome {K : Type} [DecidableEq K] (xs : List (K × Addr × Value)) (k : K) [Decidable (k ∈ xs.map (·.1))] : (atKey xs k).isSome = decide (k ∈ xs.map (·.1)) := by
  unfold atKey
  rw [Option.isSome_map, Bool.eq_iff_iff]
  simp [List.find?_isSome]
theorem op_in_tdict {a : Addr} {xs : List Str} {ks : List (List Str)} {n : Nat} (R : Room A n) (ea : σ a = some (.tdict ks)) (h : k (.bool (decide (xs ∈ ks))) σ) : Op2 G A L ρ σ (compareOp .In) (.tup (xs.map .str)) (.ref a) k X := fun s u v z r₁ r₂ => by
  refine r₂.elim ?_
  obtain ⟨b, rfl, hk, _⟩ := tup_key (prog := G.prog) (w := G.w) r₁
  obtain ⟨ys, hm, rfl, _⟩ := z.obj a _ ea
  refine wpAny_in_heap (tupleKind_room_in1 (by have := R.units; omega)) hk (z.notMod (by rw [ea]; simp)) hm ?_
  rw [atKey_isSome]; exact .tok z (.bool _) h
theorem set_tdict {a : Addr} {xs : List Str} {ks : List (List Str)} {n : Nat} {d : V} {k : St → Prop} (R : Room A n) (ea : σ a = some (.tdict ks)) (hsz : ks.length ≤ sizeLine) (h : k (σ.set a (.tdict (if xs ∈ ks then ks else ks ++ [xs])))) :
    Op3 G A L ρ σ setItem (.ref a) (.tup (xs.map .str)) d k X := fun s u v w z r₁ r₂ r₃ => by
  refine r₁.elim ?_
  obtain ⟨b, rfl, hk, hb⟩ := tup_key (prog := G.prog) (w := G.w) r₂
  obtain ⟨ys, hm, hky, hall⟩ := z.obj a _ ea
  refine wpAny_setItem_heap (tupleKind_room_in1 (by have := R.units; omega)) hk hm (fun h' hd hs => ?_) (by rw [← hky] at hsz; simpa using hsz)
  obtain ⟨o, es, ep, ho, _, hdt, _⟩ := id hm
  have tkp : TupK s.heap h' := tupK_sameBut hs ho fun ⟨_, xs, n, t⟩ => by rw [hdt] at t; cases t
  have x' : RepObj G.prog G.w h' a (.tdict (if xs ∈ ks then ks else ks ++ [xs])) := by
    refine ⟨_, hd, ?_, ?_⟩
    · have e := atKey_isSome ys xs
      rw [hky] at e
      unfold storedH
      by_cases q : xs ∈ ks
      · rw [if_pos q, e, if_pos (by simpa using q), ← hky, List.map_map]
        refine List.map_congr_left fun y _ => ?_
        simp only [Function.comp, putAt]; split <;> rfl
      · rw [if_neg q, e, if_neg (by simpa using q), ← hky]; simp
    · intro y hy
      unfold storedH at hy
      have go : (∃ vs n, s.heap.get? y.2.1 = some (tupOf vs n)) → ∃ vs n, h'.get? y.2.1 = some (tupOf vs n) := fun ⟨vs, n, q⟩ => ⟨vs, n, tkp _ _ _ q⟩
      split at hy
      · obtain ⟨y', hy', rfl⟩ := List.mem_map.mp hy
        refine go ?_
        have := hall y' hy'
        unfold putAt; split <;> exact this
      · rcases List.mem_append.mp hy with hy | hy
        · exact go (hall y hy)
        · rw [List.mem_singleton] at hy; subst hy; exact go hb
  exact ⟨_, _, _, _, rfl, Ext.upd ea (z.obj a _ ea) hs x', z.upd ea hs x', .none, rfl, h⟩
end
end Mine
namespace Mine
section
variable {G : Amb} {A : Around} {env : Env} {L : Addr} {ρ : Loc} {σ : St} {X : Value → Shared → Prop}
theorem osa_here {prog : Program} {w : World} {K : Frag} {s : Shared} {x C dx : Addr} {R : Result → Shared → Prop} {name : Str} {tk : Tok} {v : Value} {es : List DictEntry} {n : Nat} (X : K.In s.heap)
    (I : InstAt s.heap x (instObj C dx) C (some (dictOf es n))) (D : s.heap.get? dx = some (dictOf es n)) (hp : plainOver K C = true) (ht : takerIn K C name = some none) (hh : hasDictIn K C = true)
    (hl : (lookIn name (dictOf es n)).isSome = true) (hz : es.length < 1000)
    (h : ∀ h', Heap.SameBut dx s.heap h' → h'.get? dx = some (dictOf (putL name (PyData.keyHash w.params name) (.str name s.toks) v es) (putN name es n)) → R (.ok (.ret .none)) { s with heap := h', toks := s.toks + 1 }) :
    codeAny (model prog w) A (.call (.builtin "object.__setattr__") ⟨[.ref x, .str name tk, v], []⟩) R s := by
  refine osa_open X I hp ht fun b => ?_
  obtain ⟨cd, hc, hd'⟩ := any_some hh
  have D' : (s.heap.update dx (Obj.putName name (PyData.keyHash w.params name) (.str name s.toks) v)).get? dx = some (dictOf (putL name (PyData.keyHash w.params name) (.str name s.toks) v es) (putN name es n)) := by
    rw [Heap.get?_update_self _ D (by rw [putName_dict]; rfl), putName_dict]
  have hx := I.1
  have hlen : (putL name (PyData.keyHash w.params name) (.str name s.toks) v es).length ≤ es.length + 1 := by
    generalize PyData.keyHash w.params name = hsh
    clear h D D' hz hl I
    induction es with
    | nil => simp [putL]
    | cons e r ih => unfold putL; split <;> simp <;> omega
  refine wpAny_bind (wpAny_pure (wpAny_bind (wpAny_bind (wpAny_loadPart hx (wpAny_bind ((looks_clsIn X hc).here ?_))))))
  rw [hd']
  refine wpAny_pure (a := some dx) (wpAny_bind (wpAny_pure (wpAny_bind ?_)))
  unfold nsSet
  refine wpAny_bind (wpAny_bind (wpAny_askSetting (wpAny_pure (wpAny_bind (wpAny_mkText (wpAny_bind (wpAny_loadPart D ?_)))))))
  rw [lookIn_dict] at hl
  unfold getL at hl
  dsimp only
  have c : (!es.toArray.any (·.key.isStr name) && es.toArray.any (·.refKey)) = false := by
    rw [← Array.any_toList, ← Array.any_toList]
    split at hl
    · rename_i en he
      rw [List.any_eq_true.mpr ⟨en, List.mem_of_find?_eq_some he, List.find?_some he⟩]; rfl
    · split at hl
      · cases hl
      · rename_i z; rw [Bool.not_eq_true] at z; show (_ && es.any (·.refKey)) = false; rw [z, Bool.and_false]
  rw [aRefKeyMayBeTheName_at, c]
  refine wpAny_updatePart D ?_
  refine wpAny_bind (wpAny_lookBehind D' (pastItsLine_dict (by rw [List.size_toArray, sizeLine_eq]; omega)) ?_)
  exact wpAny_pure (h _ (Heap.SameBut.update ..) D')
theorem attrs_put {w : World} {h : Heap} {name : Str} {tk : Tok} {v : Value} {d : V} (r : Rep h v d) : ∀ {es : List DictEntry} {ps : List (Str × V)}, AttrsRep w h es ps → AttrsRep w h (putL name (PyData.keyHash w.params name) (.str name tk) v es) (Loc.put ps name d)
  | _, _, .nil => .cons ⟨⟨tk, rfl⟩, rfl, r⟩ .nil
  | _, _, .cons (e := e) (p := p) (es := es) (ps := ps) a q => by
    obtain ⟨y, e0⟩ := p
    obtain ⟨t, ht⟩ := a.key
    have hk : e.key.isStr name = decide (name = y) := by
      rw [ht]
      show (y == name) = _
      by_cases z : name = y
      · subst z; simp
      · simp [z]; exact fun w => z w.symm
    unfold putL Loc.put
    rw [hk]
    by_cases z : name = y
    · simp only [z, decide_true, if_true]; exact .cons ⟨⟨t, ht⟩, a.hash, r⟩ q
    · simp only [z, decide_false, if_false]; exact .cons a (attrs_put r q)
theorem attrs_length {w : World} {h : Heap} {es : List DictEntry} {ps : List (Str × V)} (x : AttrsRep w h es ps) : es.length = ps.length := by
  induction x with | nil => rfl | cons _ _ ih => simp [ih]
structure SetAt (K : Frag) (C : Addr) (name : Str) : Prop where
  set : findIn K (.ref C) "__setattr__" = some (some (.builtin "object.__setattr__"))
  over : plainOver K C = true
  taker : takerIn K C name = some none
  dict : hasDictIn K C = true
theorem set_attr {a C dx : Addr} {ps : List (Str × V)} {name : Str} {d : V} {k : St → Prop} {s : Shared} {v : Value} (x : S G L ρ σ s.heap) (ea : σ a = some (.inst C dx)) (ed : σ dx = some (.attrs ps)) (H : SetAt G.K C name) (hz : ps.length < 1000)
    (r : Rep s.heap v d) (h : k (σ.set dx (.attrs (Loc.put ps name d)))) :
    wpAny (model G.prog G.w) A (setAttr (.ref a) name v) (fun _ => Post G L ρ σ s (fun d σ' => d = .none ∧ k σ') .none) X s := by
  obtain ⟨es, n, I, q, ho⟩ := x.instAt ea ed
  refine set_plain x.In I H.set (osa_here (s := { s with toks := s.toks + 1 }) x.In I ho H.over H.taker H.dict ?_ (by rw [attrs_length q]; exact hz) fun h' hs D => ?_)
  · rw [lookIn_dict]
    have g := attrs_get (name := name) q
    split at g
    · obtain ⟨v, e, _⟩ := g; rw [e]; rfl
    · rw [g]; rfl
  · have tkp : TupK s.heap h' := tupK_sameBut hs ho fun ⟨_, xs, n, t⟩ => by cases t
    have x' : RepObj G.prog G.w h' dx (.attrs (Loc.put ps name d)) := ⟨_, _, D, attrs_put (r.mono tkp) (q.mono tkp)⟩
    exact ⟨h', _, .none, _, rfl, Ext.upd ed (x.obj dx _ ed) hs x', x.upd ed hs x', .none, rfl, h⟩
theorem sv_AssignAttr {o value : Expr} {name : Str} {pos' pos : Pos} {k : AF → Loc → St → Prop}
    (h : EV G A env ρ σ value (fun d σ₁ => EV G A env ρ σ₁ o (fun c σ₂ => ∃ a C dx ps, c = .ref a ∧ σ₂ a = some (.inst C dx) ∧ σ₂ dx = some (.attrs ps) ∧ SetAt G.K C name ∧ ps.length < 1000 ∧ k .next ρ (σ₂.set dx (.attrs (Loc.put ps name d)))) X) X)
    (hs : swapsWith value (some (.Attribute o name pos')) pos.line env = pure false := by rfl) : SV G A env ρ σ (exec (.Assign [.Attribute o name pos'] value pos) env) k X := fun s x => by
  refine plainObj_wpAny_Assign_Attribute (wpAny_mono (h s x) (fun v s₁ p => ?_) fun _ _ e => e) hs
  refine p.elim fun h₁ t₁ d σ₁ E₁ x₁ r₁ q₁ => ?_
  refine wpAny_mono (q₁ _ x₁) (fun ov s₂ p => ?_) fun _ _ e => e
  refine p.elim fun h₂ t₂ c σ₂ E₂ x₂ r₂ q₉ => ?_; obtain ⟨a, C, dx, ps, rfl, ea, ed, H, hz, q₂⟩ := q₉
  cases r₂
  refine wpAny_mono (set_attr (k := fun σ₃ => k .next ρ σ₃) x₂ ea ed H hz (r₁.mono E₂.tup) q₂) (fun _ s₄ p => ?_) fun _ _ e => e
  refine p.elim fun h₄ t₄ _ σ₄ E₄ x₄ _ q₉ => ?_; obtain ⟨rfl, q₄⟩ := q₉
  exact ⟨h₄, t₄, .next, ρ, σ₄, rfl, ((E₁.trans E₂).trans E₄).toS, x₄, trivial, q₄⟩
theorem sv_AssignCell {x : Str} {pos' pos : Pos} {value : Expr} {c : Addr} {k : AF → Loc → St → Prop} (h : EV G A env ρ σ value (fun d σ' => (∃ d₀, σ' c = some (.cell d₀)) ∧ k .next ρ (σ'.set c (.cell (some d)))) X)
    (hc : env.cells.lookup x = some c := by rfl) (hk : env.scope.kind = .function := by rfl) (hl : env.kindOf x = some .cell := by rfl)
    (hs : swapsWith value (some (.Name x pos')) pos.line env = pure false := by rfl) :
    SV G A env ρ σ (exec (.Assign [.Name x pos'] value pos) env) k X := fun s z => by
  refine wpAny_Assign_Name (wpAny_mono (h s z) (fun v s' p => ?_) fun _ _ e => e) hs
  refine p.elim fun h' tk d σ' E x' r q₉ => ?_; obtain ⟨⟨d₀, hσ⟩, hk'⟩ := q₉
  exact store_cell hk hl hc hσ x' r fun h2 E2 x2 _ => ⟨h2, tk, .next, _, _, rfl, (E.trans E2).toS, x2, trivial, hk'⟩
end
end Mine
namespace Mine
def TS (G : Amb) (A : Around) (env : Env) (ρ : Loc) (σ : St) (t : Value → Sem Unit) (d : V) (k : Loc → St → Prop) (X : Value → Shared → Prop) : Prop :=
  ∀ s v, S G env.locals ρ σ s.heap → Rep s.heap v d → wpAny (model G.prog G.w) A (t v) (fun _ => PostS G env.locals σ s (fun φ ρ' σ' => φ = .next ∧ k ρ' σ') .next) X s
def TL (G : Amb) (A : Around) (env : Env) (ρ : Loc) (σ : St) (ts : List (Value → Sem Unit)) (ds : List V) (k : Loc → St → Prop) (X : Value → Shared → Prop) : Prop :=
  ∀ s vs, S G env.locals ρ σ s.heap → RepAll s.heap vs ds → wpAny (model G.prog G.w) A (assignInOrder ts vs) (fun _ => PostS G env.locals σ s (fun φ ρ' σ' => φ = .next ∧ k ρ' σ') .next) X s
section
variable {G : Amb} {A : Around} {env : Env} {ρ : Loc} {σ : St} {X : Value → Shared → Prop} {k : Loc → St → Prop}
theorem tl_nil (h : k ρ σ) : TL G A env ρ σ [] [] k X := fun s vs x r => by
  cases r; exact assignInOrder_nil ⟨s.heap, s.toks, .next, ρ, σ, rfl, .refl .., x, trivial, rfl, h⟩
theorem tl_cons {t : Value → Sem Unit} {ts : List (Value → Sem Unit)} {d : V} {ds : List V} (h : TS G A env ρ σ t d (fun ρ' σ' => TL G A env ρ' σ' ts ds k X) X) : TL G A env ρ σ (t :: ts) (d :: ds) k X := fun s vs x r => by
  cases r with
  | cons a r =>
    refine assignInOrder_cons (wpAny_mono (h s _ x a) (fun _ s₁ p => ?_) fun _ _ e => e)
    refine p.elim fun h₁ t₁ φ ρ₁ σ₁ E₁ x₁ _ q₉ => ?_; obtain ⟨rfl, q₁⟩ := q₉
    exact wpAny_mono (q₁ _ _ x₁ (r.mono E₁.tup)) (fun _ _ q => PostS.trans E₁ q) fun _ _ e => e
theorem ts_local {x : Str} {d : V} (h : k (ρ.put x d) σ) (hk : env.scope.kind = .function := by rfl) (hl : env.kindOf x = some .local := by rfl) : TS G A env ρ σ (storeName env x) d k X := fun s v z r =>
  store_local hk hl z r fun h2 E2 x2 _ => ⟨h2, _, .next, _, σ, rfl, E2, x2, trivial, rfl, h⟩
theorem ts_cell {x : Str} {d : V} {c : Addr} {d₀ : Option V} (hσ : σ c = some (.cell d₀)) (h : k ρ (σ.set c (.cell (some d)))) (hc : env.cells.lookup x = some c := by rfl) (hk : env.scope.kind = .function := by rfl) (hl : env.kindOf x = some .cell := by rfl) :
    TS G A env ρ σ (storeName env x) d k X := fun s v z r =>
  store_cell hk hl hc hσ z r fun h2 E2 x2 _ => ⟨h2, s.toks, .next, _, _, rfl, E2.toS, x2, trivial, rfl, h⟩
theorem ts_bind {x : Str} {d : V} (h : TS G A env ρ σ (storeName env x) d k X) : TS G A env ρ σ (fun v => bindName env x v) d k X := fun s v z r => bindName_ (h s v z r)
theorem ts_Name {x : Str} {pos : Pos} {d : V} (h : TS G A env ρ σ (storeName env x) d k X) : TS G A env ρ σ (assign (.Name x pos) env) d k X := fun s v z r => assign_Name (h s v z r)
theorem S.extBut {L : Addr} {h h' : Heap} (x : S G L ρ σ h) (e : Heap.ExtBut h.objs.size h h') : (∀ b o, h.get? b = some o → h'.get? b = some o) := fun b o q => e b o (Nat.ne_of_lt (Heap.lt_size q)) q
theorem ts_Tuple {elts : List Expr} {c} {pos : Pos} {ds : List V} (hh : A.handled = none) (h : TL G A env ρ σ ((assignEach elts env).map (·.2)) ds k X) (hn : (assignEach elts env).length = ds.length := by rfl) (hstar : (assignEach elts env).findIdx? (·.1) = none := by rfl) :
    TS G A env ρ σ (assign (.Tuple elts c pos) env) (.tup ds) k X := fun s v z r => by
  refine r.elim fun a n vs ho r => ?_
  ·
    have hl : vs.size = ds.length := by simpa using r.length
    refine assign_Tuple_tuple hh (t := a) (items := vs) ⟨_, ho, rfl, n, rfl⟩ (by rw [hn, hl]) hstar fun h' e => ?_
    have kp := z.extBut e
    exact wpAny_mono (h _ _ (z.keeps kp) (r.mono (.of_keeps kp))) (fun _ _ q => PostS.trans (tk := s.toks) (Ext.keeps kp).toS q) fun _ _ e => e
theorem sv_AssignTup {elts : List Expr} {c} {tpos pos : Pos} {value : Expr} {k : AF → Loc → St → Prop} (h : EV G A env ρ σ value (fun d σ' => TS G A env ρ σ' (assign (.Tuple elts c tpos) env) d (fun ρ₂ σ₂ => k .next ρ₂ σ₂) X) X)
    (hs : swapsWithSole [.Tuple elts c tpos] value pos.line env = pure false := by rfl)
    (hw : swappedStores [.Tuple elts c tpos] value env = pure none := by rfl) : SV G A env ρ σ (exec (.Assign [.Tuple elts c tpos] value pos) env) k X := fun s x => by
  refine Assign_Tuple (wpAny_mono (h s x) (fun v s₁ p => ?_) fun _ _ e => e) hs hw
  refine p.elim fun h₁ t₁ d σ₁ E₁ x₁ r₁ q₁ => ?_
  refine wpAny_mono (q₁ _ v x₁ r₁) (fun _ s₂ p => ?_) fun _ _ e => e
  refine p.elim fun h₂ t₂ φ ρ₂ σ₂ E₂ x₂ _ q₉ => ?_; obtain ⟨rfl, q₂⟩ := q₉
  exact ⟨h₂, t₂, .next, ρ₂, σ₂, rfl, E₁.toS.trans E₂, x₂, trivial, q₂⟩
theorem sv_AssignSwap {elts : List Expr} {c} {tpos pos : Pos} {value : Expr} {names : List Str} {k : AF → Loc → St → Prop} (hh : A.handled = none)
    (h : EV G A env ρ σ value (fun d σ' => ∃ ds, d = .tup ds ∧ ds.length = names.length ∧ TL G A env ρ σ' (names.reverse.map fun n => bindName env n) ds.reverse (fun ρ₂ σ₂ => k .next ρ₂ σ₂) X) X)
    (hs : swapsWithSole [.Tuple elts c tpos] value pos.line env = pure false := by rfl)
    (hw : swappedStores [.Tuple elts c tpos] value env = pure (some names) := by rfl) : SV G A env ρ σ (exec (.Assign [.Tuple elts c tpos] value pos) env) k X := fun s x => by
  refine Assign_Tuple_swapped (wpAny_mono (h s x) (fun v s₁ p => ?_) fun _ _ e => e) hs hw
  refine p.elim fun h₁ t₁ d σ₁ E₁ x₁ r₁ q₉ => ?_; obtain ⟨ds, rfl, hl, q₁⟩ := q₉
  refine r₁.elim fun a n vs ho r => ?_
  ·
    have hl2 : vs.size = ds.length := by simpa using r.length
    rw [← hl, ← hl2]
    refine unpackItems_tuple hh (t := a) (items := vs) ⟨_, ho, rfl, n, rfl⟩ fun h' e => ?_
    have kp := x₁.extBut e
    refine wpAny_mono (q₁ _ _ (x₁.keeps kp) ((r.mono (.of_keeps kp)).reverse)) (fun _ s₂ p => ?_) fun _ _ e => e
    refine p.elim fun h₂ t₂ φ ρ₂ σ₂ E₂ x₂ _ q₉ => ?_; obtain ⟨rfl, q₂⟩ := q₉
    exact ⟨h₂, t₂, .next, ρ₂, σ₂, rfl, (E₁.toS.trans (Ext.keeps kp).toS).trans E₂, x₂, trivial, q₂⟩
end
end Mine
namespace Mine
structure Wk (G : Amb) (A : Around) (I : Addr) (W : List Addr) (n : Nat) (item : Nat → V) (need : St → Prop) (at_ : Nat → Heap → Prop) (target : Expr) : Prop where
  frame : ∀ i h h', at_ i h → TupK h h' → (∀ b ∈ W, ∀ o, h.get? b = some o → h'.get? b = some o) → at_ i h'
  live : ∀ i h, at_ i h → ∀ b ∈ W, ∃ o, h.get? b = some o ∧ ¬ Tuple? o
  next : ∀ i (s : Shared) L ρ σ (Q : Option Value → Shared → Prop) (E : Value → Shared → Prop), i < n → S G L ρ σ s.heap → need σ → at_ i s.heap → (∀ b ∈ W, σ b = none) →
    (∀ v s₁, (∀ (Q' : Shared → Prop) (E' : Value → Shared → Prop), (∀ h' tk, Rep h' v (item i) → at_ (i + 1) h' → (∀ b o, b ∉ W → s.heap.get? b = some o → h'.get? b = some o) → Q' { s with heap := h', toks := tk }) →
        wpAny (model G.prog G.w) A (letOwnedTupleGo target (.ref I) v) (fun _ => Q') E' s₁) → Q (some v) s₁) →
    wpAny (model G.prog G.w) A (pyNext (.ref I)) Q E s
  done : ∀ (s : Shared) L ρ σ (Q : Option Value → Shared → Prop) (E : Value → Shared → Prop), S G L ρ σ s.heap → need σ → at_ n s.heap → (∀ b ∈ W, σ b = none) →
    (∀ h' tk, (∀ b o, b ∉ W → s.heap.get? b = some o → h'.get? b = some o) → Q none { s with heap := h', toks := tk }) → wpAny (model G.prog G.w) A (pyNext (.ref I)) Q E s
  self : ∀ i (s : Shared) (Q : Value → Shared → Prop) (E : Value → Shared → Prop), at_ i s.heap → Q (.ref I) s → wpAny (model G.prog G.w) A (pyIter (.ref I)) Q E s
def ItP (G : Amb) (A : Around) (L : Addr) (ρ : Loc) (σ : St) (s : Shared) (target : Expr) (kk : Nat → (Nat → V) → (St → Prop) → St → Prop) (it : Value) (s₂ : Shared) : Prop :=
  ∃ h₂ tk σ₁ I W at_ n item need, it = .ref I ∧ s₂ = { s with heap := h₂, toks := tk } ∧ Ext σ s.heap h₂ σ₁ ∧ S G L ρ σ₁ h₂ ∧ Wk G A I W n item need at_ target ∧ (∀ b ∈ W, s.heap.get? b = none) ∧ (∀ b ∈ W, σ₁ b = none) ∧ at_ 0 h₂ ∧ kk n item need σ₁
@[elab_as_elim] theorem ItP.elim {G A L ρ σ s target kk it s₂} {C : Value → Shared → Prop} (x : ItP G A L ρ σ s target kk it s₂)
    (h : ∀ h₂ tk σ₁ I W at_ n item need, Ext σ s.heap h₂ σ₁ → S G L ρ σ₁ h₂ → Wk G A I W n item need at_ target → (∀ b ∈ W, s.heap.get? b = none) → (∀ b ∈ W, σ₁ b = none) → at_ 0 h₂ → kk n item need σ₁ → C (.ref I) { s with heap := h₂, toks := tk }) : C it s₂ :=
  let ⟨h₂, tk, σ₁, I, W, at_, n, item, need, e1, e2, a, b, c, d, e, f, g⟩ := x; e1 ▸ e2 ▸ h h₂ tk σ₁ I W at_ n item need a b c d e f g
theorem ItP.mono {G A L ρ σ s target kk kk' it s₂} (x : ItP G A L ρ σ s target kk it s₂) (h : ∀ n item need σ₁, kk n item need σ₁ → kk' n item need σ₁) : ItP G A L ρ σ s target kk' it s₂ :=
  let ⟨h₂, tk, σ₁, I, W, at_, n, item, need, e1, e2, a, b, c, d, e, f, g⟩ := x; ⟨h₂, tk, σ₁, I, W, at_, n, item, need, e1, e2, a, b, c, d, e, f, h _ _ _ _ g⟩
def IE (G : Amb) (A : Around) (env : Env) (ρ : Loc) (σ : St) (iter target : Expr) (kk : Nat → (Nat → V) → (St → Prop) → St → Prop) (X : Value → Shared → Prop) : Prop :=
  ∀ s, S G env.locals ρ σ s.heap → wpAny (model G.prog G.w) A (eval iter env) (fun x s₁ => wpAny (model G.prog G.w) A (pyIter x) (ItP G A env.locals ρ σ s target kk) X s₁) X s
theorem IE.mono {G A env ρ σ iter target kk kk' X} (x : IE G A env ρ σ iter target kk X) (h : ∀ n item need σ₁, kk n item need σ₁ → kk' n item need σ₁) : IE G A env ρ σ iter target kk' X := fun s y =>
  wpAny_mono (x s y) (fun _ _ p => wpAny_mono p (fun _ _ p => p.mono h) fun _ _ e => e) fun _ _ e => e
theorem tupK_but {h h' : Heap} {W : List Addr} (k : ∀ b o, b ∉ W → h.get? b = some o → h'.get? b = some o) (nt : ∀ b ∈ W, ∃ o, h.get? b = some o ∧ ¬ Tuple? o) : TupK h h' := fun a xs n e =>
  k a _ (fun m => by obtain ⟨o, ho, t⟩ := nt a m; rw [ho] at e; cases e; exact t ⟨rfl, _, _, rfl⟩) e
theorem S.keepBut {G : Amb} {L ρ σ h h'} {W : List Addr} (x : S G L ρ σ h) (k : ∀ b o, b ∉ W → h.get? b = some o → h'.get? b = some o) (t : TupK h h') (hσ : ∀ b ∈ W, σ b = none) (hL : L ∉ W) (h0 : ∀ b ∈ W, G.h₀.get? b = none) : S G L ρ σ h' := by
  obtain ⟨m, n, r⟩ := x.frame.ns
  refine ⟨fun b o e => k b o (fun q => by rw [h0 b q] at e; cases e) (x.base b o e), fun a o e => (x.obj a o e).mono t fun ob => k a ob (fun q => by rw [hσ a q] at e; cases e), x.new,
    ⟨m, n.at' fun o => k L o hL, fun z d q => let ⟨v, a, b⟩ := r z d q; ⟨v, a, b.mono t⟩⟩, x.off, x.above⟩
theorem ExtS.keepBut {L σ σ' h h' h₁} {W : List Addr} (x : ExtS L σ h h' σ') (k : ∀ b o, b ∉ W → h'.get? b = some o → h₁.get? b = some o) (t : TupK h' h₁) (hW : ∀ b ∈ W, h.get? b = none) : ExtS L σ h h₁ σ' :=
  have off : ∀ b o, h.get? b = some o → b ∉ W := fun b o e q => by rw [hW b q] at e; cases e
  ⟨x.tup.trans t, fun a o ne e q => k a o (off a o q) (x.keep a o ne e q), x.dom, fun a o e => let ⟨o', e'⟩ := x.alive a o e; ⟨o', k a o' (off a o e) e'⟩⟩
theorem ExtS.at {G : Amb} {A I W n item need at_ target} {L σ h h' σ'} (w : Wk G A I W n item need at_ target) {i : Nat} (x : ExtS L σ h h' σ') (st : at_ i h) (hσ : ∀ b ∈ W, σ b = none) (hL : L ∉ W) : at_ i h' ∧ ∀ b ∈ W, σ' b = none :=
  ⟨w.frame i h h' st x.tup fun b m o => x.keep b o (fun q => hL (q ▸ m)) (hσ b m), fun b m => let ⟨o, ho, _⟩ := w.live i h st b m; x.offO (hσ b m) ho⟩
section
variable {G : Amb} {A : Around} {env : Env} {L : Addr} {ρ : Loc} {σ : St} {X : Value → Shared → Prop} {k : AF → Loc → St → Prop}
theorem S.offW {h : Heap} {W : List Addr} (x : S G L ρ σ h) (hW : ∀ b ∈ W, h.get? b = none) : L ∉ W ∧ ∀ b ∈ W, G.h₀.get? b = none :=
  ⟨fun m => (by
    obtain ⟨_, n, _⟩ := x.frame.ns
    obtain ⟨o, _, _, ho, _⟩ := n
    rw [hW _ m] at ho; cases ho), fun b m => (by
    cases q : G.h₀.get? b with
    | none => rfl
    | some o => have := x.base b o q; rw [hW b m] at this; cases this)⟩
theorem sv_For {target iter : Expr} {body : List Stmt} {pos : Pos} (hX : PassesOwn (model G.prog G.w) A env X)
    (h : IE G A env ρ σ iter target (fun n item need σ₁ => ∃ Inv : Nat → Loc → St → Prop, Inv 0 ρ σ₁ ∧ (∀ i ρ σ, Inv i ρ σ → need σ) ∧
      (∀ i ρ₁ σ₁, i < n → Inv i ρ₁ σ₁ → TS G A env ρ₁ σ₁ (assign target env) (item i) (fun ρ₂ σ₂ => SV G A env ρ₂ σ₂ (execs body env) (fun φ ρ₃ σ₃ => match φ with
        | .next => Inv (i + 1) ρ₃ σ₃ | .cont => Inv (i + 1) ρ₃ σ₃ | .brk => k .next ρ₃ σ₃ | .ret d => k (.ret d) ρ₃ σ₃) X) X) ∧
      (∀ ρ₁ σ₁, Inv n ρ₁ σ₁ → k .next ρ₁ σ₁)) X)
    (hs : ∀ x, foldedSetIterable iter env x = pure x := by intro _; rfl) :
    SV G A env ρ σ (exec (.For target iter body [] pos) env) k X := fun s x => by
  refine wpAny_For (wpAny_mono (h s x) (fun v s₁ p => wpAny_mono p (fun it s₂ p => ?_) fun _ _ e => e) fun _ _ e => e) hs
  refine p.elim fun h₂ t₂ σ₁ I W at_ n item need E₁ x₁ w hW hσW st q₉ => ?_; obtain ⟨Inv, h0, hneed, step, done⟩ := q₉
  obtain ⟨hL, hG⟩ := x.offW hW
  refine codeAny_forLoop_any (fun c s' => ∃ h' tk ρ' σ' i, s' = { s with heap := h', toks := tk } ∧ ExtS env.locals σ s.heap h' σ' ∧ S G env.locals ρ' σ' h' ∧ (∀ b ∈ W, σ' b = none) ∧ at_ i h' ∧ Inv i ρ' σ' ∧ i ≤ n ∧ c = n - i) ?_ n
    ⟨h₂, t₂, ρ, σ₁, 0, rfl, E₁.toS, x₁, hσW, st, h0, Nat.zero_le _, rfl⟩
  rintro c s' ⟨h', tk, ρ', σ', i, rfl, E', x', hσ', st', hI, hi, rfl⟩
  by_cases hlt : i < n
  · refine w.next i _ _ _ _ _ _ hlt x' (hneed _ _ _ hI) st' hσ' fun v s₁ hgo => hgo _ _ fun h₃ tk₃ r st₃ kb => ?_
    · have t : TupK h' h₃ := tupK_but kb (w.live _ _ st')
      have x₃ := x'.keepBut kb t hσ' hL hG
      have E₃ := E'.keepBut kb t hW
      refine wpAny_mono (step i _ _ hlt hI _ v x₃ r) (fun _ s₄ p => ?_) fun _ _ e => hX _ _ e
      refine p.elim fun h₄ tk₄ φ ρ₄ σ₄ E₄ x₄ _ q₉ => ?_; obtain ⟨rfl, q₄⟩ := q₉
      obtain ⟨st₄, hσ₄⟩ := E₄.at w st₃ hσ' hL
      refine wpAny_mono (q₄ _ x₄) (fun f s₅ p => ?_) fun _ _ e => hX _ _ e
      refine p.elim fun h₅ tk₅ φ ρ₅ σ₅ E₅ x₅ rf q₅ => ?_
      obtain ⟨st₅, hσ₅⟩ := E₅.at w st₄ hσ₄ hL
      have E := (E₃.trans E₄).trans E₅
      cases f <;> cases φ <;> first | exact rf.elim | skip
      · exact ⟨n - (i + 1), by omega, h₅, tk₅, ρ₅, σ₅, i + 1, rfl, E, x₅, hσ₅, st₅, q₅, hlt, rfl⟩
      · exact ⟨h₅, tk₅, .next, ρ₅, σ₅, rfl, E, x₅, trivial, q₅⟩
      · exact ⟨n - (i + 1), by omega, h₅, tk₅, ρ₅, σ₅, i + 1, rfl, E, x₅, hσ₅, st₅, q₅, hlt, rfl⟩
      · exact ⟨h₅, tk₅, .ret _, ρ₅, σ₅, rfl, E, x₅, rf, q₅⟩
  · obtain rfl : i = n := by omega
    refine w.done _ _ _ _ _ _ x' (hneed _ _ _ hI) st' hσ' fun h₃ tk₃ kb => ?_
    have t : TupK h' h₃ := tupK_but kb (w.live _ _ st')
    exact wpAny_execs_nil ⟨h₃, tk₃, .next, ρ', σ', rfl, (E'.keepBut kb t hW), x'.keepBut kb t hσ' hL hG, trivial, done _ _ hI⟩
def Sub : Loc → Loc → Prop
  | [], _ => True
  | (y, d) :: r, ρ => ρ.get y = some d ∧ Sub r ρ
theorem Sub.get {ρ : Loc} {y : Str} {d : V} : ∀ {ρ₀ : Loc}, Sub ρ₀ ρ → ρ₀.get y = some d → ρ.get y = some d
  | [], _, e => by simp [Loc.get] at e
  | (z, c) :: r, h, e => by
    unfold Loc.get at e
    by_cases q : y = z
    · subst q; rw [if_pos rfl] at e; cases e; exact h.1
    · rw [if_neg q] at e; exact Sub.get h.2 e
theorem S.weak {ρ₀ : Loc} {h : Heap} (x : S G L ρ σ h) (hs : Sub ρ₀ ρ) : S G L ρ₀ σ h :=
  ⟨x.base, x.obj, x.new, ⟨let ⟨m, n, r⟩ := x.frame.ns; ⟨m, n, fun y d q => r y d (hs.get q)⟩⟩, x.off, x.above⟩
theorem SV.sub {ρ₀ : Loc} {t : Sem Flow} (h : SV G A env ρ₀ σ t k X) (hs : Sub ρ₀ ρ) : SV G A env ρ σ t k X := fun s x => h s (x.weak hs)
theorem TS.sub {ρ₀ : Loc} {t : Value → Sem Unit} {d : V} {k : Loc → St → Prop} (h : TS G A env ρ₀ σ t d k X) (hs : Sub ρ₀ ρ) : TS G A env ρ σ t d k X := fun s v x r => h s v (x.weak hs) r
theorem sv_While {test : Expr} {body : List Stmt} {pos : Pos} (hX : PassesOwn (model G.prog G.w) A env X) (Inv : Nat → Loc → St → Prop) (n : Nat) (h0 : Inv n ρ σ)
    (step : ∀ n ρ₁ σ₁, Inv n ρ₁ σ₁ → ∃ ρ₀, Sub ρ₀ ρ₁ ∧ BV G A env ρ₀ σ₁ (isTrue test env (eval test env)) (fun b σ₂ => if b = true then SV G A env ρ₀ σ₂ (execs body env) (fun φ ρ₃ σ₃ => match φ with
        | .next => ∃ m, m < n ∧ Inv m ρ₃ σ₃ | .cont => ∃ m, m < n ∧ Inv m ρ₃ σ₃ | .brk => k .next ρ₃ σ₃ | .ret d => k (.ret d) ρ₃ σ₃) X else k .next ρ₀ σ₂) X) :
    SV G A env ρ σ (exec (.While test body [] pos) env) k X := fun s x => by
  refine wpAny_While (codeAny_whileLoop (fun c s' => ∃ h' tk ρ' σ', s' = { s with heap := h', toks := tk } ∧ ExtS env.locals σ s.heap h' σ' ∧ S G env.locals ρ' σ' h' ∧ Inv c ρ' σ') ?_ n ⟨s.heap, s.toks, ρ, σ, rfl, .refl .., x, h0⟩)
  rintro c s' ⟨h', tk, ρ', σ', rfl, E', x', hI⟩
  obtain ⟨ρ₀, hs, st⟩ := step c _ _ hI
  refine wpAny_mono (st _ (x'.weak hs)) (fun b s₁ p => ?_) fun _ _ e => hX _ _ e
  refine p.elim fun h₁ tk₁ d σ₁ E₁ x₁ _ q₉ => ?_; obtain ⟨rfl, q⟩ := q₉
  cases b with
  | true =>
    refine wpAny_mono (q _ x₁) (fun f s₅ p => ?_) fun _ _ e => hX _ _ e
    refine p.elim fun h₅ tk₅ φ ρ₅ σ₅ E₅ x₅ rf q₅ => ?_
    have E := (E'.trans E₁.toS).trans E₅
    cases f <;> cases φ <;> first | exact rf.elim | skip
    · obtain ⟨m, hm, q₅⟩ := q₅; exact ⟨m, hm, h₅, tk₅, ρ₅, σ₅, rfl, E, x₅, q₅⟩
    · exact ⟨h₅, tk₅, .next, ρ₅, σ₅, rfl, E, x₅, trivial, q₅⟩
    · obtain ⟨m, hm, q₅⟩ := q₅; exact ⟨m, hm, h₅, tk₅, ρ₅, σ₅, rfl, E, x₅, q₅⟩
    · exact ⟨h₅, tk₅, .ret _, ρ₅, σ₅, rfl, E, x₅, rf, q₅⟩
  | false => exact wpAny_execs_nil ⟨h₁, tk₁, .next, ρ₀, σ₁, rfl, E'.trans E₁.toS, x₁, trivial, q⟩
theorem gen_k {t : Sem Flow} (h : ∀ k' : AF → Loc → St → Prop, (∀ φ ρ σ, k φ ρ σ → k' φ ρ σ) → SV G A env ρ σ t k' X) : SV G A env ρ σ t k X := h k fun _ _ _ x => x
theorem sv_nilK {k' : AF → Loc → St → Prop} (hk : ∀ φ ρ σ, k φ ρ σ → k' φ ρ σ) (h : k .next ρ σ) : SV G A env ρ σ (execs [] env) k' X := sv_nil (hk _ _ _ h)
end
end Mine
namespace Mine
theorem go_quiet {M : Model} {A : Around} {E : Value → Shared → Prop} {s : Shared} {target : Expr} {I : Addr} {o : Obj} {N : String} {vs : Array Value} {v : Value} {Q : Unit → Shared → Prop} (ho : s.heap.get? I = some o) (hc : o.cls = .type N) (hd : o.data = .fields vs)
    (hN : (["enumerate", "zip", "dict_itemiterator", "dict_reverseitemiterator", "odict_iterator", "itertools.zip_longest", "itertools.pairwise"] : List String).contains N = false) (h : Q () s) :
    wpAny M A (letOwnedTupleGo target (.ref I) v) Q E s := by
  have main : ∀ a, v = .ref a → wpAny M A (do
      let o ← load I
      match o.cls, o.data with
      | .type n, .fields vs =>
        if ["enumerate", "zip", "dict_itemiterator", "dict_reverseitemiterator", "odict_iterator", "itertools.zip_longest", "itertools.pairwise"].contains n && vs[0]? == some (rawInt a) then
          rule "for.unpacks-the-owned-tuple"
          updateField I 0 .none
      | _, _ => pure ()) Q E s := fun a _ => by
    refine wpAny_bind (wpAny_load ho ?_)
    rw [hc, hd]
    dsimp only
    rw [hN, Bool.false_and]
    exact wpAny_pure h
  unfold letOwnedTupleGo
  cases target <;> first
    | exact wpAny_pure h
    | (cases v <;> first
        | exact wpAny_pure h
        | exact main _ rfl)
section
variable {G : Amb} {A : Around} {env : Env} {L : Addr} {ρ : Loc} {σ : St} {X : Value → Shared → Prop}
theorem wk_list (hh : A.handled = none) (I a : Addr) (ds : List V) (target : Expr) : Wk G A I [I] ds.length (fun i => ds.getD i .none) (fun σ => σ a = some (.list ds)) (fun i h => h.IsListIter I a i) target where
  frame := fun i h h' st _ k => st.at fun o => k I (by simp) o
  live := fun i h st b m => by
    rw [List.mem_singleton] at m; subst m
    obtain ⟨o, ho, hc, hd⟩ := st
    exact ⟨o, ho, fun ⟨_, xs, n, t⟩ => by rw [hd] at t; cases t⟩
  next := fun i s L ρ σ Q E hi x need st hσ hQ => by
    obtain ⟨vs, n, ho, r⟩ := x.list need
    have hl : vs.size = ds.length := by simpa using r.length
    have hIa : a ≠ I := fun e => by have := hσ I (by simp); rw [← e, need] at this; cases this
    obtain ⟨v, hv, rv⟩ := r.get i (d := ds.getD i .none) (by rw [List.getD_eq_getElem?_getD, List.getElem?_eq_getElem hi]; rfl)
    refine wpAny_pyNext_list_item st (isList_of ho) (x := v) (by simpa using hv) fun h' hit' hs' => hQ _ _ fun Q' E' hq => ?_
    obtain ⟨o, hoI, hcI, hdI⟩ := id hit'
    have kb : ∀ b o, b ∉ [I] → s.heap.get? b = some o → h'.get? b = some o := fun b o hb e => hs'.extBut b o (fun h => hb (by simp [h])) e
    have t : TupK s.heap h' := tupK_but kb fun b m => by
      rw [List.mem_singleton] at m; subst m
      obtain ⟨o, ho, hc, hd⟩ := st
      exact ⟨o, ho, fun ⟨_, xs, n, t⟩ => by rw [hd] at t; cases t⟩
    exact go_quiet hoI hcI hdI (by decide) (hq h' s.toks (rv.mono t) hit' kb)
  done := fun s L ρ σ Q E x need st hσ hQ => by
    obtain ⟨vs, n, ho, r⟩ := x.list need
    have hl : vs.size = ds.length := by simpa using r.length
    exact wpAny_pyNext_list_end hh st (isList_of ho) (by rw [← hl]; simp) fun h' he' => hQ h' s.toks fun b o hb e => he' b o (fun h => hb (by simp [h])) e
  self := fun i s Q E st hQ => wpAny_pyIter_listiter st hQ
theorem ie_list {iter target : Expr} {kk : Nat → (Nat → V) → (St → Prop) → St → Prop} (hh : A.handled = none)
    (h : EV G A env ρ σ iter (fun d σ₁ => ∃ a ds, d = .ref a ∧ σ₁ a = some (.list ds) ∧ kk ds.length (fun i => ds.getD i .none) (fun σ => σ a = some (.list ds)) σ₁) X) : IE G A env ρ σ iter target kk X := fun s x => by
  refine wpAny_mono (h s x) (fun v s₁ p => ?_) fun _ _ e => e
  refine p.elim fun h₁ t₁ d σ₁ E₁ x₁ r₁ q₉ => ?_; obtain ⟨a, ds, rfl, ea, hk⟩ := q₉
  cases r₁
  obtain ⟨vs, n, ho, r⟩ := x₁.list ea
  refine wpAny_pyIter_list (isList_of ho) ?_
  have kp : ∀ b o, h₁.get? b = some o → (h₁.push { cls := .type "list_iterator", data := .fields #[.ref a, .int 0 0] }).get? b = some o := fun b o e => Heap.get?_push_of_some _ e
  have hn := Mine.none_at_size h₁
  refine ⟨_, t₁, σ₁, _, [h₁.objs.size], _, _, _, _, rfl, rfl, E₁.trans (.keeps kp), x₁.keeps kp, wk_list hh _ a ds target, ?_, ?_, ⟨_, Heap.get?_push_size _ rfl, rfl, rfl⟩, hk⟩
  · intro b m; rw [List.mem_singleton] at m; subst m
    cases q : s.heap.get? h₁.objs.size with
    | none => rfl
    | some o => obtain ⟨o', e'⟩ := E₁.alive _ o q; rw [hn] at e'; cases e'
  · intro b m; rw [List.mem_singleton] at m; subst m; exact x₁.unused hn
theorem wk_tup (hh : A.handled = none) (I a : Addr) (vs : Array Value) (n : Nat) (ds : List V) (target : Expr) : Wk G A I [I] ds.length (fun i => ds.getD i .none) (fun _ => True) (fun i h => IsTupIter h I a i ∧ h.get? a = some (tupOf vs n) ∧ RepAll h vs.toList ds) target where
  frame := fun i h h' st t k => ⟨let ⟨o, ho, r⟩ := st.1; ⟨o, k I (by simp) o ho, r⟩, t _ _ _ st.2.1, st.2.2.mono t⟩
  live := fun i h st b m => by
    rw [List.mem_singleton] at m; subst m
    obtain ⟨⟨o, ho, hc, hd⟩, _⟩ := st
    exact ⟨o, ho, fun ⟨_, xs, n, t⟩ => by rw [hd] at t; cases t⟩
  next := fun i s L ρ σ Q E hi x need st hσ hQ => by
    obtain ⟨hit, ho, r⟩ := st
    have hl : vs.size = ds.length := by simpa using r.length
    obtain ⟨v, hv, rv⟩ := r.get i (d := ds.getD i .none) (by rw [List.getD_eq_getElem?_getD, List.getElem?_eq_getElem hi]; rfl)
    have ht : IsTup s.heap a vs := ⟨_, ho, rfl, n, rfl⟩
    refine next_tuple_item hit ht (x := v) (by simpa using hv) fun h' hit' hs' => hQ _ _ fun Q' E' hq => ?_
    obtain ⟨o, hoI, hcI, hdI⟩ := id hit'
    have kb : ∀ b o, b ∉ [I] → s.heap.get? b = some o → h'.get? b = some o := fun b o hb e => hs'.extBut b o (fun h => hb (by simp [h])) e
    have t : TupK s.heap h' := tupK_but kb fun b m => by
      rw [List.mem_singleton] at m; subst m
      obtain ⟨o, ho, hc, hd⟩ := hit
      exact ⟨o, ho, fun ⟨_, xs, n, t⟩ => by rw [hd] at t; cases t⟩
    exact go_quiet hoI hcI hdI (by decide) (hq h' s.toks (rv.mono t) ⟨hit', t _ _ _ ho, r.mono t⟩ kb)
  done := fun s L ρ σ Q E x need st hσ hQ => by
    obtain ⟨hit, ho, r⟩ := st
    have hl : vs.size = ds.length := by simpa using r.length
    exact next_tuple_end hh hit ⟨_, ho, rfl, n, rfl⟩ (by rw [← hl]; simp) fun h' he' => hQ h' s.toks fun b o hb e => he' b o (fun h => hb (by simp [h])) e
  self := fun i s Q E st hQ => wpAny_pyIter_tupleiter (let ⟨o, ho, r⟩ := st.1; ⟨o, ho, r⟩) hQ
theorem ie_tup {iter target : Expr} {kk : Nat → (Nat → V) → (St → Prop) → St → Prop} (hh : A.handled = none)
    (h : EV G A env ρ σ iter (fun d σ₁ => ∃ ds, d = .tup ds ∧ kk ds.length (fun i => ds.getD i .none) (fun _ => True) σ₁) X) : IE G A env ρ σ iter target kk X := fun s x => by
  refine wpAny_mono (h s x) (fun v s₁ p => ?_) fun _ _ e => e
  refine p.elim fun h₁ t₁ d σ₁ E₁ x₁ r₁ q₉ => ?_; obtain ⟨ds, rfl, hk⟩ := q₉
  refine r₁.elim fun a n vs ho r => ?_
  ·
    refine iter_tuple (t := a) (items := vs) ⟨_, ho, rfl, n, rfl⟩ ?_
    have kp : ∀ b o, h₁.get? b = some o → (h₁.push { cls := .type "tuple_iterator", data := .fields #[.ref a, .int 0 0] }).get? b = some o := fun b o e => Heap.get?_push_of_some _ e
    have hn := Mine.none_at_size h₁
    refine ⟨_, t₁, σ₁, _, [h₁.objs.size], _, _, _, _, rfl, rfl, E₁.trans (.keeps kp), x₁.keeps kp, wk_tup hh _ a vs n ds target, ?_, ?_, ⟨⟨_, Heap.get?_push_size _ rfl, rfl, rfl⟩, kp _ _ ho, r.mono (.of_keeps kp)⟩, hk⟩
    · intro b m; rw [List.mem_singleton] at m; subst m
      cases q : s.heap.get? h₁.objs.size with
      | none => rfl
      | some o => obtain ⟨o', e'⟩ := E₁.alive _ o q; rw [hn] at e'; cases e'
    · intro b m; rw [List.mem_singleton] at m; subst m; exact x₁.unused hn
theorem opc_range {n : Int} {k : V → St → Prop} (h : ∀ a, σ a = none → k (.ref a) (σ.set a (.range 0 n))) : OpC G A L ρ σ (.type "range") [.int n] k X := fun s vs x r => by
  obtain ⟨v, rfl, r₁⟩ := repAll_one r
  cases r₁ with
  | int _ t =>
  refine call_range_1 ?_
  have kp : ∀ b o, s.heap.get? b = some o → (s.heap.push { cls := .type "range", data := .fields #[.int 0 s.toks, .int n t, .int 1 (s.toks + 1)] }).get? b = some o := fun b o e => Heap.get?_push_of_some _ e
  have hn := Mine.none_at_size s.heap
  exact ⟨_, _, _, _, rfl, .new hn kp, x.newAt (o := .range 0 n) hn (Nat.le_of_lt x.big) kp ⟨_, _, _, Heap.get?_push_size _ rfl⟩, .ref _, h _ (x.unused hn)⟩
theorem wk_range (hh : A.handled = none) (I : Addr) (n : Nat) (target : Expr) : Wk G A I [I] n (fun i => .int i) (fun _ => True) (fun i h => IsRangeIter h I (0 + (i : Nat) * 1) ((n : Int) - (i : Nat)) 1) target where
  frame := fun i h h' st t k => k I (by simp) _ st
  live := fun i h st b m => by
    rw [List.mem_singleton] at m; subst m
    exact ⟨_, st, fun ⟨_, xs, n, t⟩ => by cases t⟩
  next := fun i s L ρ σ Q E hi x need st hσ hQ => by
    refine wpAny_pyNext_range_item st (by omega) fun h' hit' hs' => hQ _ _ fun Q' E' hq => ?_
    have kb : ∀ b o, b ∉ [I] → s.heap.get? b = some o → h'.get? b = some o := fun b o hb e => hs'.extBut b o (fun h => hb (by simp [h])) e
    refine go_quiet hit' rfl rfl (by decide) (hq h' _ ?_ ?_ kb)
    · rw [show (0 : Int) + (i : Nat) * 1 = i by omega]; exact .int _ _
    · have e1 : (0 : Int) + ((i + 1 : Nat) : Int) * 1 = 0 + (i : Int) * 1 + 1 := by omega
      have e2 : (n : Int) - ((i + 1 : Nat) : Int) = (n : Int) - (i : Int) - 1 := by omega
      rw [e1, e2]; exact hit'
  done := fun s L ρ σ Q E x need st hσ hQ => wpAny_pyNext_range_end hh st (by omega) fun h' he' => hQ h' s.toks fun b o hb e => he' b o (fun h => hb (by simp [h])) e
  self := fun i s Q E st hQ => wpAny_pyIter_rangeiter st hQ
theorem ie_range {iter target : Expr} {kk : Nat → (Nat → V) → (St → Prop) → St → Prop} (hh : A.handled = none)
    (h : EV G A env ρ σ iter (fun d σ₁ => ∃ a, ∃ n : Nat, d = .ref a ∧ σ₁ a = some (.range 0 n) ∧ (n : Int) < 2 ^ 62 ∧ kk n (fun i => .int i) (fun _ => True) σ₁) X) : IE G A env ρ σ iter target kk X := fun s x => by
  refine wpAny_mono (h s x) (fun v s₁ p => ?_) fun _ _ e => e
  refine p.elim fun h₁ t₁ d σ₁ E₁ x₁ r₁ q₉ => ?_; obtain ⟨a, n, rfl, ea, hsz, hk⟩ := q₉
  cases r₁
  obtain ⟨t, u, v, ho⟩ := x₁.obj a _ ea
  refine wpAny_pyIter_range ho (small_one (by omega) (by omega) (by omega) hsz) ?_
  have hs : Builtin.Range.rangeSize 0 (n : Int) 1 = n := by rw [rangeSize_one]; split <;> omega
  rw [hs]
  have kp : ∀ b o, h₁.get? b = some o → (h₁.push { cls := .type "range_iterator", data := .fields #[rawInt 0, rawInt (n : Int), rawInt 1] }).get? b = some o := fun b o e => Heap.get?_push_of_some _ e
  have hn := Mine.none_at_size h₁
  refine ⟨_, t₁, σ₁, _, [h₁.objs.size], _, _, _, _, rfl, rfl, E₁.trans (.keeps kp), x₁.keeps kp, wk_range hh _ n target, ?_, ?_, ?_, hk⟩
  · intro b m; rw [List.mem_singleton] at m; subst m
    cases q : s.heap.get? h₁.objs.size with
    | none => rfl
    | some o => obtain ⟨o', e'⟩ := E₁.alive _ o q; rw [hn] at e'; cases e'
  · intro b m; rw [List.mem_singleton] at m; subst m; exact x₁.unused hn
  · have := Heap.get?_push_size h₁ (o := { cls := .type "range_iterator", data := .fields #[rawInt 0, rawInt (n : Int), rawInt 1] }) rfl
    show IsRangeIter _ _ (0 + ((0 : Nat) : Int) * 1) ((n : Int) - ((0 : Nat) : Int)) 1
    rw [show (0 : Int) + ((0 : Nat) : Int) * 1 = 0 by omega, show (n : Int) - ((0 : Nat) : Int) = n by omega]
    exact this
end
end Mine
namespace Mine
def Le (σ σ' : St) : Prop := ∀ a o, σ a = some o → σ' a = some o
theorem Le.refl (σ : St) : Le σ σ := fun _ _ e => e
theorem Le.trans {a b c : St} (x : Le a b) (y : Le b c) : Le a c := fun p o e => y p o (x p o e)
theorem Le.set {σ : St} {a : Addr} {o : AObj} (e : σ a = none) : Le σ (σ.set a o) := fun b o' h => by
  rw [St.set_ne _ _ (fun q => by rw [q, e] at h; cases h)]; exact h
theorem Le.setL {σ σ' : St} {a : Addr} {o : AObj} (x : Le σ σ') (e : σ a = none) : Le σ (σ'.set a o) := fun b o' h => by
  rw [St.set_ne _ _ (fun q => by rw [q, e] at h; cases h)]; exact x b o' h
def QV (G : Amb) (A : Around) (env : Env) (ρ : Loc) (σ : St) (ifs : List Expr) (kb : Bool → St → Prop) (X : Value → Shared → Prop) : Prop :=
  ∀ s, S G env.locals ρ σ s.heap → wpAny (model G.prog G.w) A (forIn ifs true fun c r => if r = true then do let ok ← isTrue c env (eval c env); pure (ForInStep.yield ok) else pure (ForInStep.yield r))
    (fun b s' => Post G env.locals ρ σ s (fun d σ' => d = .bool b ∧ kb b σ') (.bool b) s') X s
section
variable {G : Amb} {A : Around} {env : Env} {L : Addr} {ρ : Loc} {σ : St} {X : Value → Shared → Prop}
theorem qv_nil {kb : Bool → St → Prop} (h : kb true σ) : QV G A env ρ σ [] kb X := fun s x => wpAny_tests_nil (.here x (.bool _) ⟨rfl, h⟩)
theorem qv_one {c : Expr} {kb : Bool → St → Prop} (h : BV G A env ρ σ (isTrue c env (eval c env)) kb X) : QV G A env ρ σ [c] kb X := fun s x => wpAny_tests_one (h s x)
theorem compLoop_any {R : Result → Shared → Prop} {s : Shared} {prog : Program} {w : World} {elt target iter : Expr} {ifs : List Expr} {scope : Scope} {pos : Pos} {it acc : Value} {env : Env} (I : Nat → Shared → Prop)
    (turn : ∀ n s, I n s → wpAny (model prog w) A (pyNext it) (fun r s₁ => match r with
      | none => R (.ok .next) s₁
      | some v => wpAny (model prog w) A (letOwnedTupleGo target it v) (fun _ s₁' => wpAny (model prog w) A (assign target env v) (fun _ s₂ =>
          wpAny (model prog w) A (forIn ifs true fun c r => if r = true then do let ok ← isTrue c env (eval c env); pure (ForInStep.yield ok) else pure (ForInStep.yield r)) (fun ok s₃ =>
            if ok = true then wpAny (model prog w) A (eval elt env) (fun x s₄ =>
              wpAny (model prog w) A (call (.builtin "list.append") [acc, x]) (fun _ s₅ => ∃ m, m < n ∧ I m s₅) (notedBy (model prog w) A env fun e s' => R (.error e) s') s₄) (notedBy (model prog w) A env fun e s' => R (.error e) s') s₃
            else ∃ m, m < n ∧ I m s₃) (notedBy (model prog w) A env fun e s' => R (.error e) s') s₂) (notedBy (model prog w) A env fun e s' => R (.error e) s') s₁') (notedBy (model prog w) A env fun e s' => R (.error e) s') s₁) (notedBy (model prog w) A env fun e s' => R (.error e) s') s)
    (n : Nat) (h : I n s) :
    codeAny (model prog w) A (.compLoop (.ListComp elt [⟨target, iter, ifs, 0⟩] scope pos) 0 it acc env) R s := by
  refine codeAny_loop rfl I (fun n s hI => ?_) n h
  show wpAny _ A ((compTurn (.ListComp elt [⟨target, iter, ifs, 0⟩] scope pos) 0 it acc env).onRaise (fun x => do noteFrame x env; theTreesLotGoes x)) _ _ s
  refine wpAny_noted ?_
  rw [compTurn_list]
  refine wpAny_bind (wpAny_standAt (wpAny_bind (wpAny_mono (turn n s hI) (fun r s₁ h₁ => ?_) fun _ _ h' => h')))
  cases r with
  | none => exact wpAny_pure h₁
  | some v =>
    refine wpAny_bind (wpAny_mono h₁ (fun _ s₁' h₁' => ?_) fun _ _ h' => h')
    refine wpAny_bind (wpAny_mono h₁' (fun _ s₂ h₂ => wpAny_bind (wpAny_mono h₂ (fun ok s₃ h₃ => ?_) fun _ _ h' => h')) fun _ _ h' => h')
    cases ok with
    | false => exact wpAny_pure ⟨rfl, h₃⟩
    | true =>
      exact wpAny_bind (wpAny_bind (wpAny_mono h₃ (fun x s₄ h₄ => wpAny_bind (wpAny_mono h₄ (fun _ s₅ h₅ => wpAny_pure (wpAny_pure ⟨rfl, h₅⟩)) fun _ _ h' => h')) fun _ _ h' => h'))
theorem S.ofExtS {C : Addr} {ρ' : Loc} {σ' : St} {h h' : Heap} (x : S G L ρ σ h) (E : ExtS C σ h h' σ') (ne : L ≠ C) (y : S G C ρ' σ' h') : S G L ρ σ' h' := by
  obtain ⟨m, n, r⟩ := x.frame.ns
  obtain ⟨o, _, _, ho, _⟩ := id n
  exact ⟨y.base, y.obj, y.new, ⟨m, n.at' fun o => E.keep L o ne x.off, fun z d q => let ⟨v, a, b⟩ := r z d q; ⟨v, a, b.mono E.tup⟩⟩, E.offO x.off ho, x.above⟩
theorem Ext.thenS {C : Addr} {σ σ₁ σ₂ : St} {h h₁ h₂ : Heap} (x : Ext σ h h₁ σ₁) (y : ExtS C σ₁ h₁ h₂ σ₂) (hC : h.get? C = none) : Ext σ h h₂ σ₂ where
  tup := x.tup.trans y.tup
  keep := fun a o e n => y.keep a o (fun q => by rw [q, hC] at n; cases n) (x.offO e n) (x.keep a o e n)
  dom := fun a e n => by
    by_cases q : σ₁ a = none
    · have := y.dom a q n
      cases r : h.get? a with
      | none => rfl
      | some o => obtain ⟨o', e'⟩ := x.alive a o r; rw [this] at e'; cases e'
    · exact x.dom a e q
  alive := fun a o e => let ⟨o₁, e₁⟩ := x.alive a o e; y.alive a o₁ e₁
theorem Ext.keepBut {σ σ' h h' h₁} {W : List Addr} (x : Ext σ h h' σ') (k : ∀ b o, b ∉ W → h'.get? b = some o → h₁.get? b = some o) (t : TupK h' h₁) (hW : ∀ b ∈ W, h.get? b = none) : Ext σ h h₁ σ' :=
  have off : ∀ b o, h.get? b = some o → b ∉ W := fun b o e q => by rw [hW b q] at e; cases e
  ⟨x.tup.trans t, fun a o e q => k a o (off a o q) (x.keep a o e q), x.dom, fun a o e => let ⟨o', e'⟩ := x.alive a o e; ⟨o', k a o' (off a o e) e'⟩⟩
theorem S.sub {ρ' : Loc} {h : Heap} (x : S G L ρ σ h) (hs : ∀ y d, ρ'.get y = some d → ρ.get y = some d) : S G L ρ' σ h :=
  ⟨x.base, x.obj, x.new, ⟨let ⟨m, n, r⟩ := x.frame.ns; ⟨m, n, fun y d q => r y d (hs y d q)⟩⟩, x.off, x.above⟩
def never : Value → Shared → Prop := fun _ _ => False
theorem comp_core {elt target iter : Expr} {ifs : List Expr} {scope : Scope} {pos ipos : Pos} {cl : List (Str × Addr)} {use : Option (Value → Sem Unit)} {Q : Value → Shared → Prop} {s : Shared}
    (hclos : closureFor scope env = pure cl) (hcell : ∀ y ∈ scope.names, y.2 ≠ .cell) (hkind : scope.kind = .function) (hnames : ∀ y ∈ scope.names, y.2 = .local → scope.names.lookup y.1 = some .local)
    (hs : ∀ x, foldedSetIterable iter env x = pure x) (x : S G env.locals ρ σ s.heap)
    (h : IE G A env ρ σ iter target (fun n item need σ₁ => ∃ (ft : Nat → Bool) (fe : Nat → V), (∀ σ', Le σ₁ σ' → need σ') ∧ n ≤ sizeLine ∧
      (∀ C i σ₂, Le σ₁ σ₂ → i < n → TS G A (compEnvC scope cl C env) [] σ₂ (assign target (compEnvC scope cl C env)) (item i) (fun ρ₂ σ₃ => QV G A (compEnvC scope cl C env) ρ₂ σ₃ ifs (fun b σ₄ => b = ft i ∧
        if b = true then EV G A (compEnvC scope cl C env) ρ₂ σ₄ elt (fun d σ₅ => d = fe i ∧ Le σ₂ σ₅) never else Le σ₂ σ₄) never) never) ∧
      (∀ D C h' tk σ', S G env.locals ρ σ' h' → Ext σ s.heap h' σ' → (∃ m, h'.Ns C m) → σ' C = none → C ≠ env.locals → s.heap.get? C = none → G.h₀.objs.size ≤ C → Le σ₁ σ' → σ₁ D = none → σ' D = some (.list (((List.range n).filter ft).map fe)) →
        compPost (model G.prog G.w) A X use Q (.ref D) C (.ok .next) { s with heap := h', toks := tk })) X) :
    wpAny (model G.prog G.w) A (comprehension (.ListComp elt [⟨target, iter, ifs, 0⟩] scope pos) scope env ipos (newList []) false (eval iter env) use) Q X s := by
  refine wpAny_comprehension_free rfl hs hclos hkind hnames (wpAny_mono (h s x) (fun v s₁ p => wpAny_mono p (fun it s₂ p => ?_) fun _ _ e => e) fun _ _ e => e)
  refine p.elim fun h₂ t₂ σ₁ I W at_ n item need E₁ x₁ w hW hσW st q₉ => ?_; obtain ⟨ft, fe, hneed, hsz, step, fin⟩ := q₉
  obtain ⟨hL, hG⟩ := x.offW hW
  refine wpAny_newObj_type (wpAny_newFunctionEnv hcell (by intro y hy; simp at hy) (fun h₄ hns₄ hsb₄ => ?_) hkind)
  dsimp only at hns₄ hsb₄ ⊢
  have kp₃ : ∀ b o, h₂.get? b = some o → (h₂.push { cls := .type "list", dict := none, data := .seq ([] : List Value).toArray }).get? b = some o := fun b o e => Heap.get?_push_of_some _ e
  have hn₂ := Mine.none_at_size h₂
  have hD₃ := Heap.get?_push_size h₂ (o := { cls := .type "list", dict := none, data := .seq ([] : List Value).toArray }) rfl
  have E₃ := Ext.new (σ := σ₁) (o := .list []) hn₂ kp₃
  have x₃ : S G env.locals ρ (σ₁.set h₂.objs.size (.list [])) _ := x₁.newAt (o := .list []) hn₂ (Nat.le_of_lt x₁.big) kp₃ ⟨_, _, hD₃, .nil⟩
  generalize hD : h₂.objs.size = D at *
  generalize hH₃ : h₂.push { cls := .type "list", dict := none, data := .seq ([] : List Value).toArray } = h₃ at *
  have hn₃ := Mine.none_at_size h₃
  have kp₄ : ∀ b o, h₃.get? b = some o → h₄.get? b = some o := fun b o e => hsb₄.extBut b o (Nat.ne_of_lt (Heap.lt_size e)) (Heap.get?_push_of_some _ e)
  have hC₀ : s.heap.get? h₃.objs.size = none := by
    cases q : s.heap.get? h₃.objs.size with
    | none => rfl
    | some o => obtain ⟨o', e'⟩ := (E₁.trans E₃).alive _ o q; rw [hn₃] at e'; cases e'
  have hCG : G.h₀.objs.size ≤ h₃.objs.size := Nat.le_of_lt x₃.big
  have hLC : env.locals ≠ h₃.objs.size := Nat.ne_of_lt x₃.frame.lt
  have hCW : h₃.objs.size ∉ W := fun m => by
    obtain ⟨o, ho, _⟩ := w.live 0 h₂ st _ m
    have := kp₃ _ _ ho
    rw [hn₃] at this; cases this
  generalize h₃.objs.size = C at *
  have x₄ : S G env.locals ρ (σ₁.set D (.list [])) h₄ := x₃.keeps kp₄
  have σC : (σ₁.set D (.list [])) C = none := x₃.unused hn₃
  have y₄ : S G C [] (σ₁.set D (.list [])) h₄ := ⟨x₄.base, x₄.obj, x₄.new, ⟨⟨_, hns₄, fun y d q => by cases q⟩⟩, σC, hCG⟩
  have E₄ : Ext σ s.heap h₄ (σ₁.set D (.list [])) := (E₁.trans E₃).trans (.keeps kp₄)
  have σD : σ₁ D = none := x₁.unused hn₂
  have hWD : D ∉ W := fun m => by
    obtain ⟨o, ho, _⟩ := w.live 0 h₂ st _ m
    rw [hn₂] at ho; cases ho
  have st₄ : at_ 0 h₄ := w.frame _ _ _ st (fun b xs k e => kp₄ _ _ (kp₃ _ _ e)) (fun b m o e => kp₄ _ _ (kp₃ _ _ e))
  have hσW₄ : ∀ b ∈ W, (σ₁.set D (.list [])) b = none := fun b m => by
    have hb : b ≠ D := fun q => hWD (q ▸ m)
    rw [St.set_ne _ _ hb]; exact hσW b m
  have loop : ∀ s₃ : Shared, s₃ = { s with heap := h₄, toks := t₂ + ([] : List (Str × Value)).length } →
      codeAny (model G.prog G.w) A (.compLoop (.ListComp elt [⟨target, iter, ifs, 0⟩] scope pos) 0 (.ref I) (.ref D) (compEnvC scope cl C env)) (compPost (model G.prog G.w) A X use Q (.ref D) C) s₃ := by
    rintro s₃ rfl
    refine compLoop_any (fun c s' => ∃ h' tk σ' i, s' = { s with heap := h', toks := tk } ∧ Ext σ s.heap h' σ' ∧ S G env.locals ρ σ' h' ∧ S G C [] σ' h' ∧ (∀ b ∈ W, σ' b = none) ∧ at_ i h' ∧ Le σ₁ σ' ∧
      σ' D = some (.list (((List.range i).filter ft).map fe)) ∧ i ≤ n ∧ c = n - i) ?_ n
      ⟨h₄, _, _, 0, rfl, E₄, x₄, y₄, hσW₄, st₄, Le.set σD, by simp, Nat.zero_le _, rfl⟩
    rintro c s' ⟨h', tk, σ', i, rfl, E', x', y', hσ', st', le', hl', hi, rfl⟩
    by_cases hlt : i < n
    · refine w.next i _ _ _ _ _ _ hlt x' (hneed _ le') st' hσ' fun v s₁ hgo => hgo _ _ fun h₅ tk₅ r st₅ kb => ?_
      have t : TupK h' h₅ := tupK_but kb (w.live _ _ st')
      have x₅ := x'.keepBut kb t hσ' hL hG
      have y₅ := y'.keepBut kb t hσ' hCW hG
      have E₅ := E'.keepBut kb t hW
      refine wpAny_mono (step C i _ le' hlt _ v y₅ r) (fun _ s₆ p => ?_) fun _ _ e => e.elim
      refine p.elim fun h₆ tk₆ φ ρ₆ σ₆ F₆ y₆ _ q₉ => ?_; obtain ⟨rfl, q₆⟩ := q₉
      refine wpAny_mono (q₆ _ y₆) (fun b s₇ p => ?_) fun _ _ e => e.elim
      refine p.elim fun h₇ tk₇ d σ₇ F₇ y₇ _ q₉ => ?_; obtain ⟨rfl, hb, q₇⟩ := q₉
      cases b with
      | false =>
        have F := F₆.trans F₇.toS
        obtain ⟨st₇, hσ₇⟩ := F.at w st₅ hσ' hCW
        rw [if_neg (by decide)] at q₇
        rw [if_neg (by decide)]
        refine ⟨n - (i + 1), by omega, h₇, tk₇, σ₇, i + 1, rfl, E₅.thenS F hC₀, x₅.ofExtS F hLC y₇, y₇.sub (fun y d q => by cases q), hσ₇, st₇, le'.trans q₇, ?_, hlt, rfl⟩
        rw [q₇ _ _ hl', List.range_succ, List.filter_append]
        simp [← hb]
      | true =>
        rw [if_pos rfl] at q₇
        rw [if_pos rfl]
        refine wpAny_mono (q₇ _ y₇) (fun v s₈ p => ?_) fun _ _ e => e.elim
        refine p.elim fun h₈ tk₈ d σ₈ F₈ y₈ r₈ q₉ => ?_; obtain ⟨rfl, le₈⟩ := q₉
        have hl₈ := le₈ _ _ hl'
        have hlen : (((List.range i).filter ft).map fe).length ≤ sizeLine := by
          have := List.length_filter_le ft (List.range i)
          rw [List.length_map]; rw [List.length_range] at this; omega
        refine wpAny_mono (opc_append (A := A) (k := fun _ σ' => σ' = σ₈.set D (.list (((List.range i).filter ft).map fe ++ [fe i]))) (X := never) hl₈ hlen rfl { s with heap := h₈, toks := tk₈ } [.ref D, v] y₈ (.cons (.ref _) (.cons r₈ .nil))) (fun _ s₉ p => ?_) fun _ _ e => e.elim
        refine p.elim fun h₉ tk₉ d σ₉ F₉ y₉ _ q₉ => ?_; cases q₉
        have F := ((F₆.trans F₇.toS).trans F₈.toS).trans F₉.toS
        obtain ⟨st₉, hσ₉⟩ := F.at w st₅ hσ' hCW
        refine ⟨n - (i + 1), by omega, h₉, tk₉, _, i + 1, rfl, E₅.thenS F hC₀, x₅.ofExtS F hLC y₉, y₉.sub (fun y d q => by cases q), hσ₉, st₉, (le'.trans le₈).setL σD, ?_, hlt, rfl⟩
        rw [St.set_same, List.range_succ, List.filter_append]
        simp [← hb]
    · obtain rfl : i = n := by omega
      refine w.done _ _ _ _ _ _ x' (hneed _ le') st' hσ' fun h₅ tk₅ kb => ?_
      have t : TupK h' h₅ := tupK_but kb (w.live _ _ st')
      have y₅ := y'.keepBut kb t hσ' hCW hG
      obtain ⟨m, hm, _⟩ := y₅.frame.ns
      exact fin D C h₅ tk₅ σ' (x'.keepBut kb t hσ' hL hG) (E'.keepBut kb t hW) ⟨m, hm⟩ y₅.off (Ne.symm hLC) hC₀ hCG le' σD hl'
  exact codeAny_compStart_list (loop _ rfl) (w.self 0 _ _ _ st₄ (loop _ rfl))
end
end Mine
namespace Mine
section
variable {G : Amb} {A : Around} {env : Env} {L : Addr} {ρ : Loc} {σ : St} {X : Value → Shared → Prop}
theorem ns_no_tuple {h : Heap} {C : Addr} {m : Str → Option Value} (n : h.Ns C m) : ∃ o, h.get? C = some o ∧ ¬ Tuple? o := by
  obtain ⟨o, es, ep, ho, hd, _⟩ := n
  exact ⟨o, ho, fun ⟨_, xs, n, t⟩ => by rw [hd] at t; cases t⟩
theorem sameBut_kb {C : Addr} {h h' : Heap} (hs : Heap.SameBut C h h') : ∀ b o, b ∉ [C] → h.get? b = some o → h'.get? b = some o := fun b o m e => (hs.2 b (fun q => m (by simp [q]))).trans e
theorem ev_ListComp {elt target iter : Expr} {ifs : List Expr} {scope : Scope} {pos : Pos} {cl : List (Str × Addr)} {k : V → St → Prop}
    (h : IE G A env ρ σ iter target (fun n item need σ₁ => ∃ (ft : Nat → Bool) (fe : Nat → V), (∀ σ', Le σ₁ σ' → need σ') ∧ n ≤ sizeLine ∧
      (∀ C i σ₂, Le σ₁ σ₂ → i < n → TS G A (compEnvC scope cl C env) [] σ₂ (assign target (compEnvC scope cl C env)) (item i) (fun ρ₂ σ₃ => QV G A (compEnvC scope cl C env) ρ₂ σ₃ ifs (fun b σ₄ => b = ft i ∧
        if b = true then EV G A (compEnvC scope cl C env) ρ₂ σ₄ elt (fun d σ₅ => d = fe i ∧ Le σ₂ σ₅) never else Le σ₂ σ₄) never) never) ∧
      (∀ D σ', Le σ₁ σ' → σ₁ D = none → σ' D = some (.list (((List.range n).filter ft).map fe)) → k (.ref D) σ')) X)
    (hclos : closureFor scope env = pure cl := by rfl) (hcell : ∀ y ∈ scope.names, y.2 ≠ .cell := by decide) (hkind : scope.kind = .function := by rfl) (hnames : ∀ y ∈ scope.names, y.2 = .local → scope.names.lookup y.1 = some .local := by decide)
    (hs : ∀ x, foldedSetIterable iter env x = pure x := by intro _; rfl) : EV G A env ρ σ (.ListComp elt [⟨target, iter, ifs, 0⟩] scope pos) k X := fun s x => by
  rw [eval_ListComp]
  refine comp_core (use := none) hclos hcell hkind hnames hs x (fun s' x' => ?_)
  refine IE.mono h (fun n item need σ₁ q₉ => ?_) s' x'
  obtain ⟨ft, fe, hn, hsz, step, fin⟩ := q₉
  refine ⟨ft, fe, hn, hsz, step, ?_⟩
  intro D C h' tk σ' y E' ⟨m, hm⟩ hC hne hCs hCG le hD hl
  refine ⟨m, hm, fun h'' hs => ?_⟩
  have kb := sameBut_kb hs
  have t : TupK h' h'' := tupK_but kb fun b m' => by rw [List.mem_singleton] at m'; subst m'; exact ns_no_tuple hm
  have hG0 : ∀ b ∈ [C], G.h₀.get? b = none := fun b m' => by
    rw [List.mem_singleton] at m'; subst m'
    cases q : G.h₀.get? b with
    | none => rfl
    | some o => have := x.base b o q; rw [hCs] at this; cases this
  exact ⟨h'', tk, _, σ', rfl, E'.keepBut kb t (fun b m' => by rw [List.mem_singleton] at m'; subst m'; exact hCs),
    y.keepBut kb t (fun b m' => by rw [List.mem_singleton] at m'; subst m'; exact hC) (by simp; exact Ne.symm hne) hG0, .ref _, fin D σ' le hD hl⟩
theorem sv_AssignComp {x : Str} {pos' pos₂ : Pos} {elt target iter : Expr} {ifs : List Expr} {scope : Scope} {pos : Pos} {cl : List (Str × Addr)} {k : AF → Loc → St → Prop}
    (h : IE G A env ρ σ iter target (fun n item need σ₁ => ∃ (ft : Nat → Bool) (fe : Nat → V), (∀ σ', Le σ₁ σ' → need σ') ∧ n ≤ sizeLine ∧
      (∀ C i σ₂, Le σ₁ σ₂ → i < n → TS G A (compEnvC scope cl C env) [] σ₂ (assign target (compEnvC scope cl C env)) (item i) (fun ρ₂ σ₃ => QV G A (compEnvC scope cl C env) ρ₂ σ₃ ifs (fun b σ₄ => b = ft i ∧
        if b = true then EV G A (compEnvC scope cl C env) ρ₂ σ₄ elt (fun d σ₅ => d = fe i ∧ Le σ₂ σ₅) never else Le σ₂ σ₄) never) never) ∧
      (∀ D σ', Le σ₁ σ' → σ₁ D = none → σ' D = some (.list (((List.range n).filter ft).map fe)) → k .next (ρ.put x (.ref D)) σ')) X)
    (hsw : swapsWith (.ListComp elt [⟨target, iter, ifs, 0⟩] scope pos) (some (.Name x pos')) pos₂.line env = pure true := by rfl)
    (hk : env.scope.kind = .function := by rfl) (hl : env.kindOf x = some .local := by rfl)
    (hclos : closureFor scope env = pure cl := by rfl) (hcell : ∀ y ∈ scope.names, y.2 ≠ .cell := by decide) (hkind : scope.kind = .function := by rfl) (hnames : ∀ y ∈ scope.names, y.2 = .local → scope.names.lookup y.1 = some .local := by decide)
    (hs : ∀ x, foldedSetIterable iter env x = pure x := by intro _; rfl) : SV G A env ρ σ (exec (.Assign [.Name x pos'] (.ListComp elt [⟨target, iter, ifs, 0⟩] scope pos) pos₂) env) k X := fun s z => by
  rw [exec_Assign_Name_used _ _ _ _ hsw]
  refine wpAny_bind (wpAny_standAt (wpAny_bind ?_))
  show wpAny _ A (do let _ ← comprehension (.ListComp elt [⟨target, iter, ifs, 0⟩] scope pos) scope env _ (newList []) false (eval iter env) (some (assign (.Name x pos') env))) _ _ s
  refine wpAny_bind (wpAny_mono (comp_core (use := some (assign (.Name x pos') env)) (Q := fun _ s' => PostS G env.locals σ s k .next s') hclos hcell hkind hnames hs z (fun s' x' => ?_)) (fun _ s' hq => wpAny_pure (wpAny_pure hq)) fun _ _ e => e)
  refine IE.mono h (fun n item need σ₁ q₉ => ?_) s' x'
  obtain ⟨ft, fe, hn, hsz, step, fin⟩ := q₉
  refine ⟨ft, fe, hn, hsz, step, ?_⟩
  intro D C h' tk σ' y E' ⟨m, hm⟩ hC hne hCs hCG le hD hl'
  have hG0 : ∀ b ∈ [C], G.h₀.get? b = none := fun b m' => by
    rw [List.mem_singleton] at m'; subst m'
    cases q : G.h₀.get? b with
    | none => rfl
    | some o => have := z.base b o q; rw [hCs] at this; cases this
  show wpAny _ A (assign (.Name x pos') env (.ref D)) _ _ _
  refine PyProof.Rows.assign_Name (store_local hk hl (s := { s with heap := h', toks := tk }) y (.ref D) fun h₂ E₂ y₂ t₂ => ?_)
  have hm₂ : h₂.Ns C m := hm.at' fun o e => E₂.keep C o hne hC e
  refine ⟨m, hm₂, fun h'' hs => ?_⟩
  have kb := sameBut_kb hs
  have t : TupK h₂ h'' := tupK_but kb fun b m' => by rw [List.mem_singleton] at m'; subst m'; exact ns_no_tuple hm₂
  exact ⟨h'', _, .next, _, σ', rfl, (E'.toS.trans E₂).keepBut kb t (fun b m' => by rw [List.mem_singleton] at m'; subst m'; exact hCs),
    y₂.keepBut kb t (fun b m' => by rw [List.mem_singleton] at m'; subst m'; exact hC) (by simp; exact Ne.symm hne) hG0, trivial, fin D σ' le hD hl'⟩
end
end Mine
namespace Mine
def AF.val : AF → V
  | .ret d => d
  | _ => .none
def addCells (vals : Loc) : List (Str × Addr) → St → St
  | [], σ => σ
  | (n, c) :: r, σ => (addCells vals r σ).set c (.cell (Loc.get vals n))
theorem addCells_off (vals : Loc) : ∀ (cs : List (Str × Addr)) (σ : St) (a : Addr), σ a = none → (∀ n c, (n, c) ∈ cs → c ≠ a) → addCells vals cs σ a = none
  | [], σ, a, e, _ => e
  | (n, c) :: r, σ, a, e, h => by
    unfold addCells
    rw [St.set_ne _ _ (Ne.symm (h n c (by simp)))]
    exact addCells_off vals r σ a e fun n c m => h n c (by simp [m])
theorem addCells_le (vals : Loc) : ∀ (cs : List (Str × Addr)) (σ : St), (∀ n c, (n, c) ∈ cs → σ c = none) → Le σ (addCells vals cs σ)
  | [], σ, _ => Le.refl σ
  | (n, c) :: r, σ, h => by
    unfold addCells
    exact (addCells_le vals r σ fun n c m => h n c (by simp [m])).setL (h n c (by simp))
theorem addCells_in (vals : Loc) : ∀ (cs : List (Str × Addr)) (σ : St) (a : Addr), σ a = none → addCells vals cs σ a ≠ none → ∃ n, (n, a) ∈ cs
  | [], σ, a, e, h => absurd e h
  | (n, c) :: r, σ, a, e, h => by
    unfold addCells at h
    by_cases q : a = c
    · subst q; exact ⟨n, by simp⟩
    · rw [St.set_ne _ _ q] at h
      obtain ⟨n, m⟩ := addCells_in vals r σ a e h
      exact ⟨n, by simp [m]⟩
theorem S.adopt {G : Amb} {L : Addr} {ρ : Loc} {σ : St} {h : Heap} {a : Addr} {o : AObj} (x : S G L ρ σ h) (r : RepObj G.prog G.w h a o) (hG : G.h₀.objs.size ≤ a) (ne : a ≠ L) : S G L ρ (σ.set a o) h :=
  ⟨x.base, fun b ob e => (by
    by_cases z : b = a
    · subst z; rw [St.set_same] at e; cases e; exact r
    · rw [St.set_ne _ _ z] at e; exact x.obj b ob e), fun b n => (by
    by_cases z : b = a
    · rw [z]; exact hG
    · rw [St.set_ne _ _ z] at n; exact x.new b n), x.frame, ((St.keep ((Ne.symm ne)) x.off)), x.above⟩
theorem bindL_miss (kindOf : Str → Option NameKind) (y : Str) : ∀ (bs : List (Str × Value)) (m : Str → Option Value), y ∉ bs.map (·.1) → bindL kindOf bs m y = m y
  | [], m, _ => rfl
  | (n, v) :: r, m, h => by
    simp only [List.map_cons, List.mem_cons, not_or] at h
    unfold bindL
    rw [bindL_miss kindOf y r _ h.2]
    split <;> simp [h.1]
theorem bindC_miss (kindOf : Str → Option NameKind) (y : Str) : ∀ (bs : List (Str × Value)) (m : Str → Option Value), y ∉ bs.map (·.1) → bindC kindOf bs m y = m y
  | [], m, _ => rfl
  | (n, v) :: r, m, h => by
    simp only [List.map_cons, List.mem_cons, not_or] at h
    unfold bindC
    rw [bindC_miss kindOf y r _ h.2]
    split <;> simp [h.1]
theorem zip_keys : ∀ (xs : List Str) (vs : List Value), vs.length = xs.length → (xs.zip vs).map (·.1) = xs
  | [], _, _ => rfl
  | x :: xs, [], h => by simp at h
  | x :: xs, v :: vs, h => by simp at h; simp [zip_keys xs vs h]
theorem bindL_get {h : Heap} {kindOf : Str → Option NameKind} {y : Str} {d : V} (hy : kindOf y = some .local) : ∀ {xs : List Str} {vs : List Value} {ds : List V} (m : Str → Option Value), xs.Nodup → vs.length = xs.length → RepAll h vs ds → Loc.get (xs.zip ds) y = some d →
    ∃ v, bindL kindOf (xs.zip vs) m y = some v ∧ Rep h v d
  | [], _, _, m, _, _, _, e => by simp [Loc.get] at e
  | x :: xs, [], _, m, _, hl, _, _ => by simp at hl
  | x :: xs, v :: vs, _, m, hn, hl, .cons (d := d') (ds := ds) a r, e => by
    simp only [List.nodup_cons] at hn
    simp only [List.length_cons, Nat.add_right_cancel_iff] at hl
    simp only [List.zip_cons_cons, Loc.get] at e
    simp only [List.zip_cons_cons, bindL]
    by_cases q : y = x
    · subst q
      simp only [if_true, Option.some.injEq] at e
      subst e
      refine ⟨v, ?_, a⟩
      rw [bindL_miss _ _ _ _ (by rw [zip_keys xs vs hl]; exact hn.1), if_pos hy]; simp
    · rw [if_neg q] at e
      exact bindL_get hy _ hn.2 hl r e
theorem bindC_get {h : Heap} {kindOf : Str → Option NameKind} {y : Str} {d : V} (hy : kindOf y ≠ some .local) : ∀ {xs : List Str} {vs : List Value} {ds : List V} (m : Str → Option Value), xs.Nodup → vs.length = xs.length → RepAll h vs ds → Loc.get (xs.zip ds) y = some d →
    ∃ v, bindC kindOf (xs.zip vs) m y = some v ∧ Rep h v d
  | [], _, _, m, _, _, _, e => by simp [Loc.get] at e
  | x :: xs, [], _, m, _, hl, _, _ => by simp at hl
  | x :: xs, v :: vs, _, m, hn, hl, .cons (d := d') (ds := ds) a r, e => by
    simp only [List.nodup_cons] at hn
    simp only [List.length_cons, Nat.add_right_cancel_iff] at hl
    simp only [List.zip_cons_cons, Loc.get] at e
    simp only [List.zip_cons_cons, bindC]
    by_cases q : y = x
    · subst q
      simp only [if_true, Option.some.injEq] at e
      subst e
      refine ⟨v, ?_, a⟩
      rw [bindC_miss _ _ _ _ (by rw [zip_keys xs vs hl]; exact hn.1), if_neg hy]; simp
    · rw [if_neg q] at e
      exact bindC_get hy _ hn.2 hl r e
theorem S.addCells {G : Amb} {L : Addr} {ρ : Loc} {h : Heap} {vals : Loc} : ∀ {cs : List (Str × Addr)} {σ : St} (x : S G L ρ σ h), (∀ n c, (n, c) ∈ cs → RepObj G.prog G.w h c (.cell (Loc.get vals n)) ∧ G.h₀.objs.size ≤ c ∧ c ≠ L) → S G L ρ (addCells vals cs σ) h
  | [], _, x, _ => x
  | (n, c) :: r, σ, x, hc => by
    unfold Mine.addCells
    obtain ⟨a, b, d⟩ := hc n c (by simp)
    exact (S.addCells x fun n c m => hc n c (by simp [m])).adopt a b d
def OpK (G : Amb) (A : Around) (L : Addr) (ρ : Loc) (σ : St) (f : Value) (ds : List V) (k : V → St → Prop) : Prop :=
  ∀ s vs (R : Result → Shared → Prop), S G L ρ σ s.heap → RepAll s.heap vs ds → (∀ v s', Post G L ρ σ s k v s' → R (.ok (.ret v)) s') → codeAny (model G.prog G.w) A (.call f ⟨vs, []⟩) R s
theorem OpK.toC {G : Amb} {A : Around} {L : Addr} {ρ : Loc} {σ : St} {f : Value} {ds : List V} {k : V → St → Prop} {X : Value → Shared → Prop} (h : OpK G A L ρ σ f ds k) : OpC G A L ρ σ f ds k X := fun s vs x r =>
  wpAny_call (h s vs _ x r fun _ _ p => p)
abbrev envF (qual : Str) (scope : Scope) (L a : Addr) (cd : Value) : Env := envOfC qual scope L a cd
section
variable {G : Amb} {A : Around} {L : Addr} {ρ : Loc} {σ : St} {X : Value → Shared → Prop} {k : V → St → Prop}
def locs (scope : Scope) : List Str → List V → Loc
  | x :: xs, d :: ds => if scope.names.lookup x = some .local then (x, d) :: locs scope xs ds else locs scope xs ds
  | _, _ => []
theorem locs_mem (scope : Scope) {y : Str} {d : V} : ∀ {xs : List Str} {ds : List V}, (locs scope xs ds).get y = some d → y ∈ xs
  | [], _, e => by simp [locs, Loc.get] at e
  | x :: xs, [], e => by simp [locs, Loc.get] at e
  | x :: xs, d' :: ds, e => by
    unfold locs at e
    split at e
    · unfold Loc.get at e
      split at e
      · rename_i h; simp [h]
      · exact List.mem_cons_of_mem _ (locs_mem scope e)
    · exact List.mem_cons_of_mem _ (locs_mem scope e)
theorem locs_get (scope : Scope) {y : Str} {d : V} : ∀ {xs : List Str} {ds : List V}, xs.Nodup → (locs scope xs ds).get y = some d → Loc.get (xs.zip ds) y = some d ∧ scope.names.lookup y = some .local
  | [], _, _, e => by simp [locs, Loc.get] at e
  | x :: xs, [], _, e => by simp [locs, Loc.get] at e
  | x :: xs, d' :: ds, hn, e => by
    simp only [List.nodup_cons] at hn
    unfold locs at e
    simp only [List.zip_cons_cons, Loc.get]
    split at e
    · rename_i hl
      unfold Loc.get at e
      by_cases q : y = x
      · subst q; rw [if_pos rfl] at e ⊢; exact ⟨e, hl⟩
      · rw [if_neg q] at e ⊢; exact locs_get scope hn.2 e
    · have hm := locs_mem scope e
      have q : y ≠ x := fun q => hn.1 (q ▸ hm)
      rw [if_neg q]; exact locs_get scope hn.2 e
theorem cells_some : ∀ (names : List (Str × NameKind)) (n m : Nat) (x : Str), x ∈ (cellsFrom n names []).map (·.1) → ((cellsFrom m names []).lookup x).isSome = true := fun names n m x h => by
  rw [cellsFrom_names names n m [] [] rfl] at h
  generalize cellsFrom m names [] = l at h
  induction l with
  | nil => simp at h
  | cons p r ih =>
    obtain ⟨y, c⟩ := p
    simp only [List.lookup_cons]
    cases q : x == y with
    | true => rfl
    | false =>
      simp only [List.map_cons, List.mem_cons] at h
      rcases h with h | h
      · rw [h] at q; simp at q
      · exact ih h
theorem Room.in_ {n : Nat} (R : Room A (n + 1)) (env : Env) : Room (A.deeper env) n := ⟨R.handled, by have := R.depth; rw [show (A.deeper env).depth = A.depth + 1 from rfl]; omega, by have := R.units; rw [show (A.deeper env).units = A.units + 3 from rfl]; omega⟩
theorem Room.le {n m : Nat} (R : Room A n) (h : m ≤ n) : Room A m := ⟨R.handled, by have := R.depth; omega, by have := R.units; omega⟩
theorem opk_fn {f : Addr} {oc : Value} {od : Option Addr} {osl : Array (Option Value)} {name qual : Str} {params : Arguments} {body : List Stmt} {scope : Scope} {dV kV doc pm cdv ct : Value} {an : Option Addr} {n : Nat} {xs : List Str} {ds : List V} {ρ₀ : Loc}
    (ho : G.K.lookup f = some ⟨oc, od, .func (fnOf name qual params body scope dV kV doc pm an cdv ct), osl⟩) (hcd : codeIn G.K cdv qual = true) (R : Room A (n + 1))
    (h : ∀ L', σ L' = none → (∀ n c, (n, c) ∈ cellsFrom (L' + 1) scope.names [] → σ c = none) → SV G (A.deeper (envF qual scope L' f cdv)) (envF qual scope L' f cdv) ρ₀ (addCells (xs.zip ds) (cellsFrom (L' + 1) scope.names []) σ)
      (execs body (envF qual scope L' f cdv)) (fun φ _ σ' => k φ.val σ') never)
    (hlen : ds.length = xs.length := by rfl) (hnd : xs.Nodup := by decide)
    (hbind : ∀ vs : List Value, vs.length = xs.length → bindArgs (fnOf name qual params body scope dV kV doc pm an cdv ct) ⟨vs, []⟩ = pure (xs.zip vs) := by
      intro vs hv; rcases vs with _ | ⟨a, _ | ⟨b, _ | ⟨c, _ | ⟨d, _⟩⟩⟩⟩ <;> first | rfl | (simp at hv))
    (hkind' : ∀ x ∈ xs, scope.names.lookup x = some .local ∨ (scope.names.lookup x = some .cell ∧ x ∈ (cellsFrom 0 scope.names []).map (·.1)) := by decide)
    (hcn : ((cellsFrom 0 scope.names []).map (·.1)).Nodup := by decide)
    (hρ' : ρ₀ = locs scope xs ds := by rfl)
    (hcl : ∀ x ∈ (cellsFrom 0 scope.names []).map (·.1), scope.names.lookup x ≠ some .local := by decide)
    (hco : scope.isCoroutine = false := by rfl) (hgen : scope.isGenerator = false := by rfl) (hk : scope.kind = .function := by rfl) : OpK G A L ρ σ (.ref f) ds k := fun s vs RR x r hR => by
  have hkind : ∀ N, ∀ x ∈ xs, scope.names.lookup x = some .local ∨ (scope.names.lookup x = some .cell ∧ ((cellsFrom N scope.names []).lookup x).isSome = true) := fun N x hx => (hkind' x hx).imp id fun ⟨a, b⟩ => ⟨a, cells_some _ _ _ _ b⟩
  have hρ : ∀ y d, ρ₀.get y = some d → (Loc.get (xs.zip ds) y = some d ∧ scope.names.lookup y = some .local) := fun y d e => locs_get scope hnd (hρ' ▸ e)
  have hl : vs.length = xs.length := r.length.trans hlen
  have XI := x.In
  refine codeAny_call_cells (fd := fnOf name qual params body scope dV kV doc pm an cdv ct) (body := body) (binds := xs.zip vs) (by have := R.depth; omega) (XI _ _ ho) rfl (G.lim.keeps x.base) (codeRec_of XI hcd) rfl (hbind vs hl) rfl ?_ ?_ hco hgen hk
  · intro y hy
    refine hkind _ y.1 ?_
    have : y.1 ∈ (xs.zip vs).map (·.1) := List.mem_map.mpr ⟨y, hy, rfl⟩
    rwa [zip_keys xs vs hl] at this
  · intro s₁ y
    obtain ⟨h₁, tk, rfl, kp⟩ := y.done
    have hL' : s.heap.get? s.heap.objs.size = none := Mine.none_at_size s.heap
    have σL : σ s.heap.objs.size = none := x.unused hL'
    have fresh : ∀ n c, (n, c) ∈ cellsFrom (s.heap.objs.size + 1) scope.names [] → s.heap.get? c = none := fun n c m => by
      cases q : s.heap.get? c with
      | none => rfl
      | some o => have h1 := Heap.lt_size q; have h2 := y.above n c m; exact absurd h1 (Nat.not_lt.mpr (Nat.le_of_lt h2))
    have σc : ∀ n c, (n, c) ∈ cellsFrom (s.heap.objs.size + 1) scope.names [] → σ c = none := fun n c m => x.unused (fresh n c m)
    have x₁ : S G L ρ σ h₁ := x.keeps kp
    have tkp : TupK s.heap h₁ := .of_keeps kp
    have hbig : G.h₀.objs.size ≤ s.heap.objs.size := Nat.le_of_lt x.big
    have y₁ : S G s.heap.objs.size ρ₀ σ h₁ := ⟨x₁.base, x₁.obj, x₁.new, ⟨⟨_, y.toInCall.ns, fun z d q => by
      obtain ⟨q1, q2⟩ := hρ z d q
      obtain ⟨v, e, rv⟩ := bindL_get (kindOf := (callEnvC (fnOf name qual params body scope dV kV doc pm an cdv ct) s.heap.objs.size f).kindOf) (y := z) q2 (fun _ => none) hnd hl r q1
      exact ⟨v, e, rv.mono tkp⟩⟩⟩, σL, hbig⟩
    have hcells : ∀ n c, (n, c) ∈ cellsFrom (s.heap.objs.size + 1) scope.names [] → RepObj G.prog G.w h₁ c (.cell (Loc.get (xs.zip ds) n)) ∧ G.h₀.objs.size ≤ c ∧ c ≠ s.heap.objs.size := fun n c m => by
      have hnames := cellsFrom_names scope.names 0 (s.heap.objs.size + 1) [] [] rfl
      have hmn : n ∈ (cellsFrom 0 scope.names []).map (·.1) := by rw [hnames]; exact List.mem_map.mpr ⟨(n, c), m, rfl⟩
      obtain ⟨o, hoc, hdc⟩ := y.cell n c (lookup_of_mem_nodup (hnames ▸ hcn) m)
      have hac := y.above n c m
      have hac' : s.heap.objs.size < c := hac
      refine ⟨⟨o, _, hoc, hdc, ?_⟩, Nat.le_of_lt (Nat.lt_of_le_of_lt hbig hac'), Nat.ne_of_gt hac'⟩
      cases q : Loc.get (xs.zip ds) n with
      | none => trivial
      | some d =>
        obtain ⟨v, e, rv⟩ := bindC_get (kindOf := (callEnvC (fnOf name qual params body scope dV kV doc pm an cdv ct) s.heap.objs.size f).kindOf) (y := n) (hcl n hmn) (fun _ => none) hnd hl r q
        exact ⟨v, e, rv.mono tkp⟩
    have y₂ := y₁.addCells (vals := xs.zip ds) hcells
    have E₂ : Ext σ s.heap h₁ (addCells (xs.zip ds) (cellsFrom (s.heap.objs.size + 1) scope.names []) σ) :=
      ⟨tkp, fun a o _ e => kp a o e, fun a e n => let ⟨m, hm⟩ := addCells_in _ _ _ _ e n; fresh m a hm, fun a o e => ⟨o, kp a o e⟩⟩
    have hLne : L ≠ s.heap.objs.size := Nat.ne_of_lt x.frame.lt
    have x₂ : S G L ρ (addCells (xs.zip ds) (cellsFrom (s.heap.objs.size + 1) scope.names []) σ) h₁ := by
      obtain ⟨m, nn, rr⟩ := x₁.frame.ns
      exact ⟨y₂.base, y₂.obj, y₂.new, ⟨m, nn, rr⟩, addCells_off _ _ _ _ x.off fun n c hm q => by
        have h1 := x.frame.lt
        have h2 := y.above n c hm
        have h2' : s.heap.objs.size < c := h2
        rw [q] at h2'
        exact absurd h1 (Nat.not_lt.mpr (Nat.le_of_lt h2')), x.above⟩
    refine wpAny_mono (h s.heap.objs.size σL σc { s with heap := h₁, toks := tk } y₂) (fun fl s' p => ?_) fun _ _ e => e.elim
    refine p.elim fun h' tk' φ ρ' σ' E z rf hk' => ?_
    refine hR _ _ ⟨h', tk', φ.val, σ', rfl, E₂.thenS E hL', x₂.ofExtS E hLne z, ?_, hk'⟩
    cases fl <;> cases φ <;> first | exact rf.elim | exact .none | exact rf
theorem opk_fn0 {f : Addr} {oc : Value} {od : Option Addr} {osl : Array (Option Value)} {name qual : Str} {params : Arguments} {body : List Stmt} {scope : Scope} {dV kV doc pm cdv ct : Value} {an : Option Addr} {n : Nat} (xs : List Str) {ds : List V} {ρ₀ : Loc}
    (ho : G.K.lookup f = some ⟨oc, od, .func (fnOf name qual params body scope dV kV doc pm an cdv ct), osl⟩) (hcd : codeIn G.K cdv qual = true) (R : Room A (n + 1))
    (h : ∀ L' A' env, env = envX qual scope L' f cdv [] → Room A' n → SV G A' env ρ₀ σ (execs body env) (fun φ _ σ' => k φ.val σ') never)
    (hlen : ds.length = xs.length := by rfl) (hnd : xs.Nodup := by decide)
    (hbind : ∀ vs : List Value, vs.length = xs.length → bindArgs (fnOf name qual params body scope dV kV doc pm an cdv ct) ⟨vs, []⟩ = pure (xs.zip vs) := by
      intro vs hv; rcases vs with _ | ⟨a, _ | ⟨b, _ | ⟨c, _ | ⟨d, _⟩⟩⟩⟩ <;> first | rfl | (simp at hv))
    (hkind' : ∀ x ∈ xs, scope.names.lookup x = some .local := by decide)
    (hcn : cellsFrom 0 scope.names [] = [] := by rfl)
    (hρ' : ρ₀ = locs scope xs ds := by rfl)
    (hco : scope.isCoroutine = false := by rfl) (hgen : scope.isGenerator = false := by rfl) (hk : scope.kind = .function := by rfl) : OpK G A L ρ σ (.ref f) ds k := by
  have hc : ∀ m, cellsFrom m scope.names [] = [] := fun m => by
    have e := cellsFrom_names scope.names m 0 [] [] rfl
    rw [hcn] at e
    exact List.map_eq_nil_iff.mp e
  refine opk_fn ho hcd R (fun L' hL _ => ?_) hlen hnd hbind (fun x hx => .inl (hkind' x hx)) (by rw [hcn]; exact .nil) hρ' (by rw [hcn]; simp) hco hgen hk
  have := h L' (A.deeper (envF qual scope L' f cdv)) (envF qual scope L' f cdv) (by show envOfC .. = _; unfold envOfC; rw [hc]) (R.in_ _)
  rw [hc]
  exact this
theorem opc_fn0 {f : Addr} {oc : Value} {od : Option Addr} {osl : Array (Option Value)} {name qual : Str} {params : Arguments} {body : List Stmt} {scope : Scope} {dV kV doc pm cdv ct : Value} {an : Option Addr} {n : Nat} (xs : List Str) {ds : List V} {ρ₀ : Loc}
    (ho : G.K.lookup f = some ⟨oc, od, .func (fnOf name qual params body scope dV kV doc pm an cdv ct), osl⟩) (hcd : codeIn G.K cdv qual = true) (R : Room A (n + 1))
    (h : ∀ L' A' env, env = envX qual scope L' f cdv [] → Room A' n → SV G A' env ρ₀ σ (execs body env) (fun φ _ σ' => k φ.val σ') never)
    (hlen : ds.length = xs.length := by rfl) (hnd : xs.Nodup := by decide)
    (hbind : ∀ vs : List Value, vs.length = xs.length → bindArgs (fnOf name qual params body scope dV kV doc pm an cdv ct) ⟨vs, []⟩ = pure (xs.zip vs) := by
      intro vs hv; rcases vs with _ | ⟨a, _ | ⟨b, _ | ⟨c, _ | ⟨d, _⟩⟩⟩⟩ <;> first | rfl | (simp at hv))
    (hkind' : ∀ x ∈ xs, scope.names.lookup x = some .local := by decide)
    (hcn : cellsFrom 0 scope.names [] = [] := by rfl)
    (hρ' : ρ₀ = locs scope xs ds := by rfl)
    (hco : scope.isCoroutine = false := by rfl) (hgen : scope.isGenerator = false := by rfl) (hk : scope.kind = .function := by rfl) : OpC G A L ρ σ (.ref f) ds k X :=
  (opk_fn0 xs ho hcd R h hlen hnd hbind hkind' hcn hρ' hco hgen hk).toC
theorem cells_apart : ∀ (names : List (Str × NameKind)) (n : Nat) (acc : List (Str × Addr)), (∀ p ∈ acc, p.2 < n) → (acc.Pairwise fun x y => x.2 ≠ y.2) → (cellsFrom n names acc).Pairwise fun x y => x.2 ≠ y.2
  | [], _, _, _, h => h
  | (name, kind) :: r, n, acc, hb, h => by
    unfold cellsFrom
    split
    · refine cells_apart r (n + 1) _ (fun p hp => ?_) (List.pairwise_cons.mpr ⟨fun p hp => ?_, h⟩)
      · rcases List.mem_cons.mp hp with rfl | hp
        · exact Nat.lt_succ_self n
        · exact Nat.lt_succ_of_lt (hb p hp)
      · exact Nat.ne_of_gt (hb p hp)
    · exact cells_apart r n acc hb h
theorem addCells_get (vals : Loc) : ∀ (cs : List (Str × Addr)) (σ : St), (cs.Pairwise fun x y => x.2 ≠ y.2) → ∀ n c, (n, c) ∈ cs → addCells vals cs σ c = some (.cell (Loc.get vals n))
  | [], _, _, _, _, h => by cases h
  | (m, d) :: r, σ, hp, n, c, h => by
    unfold addCells
    rw [List.pairwise_cons] at hp
    rcases List.mem_cons.mp h with e | h
    · cases e; rw [St.set_same]
    · rw [St.set_ne _ _ (Ne.symm (hp.1 _ h))]
      exact addCells_get vals r σ hp.2 n c h
theorem opc_fnC {f : Addr} {oc : Value} {od : Option Addr} {osl : Array (Option Value)} {name qual : Str} {params : Arguments} {body : List Stmt} {scope : Scope} {dV kV doc pm cdv ct : Value} {an : Option Addr} {n : Nat} (xs : List Str) {ds : List V} {ρ₀ : Loc}
    (ho : G.K.lookup f = some ⟨oc, od, .func (fnOf name qual params body scope dV kV doc pm an cdv ct), osl⟩) (hcd : codeIn G.K cdv qual = true) (R : Room A (n + 1))
    (h : ∀ L' A' env σC, env = envX qual scope L' f cdv (cellsFrom (L' + 1) scope.names []) → Room A' n → Le σ σC → (∀ n c, (n, c) ∈ cellsFrom (L' + 1) scope.names [] → σC c = some (.cell (Loc.get (xs.zip ds) n)) ∧ σ c = none) →
      SV G A' env ρ₀ σC (execs body env) (fun φ _ σ' => k φ.val σ') never)
    (hlen : ds.length = xs.length := by rfl) (hnd : xs.Nodup := by decide)
    (hbind : ∀ vs : List Value, vs.length = xs.length → bindArgs (fnOf name qual params body scope dV kV doc pm an cdv ct) ⟨vs, []⟩ = pure (xs.zip vs) := by
      intro vs hv; rcases vs with _ | ⟨a, _ | ⟨b, _ | ⟨c, _ | ⟨d, _⟩⟩⟩⟩ <;> first | rfl | (simp at hv))
    (hkind' : ∀ x ∈ xs, scope.names.lookup x = some .local ∨ (scope.names.lookup x = some .cell ∧ x ∈ (cellsFrom 0 scope.names []).map (·.1)) := by decide)
    (hcn : ((cellsFrom 0 scope.names []).map (·.1)).Nodup := by decide)
    (hρ' : ρ₀ = locs scope xs ds := by rfl)
    (hcl : ∀ x ∈ (cellsFrom 0 scope.names []).map (·.1), scope.names.lookup x ≠ some .local := by decide)
    (hco : scope.isCoroutine = false := by rfl) (hgen : scope.isGenerator = false := by rfl) (hk : scope.kind = .function := by rfl) : OpC G A L ρ σ (.ref f) ds k X := by
  refine (opk_fn ho hcd R (fun L' hL hc => ?_) hlen hnd hbind hkind' hcn hρ' hcl hco hgen hk).toC
  exact h L' (A.deeper (envF qual scope L' f cdv)) (envF qual scope L' f cdv) _ rfl (R.in_ _) (addCells_le _ _ _ hc) fun n c m =>
    ⟨addCells_get _ _ _ (cells_apart _ _ [] (fun p hp => by cases hp) .nil) n c m, hc n c m⟩
end
end Mine
namespace Mine
section
variable {G : Amb} {A : Around} {env : Env} {L : Addr} {ρ : Loc} {σ : St} {X : Value → Shared → Prop} {k : V → St → Prop}
theorem ev_neg {e : Expr} {pos : Pos} (h : EV G A env ρ σ e (fun d σ' => ∃ i, d = .int i ∧ k (.int (-i)) σ') X) : EV G A env ρ σ (.UnaryOp .USub e pos) k X := fun s x => by
  refine UnaryOp_ (wpAny_mono (h s x) (fun v s₁ p => ?_) fun _ _ e => e)
  obtain ⟨h₁, t₁, d, σ₁, rfl, E₁, x₁, r₁, i, rfl, q₁⟩ := p
  cases r₁
  exact PySem.P.neg_int (Post.trans E₁ (.tok x₁ (.int _ _) q₁))
theorem op_item_str {e₁ e₂ : Expr} {x : Str} {i : Int} {c : Nat} (h0 : 0 ≤ i) (hi : i < 2 ^ 63) (hc : x.cps[i.toNat]? = some c) (h : k (.str ⟨#[c]⟩) σ)
    (hs : ∀ t u, subscripted e₂ false (.str x t) (.int i u) = operate [.str x t, .int i u] (getItem (.str x t) (.int i u)) := by intro _ _; with_unfolding_all rfl) : Op2 G A L ρ σ (subscriptTail e₁ e₂) (.str x) (.int i) k X := fun s u v z r₁ r₂ => by
  cases r₁; cases r₂
  rename_i t u
  have hlt : i.toNat < x.cps.size := (Array.getElem?_eq_some_iff.mp hc).1
  refine tail_any (typeIs_str s x t) PySem.F.slot_str_getitem.lookup (PySem.P.getItem_str (c := c) ?_ ?_ (.tok z (.str _ _) h)) (hs _ _)
  · rw [Bool.or_eq_false_iff, decide_eq_false_iff_not, decide_eq_false_iff_not]; constructor <;> omega
  · have e : seqIndex? i x.length = some i.toNat := by
      unfold seqIndex?
      have e1 : ¬ i < 0 := by omega
      have e2 : i < (x.length : Int) := by show i < ((x.cps.size : Nat) : Int); omega
      simp [e1, h0, e2]
    rw [e]; exact hc
theorem ev_upto {value u : Expr} {p pos : Pos} (h : EV G A env ρ σ value (fun d σ₁ => EV G A env ρ σ₁ u (fun c σ₂ => ∃ a ds, ∃ n : Nat, d = .ref a ∧ c = .int n ∧ σ₂ a = some (.list ds) ∧ ds.length ≤ sizeLine ∧ ∀ b, σ₂ b = none → k (.ref b) (σ₂.set b (.list (ds.take n)))) X) X)
    (ht : ∀ o r, letTemporaryGo value o r = pure () := by intro _ _; rfl) : EV G A env ρ σ (.Subscript value (.Slice none (some u) none p) pos) k X := fun s x => by
  refine wpAny_Subscript_list_slice (wpAny_mono (h s x) (fun v s₁ p => ?_) fun _ _ e => e) ht
  obtain ⟨h₁, t₁, d, σ₁, rfl, E₁, x₁, r₁, q₁⟩ := p
  rw [evalPart_none, evalPart_some]
  refine wpAny_pure (wpAny_mono (q₁ _ x₁) (fun w s₂ p => ?_) fun _ _ e => e)
  obtain ⟨h₂, t₂, c, σ₂, rfl, E₂, x₂, r₂, a, ds, n, rfl, rfl, ea, hsz, q₂⟩ := p
  cases r₁; cases r₂
  rename_i tn
  obtain ⟨vs, m, ho, r⟩ := x₂.list ea
  have hl : vs.size = ds.length := by simpa using r.length
  refine ⟨a, vs, none, some n, rfl, isList_of ho, by rw [hl]; exact hsz, .none, .int _ _, ?_⟩
  rw [slicePick_upto']
  have kp₁ : ∀ b o, h₂.get? b = some o → (h₂.push { cls := .type "slice", data := .fields #[.none, .int n tn, .none] }).get? b = some o := fun b o e => Heap.get?_push_of_some _ e
  have x₃ := x₂.keeps kp₁
  have hsz3 := Heap.size_push h₂ { cls := .type "slice", data := .fields #[.none, .int n tn, .none] }
  generalize hH : h₂.push { cls := .type "slice", data := .fields #[.none, .int n tn, .none] } = h₃ at *
  have kp₂ : ∀ b o, h₃.get? b = some o → (h₃.push { cls := .type "list", data := .seq (vs.toList.take n).toArray }).get? b = some o := fun b o e => Heap.get?_push_of_some _ e
  have hn := Mine.none_at_size h₃
  have hD := Heap.get?_push_size h₃ (o := { cls := .type "list", data := .seq (vs.toList.take n).toArray }) rfl
  dsimp only at hsz3 ⊢
  rw [← hsz3]
  have kp : ∀ b o, h₂.get? b = some o → (h₃.push { cls := .type "list", data := .seq (vs.toList.take n).toArray }).get? b = some o := fun b o e => kp₂ b o (kp₁ b o e)
  exact ⟨_, t₂, _, _, rfl, ((E₁.trans E₂).trans (.keeps kp₁)).trans (.new hn kp₂), x₃.newAt (o := .list (ds.take n)) hn (Nat.le_of_lt x₃.big) kp₂ ⟨_, 0, hD, by simpa using (r.take n).mono (.of_keeps kp)⟩, .ref _, q₂ _ (x₃.unused hn)⟩
theorem sliceApplied_15 {prog : Program} {w : World} {E : Value → Shared → Prop} {s : Shared} {sl : Addr} {t u : Tok} {Q : Int × Int × Nat → Shared → Prop} (hs : s.heap.IsSliceOf sl (.int 1 t) (.int 5 u) .none) (h : Q (1, 1, 4) s) :
    wpAny (model prog w) A (Builtin.Slice.sliceApplied (.ref sl) (pure (5 : Int))) Q E s := by
  obtain ⟨os, hos, hcs, hds⟩ := id hs
  unfold Builtin.Slice.sliceApplied Builtin.Slice.sliceFields
  refine wpAny_bind (wpAny_bind (wpAny_field hos hds (x := .int 1 t) rfl (wpAny_bind (wpAny_field hos hds (x := .int 5 u) rfl (wpAny_bind (wpAny_field hos hds (x := .none) rfl (wpAny_pure ?_)))))))
  refine wpAny_bind (slicePart_none ?_)
  show wpAny _ _ (if ((1 : Int) == 0) = true then _ else _) _ _ s
  rw [if_neg (by decide)]
  refine wpAny_bind (slicePart_int (wpAny_bind (slicePart_int (wpAny_bind (wpAny_pure ?_)))))
  show wpAny _ _ (match Builtin.Slice.sliceAdjust (some (1 : Int)) (some (5 : Int)) 1 (5 : Int) with | (lo, hi) => pure (lo, (1 : Int), Builtin.Slice.slicePlaces lo hi 1)) _ _ s
  rw [show Builtin.Slice.sliceAdjust (some (1 : Int)) (some (5 : Int)) 1 (5 : Int) = (1, 5) from by decide]
  exact wpAny_pure h
theorem getItem_tuple_15 {prog : Program} {w : World} {E : Value → Shared → Prop} {s : Shared} {t sl : Addr} {a b c d e : Value} {u v : Tok} {Q : Value → Shared → Prop} (ht : IsTup s.heap t #[a, b, c, d, e]) (hs : s.heap.IsSliceOf sl (.int 1 u) (.int 5 v) .none)
    (h : Q (.ref s.heap.objs.size) { s with heap := s.heap.push { cls := .type "tuple", data := .seq #[b, c, d, e] } }) : wpAny (model prog w) A (getItem (.ref t) (.ref sl)) Q E s := by
  obtain ⟨os, hos, hcs, hds⟩ := id hs
  have hTs : s.TypeIs (.ref sl) "slice" := ⟨os, hos, hcs⟩
  unfold getItem
  try with_reducible refine wpAny_holding ?_
  first | refine wpAny_bind (wpAny_pure ?_) | skip
  refine wpAny_bind (wpAny_sequenceKey ht.typeIs (by decide) ?_)
  refine wpAny_bind (wpAny_callSpecial?_slot (name := Str.ofString "__getitem__") ht.typeIs slot_tuple_getitem
    (wpAny_call_entry slot_tuple_getitem ht.typeIs entry_tuple_getitem ?_ (args_tuple_getitem _ _)))
  show wpAny _ _ (Builtin.Tuple.tupleItemsOf (.ref t) >>= _) _ _ s
  refine wpAny_bind (tupleItemsOf_ ht ?_)
  refine wpAny_bind (wpAny_typeOf hTs ?_)
  rw [if_pos (by decide)]
  refine wpAny_bind (sliceApplied_15 hs ?_)
  show wpAny _ _ (if ((1 : Int) == 0 && (1 : Int) == 1 && (4 : Nat) == 5) = true then _ else _) _ _ s
  rw [if_neg (by decide)]
  have hp : ((List.range 4).filterMap fun (k : Nat) => (#[a, b, c, d, e] : Array Value)[((1 : Int) + (k : Int) * 1).toNat]?).toArray = #[b, c, d, e] := rfl
  rw [hp]
  have hdrop : sizeOk (.seq #[b, c, d, e]) := by show 4 ≤ sizeLine; decide
  first
    | exact wpAny_bind (m := Builtin.Tuple.tupleExact _) (wpAny_newObj_type (wpAny_pure ⟨_, rfl, wpAny_pure h⟩) hdrop)
    | exact wpAny_bind (m := Builtin.Tuple.tupleExact _) (wpAny_newObj_type (wpAny_bind (wpAny_pure (wpAny_pure ⟨_, rfl, wpAny_pure h⟩))) hdrop)
    | exact wpAny_bind (wpAny_bind (m := Builtin.Tuple.tupleExact _) (wpAny_newObj_type (wpAny_pure (wpAny_pure ⟨_, rfl, wpAny_pure h⟩)) hdrop))
    | exact wpAny_bind (wpAny_bind (m := Builtin.Tuple.tupleExact _) (wpAny_newObj_type (wpAny_pure ⟨_, rfl, wpAny_pure h⟩) hdrop))
theorem ev_15 {value l u : Expr} {p pos : Pos} (h : EV G A env ρ σ value (fun d₀ σ₁ => EV G A env ρ σ₁ l (fun c₁ σ₂ => EV G A env ρ σ₂ u (fun c₂ σ₃ => ∃ a b c d e, d₀ = .tup [a, b, c, d, e] ∧ c₁ = .int 1 ∧ c₂ = .int 5 ∧ k (.tup [b, c, d, e]) σ₃) X) X) X)
    (ht : ∀ o r, letTemporaryGo value o r = pure () := by intro _ _; rfl) : EV G A env ρ σ (.Subscript value (.Slice (some l) (some u) none p) pos) k X := fun s x => by
  refine wpAny_Subscript_Slice (T := "tuple") slot_tuple_getitem.lookup (wpAny_mono (h s x) (fun v s₁ p => wpAny_Slice ?_) fun _ _ e => e) ht
  obtain ⟨h₁, t₁, d, σ₁, rfl, E₁, x₁, r₁, q₁⟩ := p
  rw [evalPart_some, evalPart_some, evalPart_none]
  refine wpAny_mono (q₁ _ x₁) (fun w s₂ p => ?_) fun _ _ e => e
  obtain ⟨h₂, t₂, c₁, σ₂, rfl, E₂, x₂, r₂, q₂⟩ := p
  refine wpAny_mono (q₂ _ x₂) (fun w' s₃ p => wpAny_pure ?_) fun _ _ e => e
  obtain ⟨h₃, t₃, c₂, σ₃, rfl, E₃, x₃, r₃, a, b, c, d', e, rfl, rfl, rfl, q₃⟩ := p
  cases r₂; cases r₃
  rename_i tu tv
  have r₁' := (r₁.mono E₂.tup).mono E₃.tup
  cases r₁' with
  | @tup tt n vs _ ho r =>
    obtain ⟨ls⟩ := vs
    cases r with | @cons v1 w1 _ _ a1 r =>
    cases r with | @cons v2 w2 _ _ a2 r =>
    cases r with | @cons v3 w3 _ _ a3 r =>
    cases r with | @cons v4 w4 _ _ a4 r =>
    cases r with | @cons v5 w5 _ _ a5 r =>
    cases r
    have kp₁ : ∀ b o, h₃.get? b = some o → (h₃.push { cls := .type "slice", data := .fields #[.int 1 tu, .int 5 tv, .none] }).get? b = some o := fun b o e => Heap.get?_push_of_some _ e
    have x₄ := x₃.keeps kp₁
    have hio := Heap.IsSliceOf.new h₃ (.int 1 tu) (.int 5 tv) .none
    refine ⟨⟨_, kp₁ _ _ ho, rfl⟩, getItem_tuple_15 (t := tt) (a := v1) (b := v2) (c := v3) (d := v4) (e := v5) ⟨_, kp₁ _ _ ho, rfl, n, rfl⟩ hio ?_⟩
    dsimp only
    generalize h₃.push { cls := .type "slice", data := .fields #[.int 1 tu, .int 5 tv, .none] } = h₄ at *
    have kp₂ : ∀ b o, h₄.get? b = some o → (h₄.push { cls := .type "tuple", data := .seq #[v2, v3, v4, v5] }).get? b = some o := fun b o e => Heap.get?_push_of_some _ e
    have t : TupK h₃ (h₄.push { cls := .type "tuple", data := .seq #[v2, v3, v4, v5] }) := .of_keeps fun b o e => kp₂ b o (kp₁ b o e)
    exact ⟨_, t₃, _, σ₃, rfl, (((E₁.trans E₂).trans E₃).trans (.keeps kp₁)).trans (.keeps kp₂), x₄.keeps kp₂, .tup (vs := #[v2, v3, v4, v5]) (n := 0) (Heap.get?_push_size _ rfl) (.cons (a2.mono t) (.cons (a3.mono t) (.cons (a4.mono t) (.cons (a5.mono t) .nil)))), q₃⟩
end
end Mine
namespace Mine
theorem range_get {α : Type} (d : α) (xs : List α) : (List.range xs.length).map (fun i => xs.getD i d) = xs := by
  apply List.ext_getElem
  · simp
  · intro i h1 h2
    simp only [List.getElem_map, List.getElem_range]
    rw [List.getD_eq_getElem?_getD, List.getElem?_eq_getElem h2]; rfl
theorem comp_list {α β : Type} (d : α) (xs : List α) (f : α → Bool) (g : α → β) : ((List.range xs.length).filter (fun i => f (xs.getD i d))).map (fun i => g (xs.getD i d)) = (xs.filter f).map g := by
  conv => rhs; rw [← range_get d xs]
  rw [List.filter_map, List.map_map]
  rfl
theorem getD_map {α : Type} (d : α) (e : V) (enc : α → V) (xs : List α) {i : Nat} (h : i < xs.length) : (xs.map enc).getD i e = enc (xs.getD i d) := by
  rw [List.getD_eq_getElem?_getD, List.getD_eq_getElem?_getD, List.getElem?_map, List.getElem?_eq_getElem h]; rfl
theorem getD_mem {α : Type} (d : α) (xs : List α) {i : Nat} (h : i < xs.length) : xs.getD i d ∈ xs := by
  rw [List.getD_eq_getElem?_getD, List.getElem?_eq_getElem h]; exact List.getElem_mem h
section
variable {G : Amb} {A : Around} {env : Env} {L : Addr} {ρ : Loc} {σ : St} {X : Value → Shared → Prop}
structure Over (G : Amb) (A : Around) (env : Env) (scope : Scope) (cl : List (Str × Addr)) (target elt : Expr) (ifs : List Expr) {α : Type} (xs : List α) (enc : α → V) (f : α → Bool) (g : α → V) (n : Nat) (item : Nat → V) (need : St → Prop) (σ₁ : St) : Prop where
  len : n = xs.length
  item : ∀ i d, i < n → item i = enc (xs.getD i d)
  need : ∀ σ', Le σ₁ σ' → need σ'
  size : xs.length ≤ sizeLine
  turn : ∀ C x σ₂, x ∈ xs → Le σ₁ σ₂ → TS G A (compEnvC scope cl C env) [] σ₂ (assign target (compEnvC scope cl C env)) (enc x) (fun ρ₂ σ₃ => QV G A (compEnvC scope cl C env) ρ₂ σ₃ ifs (fun b σ₄ => b = f x ∧
        if b = true then EV G A (compEnvC scope cl C env) ρ₂ σ₄ elt (fun d σ₅ => d = g x ∧ Le σ₂ σ₅) never else Le σ₂ σ₄) never) never
theorem ev_Over {elt target iter : Expr} {ifs : List Expr} {scope : Scope} {pos : Pos} {cl : List (Str × Addr)} {k : V → St → Prop} {α : Type} (d₀ : α)
    (h : IE G A env ρ σ iter target (fun n item need σ₁ => ∃ (xs : List α) (enc : α → V) (f : α → Bool) (g : α → V), Over G A env scope cl target elt ifs xs enc f g n item need σ₁ ∧
      (∀ D σ', Le σ₁ σ' → σ₁ D = none → σ' D = some (.list ((xs.filter f).map g)) → k (.ref D) σ')) X)
    (hclos : closureFor scope env = pure cl := by rfl) (hcell : ∀ y ∈ scope.names, y.2 ≠ .cell := by decide) (hkind : scope.kind = .function := by rfl) (hnames : ∀ y ∈ scope.names, y.2 = .local → scope.names.lookup y.1 = some .local := by decide)
    (hs : ∀ x, foldedSetIterable iter env x = pure x := by intro _; rfl) : EV G A env ρ σ (.ListComp elt [⟨target, iter, ifs, 0⟩] scope pos) k X := by
  refine ev_ListComp (fun s x => ?_) hclos hcell hkind hnames hs
  refine IE.mono h (fun n item need σ₁ q₉ => ?_) s x
  obtain ⟨xs, enc, f, g, O, fin⟩ := q₉
  refine ⟨(fun i => f (xs.getD i d₀)), (fun i => g (xs.getD i d₀)), O.need, by rw [O.len]; exact O.size, fun C i σ₂ le hi => ?_, fun D σ' le hD hl => fin D σ' le hD ?_⟩
  · rw [O.item i d₀ hi]
    exact O.turn C _ σ₂ (getD_mem d₀ xs (by rw [← O.len]; exact hi)) le
  · rw [O.len, comp_list] at hl; exact hl
theorem sv_Over {x : Str} {pos' pos₂ : Pos} {elt target iter : Expr} {ifs : List Expr} {scope : Scope} {pos : Pos} {cl : List (Str × Addr)} {k : AF → Loc → St → Prop} {α : Type} (d₀ : α)
    (h : IE G A env ρ σ iter target (fun n item need σ₁ => ∃ (xs : List α) (enc : α → V) (f : α → Bool) (g : α → V), Over G A env scope cl target elt ifs xs enc f g n item need σ₁ ∧
      (∀ D σ', Le σ₁ σ' → σ₁ D = none → σ' D = some (.list ((xs.filter f).map g)) → k .next (ρ.put x (.ref D)) σ')) X)
    (hsw : swapsWith (.ListComp elt [⟨target, iter, ifs, 0⟩] scope pos) (some (.Name x pos')) pos₂.line env = pure true := by rfl)
    (hk : env.scope.kind = .function := by rfl) (hl : env.kindOf x = some .local := by rfl)
    (hclos : closureFor scope env = pure cl := by rfl) (hcell : ∀ y ∈ scope.names, y.2 ≠ .cell := by decide) (hkind : scope.kind = .function := by rfl) (hnames : ∀ y ∈ scope.names, y.2 = .local → scope.names.lookup y.1 = some .local := by decide)
    (hs : ∀ x, foldedSetIterable iter env x = pure x := by intro _; rfl) : SV G A env ρ σ (exec (.Assign [.Name x pos'] (.ListComp elt [⟨target, iter, ifs, 0⟩] scope pos) pos₂) env) k X := by
  refine sv_AssignComp (fun s x => ?_) hsw hk hl hclos hcell hkind hnames hs
  refine IE.mono h (fun n item need σ₁ q₉ => ?_) s x
  obtain ⟨xs, enc, f, g, O, fin⟩ := q₉
  refine ⟨(fun i => f (xs.getD i d₀)), (fun i => g (xs.getD i d₀)), O.need, by rw [O.len]; exact O.size, fun C i σ₂ le hi => ?_, fun D σ' le hD hl => fin D σ' le hD ?_⟩
  · rw [O.item i d₀ hi]
    exact O.turn C _ σ₂ (getD_mem d₀ xs (by rw [← O.len]; exact hi)) le
  · rw [O.len, comp_list] at hl; exact hl
end
end Mine
namespace Mine
mutual
def V.lay : V → Bool
  | .none => true | .bool _ => true | .int _ => true
  | .str x => PyData.strOk x
  | .tup vs => V.lays vs
  | .ref _ => false | .glob _ => false
def V.lays : List V → Bool
  | [] => true
  | v :: vs => V.lay v && V.lays vs
end
mutual
def V.dep : V → Nat
  | .tup vs => V.deps vs + 1
  | _ => 0
def V.deps : List V → Nat
  | [] => 0
  | v :: vs => max (V.dep v) (V.deps vs)
end
mutual
theorem V.lay_data : ∀ {d : V}, d.lay = true → d.data = true ∧ d.P.canLay0 = true ∧ d.P.depth = d.dep
  | .none, _ => ⟨rfl, rfl, rfl⟩
  | .bool _, _ => ⟨rfl, rfl, rfl⟩
  | .int _, _ => ⟨rfl, rfl, rfl⟩
  | .str x, h => ⟨rfl, by simpa [V.P, PyData.canLay0, V.lay] using h, rfl⟩
  | .tup vs, h => by
    obtain ⟨a, b, c⟩ := V.lays_data (vs := vs) (by simpa [V.lay] using h)
    exact ⟨by simpa [V.data] using a, by simpa [V.P, PyData.canLay0] using b, by simp [V.P, PyData.depth, V.dep, c]⟩
  | .ref _, h => by simp [V.lay] at h
  | .glob _, h => by simp [V.lay] at h
theorem V.lays_data : ∀ {vs : List V}, V.lays vs = true → V.datas vs = true ∧ PyData.canLayAll0 (V.Ps vs) = true ∧ PyData.depthAll (V.Ps vs) = V.deps vs
  | [], _ => ⟨rfl, rfl, rfl⟩
  | v :: vs, h => by
    simp only [V.lays, Bool.and_eq_true] at h
    obtain ⟨a, b, c⟩ := V.lay_data h.1
    obtain ⟨a', b', c'⟩ := V.lays_data h.2
    exact ⟨by simp [V.datas, a, a'], by simp [V.Ps, PyData.canLayAll0, b, b'], by simp [V.Ps, PyData.depthAll, V.deps, c, c']⟩
end
theorem lays_of : ∀ {vs : List V}, (∀ d ∈ vs, d.lay = true) → V.lays vs = true
  | [], _ => rfl
  | v :: vs, h => by simp only [V.lays, Bool.and_eq_true]; exact ⟨h v (by simp), lays_of fun d hd => h d (by simp [hd])⟩
theorem deps_of {n : Nat} : ∀ {vs : List V}, (∀ d ∈ vs, d.dep ≤ n) → V.deps vs ≤ n
  | [], _ => Nat.zero_le _
  | v :: vs, h => by simp only [V.deps]; exact Nat.max_le.mpr ⟨h v (by simp), deps_of fun d hd => h d (by simp [hd])⟩
structure Fit (d : V) (n : Nat) : Prop where
  lay : d.lay = true
  dep : d.dep ≤ n
theorem Fit.le {d : V} {n m : Nat} (h : Fit d n) (hm : n ≤ m) : Fit d m := ⟨h.lay, Nat.le_trans h.dep hm⟩
theorem Fit.none {n} : Fit .none n := ⟨rfl, Nat.zero_le _⟩
theorem Fit.int {n} (i) : Fit (.int i) n := ⟨rfl, Nat.zero_le _⟩
theorem Fit.str {n} {x} (h : PyData.strOk x = true) : Fit (.str x) n := ⟨by simpa [V.lay] using h, Nat.zero_le _⟩
theorem Fit.tup {n} {vs : List V} (h : ∀ d ∈ vs, Fit d n) : Fit (.tup vs) (n + 1) := ⟨by rw [V.lay]; exact lays_of fun d hd => (h d hd).lay, by rw [V.dep]; exact Nat.succ_le_succ (deps_of fun d hd => (h d hd).dep)⟩
theorem Fit.shaped {d : V} (h : Fit d 60) : SeqAt.shaped d.P = true := by
  obtain ⟨a, b, c⟩ := V.lay_data h.lay
  have := h.dep
  unfold SeqAt.shaped
  rw [b, Bool.true_and, decide_eq_true_eq, c]; omega
theorem fit_list {vs : List V} (h : ∀ d ∈ vs, Fit d 60) : V.datas vs = true ∧ SeqAt.shaped (.list (V.Ps vs)) = true ∧ PyData.canLay0 (.list (V.Ps vs)) = true := by
  obtain ⟨a, b, c⟩ := V.lays_data (lays_of fun d hd => (h d hd).lay)
  have := deps_of fun d hd => (h d hd).dep
  have e : PyData.canLay0 (.list (V.Ps vs)) = true := by simpa [PyData.canLay0] using b
  refine ⟨a, ?_, e⟩
  unfold SeqAt.shaped
  rw [e, Bool.true_and, decide_eq_true_eq, PyData.depth, c]; omega
theorem fit_strs {xs : List Str} (h : ∀ x ∈ xs, PyData.strOk x = true) : ∀ d ∈ xs.map V.str, Fit d 60 := fun d hd => by
  obtain ⟨x, hx, rfl⟩ := List.mem_map.mp hd; exact .str (h x hx)
section
variable {G : Amb} {A : Around} {L : Addr} {ρ : Loc} {σ : St} {X : Value → Shared → Prop} {k : V → St → Prop}
theorem eqv_nil (xs : List V) : PyData.eqv (.list (V.Ps xs)) (.list (V.Ps [])) = xs.isEmpty := by
  cases xs <;> simp [V.Ps, PyData.eqv, PyData.eqvAll]
theorem op_eq_nil {a b : Addr} {xs : List V} {n : Nat} (R : Room A n) (ea : σ a = some (.list xs)) (eb : σ b = some (.list [])) (hx : ∀ d ∈ xs, Fit d 60) (h : k (.bool xs.isEmpty) σ) : Op2 G A L ρ σ (compareOp .Eq) (.ref a) (.ref b) k X := by
  obtain ⟨a1, b1, c1⟩ := fit_list hx
  obtain ⟨a2, b2, c2⟩ := fit_list (vs := []) (fun d hd => by cases hd)
  exact op_eq_list R ea eb a1 a2 b1 b2 (by rw [eqv_nil]; exact h)
theorem op_ne_nil {a b : Addr} {xs : List V} {n : Nat} (R : Room A n) (ea : σ a = some (.list xs)) (eb : σ b = some (.list [])) (hx : ∀ d ∈ xs, Fit d 60) (h : k (.bool (!xs.isEmpty)) σ) : Op2 G A L ρ σ (compareOp .NotEq) (.ref a) (.ref b) k X := by
  obtain ⟨a1, b1, c1⟩ := fit_list hx
  obtain ⟨a2, b2, c2⟩ := fit_list (vs := []) (fun d hd => by cases hd)
  exact op_ne_list R ea eb a1 a2 b1 b2 (by rw [eqv_nil]; exact h)
theorem op_ne_same {a b : Addr} {xs : List V} {n : Nat} (R : Room A n) (ea : σ a = some (.list xs)) (eb : σ b = some (.list xs)) (hx : ∀ d ∈ xs, Fit d 60) (h : k (.bool false) σ) : Op2 G A L ρ σ (compareOp .NotEq) (.ref a) (.ref b) k X := by
  obtain ⟨a1, b1, c1⟩ := fit_list hx
  exact op_ne_list R ea eb a1 a1 b1 b1 (by rw [PySem.SeqAt.eqv_refl _ c1]; exact h)
theorem op_ne_sameT {d : V} {n : Nat} (R : Room A n) (hx : Fit d 60) (h : k (.bool false) σ) : Op2 G A L ρ σ (compareOp .NotEq) d d k X := by
  obtain ⟨a, b, c⟩ := V.lay_data hx.lay
  exact op_ne_data R a a hx.shaped hx.shaped (by rw [PySem.SeqAt.eqv_refl _ b]; exact h)
end
end Mine
namespace Mine
section
variable {G : Amb} {A : Around} {L : Addr} {ρ : Loc} {σ : St} {X : Value → Shared → Prop} {k : V → St → Prop}
theorem Room.under {n : Nat} (R : Room A (n + 1)) (a : Args) : Room (A.under (.builtin "type.__call__" a)) n := by
  have hw : (Code.builtin "type.__call__" a).weight ≤ 1 := by
    unfold Code.weight
    rw [show (Code.builtin "type.__call__" a).isCaller = false by kernel_rfl, show (Code.builtin "type.__call__" a).isGuard = false by kernel_rfl, show (Code.builtin "type.__call__" a).frames = 0 by kernel_rfl]
    split <;> decide
  have hu : (Code.builtin "type.__call__" a).cUnits = 1 := rfl
  refine ⟨R.handled, ?_, ?_⟩
  · show A.depth + (Code.builtin "type.__call__" a).weight + n < _
    have := R.depth; omega
  · show A.units + (Code.builtin "type.__call__" a).cUnits + 8 * n + 80 < _
    have := R.units; rw [hu]; omega
theorem opc_cls {C fI : Addr} {ds : List V} {n : Nat} (hm : makesIn G.K C = true) (hi : findIn G.K (.ref C) "__init__" = some (some (.ref fI))) (hf : isFn G.K (.ref fI) = true) (R : Room A (n + 1))
    (h : ∀ A' x dx, Room A' n → σ x = none → σ dx = none → x ≠ dx → OpK G A' L ρ ((σ.set dx (.attrs [])).set x (.inst C dx)) (.ref fI) (.ref x :: ds) (fun d σ' => d = .none ∧ k (.ref x) σ')) : OpC G A L ρ σ (.ref C) ds k X := fun s vs x r => by
  obtain ⟨hh, g, d, t, os⟩ := s
  refine wpAny_call (make_core (makes_of x.In hm) (looks_findIn x.In hi) (fun self => bind_fn x.In self (beq_iff_eq.mp hf)) (.inl rfl) ?_)
  dsimp only at x r
  have kp₁ : ∀ b o, hh.get? b = some o → (hh.push emptyDict).get? b = some o := fun b o e => Heap.get?_push_of_some _ e
  have hn₁ := Mine.none_at_size hh
  have hD := Heap.get?_push_size hh (o := emptyDict) rfl
  have x₁ : S G L ρ (σ.set hh.objs.size (.attrs [])) (hh.push emptyDict) := x.newAt (o := .attrs []) hn₁ (Nat.le_of_lt x.big) kp₁ ⟨[], 0, hD, .nil⟩
  have E₁ : Ext σ hh (hh.push emptyDict) (σ.set hh.objs.size (.attrs [])) := .new hn₁ kp₁
  have hsz := Heap.size_push hh emptyDict
  have kp₂ : ∀ b o, (hh.push emptyDict).get? b = some o → ((hh.push emptyDict).push (instObj C hh.objs.size)).get? b = some o := fun b o e => Heap.get?_push_of_some _ e
  have hn₂ := Mine.none_at_size (hh.push emptyDict)
  have hx := Heap.get?_push_size (hh.push emptyDict) (o := instObj C hh.objs.size) rfl
  rw [hsz] at hn₂ hx
  have hbig : G.h₀.objs.size ≤ hh.objs.size + 1 := Nat.le_succ_of_le (Nat.le_of_lt x.big)
  have x₂ : S G L ρ ((σ.set hh.objs.size (.attrs [])).set (hh.objs.size + 1) (.inst C hh.objs.size)) ((hh.push emptyDict).push (instObj C hh.objs.size)) := x₁.newAt (o := .inst C hh.objs.size) hn₂ hbig kp₂ hx
  have E₂ := E₁.trans (Ext.new (o := .inst C hh.objs.size) hn₂ kp₂)
  have σ1 : σ hh.objs.size = none := x.unused hn₁
  have σ2 : σ (hh.objs.size + 1) = none := by
    have := x₁.unused hn₂
    rwa [St.set_ne _ _ (Nat.succ_ne_self _)] at this
  refine h (A.under _) (hh.objs.size + 1) hh.objs.size (R.under _) σ2 σ1 (Nat.succ_ne_self _) ⟨_, g, d, t, os⟩ _ _ x₂ (.cons (.ref _) (r.mono (.of_keeps fun b o e => kp₂ b o (kp₁ b o e)))) fun v s' p => ?_
  refine p.elim fun h' tk d' σ' E y rv q₉ => ?_; obtain ⟨rfl, hk⟩ := q₉
  cases rv
  exact ⟨rfl, h', tk, _, σ', rfl, E₂.trans E, y, .ref _, hk⟩
end
end Mine
set_option maxRecDepth 100000
namespace Mine
section
variable {G : Amb} {A : Around} {L : Addr} {ρ : Loc} {σ : St} {X : Value → Shared → Prop} {k : V → St → Prop}
end
end Mine
namespace Mine
section
variable {G : Amb} {A : Around} {L : Addr} {ρ : Loc} {σ : St} {X : Value → Shared → Prop} {k : V → St → Prop}
end
end Mine
namespace Mine
section
variable {G : Amb} {A : Around} {env : Env} {L : Addr} {ρ : Loc} {σ : St} {X : Value → Shared → Prop}
end
end Mine
namespace Mine
section
variable {G : Amb} {A : Around} {env : Env} {L : Addr} {ρ : Loc} {σ : St} {X : Value → Shared → Prop}
end
end Mine
namespace Mine
theorem repAll_ints {h : Heap} : ∀ {vs : List Value} {ns : List Int}, IntsAre vs ns → RepAll h vs (ns.map V.int)
  | _, _, .nil => .nil
  | _, _, .cons n t r => .cons (.int n t) (repAll_ints r)
section
variable {G : Amb} {A : Around} {env : Env} {L : Addr} {ρ : Loc} {σ : St} {X : Value → Shared → Prop} {k : V → St → Prop}
theorem ev_upto0 {value u : Expr} {p pos : Pos} {a : Addr} {vs : List Value} {ns : List Int} (hl : G.h₀.IsList a vs.toArray) (hi : IntsAre vs ns) (hsz : vs.length ≤ sizeLine)
    (h : EV G A env ρ σ value (fun d σ₁ => d = .ref a ∧ EV G A env ρ σ₁ u (fun c σ₂ => ∃ n : Nat, c = .int n ∧ ∀ b, σ₂ b = none → k (.ref b) (σ₂.set b (.list ((ns.take n).map V.int)))) X) X)
    (ht : ∀ o r, letTemporaryGo value o r = pure () := by intro _ _; rfl) : EV G A env ρ σ (.Subscript value (.Slice none (some u) none p) pos) k X := fun s x => by
  refine wpAny_Subscript_list_slice (wpAny_mono (h s x) (fun v s₁ p => ?_) fun _ _ e => e) ht
  refine p.elim fun h₁ t₁ d σ₁ E₁ x₁ r₁ q₉ => ?_; obtain ⟨rfl, q₁⟩ := q₉
  rw [evalPart_none, evalPart_some]
  refine wpAny_pure (wpAny_mono (q₁ _ x₁) (fun w s₂ p => ?_) fun _ _ e => e)
  refine p.elim fun h₂ t₂ c σ₂ E₂ x₂ r₂ q₉ => ?_; obtain ⟨n, rfl, q₂⟩ := q₉
  cases r₁; cases r₂
  rename_i tn
  have r : RepAll h₂ vs (ns.map V.int) := repAll_ints hi
  have hl₂ : h₂.IsList a vs.toArray := by
    obtain ⟨o, ho, z⟩ := hl
    exact ⟨o, x₂.base _ _ ho, z⟩
  refine ⟨a, vs.toArray, none, some n, rfl, hl₂, by simpa using hsz, .none, .int _ _, ?_⟩
  rw [slicePick_upto']
  have kp₁ : ∀ b o, h₂.get? b = some o → (h₂.push { cls := .type "slice", data := .fields #[.none, .int n tn, .none] }).get? b = some o := fun b o e => Heap.get?_push_of_some _ e
  have x₃ := x₂.keeps kp₁
  have hsz3 := Heap.size_push h₂ { cls := .type "slice", data := .fields #[.none, .int n tn, .none] }
  generalize hH : h₂.push { cls := .type "slice", data := .fields #[.none, .int n tn, .none] } = h₃ at *
  have kp₂ : ∀ b o, h₃.get? b = some o → (h₃.push { cls := .type "list", data := .seq (vs.take n).toArray }).get? b = some o := fun b o e => Heap.get?_push_of_some _ e
  have hn := Mine.none_at_size h₃
  have hD := Heap.get?_push_size h₃ (o := { cls := .type "list", data := .seq (vs.take n).toArray }) rfl
  dsimp only at hsz3 ⊢
  rw [← hsz3]
  have kp : ∀ b o, h₂.get? b = some o → (h₃.push { cls := .type "list", data := .seq (vs.take n).toArray }).get? b = some o := fun b o e => kp₂ b o (kp₁ b o e)
  have ei : (ns.take n).map V.int = (ns.map V.int).take n := by rw [List.map_take]
  refine ⟨_, t₂, _, _, rfl, ((E₁.trans E₂).trans (.keeps kp₁)).trans (.new hn kp₂), x₃.newAt (o := .list ((ns.take n).map V.int)) hn (Nat.le_of_lt x₃.big) kp₂ ⟨_, 0, hD, ?_⟩, .ref _, q₂ _ (x₃.unused hn)⟩
  rw [ei]
  simpa using (r.take n).mono (.of_keeps kp)
end
end Mine
namespace Mine
structure Fly (B h : Heap) (l : List Env) (e : Addr) (cls a0 : Value) (dx : Option Addr) (fl : Value) : Prop where
  stay : B.StaysIn h
  hid : B.get? e = none
  fr : h.FunFrames B l
  tr : ∃ oe vs T oT ts, h.get? e = some oe ∧ oe.cls = cls ∧ oe.dict = dx ∧ oe.data = .fields vs ∧ vs[0]? = some a0 ∧ vs[1]? = some (.ref T) ∧ B.get? T = none ∧ T ≠ e ∧ h.get? T = some oT ∧ oT.data = .fields ts ∧ ts[3]? = some fl
section
variable {M : Model} {A : Around} {E : Value → Shared → Prop} {s : Shared} {B : Heap} {env : Env} {outer l : List Env} {L e : Addr} {cls a0 fl : Value} {dx : Option Addr} {Q : Unit → Shared → Prop}
theorem dict_mapFields (f : Array Value → Array Value) (o : Obj) : (Obj.mapFields f o).dict = o.dict := by unfold Obj.mapFields; split <;> rfl
theorem noRec {h : Heap} {T : Addr} {oT : Obj} {ts : Array Value} (hT : h.get? T = some oT) (hd : oT.data = .fields ts) {b : Addr} {o : Obj} (hb : h.get? b = some o) (hn : ∀ vs, o.data ≠ .fields vs) : b ≠ T := fun q => by
  subst q; rw [hT] at hb; cases hb; exact hn _ hd
theorem fly_entry {oe : Obj} {vs : Array Value} {head : Value} {had : Bool} (hfr : A.frames = some (env :: outer)) (hl : s.heap.FunFrames B (env :: outer)) (hf : env.frame = some L)
    (he : s.heap.get? e = some oe) (hkb : B.StaysIn s.heap) (hen : B.get? e = none) (hc : oe.cls = cls) (hx : oe.dict = dx) (hd : oe.data = .fields vs) (hsz : 1 < vs.size) (h0 : vs[0]? = some a0)
    (h : ∀ h', Fly B h' (env :: outer) e cls a0 dx (rawInt L) → s.heap.UpToSlots h' → Q () { s with heap := h' }) :
    wpAny M A (do let a ← frameOf env; let pl ← entryPlaceOf L had; let b ← EntryCells.newEntry head a .none (rawInt L) .none pl; setField (.ref e) 1 b) Q E s := by
  have hne : e ∉ (env :: outer).filterMap (·.frame) := fun hm => by
    obtain ⟨_, o, ho, hnf⟩ := hl.mem hm
    rw [he] at ho; cases ho; exact hnf vs hd
  refine wpAny_bind (wpAny_frameOf_fun hfr hl hf fun h₁ hs₁ => ?_)
  refine wpAny_bind (wpAny_entryPlaceOf fun pl hpl => ?_)
  unfold EntryCells.newEntry newFields
  refine wpAny_bind (wpAny_newObj_type ?_ (hpl.sizeOk5 _ _ _ _ _))
  have he₁ : h₁.get? e = some oe := (hs₁.2.1 e hne).trans he
  have kb₁ : B.StaysIn h₁ := fun b o hb => (hs₁.2.1 b fun hm => by rw [(hl.mem hm).1] at hb; cases hb).trans (hkb b o hb)
  have k1 : ∀ b o, h₁.get? b = some o → (h₁.push { cls := .type "traceback", dict := none, data := .fields ([head, .ref L, .none, rawInt L, .none] ++ (if pl.isEmpty then List.replicate 6 Value.none else pl)).toArray }).get? b = some o := fun b o q => Heap.get?_push_of_some _ q
  have hT₁ := Heap.get?_push_size h₁ (o := { cls := .type "traceback", dict := none, data := .fields ([head, .ref L, .none, rawInt L, .none] ++ (if pl.isEmpty then List.replicate 6 Value.none else pl)).toArray }) rfl
  have h3 : ([head, .ref L, .none, rawInt L, .none] ++ (if pl.isEmpty then List.replicate 6 Value.none else pl)).toArray[3]? = some (rawInt L) := by
    rw [List.getElem?_toArray]; rfl
  refine wpAny_setField (k1 _ _ he₁) hd hsz ?_
  generalize h₁.push { cls := .type "traceback", dict := none, data := .fields ([head, .ref L, .none, rawInt L, .none] ++ (if pl.isEmpty then List.replicate 6 Value.none else pl)).toArray } = h₂ at *
  have hTe : h₁.objs.size ≠ e := Nat.ne_of_gt (Heap.lt_size he₁)
  have hd₃ := Obj.data_mapFields hd (·.setIfInBounds 1 (Value.ref h₁.objs.size))
  have he₃ := Heap.get?_update_self (Obj.mapFields (·.setIfInBounds 1 (Value.ref h₁.objs.size))) (k1 _ _ he₁) (Obj.isFreed_of_fields hd₃)
  have keep : ∀ b o, b ≠ e → h₂.get? b = some o → (h₂.update e (Obj.mapFields (·.setIfInBounds 1 (Value.ref h₁.objs.size)))).get? b = some o := fun b o n q => (Heap.get?_update_other _ _ (Ne.symm n)).trans q
  refine h _ ⟨fun b o q => keep b o (fun z => by rw [z, hen] at q; cases q) (k1 _ _ (kb₁ b o q)), hen, hl.of_keeps fun b o hb hn => ?_, ?_⟩ fun b o hb hn => ?_
  · obtain ⟨sl, hs⟩ := hs₁.2.2 b o hb
    exact ⟨_, keep b _ (noRec he hd hb hn) (k1 _ _ hs), rfl⟩
  · refine ⟨_, _, h₁.objs.size, _, _, he₃, (Obj.cls_mapFields _ _).trans hc, ?_, hd₃, ?_, ?_, kb₁.fresh, hTe, keep _ _ hTe hT₁, rfl, h3⟩
    · exact (dict_mapFields _ _).trans hx
    · rw [Array.getElem?_setIfInBounds_ne (by decide)]; exact h0
    · rw [Array.getElem?_setIfInBounds_self_of_lt hsz]
  · obtain ⟨sl, hs⟩ := hs₁.2.2 b o hb
    exact ⟨sl, keep b _ (noRec he hd hb hn) (k1 _ _ hs)⟩
theorem fly_land (x : Fly B s.heap l e cls a0 dx fl) (h : ∀ h', Fly B h' l e cls a0 dx .none → s.heap.UpToSlots h' → Q () { s with heap := h' }) : wpAny M A (setFlight (.ref e) none) Q E s := by
  obtain ⟨st, hid, fr, oe, vs, T, oT, ts, he, hc, hx, hd, h0, h1, hB, hTe, hT, hdT, h3⟩ := x
  have hsz : 3 < ts.size := (Array.getElem?_eq_some_iff.mp h3).1
  have other : ∀ b, b ≠ T → (s.heap.update T (Obj.mapFields (·.setIfInBounds 3 Value.none))).get? b = s.heap.get? b := fun b hb => Heap.get?_update_other _ _ (Ne.symm hb)
  have hd₃ := Obj.data_mapFields hdT (·.setIfInBounds 3 Value.none)
  unfold setFlight
  refine wpAny_bind (wpAny_field he hd h1 ?_)
  rw [if_pos (show (Value.ref T != Value.none) = true from by simp)]
  refine wpAny_setField hT hdT hsz (h _ ⟨fun b o q => (other b fun z => by rw [z, hB] at q; cases q).trans (st b o q), hid, fr.of_keeps fun b o hb hn => ⟨o, (other b (noRec hT hdT hb hn)).trans hb, rfl⟩,
    oe, vs, T, _, _, (other e (Ne.symm hTe)).trans he, hc, hx, hd, h0, h1, hB, hTe, Heap.get?_update_self _ hT (Obj.isFreed_of_fields hd₃), hd₃, ?_⟩ fun b o hb hn => ⟨o.slots, (other b (noRec hT hdT hb hn)).trans hb⟩)
  rw [Array.getElem?_setIfInBounds_self_of_lt hsz]
theorem fly_leave {oe : Obj} {vs : Array Value} (hfr : A.frames = some (env :: outer)) (hl : s.heap.FunFrames B (env :: outer)) (hf : env.frame = some L)
    (he : s.heap.get? e = some oe) (hkb : B.StaysIn s.heap) (hen : B.get? e = none) (hc : oe.cls = cls) (hx : oe.dict = dx) (hd : oe.data = .fields vs) (h1 : vs[1]? = some .none) (h0 : vs[0]? = some a0)
    (h : ∀ h', Fly B h' outer e cls a0 dx .none → s.heap.UpToSlots h' → Q () { s with heap := h' }) : wpAny M A (leaving env (.ref e)) Q E s := by
  unfold leaving noteFrame
  simp only [hf]
  refine wpAny_bind (wpAny_bind (wpAny_field he hd h1 ?_))
  rw [if_neg (by decide)]
  refine fly_entry hfr hl hf he hkb hen hc hx hd (Array.getElem?_eq_some_iff.mp h1).1 h0 fun h₁ F₁ u₁ => ?_
  refine fly_land (s := { s with heap := h₁ }) F₁ fun h₂ F₂ u₂ => ?_
  exact h h₂ ⟨F₂.stay, F₂.hid, F₂.fr.2.2, F₂.tr⟩ (u₁.trans u₂)
theorem fly_look (hfr : A.frames = some (env :: outer)) (hf : env.frame = some L) (x : Fly B s.heap (env :: outer) e cls a0 dx .none)
    (h : ∀ h', Fly B h' (env :: outer) e cls a0 dx (rawInt L) → s.heap.UpToSlots h' → Q () { s with heap := h' }) : wpAny M A (noteFrame (.ref e) env) Q E s := by
  obtain ⟨st, hid, fr, oe, vs, T, oT, ts, he, hc, hx, hd, h0, h1, hB, hTe, hT, hdT, h3⟩ := x
  have other : ∀ b, b ≠ T → (s.heap.update T (Obj.mapFields (·.setIfInBounds 3 Value.none))).get? b = s.heap.get? b := fun b hb => Heap.get?_update_other _ _ (Ne.symm hb)
  unfold noteFrame
  simp only [hf]
  refine wpAny_bind (wpAny_field he hd h1 ?_)
  rw [if_pos (show (Value.ref T != Value.none) = true from by simp)]
  refine wpAny_bind (wpAny_field hT hdT h3 ?_)
  rw [if_neg (show ¬ ((Value.none == rawInt L) = true) from by simp [rawInt])]
  refine wpAny_bind (wpAny_setField hT hdT (Array.getElem?_eq_some_iff.mp h3).1 ?_)
  refine fly_entry (s := { s with heap := s.heap.update T (Obj.mapFields (·.setIfInBounds 3 Value.none)) }) hfr (fr.of_keeps fun b o hb hn => ⟨o, (other b (noRec hT hdT hb hn)).trans hb, rfl⟩) hf ((other e (Ne.symm hTe)).trans he)
    (fun b o q => (other b fun z => by rw [z, hB] at q; cases q).trans (st b o q)) hid hc hx hd (Array.getElem?_eq_some_iff.mp h1).1 h0 fun h' F' u' => h h' F' fun b o hb hn => u' b o ((other b (noRec hT hdT hb hn)).trans hb) hn
end
end Mine
namespace Mine
def ExcAt (h : Heap) (e C dx : Addr) : Prop := ∃ t, h.get? e = some { cls := .ref C, dict := some dx, data := .fields #[.ref t, .none, .none, .none, .bool false, .none] }
def Up1 (G : Amb) (L : Addr) (σ : St) (s : Shared) (k : Addr → Addr → Addr → St → Prop) (E : Value → Shared → Prop) : Prop :=
  ∀ e C dx h' tk ρ' σ', ExtS L σ s.heap h' σ' → S G L ρ' σ' h' → ExcAt h' e C dx → σ' e = none → s.heap.get? e = none → k e C dx σ' → E (.ref e) { s with heap := h', toks := tk }
theorem Up1.next {G : Amb} {L σ σ₁ s h₁ t₁ k E} (u : Up1 G L σ s k E) (x : ExtS L σ s.heap h₁ σ₁) : Up1 G L σ₁ { s with heap := h₁, toks := t₁ } k E := fun e C dx h' tk ρ' σ' y z w a b c =>
  u e C dx h' tk ρ' σ' (x.trans y) z w a (by
    cases q : s.heap.get? e with
    | none => rfl
    | some o => obtain ⟨o', e'⟩ := x.alive _ o q; rw [e'] at b; cases b) c
def RV (G : Amb) (A : Around) (env : Env) (ρ : Loc) (σ : St) (t : Sem Flow) (k : Addr → Addr → Addr → St → Prop) : Prop :=
  ∀ (s : Shared) (E : Value → Shared → Prop), PassesOwn (model G.prog G.w) A env E → S G env.locals ρ σ s.heap → Up1 G env.locals σ s k E → wpAny (model G.prog G.w) A t (fun _ _ => False) E s
section
variable {G : Amb} {A : Around} {env : Env} {L : Addr} {ρ : Loc} {σ : St} {k : Addr → Addr → Addr → St → Prop}
theorem rv_head {st : Stmt} {rest : List Stmt} (h : RV G A env ρ σ (exec st env) k) : RV G A env ρ σ (execs (st :: rest) env) k := fun s E hp x u =>
  wpAny_execs_cons (wpAny_mono (h s E hp x u) (fun _ _ z => z.elim) fun _ _ e => e)
theorem rv_next {st : Stmt} {rest : List Stmt} (h : SV G A env ρ σ (exec st env) (fun φ ρ' σ' => φ = .next ∧ RV G A env ρ' σ' (execs rest env) k) never) : RV G A env ρ σ (execs (st :: rest) env) k := fun s E hp x u => by
  refine wpAny_execs_cons (wpAny_mono (h s x) (fun f s' p => ?_) fun _ _ e => e.elim)
  refine p.elim fun h₁ t₁ φ ρ₁ σ₁ E₁ x₁ r q => ?_
  obtain ⟨rfl, q⟩ := q
  cases f <;> first | exact r.elim | skip
  exact wpAny_mono (q _ E hp x₁ (u.next E₁)) (fun _ _ z => z.elim) fun _ _ e => e
theorem rv_If {test : Expr} {body orelse : List Stmt} {pos : Pos}
    (h : BV G A env ρ σ (isTrue test env (eval test env)) (fun b σ' => if b = true then RV G A env ρ σ' (execs body env) k else RV G A env ρ σ' (execs orelse env) k) never) :
    RV G A env ρ σ (exec (.If test body orelse pos) env) k := fun s E hp x u => by
  refine wpAny_If (wpAny_mono (h s x) (fun b s' p => ?_) fun _ _ e => e.elim)
  refine p.elim fun h₁ t₁ d σ₁ E₁ x₁ r q => ?_
  obtain ⟨rfl, q⟩ := q
  cases b with
  | true => exact q _ E hp x₁ (u.next E₁.toS)
  | false => exact q _ E hp x₁ (u.next E₁.toS)
theorem rv_For {target iter : Expr} {body : List Stmt} {pos : Pos}
    (h : IE G A env ρ σ iter target (fun n item need σ₁ => ∃ (Inv : Nat → Loc → St → Prop) (m : Nat), m < n ∧ Inv 0 ρ σ₁ ∧ (∀ i ρ σ, Inv i ρ σ → need σ) ∧
      (∀ i ρ₁ σ₁, i < m → Inv i ρ₁ σ₁ → TS G A env ρ₁ σ₁ (assign target env) (item i) (fun ρ₂ σ₂ => SV G A env ρ₂ σ₂ (execs body env) (fun φ ρ₃ σ₃ => φ = .next ∧ Inv (i + 1) ρ₃ σ₃) never) never) ∧
      (∀ ρ₁ σ₁, Inv m ρ₁ σ₁ → TS G A env ρ₁ σ₁ (assign target env) (item m) (fun ρ₂ σ₂ => RV G A env ρ₂ σ₂ (execs body env) k) never)) never)
    (hs : ∀ x, foldedSetIterable iter env x = pure x := by intro _; rfl) :
    RV G A env ρ σ (exec (.For target iter body [] pos) env) k := fun s E hp x u => by
  refine wpAny_For (wpAny_mono (h s x) (fun v s₁ p => wpAny_mono p (fun it s₂ p => ?_) fun _ _ e => e.elim) fun _ _ e => e.elim) hs
  refine p.elim fun h₂ t₂ σ₁ I W at_ n item need E₁ x₁ w hW hσW st q₉ => ?_
  obtain ⟨Inv, m, hmn, h0, hneed, step, last⟩ := q₉
  obtain ⟨hL, hG⟩ := x.offW hW
  refine codeAny_forLoop_any (fun c s' => ∃ h' tk ρ' σ' i, s' = { s with heap := h', toks := tk } ∧ ExtS env.locals σ s.heap h' σ' ∧ S G env.locals ρ' σ' h' ∧ (∀ b ∈ W, σ' b = none) ∧ at_ i h' ∧ Inv i ρ' σ' ∧ i ≤ m ∧ c = n - i) ?_ n
    ⟨h₂, t₂, ρ, σ₁, 0, rfl, E₁.toS, x₁, hσW, st, h0, Nat.zero_le _, rfl⟩
  rintro c s' ⟨h', tk, ρ', σ', i, rfl, E', x', hσ', st', hI, hi, rfl⟩
  have hlt : i < n := Nat.lt_of_le_of_lt hi hmn
  refine w.next i _ _ _ _ _ _ hlt x' (hneed _ _ _ hI) st' hσ' fun v s₁ hgo => hgo _ _ fun h₃ tk₃ r st₃ kb => ?_
  have t : TupK h' h₃ := tupK_but kb (w.live _ _ st')
  have x₃ := x'.keepBut kb t hσ' hL hG
  have E₃ := E'.keepBut kb t hW
  by_cases hm : i < m
  · refine wpAny_mono (step i _ _ hm hI _ v x₃ r) (fun _ s₄ p => ?_) fun _ _ e => e.elim
    refine p.elim fun h₄ tk₄ φ ρ₄ σ₄ E₄ x₄ _ q₉ => ?_; obtain ⟨rfl, q₄⟩ := q₉
    obtain ⟨st₄, hσ₄⟩ := E₄.at w st₃ hσ' hL
    refine wpAny_mono (q₄ _ x₄) (fun f s₅ p => ?_) fun _ _ e => e.elim
    refine p.elim fun h₅ tk₅ φ ρ₅ σ₅ E₅ x₅ rf q₅ => ?_; obtain ⟨rfl, q₅⟩ := q₅
    obtain ⟨st₅, hσ₅⟩ := E₅.at w st₄ hσ₄ hL
    cases f <;> first | exact rf.elim | skip
    exact ⟨n - (i + 1), Nat.sub_succ_lt_self n i hlt, h₅, tk₅, ρ₅, σ₅, i + 1, rfl, (E₃.trans E₄).trans E₅, x₅, hσ₅, st₅, q₅, hm, rfl⟩
  · obtain rfl : i = m := Nat.le_antisymm hi (Nat.le_of_not_lt hm)
    refine wpAny_mono (last _ _ hI _ v x₃ r) (fun _ s₄ p => ?_) fun _ _ e => e.elim
    refine p.elim fun h₄ tk₄ φ ρ₄ σ₄ E₄ x₄ _ q₉ => ?_; obtain ⟨rfl, q₄⟩ := q₉
    exact wpAny_mono (q₄ _ E hp x₄ (u.next (E₃.trans E₄))) (fun _ _ z => z.elim) hp
theorem raise_made {s : Shared} {E : Value → Shared → Prop} {C : Addr} {nm q : Str} {N : Addr} {bs bm : List Value} {hdct : Bool} {sn : List Str} {sub : List Value} {ab : Bool} {col : Option Bool} {dd : Option Addr} {k0 k1 k2 k3 k5 : Option Value} {newId : String} {M : Model} {x : Sem Value} {Q : Flow → Shared → Prop}
    (hbase : bm.contains (.type "BaseException") = true) (hh : A.handled = none)
    (h : wpAny M A x (fun v s₁ => ∃ e dx t, v = .ref e ∧ s₁.heap.get? C = some (excClassObj nm q C N bs bm hdct sn sub ab col dd k0 k1 k2 k3 k5 newId) ∧
      s₁.heap.get? e = some { cls := .ref C, dict := some dx, data := .fields #[.ref t, .none, .none, .none, .bool false, .none] } ∧ E (.ref e) s₁) E s) :
    wpAny M A (raiseStmt env (some x) none) Q E s := by
  have hcB : (Value.ref C :: bm).contains (.type "BaseException") = true := by rw [List.contains_cons, hbase, Bool.or_true]
  unfold raiseStmt
  refine wpAny_bind (wpAny_mono h (fun v s₁ h₁ => ?_) fun _ _ x => x)
  obtain ⟨e, dx, t, rfl, hC, he, hE⟩ := h₁
  obtain ⟨hp, g, d, tk, os⟩ := s₁
  repeat (first | with_reducible refine wpAny_loadPart_at he ?_ | with_reducible refine wpAny_loadPart_at hC ?_ | (with_reducible refine wpAny_isSubtype_exc hC ?_; rw [hcB]) | wp_step)
  exact wpAny_raiseNew_none hh hE
theorem rv_Raise {x : Expr} {C : Addr} {nm q : Str} {N : Addr} {bs bm : List Value} {hdct : Bool} {sn : List Str} {sub : List Value} {ab : Bool} {col : Option Bool} {dd : Option Addr} {k0 k1 k2 k3 k5 : Option Value} {newId : String} {pos : Pos}
    (hC : G.K.lookup C = some (excClassObj nm q C N bs bm hdct sn sub ab col dd k0 k1 k2 k3 k5 newId)) (hbase : bm.contains (.type "BaseException") = true) (hh : A.handled = none)
    (h : ∀ s, S G env.locals ρ σ s.heap → wpAny (model G.prog G.w) A (eval x env) (fun v s₁ => ∃ e dx h' tk σ', v = .ref e ∧ s₁ = { s with heap := h', toks := tk } ∧ Ext σ s.heap h' σ' ∧ S G env.locals ρ σ' h' ∧ ExcAt h' e C dx ∧ σ' e = none ∧ s.heap.get? e = none ∧ k e C dx σ') never s) :
    RV G A env ρ σ (exec (.Raise (some x) none pos) env) k := fun s E hp y u => by
  rw [arm_exec_Raise]
  refine wpAny_bind (wpAny_standAt ?_)
  simp only [evalOpt, Option.map]
  refine raise_made (C := C) (nm := nm) (q := q) (N := N) (bs := bs) (bm := bm) (hdct := hdct) (sn := sn) (sub := sub) (ab := ab) (col := col) (dd := dd) (k0 := k0) (k1 := k1) (k2 := k2) (k3 := k3) (k5 := k5) (newId := newId) hbase hh ?_
  refine wpAny_bind (wpAny_mono (h s y) (fun v s₁ p => ?_) fun _ _ e => e.elim)
  obtain ⟨e, dx, h', tk, σ', rfl, rfl, E₁, y₁, ⟨t, he⟩, a, b, c⟩ := p
  exact wpAny_bind (wpAny_standAt (wpAny_pure ⟨e, dx, t, rfl, y₁.In _ _ hC, he, u e C dx h' tk ρ σ' E₁.toS y₁ ⟨t, he⟩ a b c⟩))
end
end Mine
namespace Mine
section
variable {prog : Program} {w : World} {A : Around} {K : Frag} {s : Shared} {x C dx : Addr} {name : Str} {v : Value} {es : List DictEntry} {n : Nat}
def onlyExc : List Value → Bool
  | [.type a, .type b, .type c] => a == "Exception" && b == "BaseException" && c == "object"
  | .ref _ :: r => onlyExc r
  | _ => false
theorem refuse_exc (self : Value) : refuseLoop self "__setattr__" [.type "Exception", .type "BaseException", .type "object"] = pure () := by kernel_rfl
theorem refuse_onlyX (self : Value) : ∀ {l : List Value}, onlyExc l = true → refuseLoop self "__setattr__" l = pure ()
  | [.type a, .type b, .type c], e => by
    unfold onlyExc at e
    simp only [Bool.and_eq_true, beq_iff_eq] at e
    obtain ⟨⟨rfl, rfl⟩, rfl⟩ := e
    exact refuse_exc self
  | .ref c :: r, e => by rw [refuseLoop_ref]; exact refuse_onlyX self (by unfold onlyExc at e; exact e)
theorem onlyX_has : ∀ {l : List Value}, onlyExc l = true → l.contains (.type "object") = true
  | [.type a, .type b, .type c], e => by
    unfold onlyExc at e
    simp only [Bool.and_eq_true, beq_iff_eq] at e
    obtain ⟨⟨rfl, rfl⟩, rfl⟩ := e
    decide
  | .ref c :: r, e => by rw [List.contains_cons, onlyX_has (l := r) (by unfold onlyExc at e; exact e), Bool.or_true]
def plainX (K : Frag) (C : Addr) : Bool := (clsIn K C).any fun cd => onlyExc cd.mro
theorem osaX_open {R : Result → Shared → Prop} {ox : Obj} {od : Option Obj} {tk : Tok} {r : Option Value} (X : K.In s.heap) (I : InstAt s.heap x ox C od) (hp : plainX K C = true) (ht : takerIn K C name = some r)
    (h : ∀ b, wpAny (model prog w) A.in1 (match r with | some a => PySem.Builtin.ObjectAttr.setByDescriptor a (.ref x) v | none => PySem.Builtin.ObjectAttr.storeInOwnDict (.ref x) (.ref C) (.str name tk) name v b)
      (fun fin s' => match fin with | .done f => R (.ok f) s' | .again c' => c'.quiet = true ∧ codeAny (model prog w) A c' R s') (fun e s' => R (.error e) s') s) :
    codeAny (model prog w) A (.call (.builtin "object.__setattr__") ⟨[.ref x, .str name tk, v], []⟩) R s := by
  have SF := PySem.F.store_object
  obtain ⟨cd, hc, ho⟩ := any_some hp
  have ne : cd.mro.isEmpty = false := by cases q : cd.mro with | nil => rw [q] at ho; cases ho | cons _ _ => rfl
  have sub : Looks (model prog w) s.heap (isInstance (.ref x) (.type "object")) true := I.type.andThen (looks_mroIn X (by unfold mroIn; rw [hc, Option.bind_some, if_neg (by rw [ne]; decide), onlyX_has ho]))
  refine codeAny_call_builtin SF.slot.plain SF.entry (@check_slot (model prog w) _ _ s "object.__setattr__" "object" "__setattr__" (.ref x) [.str name tk, v] [] _ SF.kind SF.split sub (SF.args (.ref x) (.str name tk) v) ?_)
  obtain ⟨attr, ha, hr⟩ := Option.bind_eq_some_iff.mp ht
  have hm : Looks (model prog w) s.heap (mroOf (.ref C)) cd.mro := (looks_clsIn X hc).andThen .now
  have L3 : Looks (model prog w) s.heap (PySem.Builtin.ObjectAttr.storeTaker? attr) r := by
    cases attr with
    | none => cases hr; exact .now
    | some a =>
      obtain ⟨b, hb, rfl⟩ := Option.map_eq_some_iff.mp hr
      refine (looks_takesIn X hb).andThen ?_
      cases b <;> exact .now
  rw [osa_eq, refuse_eq]
  refine wpAny_bind (wpAny_bind (I.type.here (wpAny_bind (hm.here ?_))))
  rw [refuse_onlyX _ ho]
  refine wpAny_pure (wpAny_bind (I.type.here (wpAny_bind ((looks_findIn X ha).here (wpAny_bind (L3.here ?_))))))
  exact h _
theorem putL_len {hsh : Int} {key : Value} : ∀ {es : List DictEntry}, (putL name hsh key v es).length ≤ es.length + 1
  | [] => by simp [putL]
  | e :: r => by unfold putL; split <;> simp; exact putL_len
theorem nsSet_at {Q : Unit → Shared → Prop} {E : Value → Shared → Prop} (D : s.heap.get? dx = some (dictOf es n)) (hl : (lookIn name (dictOf es n)).isSome = true)
    (h : ∀ h', Heap.SameBut dx s.heap h' → h'.get? dx = some (dictOf (putL name (PyData.keyHash w.params name) (.str name s.toks) v es) (putN name es n)) → Q () { s with heap := h', toks := s.toks + 1 }) :
    wpAny (model prog w) A (nsSet dx name v) Q E s := by
  have D' : (s.heap.update dx (Obj.putName name (PyData.keyHash w.params name) (.str name s.toks) v)).get? dx = some (dictOf (putL name (PyData.keyHash w.params name) (.str name s.toks) v es) (putN name es n)) := by
    rw [Heap.get?_update_self _ D (by rw [putName_dict]; rfl), putName_dict]
  unfold nsSet
  refine wpAny_bind (wpAny_bind (wpAny_askSetting (wpAny_pure (wpAny_bind (wpAny_mkText (wpAny_bind (wpAny_loadPart D ?_)))))))
  rw [lookIn_dict] at hl
  unfold getL at hl
  dsimp only
  have c : (!es.toArray.any (·.key.isStr name) && es.toArray.any (·.refKey)) = false := by
    rw [← Array.any_toList, ← Array.any_toList]
    split at hl
    · rename_i en he
      rw [List.any_eq_true.mpr ⟨en, List.mem_of_find?_eq_some he, List.find?_some he⟩]; rfl
    · split at hl
      · cases hl
      · rename_i z; rw [Bool.not_eq_true] at z; show (_ && es.any (·.refKey)) = false; rw [z, Bool.and_false]
  rw [aRefKeyMayBeTheName_at, c]
  exact wpAny_updatePart D (h _ (Heap.SameBut.update ..) D')
theorem osa_exc {R : Result → Shared → Prop} {tk : Tok} {vs : Array Value} (X : K.In s.heap)
    (hx : s.heap.get? x = some { cls := .ref C, dict := some dx, data := .fields vs }) (D : s.heap.get? dx = some (dictOf es n)) (hp : plainX K C = true) (ht : takerIn K C name = some none) (hh : hasDictIn K C = true)
    (hl : (lookIn name (dictOf es n)).isSome = true) (hz : es.length < 1000)
    (h : ∀ h', Heap.SameBut dx s.heap h' → h'.get? dx = some (dictOf (putL name (PyData.keyHash w.params name) (.str name s.toks) v es) (putN name es n)) → R (.ok (.ret .none)) { s with heap := h', toks := s.toks + 1 }) :
    codeAny (model prog w) A (.call (.builtin "object.__setattr__") ⟨[.ref x, .str name tk, v], []⟩) R s := by
  have I : InstAt s.heap x { cls := .ref C, dict := some dx, data := .fields vs } C (some (dictOf es n)) := ⟨hx, rfl, rfl, D⟩
  refine osaX_open X I hp ht fun b => ?_
  obtain ⟨cd, hc, hd'⟩ := any_some hh
  refine wpAny_bind (wpAny_pure (wpAny_bind (wpAny_bind (wpAny_loadPart hx (wpAny_bind ((looks_clsIn X hc).here ?_))))))
  rw [hd']
  refine wpAny_pure (a := some dx) (wpAny_bind (wpAny_pure (wpAny_bind (nsSet_at D hl fun h' hs D' => ?_))))
  refine wpAny_bind (wpAny_lookBehind D' (pastItsLine_dict (by have := putL_len (name := name) (hsh := PyData.keyHash w.params name) (key := .str name s.toks) (v := v) (es := es); rw [List.size_toArray, sizeLine_eq]; omega)) ?_)
  exact wpAny_pure (h _ hs D')
theorem osa_first {R : Result → Shared → Prop} {tk : Tok} {vs : Array Value} (X : K.In s.heap)
    (hx : s.heap.get? x = some { cls := .ref C, dict := none, data := .fields vs }) (hp : plainX K C = true) (ht : takerIn K C name = some none) (hh : hasDictIn K C = true)
    (h : ∀ h' d, (∀ b o, b ≠ x → s.heap.get? b = some o → h'.get? b = some o) → (∀ b o, s.heap.get? b = some o → b < d) → s.heap.get? d = none → d ≠ x → h'.get? x = some { cls := .ref C, dict := some d, data := .fields vs } →
      h'.get? d = some (dictOf [⟨PyData.keyHash w.params name, .str name s.toks, v⟩] 1) → R (.ok (.ret .none)) { s with heap := h', toks := s.toks + 1 }) :
    codeAny (model prog w) A (.call (.builtin "object.__setattr__") ⟨[.ref x, .str name tk, v], []⟩) R s := by
  have I : InstAt s.heap x { cls := .ref C, dict := none, data := .fields vs } C none := ⟨hx, rfl, rfl, trivial⟩
  refine osaX_open X I hp ht fun b => ?_
  obtain ⟨cd, hc, hd'⟩ := any_some hh
  refine wpAny_bind (wpAny_pure (wpAny_bind (wpAny_bind (wpAny_loadPart hx (wpAny_bind ((looks_clsIn X hc).here ?_))))))
  rw [hd']
  have hne : s.heap.objs.size ≠ x := Nat.ne_of_gt (Heap.lt_size hx)
  have hx₁ := Heap.get?_push_of_some { cls := .type "dict", data := .dict #[] } hx
  have hd₁ := Heap.get?_push_size s.heap (o := { cls := .type "dict", data := .dict #[] }) rfl
  have hx₂ := Heap.get?_update_self (fun o : Obj => { o with dict := some s.heap.objs.size }) hx₁ rfl
  have hd₂ : ((s.heap.push { cls := .type "dict", data := .dict #[] }).update x (fun o : Obj => { o with dict := some s.heap.objs.size })).get? s.heap.objs.size = some (dictOf [] 0) := (Heap.get?_update_other _ _ (Ne.symm hne)).trans hd₁
  refine wpAny_bind (wpAny_alloc (wpAny_bind (wpAny_update hx₁ ?_)))
  refine wpAny_pure (wpAny_bind (wpAny_pure (wpAny_bind (nsSet_at hd₂ rfl fun h' hs D' => ?_))))
  refine wpAny_bind (wpAny_lookBehind D' (pastItsLine_dict (by rw [List.size_toArray, sizeLine_eq]; exact Nat.le_of_ble_eq_true rfl)) ?_)
  refine wpAny_pure (h _ s.heap.objs.size (fun b o nb q => ?_) (fun b o q => Heap.lt_size q) (Heap.get?_none_of_le (Nat.le_refl _)) hne ?_ D')
  · rw [hs.2 b (Nat.ne_of_lt (Heap.lt_size q))]
    exact (Heap.get?_update_other _ _ (Ne.symm nb)).trans (Heap.get?_push_of_some _ q)
  · rw [hs.2 x (Ne.symm hne)]; exact hx₂
end
end Mine
end
section
open PySem PySem.W PySem.Calls
set_option maxRecDepth 100000
namespace Mine
section
variable {prog : Program} {w : World} {A : Around} {h : Heap} {g : Array GenState} {d : Drawn} {t : Nat} {os : OsState}
variable {nm q : Str} {C N : Addr} {bs bm bmB : List Value} {hdct : Bool} {sn : List Str} {sub : List Value} {ab : Bool} {col : Option Bool} {dd : Option Addr} {k0 k1 k2 k3 k5 : Option Value} {B newId initId : String}
structure BmOk (B : String) (bm : List Value) : Prop where
  hB : bm.contains (.type B) = true
  hA : bm.contains (.type "AttributeError") = false
  hN : bm.contains (.type "NameError") = false
theorem check_new_own {M : Model} {E : Value → Shared → Prop} (F : ExcBaseFacts B newId initId bmB) (T : BmOk B bm) {rest : List Value} {Q : Unit → Shared → Prop} (hC : h.get? C = some (excClassObj nm q C N bs bm hdct sn sub ab col dd k0 k1 k2 k3 k5 newId))
    (hq : Q () ⟨h, g, d, t, os⟩) : wpAny M A (checkBuiltinCall newId ⟨.ref C :: rest, []⟩) Q E ⟨h, g, d, t, os⟩ := by
  have hcont : (Value.ref C :: bm).contains (.type B) = true := by rw [List.contains_cons, T.hB, Bool.or_true]
  have hstar := F.noStar
  simp only [checkBuiltinCall, F.newKind, F.newSplit, F.newRow]
  repeat (first | refine wpAny_loadPart_at hC ?_ | (refine wpAny_isSubtype_exc hC ?_; rw [hcont]) | refine wpAny_staticBase_exc hC ?_ | refine wpAny_madeBy_exc hC ?_ | simp only [bne_self_eq_false, Bool.false_eq_true, if_false] | wp_step)
  exact hq
theorem exc_new_own {R : Result → Shared → Prop} (F : ExcBaseFacts B newId initId bmB) (T : BmOk B bm) {rest : List Value} (hC : h.get? C = some (excClassObj nm q C N bs bm hdct sn sub ab col dd k0 k1 k2 k3 k5 newId))
    (hq : R (.ok (.ret (.ref (h.objs.size + 1)))) ⟨(h.push { cls := .type "tuple", data := .seq rest.toArray }).push
      { cls := .ref C, data := .fields #[.ref h.objs.size, .none, .none, .none, .bool false, .none] }, g, d, t, os⟩) (hrest : rest.length ≤ sizeLine := by size_fits) :
    codeAny (model prog w) A (.builtin newId ⟨.ref C :: rest, []⟩) R ⟨h, g, d, t, os⟩ := by
  have hends := F.ends
  have hcB : (Value.ref C :: bm).contains (.type B) = true := by rw [List.contains_cons, T.hB, Bool.or_true]
  have hcA : (Value.ref C :: bm).contains (.type "AttributeError") = false := by rw [List.contains_cons, T.hA]; rfl
  have hcN : (Value.ref C :: bm).contains (.type "NameError") = false := by rw [List.contains_cons, T.hN]; rfl
  refine codeAny_builtinAt F.entry ?_
  unfold Builtin.«BaseException.__new__»
  refine wpAt_bind ?_
  show wpAt _ _ _ (stack >>= _) _ _ _
  refine wpAt_bind (wpAt_stack fun p below => wpAt_of_wpAny ?_)
  wp_walk
  refine wpAt_of_wpAny ?_
  rw [F.owner]
  repeat (first | with_reducible refine wpAny_madeHere_exc F.canon hC ?_ | with_reducible refine wpAny_loadPart_at hC ?_ | (with_reducible refine wpAny_isSubtype_exc hC ?_; first | rw [hcB] | rw [hcA] | rw [hcN]) | wp_step)
  show R _ _
  rw [Heap.size_push]
  exact hq
theorem exc_type_call {E : Value → Shared → Prop} {K : Frag} (F : ExcBaseFacts B newId initId bmB) (T : BmOk B bm) {rest : List Value} {fI : Addr} {Q : Fin → Shared → Prop} (X : K.In h)
    (hC : h.get? C = some (excClassObj nm q C N bs bm hdct sn sub ab col dd k0 k1 k2 k3 k5 newId)) (hi : findIn K (.ref C) "__init__" = some (some (.ref fI))) (hf : typeIn K (.ref fI) = some (.type "function"))
    (hq : ∀ h' e, Heap.MadeExcOf h h' e (.ref C) rest →
      wpAny (model prog w) A (call (.ref fI) (.ref e :: rest)) (fun r s' => r = .none ∧ Q (.done (.ret (.ref e))) s') E ⟨h', g, d, t, os⟩) (hrest : rest.length ≤ sizeLine := by size_fits) :
    wpAny (model prog w) A (Builtin.«type.__call__» ⟨.ref C :: rest, []⟩) Q E ⟨h, g, d, t, os⟩ := by
  repeat (first | with_reducible refine wpAny_loadPart_at hC ?_ | with_reducible refine wpAny_madeBy_exc hC ?_ | wp_step)
  refine codeAny_call_builtin_code (Code.quiet_builtin _ F.quiet) (check_new_own F T hC ?_)
  refine exc_new_own F T hC ?_ hrest
  show wpAny _ _ _ _ _ _
  have kp : ∀ b o, h.get? b = some o → ((h.push { cls := .type "tuple", data := .seq rest.toArray }).push
      { cls := .ref C, data := .fields #[.ref h.objs.size, .none, .none, .none, .bool false, .none] }).get? b = some o := fun b o e => Heap.get?_push_of_some _ (Heap.get?_push_of_some _ e)
  have hC₁ := kp _ _ hC
  have X₁ := X.keeps kp
  obtain ⟨oI, hfI, hfc⟩ : ∃ oI, ((h.push { cls := .type "tuple", data := .seq rest.toArray }).push
      { cls := .ref C, data := .fields #[.ref h.objs.size, .none, .none, .none, .bool false, .none] }).get? fI = some oI ∧ oI.cls = .type "function" := by
    have ht' : (K.lookup fI).map (·.cls) = some (.type "function") := hf
    cases z : K.lookup fI with
    | none => rw [z] at ht'; cases ht'
    | some of => rw [z] at ht'; exact ⟨of, X₁ _ _ z, Option.some.inj ht'⟩
  have hget : ((h.push { cls := .type "tuple", data := .seq rest.toArray }).push
      { cls := .ref C, data := .fields #[.ref h.objs.size, .none, .none, .none, .bool false, .none] }).get? (h.objs.size + 1) = some
      { cls := .ref C, data := .fields #[.ref h.objs.size, .none, .none, .none, .bool false, .none] } := by heap_get
  have hcC : (Value.ref C :: bm).contains (.ref C) = true := by simp
  unfold isInstance
  repeat (first | with_reducible refine wpAny_loadPart_at hget ?_ | (with_reducible refine wpAny_isSubtype_exc hC₁ ?_; rw [hcC]) | wp_step)
  show wpAny _ _ (typeLookup (.ref C) _) _ _ _
  refine (looks_findIn X₁ hi).here ?_
  refine wpAny_holding (wpAny_bind ?_)
  unfold bindSpecial
  refine wpAny_bind (wpAny_typeOf (T := "function") ⟨_, hfI, hfc⟩ ?_)
  rw [if_pos (by decide)]
  refine wpAny_pure (wpAny_bind (wpAny_mono (hq _ (h.objs.size + 1) ⟨kp, Heap.get?_none_of_le (Nat.le_succ _), h.objs.size, hget, Heap.get?_none_of_le (Nat.le_refl _), ?_⟩) (fun r s' hr => ?_) fun _ _ x => x))
  · exact Heap.get?_push_of_some _ (Heap.get?_push_at rfl rfl)
  · obtain ⟨rfl, hQ⟩ := hr
    wp_walk
    exact hQ
theorem exc_call {E : Value → Shared → Prop} {K : Frag} (F : ExcBaseFacts B newId initId bmB) (T : BmOk B bm) {rest : List Value} {fI : Addr} {Q : Value → Shared → Prop} (X : K.In h)
    (hC : h.get? C = some (excClassObj nm q C N bs bm hdct sn sub ab col dd k0 k1 k2 k3 k5 newId)) (hi : findIn K (.ref C) "__init__" = some (some (.ref fI))) (hf : typeIn K (.ref fI) = some (.type "function"))
    (hq : ∀ h' e, Heap.MadeExcOf h h' e (.ref C) rest →
      wpAny (model prog w) (A.under (.builtin "type.__call__" ⟨.ref C :: rest, []⟩)) (call (.ref fI) (.ref e :: rest)) (fun r s' => r = .none ∧ Q (.ref e) s') E ⟨h', g, d, t, os⟩) (hrest : rest.length ≤ sizeLine := by size_fits) :
    wpAny (model prog w) A (call (.ref C) rest) Q E ⟨h, g, d, t, os⟩ := by
  have f1 := tc_lookup
  have f2 := tc_bind (.ref C)
  have hT : (⟨h, g, d, t, os⟩ : Shared).TypeIs (.ref C) "type" := ⟨_, hC, rfl⟩
  refine wpAny_call (codeAny_of_tree ?_)
  show wpAny _ _ (callAny (.ref C) _) _ _ _
  repeat (any_goals (first | assumption | with_reducible refine wpAny_loadPart_at hC ?_ | wp_step))
  refine ⟨rfl, ?_⟩
  refine codeAny_call_builtin_at (Code.quiet_builtin _ (by decide +kernel)) entry_typeCall (wpAny_check_type_call_sub hC (exc_type_call (hrest := hrest) F T X hC hi hf fun h' e hm => ?_))
  exact hq h' e hm
end
end Mine
set_option maxRecDepth 100000
namespace Mine
abbrev eiId : String := "Exception.__init__"
abbrev wrapObj (x : Addr) : Obj := { cls := .type "method-wrapper", data := .fields #[.builtin eiId, .ref x] }
theorem type_ei : typeOf (.builtin eiId) = pure (.type "wrapper_descriptor") := by kernel_rfl
theorem slot_wd_get : Slot "wrapper_descriptor" "__get__" "wrapper_descriptor.__get__" := .of (owner := "wrapper_descriptor") (n := "__get__") (by rw [typeLookup_type, builtinLookup_eq_fast]; kernel_rfl) (by decide +kernel) (by decide +kernel) (by decide +kernel)
  (by first | exact .inl (by decide +kernel) | exact .inr (by decide +kernel)) (by rw [isSubtype_type]; kernel_rfl)
theorem entry_wd_get : entryFor table "wrapper_descriptor.__get__" = some Builtin.«wrapper_descriptor.__get__» := entryFor_of_tree (by kernel_rfl)
theorem args_wd_get (a b c : Value) : argsOk "wrapper_descriptor.__get__" ⟨[a, b, c], []⟩ := by unfold argsOk; kernel_rfl
theorem owner_ei : (".".intercalate (eiId.cutAt '.').dropLast) = "Exception" := by
  have e0 : eiId.cutAt '.' = ["Exception", "__init__"] := by first | rfl | decide +kernel
  rw [e0]; decide +kernel
section
variable {prog : Program} {w : World} {A : Around} {E : Value → Shared → Prop} {h : Heap} {g : Array GenState} {d : Drawn} {t : Nat} {os : OsState} {K : Frag}
theorem wd_get {e C : Addr} {oe : Obj} {Q : Fin → Shared → Prop} (X : K.In h) (he : h.get? e = some oe) (hc : oe.cls = .ref C) (hsub : mroIn K C (.type "Exception") = some true)
    (hq : Q (.done (.ret (.ref h.objs.size))) ⟨h.push (wrapObj e), g, d, t, os⟩) : wpAny (model prog w) A (Builtin.«wrapper_descriptor.__get__» ⟨[.builtin eiId, .ref e, .ref C], []⟩) Q E ⟨h, g, d, t, os⟩ := by
  have hT : (⟨h, g, d, t, os⟩ : Shared).TypeIs (.ref e) "x" ∨ True := .inr trivial
  have L1 : Looks (model prog w) h (isInstance (.ref e) (.type "Exception")) true := by
    have L0 : Looks (model prog w) h (typeOf (.ref e)) (.ref C) := (Looks.ld (part := none) he).andThen (by rw [hc]; exact .now)
    exact L0.andThen (looks_mroIn X hsub)
  unfold Builtin.«wrapper_descriptor.__get__»
  repeat (first
    | (with_reducible refine Looks.at L1 ?_)
    | (rw [owner_ei])
    | wp_step
    | dsimp only)
  all_goals exact hq
theorem super_ga {so D x C : Addr} {ox : Obj} {l₀ l : List Value} {name : Str} {tk : Tok} {Q : Fin → Shared → Prop}
    (hso : h.get? so = some { cls := .type "super", dict := none, data := .fields #[.ref D, .ref x, .ref C], slots := #[] }) (hno : Looks (model prog w) h (opaqueClassAbove (.ref C)) none)
    (hC : Looks (model prog w) h (mroOf (.ref C)) l₀) (hl : (l₀.dropWhile (· != .ref D)).drop 1 = l) (X : K.In h)
    (hf : alongIn K name l = some (some (.builtin eiId))) (hx : h.get? x = some ox) (hxc : ox.cls = .ref C) (hsub : mroIn K C (.type "Exception") = some true) (hxC : x ≠ C) (hn : (name == ("__class__" : Str)) = false)
    (hq : Q (.done (.ret (.ref h.objs.size))) ⟨h.push (wrapObj x), g, d, t, os⟩) :
    wpAny (model prog w) A (Builtin.«super.__getattribute__» ⟨[.ref so, .str name tk], []⟩) Q E ⟨h, g, d, t, os⟩ := by
  have hlk := slot_wd_get.lookup
  have hne : (Value.ref x == Value.ref C) = false := by simp [hxC]
  have hTf : (⟨h, g, d, t, os⟩ : Shared).TypeIs (.builtin eiId) "wrapper_descriptor" := type_ei
  have hte := type_ei
  have hdt : ({ cls := .type "super", dict := none, data := .fields #[.ref D, .ref x, .ref C], slots := #[] } : Obj).data = .fields #[.ref D, .ref x, .ref C] := rfl
  have f0 : (#[.ref D, .ref x, .ref C] : Array Value)[0]? = some (.ref D) := rfl
  have f1 : (#[.ref D, .ref x, .ref C] : Array Value)[1]? = some (.ref x) := rfl
  have f2 : (#[.ref D, .ref x, .ref C] : Array Value)[2]? = some (.ref C) := rfl
  unfold Builtin.«super.__getattribute__»
  repeat (first
    | (with_reducible refine wpAny_field hso hdt f0 ?_) | (with_reducible refine wpAny_field hso hdt f1 ?_) | (with_reducible refine wpAny_field hso hdt f2 ?_)
    | (with_reducible refine ks_wpAny_notOpaque hno ?_)
    | (with_reducible refine Looks.at hC ?_; rw [hl])
    | (refine ks_forIn_along X (fun _ _ => rfl) rfl ?_ hf)
    | (with_reducible refine wpAny_typeOf hTf ?_)
    | (with_reducible refine wpAny_call_entry slot_wd_get hTf entry_wd_get (wd_get X hx hxc hsub ?_) (args_wd_get _ _ _))
    | (with_reducible refine ⟨_, rfl, ?_⟩)
    | (simp only [hn, hne, Bool.or_false, Bool.false_eq_true, if_false])
    | wp_step
    | dsimp only)
  all_goals exact hq
theorem super_get {so D x C : Addr} {ox : Obj} {l₀ l : List Value} {name : Str} {pl : Sem Bool} {Q : Value × List Value → Shared → Prop}
    (hso : h.get? so = some { cls := .type "super", dict := none, data := .fields #[.ref D, .ref x, .ref C], slots := #[] }) (hno : Looks (model prog w) h (opaqueClassAbove (.ref C)) none)
    (hC : Looks (model prog w) h (mroOf (.ref C)) l₀) (hl : (l₀.dropWhile (· != .ref D)).drop 1 = l) (X : K.In h)
    (hf : alongIn K name l = some (some (.builtin eiId))) (hx : h.get? x = some ox) (hxc : ox.cls = .ref C) (hsub : mroIn K C (.type "Exception") = some true) (hxC : x ≠ C) (hn : (name == ("__class__" : Str)) = false)
    (hq : Q (.ref h.objs.size, []) ⟨h.push (wrapObj x), g, d, t + 1, os⟩) :
    wpAny (model prog w) A (getMethod (.ref so) name pl) Q E ⟨h, g, d, t, os⟩ := by
  have hlk := F.ks_slot_super_ga.lookup
  have hcan := F.ks_canon_super_ga
  have hT : ∀ t', (⟨h, g, d, t', os⟩ : Shared).TypeIs (.ref so) "super" := fun _ => ⟨_, hso, rfl⟩
  unfold getMethod
  refine wpAny_bind (wpAny_specialOf (hT _) hlk ?_)
  show wpAny _ _ (if (Manifest.canonical "super.__getattribute__" != "object.__getattribute__") = true then _ else _) _ _ _
  rw [if_pos hcan]
  unfold getAttr getAttrBy
  refine wpAny_bind (wpAny_bind (wpAny_mkText (wpAny_holding (wpAny_bind (wpAny_typeOf (hT _) (wpAny_bind (wpAny_of_eq hlk ?_)))))))
  show wpAny _ _ (getAttrByItsOwn (.ref so) (.str name t) (.type "super") (.builtin "super.__getattribute__") true false) _ _ _
  unfold getAttrByItsOwn hookBefore callGetattribute boundAndCalled
  refine wpAny_bind (wpAny_of_eq (show (if onTheHeap (.type "super") then typeLookup (.type "super") "__getattr__" else pure none) = pure none from rfl) ?_)
  refine wpAny_bind (wpAny_attempt (wpAny_holding ?_))
  show wpAny _ _ (bindSpecial (.builtin "super.__getattribute__") (.ref so) >>= _) _ _ _
  refine wpAny_bind (wpAny_of_eq (F.ks_slot_super_ga.bind _) ?_)
  refine wpAny_mono (Q := fun v s' => v = .ref h.objs.size ∧ s' = ⟨h.push (wrapObj x), g, d, t + 1, os⟩) (E := fun _ _ => False)
    (wpAny_call_entry F.ks_slot_super_ga (hT _) F.ks_entry_super_ga (super_ga hso hno hC hl X hf hx hxc hsub hxC hn ⟨_, rfl, rfl, rfl⟩) (F.ks_gaArgs_super _ _)) (fun v s' hv => ?_) fun _ _ z => z.elim
  obtain ⟨rfl, rfl⟩ := hv
  exact wpAny_pure (wpAny_pure hq)
end
end Mine
set_option maxRecDepth 100000
namespace Mine
theorem ifSo {α : Type} {M : Model} {A : Around} {E : Value → Shared → Prop} {s : Shared} {c : Bool} {a b : Sem α} {Q : α → Shared → Prop} (hc : c = true) (h : wpAny M A a Q E s) : wpAny M A (if c = true then a else b) Q E s := by
  rw [if_pos hc]; exact h
section
variable {prog : Program} {w : World} {A : Around} {E : Value → Shared → Prop} {h : Heap} {g : Array GenState} {d : Drawn} {t : Nat} {os : OsState} {K : Frag}
theorem check_ei {M : Model} {nm q : Str} {C N : Addr} {bs bm : List Value} {hdct : Bool} {sn : List Str} {sub : List Value} {ab : Bool} {col : Option Bool} {dd : Option Addr} {k0 k1 k2 k3 k5 : Option Value} {newId : String}
    {e : Addr} {oe : Obj} {rest : List Value} {Q : Unit → Shared → Prop} (T : BmOk "Exception" bm)
    (hC : h.get? C = some (excClassObj nm q C N bs bm hdct sn sub ab col dd k0 k1 k2 k3 k5 newId)) (he : h.get? e = some oe) (hcls : oe.cls = .ref C) (hq : Q () ⟨h, g, d, t, os⟩) :
    wpAny M A (checkBoundCall eiId ⟨.ref e :: rest, []⟩) Q E ⟨h, g, d, t, os⟩ := by
  have hcB : (Value.ref C :: bm).contains (.type "Exception") = true := by rw [List.contains_cons, T.hB, Bool.or_true]
  have F := F.excBase_Exception
  have hshort := F.noStar
  simp only [checkBoundCall, F.initKind, F.initRow]
  repeat (first | (with_reducible refine wpAny_loadPart_at he ?_; rw [hcls]) | with_reducible refine wpAny_loadPart_at hC ?_ | (with_reducible refine wpAny_isSubtype_exc hC ?_; rw [hcB]) | wp_step)
  refine wpAny_onRaise ?_
  rw [show ∀ (a b : String) (n : Nat), Bind.check ⟨.positional, "*", "Exception", .self, [⟨"args", .varPos, false⟩]⟩ a b n (List.map (fun x => x.fst) ({ pos := Value.ref e :: rest } : Args).kw) = pure () from
    fun a b n => check_star_args _ _ _ _ _ _]
  exact wpAny_pure hq
theorem entry_ei : entryFor table eiId = some Builtin.«BaseException.__init__» := F.excBase_Exception.initEntry
theorem wrap_call {nm qn : Str} {C N : Addr} {bs bm : List Value} {hdct : Bool} {sn : List Str} {sub : List Value} {ab : Bool} {col : Option Bool} {dd : Option Addr} {k0 k1 k2 k3 k5 : Option Value} {newId : String} {q e : Addr} {v a0 : Value} {oe : Obj} {vs : Array Value} {Q : Value → Shared → Prop} (T : BmOk "Exception" bm)
    (hC : h.get? C = some (excClassObj nm qn C N bs bm hdct sn sub ab col dd k0 k1 k2 k3 k5 newId)) (hq : h.get? q = some (wrapObj e)) (he : h.get? e = some oe) (hcls : oe.cls = .ref C) (hd : oe.data = .fields vs) (h0 : vs[0]? = some a0)
    (hQ : ∀ h' t', (∀ b o, b ≠ e → h.get? b = some o → h'.get? b = some o) → h'.get? e = some { oe with data := .fields (vs.setIfInBounds 0 (.ref t')) } → Q .none ⟨h', g, d, t, os⟩) :
    wpAny (model prog w) A (call (.ref q) [v]) Q E ⟨h, g, d, t, os⟩ := by
  refine wpAny_call (codeAny_of_tree ?_)
  show wpAny _ A.in1 (callAny (.ref q) ⟨[v], []⟩) _ _ _
  simp only [callAny]
  refine wpAny_bind (wpAny_load hq ?_)
  simp only [wrapObj, show (Value.type "method-wrapper" == Value.type "method" || Value.type "method-wrapper" == Value.type "builtin_function_or_method" || Value.type "method-wrapper" == Value.type "method-wrapper") = true by decide, if_true]
  refine ifSo (by decide) ?_
  refine wpAny_bind (check_ei T hC he hcls ?_)
  refine wpAny_bind (wpAny_pure (wpAny_pure ?_))
  refine ⟨Code.quiet_builtin _ (by decide +kernel), codeAny_builtin entry_ei ?_⟩
  have hsz : 0 < vs.size := (Array.getElem?_eq_some_iff.mp h0).1
  have he₁ := Heap.get?_push_of_some { cls := .type "tuple", data := .seq [v].toArray } he
  have one : [v].length ≤ sizeLine := by rw [sizeLine_eq]; exact Nat.le_of_ble_eq_true rfl
  show wpAny _ _ (newTuple [v] >>= _) _ _ _
  refine wpAny_bind (wpAny_newTuple ?_ one)
  refine wpAny_bind (wpAny_bind (wpAny_field he₁ hd h0 (wpAny_bind (wpAny_setField he₁ hd hsz ?_))))
  have hd₃ := Obj.data_mapFields hd (·.setIfInBounds 0 (Value.ref h.objs.size))
  have fin : Q .none ⟨(h.push { cls := .type "tuple", data := .seq [v].toArray }).update e (Obj.mapFields (·.setIfInBounds 0 (Value.ref h.objs.size))), g, d, t, os⟩ := by
    refine hQ _ h.objs.size (fun b o nb q => (Heap.get?_update_other _ _ (Ne.symm nb)).trans (Heap.get?_push_of_some _ q)) ?_
    rw [Heap.get?_update_self (Obj.mapFields (·.setIfInBounds 0 (Value.ref h.objs.size))) he₁ (Obj.isFreed_of_fields hd₃)]
    congr 1
    obtain ⟨oc, od, odt, osl⟩ := oe
    dsimp only at hd
    subst hd
    rfl
  dsimp only
  split
  · repeat (first | exact fin | wp_step)
  · exact wpAny_pure (wpAny_pure fin)
end
end Mine
set_option maxRecDepth 100000
namespace Mine
def KB (e : Addr) (h h' : Heap) : Prop := ∀ b o, b ≠ e → h.get? b = some o → h'.get? b = some o
theorem KB.trans {e : Addr} {a b c : Heap} (x : KB e a b) (y : KB e b c) : KB e a c := fun p o n q => y p o n (x p o n q)
theorem KB.of {e : Addr} {a b : Heap} (k : ∀ p o, a.get? p = some o → b.get? p = some o) : KB e a b := fun p o _ q => k p o q
theorem KB.ns {e : Addr} {a b : Heap} (k : KB e a b) {L : Addr} {m : Str → Option Value} (n : a.Ns L m) (ne : L ≠ e) : b.Ns L m := n.at' fun o q => k L o ne q
abbrev superObj (D x C : Addr) : Obj := { cls := .type "super", dict := none, data := .fields #[.ref D, .ref x, .ref C], slots := #[] }
section
theorem callWith_1 {M : Model} {A : Around} {E : Value → Shared → Prop} {s : Shared} {pos : Pos} {q : Addr} {env : Env} {x : Str} {np : Pos} {m : Str → Option Value} {v : Value} {Q : Value → Shared → Prop} {kp : Keeper}
    (hk : Looks M s.heap (keeperOf (.ref q)) kp) (hkp : kp = .frame ∨ kp = .machine ∨ kp = .boundFrame) (hkind : env.scope.kind = .function) (hl : env.kindOf x = some .local) (hn : s.heap.Ns env.locals m) (hv : m x = some v) (hd : (x == ("__debug__" : Str)) = false)
    (h : wpAny M A (call (.ref q) [v]) Q E s) : wpAny M A (callWith pos (.ref q) [] (backTo pos (starEach [.Name x np] env)) []) Q E s := by
  have he : starEach [.Name x np] env = (false, eval (.Name x np) env) :: starEach [] env := rfl
  rw [he]
  refine callWith_of (P := fun h => h = s.heap) rfl (fun h e => ⟨kp, hkp, e ▸ hk⟩) (evalArgs_plain ?_)
  show wpAny M A (spliced (backTo pos ((false, eval (.Name x np) env) :: starEach [] env))) _ _ _
  rw [← he]
  exact PyProof.Rows.args_cons (PySem.wpAny_Name (wpAny_loadName_local hkind hl hn hv (PyProof.Rows.args_nil ⟨rfl, h⟩)) hd) he
theorem sup_init {G : Amb} {A : Around} {s : Shared} {R : Result → Shared → Prop} {Mid End : Heap → Heap → Prop} {name qual self what val attr : Str} {params : Arguments} {scope : Scope} {dV kV doc pm ct oc ccl cl v v2 : Value} {an od cdd cld : Option Addr} {osl ccs csl : Array (Option Value)} {f cc cda D C e : Addr}
    {p0 p1 p2 p3 p4 p5 p6 p7 p8 p9 : Pos} {ar : Arg} {vs : Array Value} {file : Str} {tf : Tok} {cdD : ClassData} {args : List Value} {binds : List (Str × Value)} {oe : Obj}
    (ho : G.K.lookup f = some ⟨oc, od, .func (ksFn name qual params [.Expr (.Call (.Attribute (.Call (.Name "super" p0) [] [] p1) "__init__" p2) [.Name what p3] [] p4) p5, .Assign [.Attribute (.Name self p6) attr p7] (.Name val p8) p9] scope dV kV doc pm an (.ref cda) ct cc), osl⟩)
    (hcd : codeIn G.K (.ref cda) qual = true) (hroom : A.depth < recursionLimit) (hbase : G.h₀.StaysIn s.heap) (he : s.heap.get? e = some oe) (hec : oe.cls = .ref C) (hed : ∀ c, oe.data ≠ .cls c) (heG : G.h₀.get? e = none)
    (hp : (params.posonlyargs ++ params.args).head? = some ar) (har : ar.arg = self)
    (hbind : bindArgs (ksFn name qual params [.Expr (.Call (.Attribute (.Call (.Name "super" p0) [] [] p1) "__init__" p2) [.Name what p3] [] p4) p5, .Assign [.Attribute (.Name self p6) attr p7] (.Name val p8) p9] scope dV kV doc pm an (.ref cda) ct cc) ⟨args, []⟩ = pure binds)
    (b1 : binds.reverse.lookup self = some (.ref e)) (b2 : binds.reverse.lookup what = some v) (b3 : binds.reverse.lookup val = some v2)
    (hcode : G.K.lookup cda = some ⟨ccl, cdd, .fields vs, ccs⟩) (hvs : vs[2]? = some (.str file tf)) (hfile : ((G.prog.main.file : Str) == file) = true)
    (hcell : G.K.lookup cc = some ⟨cl, cld, .cell (some (.ref D)), csl⟩) (hD : clsIn G.K D = some cdD) (hsub : mroIn G.K C (.ref D) = some true)
    (hg : G.mg "super" = none) (hb : G.mb "super" = some (.type "super"))
    (hks : scope.names.lookup ("super" : Str) = some .globalImplicit) (hkc : scope.names.lookup ("__class__" : Str) = some .free) (hk1 : scope.names.lookup self = some .local) (hk2 : scope.names.lookup what = some .local) (hk3 : scope.names.lookup val = some .local)
    (htop : (G.prog.main.scope.names.lookup ("super" : Str)).isSome = false)
    (hloc : ∀ x ∈ binds, scope.names.lookup x.1 = some .local) (hcells : ∀ x ∈ scope.names, x.2 ≠ .cell)
    (hget : ∀ (s₁ : Shared) so A₁ pl Q E, (∀ b o, s.heap.get? b = some o → s₁.heap.get? b = some o) → s₁.heap.get? so = some (superObj D e C) →
      (∀ q h', (∀ b o, s₁.heap.get? b = some o → h'.get? b = some o) → (∃ kp, (kp = Keeper.frame ∨ kp = Keeper.machine ∨ kp = Keeper.boundFrame) ∧ Looks (model G.prog G.w) h' (keeperOf (.ref q)) kp) →
        (∀ A₂ E₂ Q₂ tk, A₂.depth = A.depth + 1 → (∀ h₂ tk₂, KB e h' h₂ → Mid h' h₂ → Q₂ .none { s₁ with heap := h₂, toks := tk₂ }) → wpAny (model G.prog G.w) A₂ (call (.ref q) [v]) Q₂ E₂ { s₁ with heap := h', toks := tk }) → Q (.ref q, []) { s₁ with heap := h', toks := s₁.toks + 1 }) →
      wpAny (model G.prog G.w) A₁ (getMethod (.ref so) "__init__" pl) Q E s₁)
    (hset : ∀ (s₁ : Shared) h₁ A₁ E Q, (∀ b o, s.heap.get? b = some o → h₁.get? b = some o) → KB e h₁ s₁.heap → Mid h₁ s₁.heap → (∀ h₂ tk, KB e h₁ h₂ → End h₁ h₂ → Q () { s₁ with heap := h₂, toks := tk }) → wpAny (model G.prog G.w) A₁ (setAttr (.ref e) attr v2) Q E s₁)
    (hR : ∀ h₁ h₂ tk, (∀ b o, s.heap.get? b = some o → h₁.get? b = some o) → KB e h₁ h₂ → End h₁ h₂ → R (.ok (.ret .none)) { s with heap := h₂, toks := tk })
    {pl : Env → Sem Bool} (hcall : ∀ env, eval (.Call (.Attribute (.Call (.Name "super" p0) [] [] p1) "__init__" p2) [.Name what p3] [] p4) env = (do
      let ov ← attributeBase (.Call (.Name "super" p0) [] [] p1) "__init__" env (eval (.Call (.Name "super" p0) [] [] p1) env)
      standAt p2.atName
      let (f, first) ← holding [ov] (getMethod ov "__init__" (pl env))
      callWith p4 f first (backTo p4 (starEach [.Name what p3] env)) []) := by intro _; rfl)
    (hd1 : (self == ("__debug__" : Str)) = false := by decide) (hd2 : (what == ("__debug__" : Str)) = false := by decide) (hd3 : (val == ("__debug__" : Str)) = false := by decide)
    (hco : scope.isCoroutine = false := by rfl) (hgen : scope.isGenerator = false := by rfl) (hk : scope.kind = .function := by rfl) : codeAny (model G.prog G.w) A (.call (.ref f) ⟨args, []⟩) R s := by
  subst har
  have X := G.X.keeps hbase
  refine ks_codeAny_call_defAt (binds := binds) hroom (X _ _ ho) rfl (G.lim.keeps hbase) (codeRec_of X hcd) rfl (fun _ _ _ _ hh => wpAny_of_eq hbind hh) hcells hloc (fun h₁ hns hk₁ => ?_) hco hgen hk
  generalize hL : s.heap.objs.size = L at *
  have hLe : L ≠ e := fun q => by have := Heap.lt_size he; rw [hL, q] at this; exact absurd this (Nat.lt_irrefl _)
  have X₁ := X.keeps hk₁
  have e₁ := hk₁ _ _ he
  have base₁ : G.h₀.StaysIn h₁ := fun b o q => hk₁ _ _ (hbase b o q)
  obtain ⟨oD, hD1, hD2⟩ : ∃ oD, h₁.get? D = some oD ∧ oD.data = .cls cdD := by
    unfold clsIn at hD
    split at hD
    · rename_i c d cd' sl ho
      cases hD
      exact ⟨_, X₁ _ _ ho, rfl⟩
    · cases hD
  refine ks_wpAt_execs_cons (ks_wpAt_Expr_any (ks_wpAt_MethodCall (ks_wpAt_super_base (env := ksEnv qual scope L f (.ref cda) cc) hks hkc (by decide) rfl (X₁ _ _ ho) rfl hp rfl (X₁ _ _ hcode) rfl hvs hfile htop ?_) (hcall _)) (by show (scope.kind == _ && _) = false; rw [hk]; rfl))
  refine ks_loadName_global (env := ksEnv qual scope L f (.ref cda) cc) hk hks (loadGlobal_builtin (env := ksEnv qual scope L f (.ref cda) cc) (G.ng.keeps base₁) hg (G.nb.keeps base₁) hb ⟨rfl, ?_⟩)
  refine wpAny_loadName_free (env := ksEnv qual scope L f (.ref cda) cc) hk hkc rfl ⟨_, X₁ _ _ hcell, rfl⟩ ?_
  refine wpAny_loadName_local (env := ksEnv qual scope L f (.ref cda) cc) hk hk1 hns b1 ?_
  refine ks_wpAny_isType_cls hD1 hD2 ⟨rfl, ?_⟩
  refine ks_wpAny_call_super hD1 hD2 e₁ hec hed (looks_mroIn X₁ hsub) (fun h₂ hso k₂ => ?_)
  refine hget _ _ _ _ _ _ (fun b o q => k₂ _ _ (hk₁ _ _ q)) hso (fun q h₃ k₃ ⟨kp, hkp, hlk⟩ hcl => ?_)
  have k13 : ∀ b o, h₁.get? b = some o → h₃.get? b = some o := fun b o q => k₃ _ _ (k₂ _ _ q)
  refine callWith_1 (env := ksEnv qual scope L f (.ref cda) cc) hlk hkp hk hk2 (hns.keeps k13) b2 hd2 (hcl _ _ _ _ rfl fun h₄ tk₄ K₄ M₄ => ?_)
  refine ks_wpAt_execs_cons (ks_wpAt_Assign_Attr (_root_.PySem.wpAt_of_wpAny (PySem.wpAny_Name (wpAny_loadName_local (env := ksEnv qual scope L f (.ref cda) cc) hk hk3 ((KB.ns (KB.of k13) hns hLe |> fun n => KB.ns K₄ n hLe)) b3 ?_) hd3)) rfl)
  refine PySem.wpAny_Name (wpAny_loadName_local (env := ksEnv qual scope L f (.ref cda) cc) hk hk1 ((KB.ns (KB.of k13) hns hLe |> fun n => KB.ns K₄ n hLe)) b1 ?_) hd1
  refine hset _ h₃ _ _ _ (fun b o q => k13 _ _ (hk₁ _ _ q)) K₄ M₄ fun h₅ tk₅ K₅ E₅ => ?_
  refine _root_.PySem.wpAt_of_wpAny (wpAny_execs_nil ?_)
  exact hR h₃ h₅ tk₅ (fun b o q => k13 _ _ (hk₁ _ _ q)) K₅ E₅
end
end Mine
end
section
open PySem PySem.W PyProof.Rows PySem.Calls
namespace Mine
def PostX (G : Amb) (L : Addr) (ρ : Loc) (σ : St) (C : Addr) (s : Shared) (k : Addr → Addr → Addr → St → Prop) (v : Value) (s₁ : Shared) : Prop :=
  ∃ e dx h' tk σ', v = .ref e ∧ s₁ = { s with heap := h', toks := tk } ∧ Ext σ s.heap h' σ' ∧ S G L ρ σ' h' ∧ ExcAt h' e C dx ∧ σ' e = none ∧ s.heap.get? e = none ∧ k e C dx σ'
def MkX (G : Amb) (A : Around) (L : Addr) (ρ : Loc) (σ : St) (C : Addr) (ds : List V) (k : Addr → Addr → Addr → St → Prop) : Prop :=
  ∀ s vs, S G L ρ σ s.heap → RepAll s.heap vs ds → wpAny (model G.prog G.w) A (call (.ref C) vs) (PostX G L ρ σ C s k) never s
theorem PostX.trans {G : Amb} {L : Addr} {ρ : Loc} {σ σ₁ : St} {C : Addr} {s : Shared} {h₁ tk} {k : Addr → Addr → Addr → St → Prop} {v s'} (x : Ext σ s.heap h₁ σ₁) (y : PostX G L ρ σ₁ C { s with heap := h₁, toks := tk } k v s') : PostX G L ρ σ C s k v s' := by
  obtain ⟨e, dx, h', tk', σ', a, b, c, d, f, g, i, j⟩ := y
  refine ⟨e, dx, h', tk', σ', a, b, x.trans c, d, f, g, ?_, j⟩
  cases q : s.heap.get? e with
  | none => rfl
  | some o => obtain ⟨o', e'⟩ := x.alive _ o q; rw [show h₁.get? e = none from i] at e'; cases e'
section
variable {G : Amb} {A : Around} {env : Env} {L : Addr} {ρ : Loc} {σ : St} {k : Addr → Addr → Addr → St → Prop}
theorem rv_RaiseCall {func e : Expr} {rest : List Expr} {cpos pos : Pos} {C : Addr} {nm q : Str} {N : Addr} {bs bm : List Value} {hdct : Bool} {sn : List Str} {sub : List Value} {ab : Bool} {col : Option Bool} {dd : Option Addr} {k0 k1 k2 k3 k5 : Option Value} {newId : String}
    (hC : G.K.lookup C = some (excClassObj nm q C N bs bm hdct sn sub ab col dd k0 k1 k2 k3 k5 newId)) (hbase : bm.contains (.type "BaseException") = true) (hh : A.handled = none) (hck : CK G (.ref C))
    (h : EV G A env ρ σ func (fun d σ₁ => d = .glob (.ref C) ∧ LV G A env ρ σ₁ cpos (e :: rest) (fun ds σ₂ => MkX G A env.locals ρ σ₂ C ds k) never) never)
    (he : eval (.Call func (e :: rest) [] cpos) env = (do callWith cpos (← eval func env) [] (backTo cpos (starEach (e :: rest) env)) (backToKw cpos (keywordEach [] env))) := by rfl)
    (hs : starEach (e :: rest) env = (false, eval e env) :: starEach rest env := by rfl) (hplain : (backTo cpos (starEach rest env)).any (·.1) = false := by rfl) :
    RV G A env ρ σ (exec (.Raise (some (.Call func (e :: rest) [] cpos)) none pos) env) k := by
  refine rv_Raise hC hbase hh fun s x => ?_
  show wpAny _ _ _ (PostX G env.locals ρ σ C s k) _ _
  refine Call_ (wpAny_mono (h s x) (fun v s₁ p => ?_) fun _ _ e => e) he
  refine p.elim fun h₁ t₁ d σ₁ E₁ x₁ r₁ q₉ => ?_; obtain ⟨rfl, q⟩ := q₉
  cases r₁
  have h' := q { s with heap := h₁, toks := t₁ } x₁
  rw [hs] at h' ⊢
  refine callWith_of (P := G.K.In) (by show ((false || (backTo cpos (starEach rest env)).any (·.1)) || false) = false; rw [hplain]; rfl) (hck.looks) (evalArgs_plain (wpAny_mono h' (fun vs s₁ p => ?_) fun _ _ e => e))
  refine p.elim fun h₂ t₂ ds σ₂ E₂ x₂ r₂ q₂ => ?_
  exact ⟨x₂.In, wpAny_mono (q₂ _ vs x₂ r₂) (fun _ _ q => (q.trans (tk := t₂) E₂).trans (tk := t₁) E₁) fun _ _ e => e⟩
end
end Mine
namespace Mine
section
variable {G : Amb} {A : Around} {env : Env} {L : Addr} {ρ : Loc} {σ : St} {k : V → St → Prop} {X : Value → Shared → Prop}
def JV (G : Amb) (A : Around) (env : Env) (ρ : Loc) (σ : St) (out : Str) (parts : List Expr) (k : V → St → Prop) (X : Value → Shared → Prop) : Prop :=
  ∀ s, S G env.locals ρ σ s.heap → wpAny (model G.prog G.w) A (joinParts out (evalEach parts env)) (Post G env.locals ρ σ s k) X s
theorem jv_nil {out : Str} (hz : out.length ≤ sizeLine) (h : k (.str out) σ) : JV G A env ρ σ out [] k X := fun s x => joinParts_nil (.tok x (.str _ _) h) hz
theorem jv_cons {out : Str} {e : Expr} {rest : List Expr} (h : EV G A env ρ σ e (fun d σ₁ => ∃ y, d = .str y ∧ (out ++ y).length ≤ sizeLine ∧ JV G A env ρ σ₁ (out ++ y) rest k X) X) : JV G A env ρ σ out (e :: rest) k X := fun s x => by
  show wpAny _ _ (joinParts out (eval e env :: evalEach rest env)) _ _ _
  refine joinParts_cons (wpAny_mono (h s x) (fun v s₁ p => ?_) fun _ _ e => e)
  refine p.elim fun h₁ t₁ d σ₁ E₁ x₁ r₁ q₉ => ?_; obtain ⟨y, rfl, hz, q⟩ := q₉
  cases r₁
  exact ⟨hz, wpAny_mono (q _ x₁) (fun _ _ q => Post.trans E₁ q) fun _ _ e => e⟩
theorem jb_cons {out : Str} {n m : Nat} {e : Expr} {rest : List Expr} (hn : out.length ≤ n) (hm : Nat.ble (n + m) 100000 = true)
    (h : EV G A env ρ σ e (fun d σ₁ => ∃ y, d = .str y ∧ y.length ≤ m ∧ (∀ o : Str, o.length ≤ n + m → JV G A env ρ σ₁ o rest k X)) X) : JV G A env ρ σ out (e :: rest) k X := by
  refine jv_cons (h.mono fun d σ' ⟨y, e, hy, q⟩ => ?_)
  have hl : (out ++ y).length ≤ n + m := by rw [strLen_append]; exact Nat.add_le_add hn hy
  exact ⟨y, e, Nat.le_trans hl (Nat.le_trans (Nat.le_of_ble_eq_true hm) (by rw [sizeLine_eq]; decide)), q _ hl⟩
theorem jb_nil {out : Str} {n : Nat} (hn : out.length ≤ n) (hm : Nat.ble n 100000 = true) (h : k (.str out) σ) : JV G A env ρ σ out [] k X :=
  jv_nil (Nat.le_trans hn (Nat.le_trans (Nat.le_of_ble_eq_true hm) (by rw [sizeLine_eq]; decide))) h
theorem ev_JoinedStr {v₁ v₂ : Expr} {rest : List Expr} {pos : Pos} (h : JV G A env ρ σ Str.empty (v₁ :: v₂ :: rest) k X) : EV G A env ρ σ (.JoinedStr (v₁ :: v₂ :: rest) pos) k X := fun s x => JoinedStr_many (h s x)
theorem ev_FV {value : Expr} {pos : Pos} (h : EV G A env ρ σ value (fun d σ₁ => ∃ y, d = .str y ∧ y.length ≤ sizeLine ∧ k (.str y) σ₁) X) : EV G A env ρ σ (.FormattedValue value (-1) none pos) k X := fun s x => by
  refine FormattedValue_plain (wpAny_mono (h s x) (fun v s₁ p => ?_) fun _ _ e => e)
  refine p.elim fun h₁ t₁ d σ₁ E₁ x₁ r₁ q₉ => ?_; obtain ⟨y, rfl, hz, q⟩ := q₉
  cases r₁
  exact formatField_str (fun t' tk => ⟨h₁, tk, _, σ₁, rfl, E₁, x₁, .str _ _, q⟩) hz
end
end Mine
end
section
open PySem PySem.W PySem.Calls
set_option maxRecDepth 100000
namespace Mine
section
variable {prog : Program} {w : World} {A : Around} {E : Value → Shared → Prop} {s : Shared} {K : Frag} {x C : Addr} {ox : Obj} {od : Option Obj} {name : Str} {v : Value} {Q : Value → Shared → Prop}
abbrev bga : String := "BaseException.__getattribute__"
theorem exc_oga {tk : Tok} {Q : Fin → Shared → Prop} (X : K.In s.heap) (I : InstAt s.heap x ox C od) (hf : findObj K C od name = some (.value v)) (h : Q (.done (.ret v)) s) :
    wpAny (model prog w) A (Builtin.«object.__getattribute__» ⟨[.ref x, .str name tk], []⟩) Q E s := by
  obtain ⟨hh, g, d, t, os⟩ := s
  have LT : Looks (model prog w) hh (typeOf (.ref x)) (.ref C) := I.cls ▸ (Looks.ld I.at_).andThen .now
  have LF := looks_find (M := model prog w) X I hf
  unfold Builtin.«object.__getattribute__»
  repeat (first
    | (with_reducible refine Looks.at LT ?_)
    | (with_reducible refine Looks.at LF ?_)
    | exact h
    | wp_step
    | dsimp only)
theorem exc_attr (X : K.In s.heap) (I : InstAt s.heap x ox C od) (hga : findIn K (.ref C) "__getattribute__" = some (some (.builtin bga))) (hgt : findIn K (.ref C) "__getattr__" = some none)
    (hsub : mroIn K C (.type "BaseException") = some true) (hf : findObj K C od name = some (.value v)) (hh : handedIn v = true) (h : Q v { s with toks := s.toks + 1 }) : wpAny (model prog w) A (getAttr (.ref x) name true) Q E s := by
  have FB := F.attrBase_Exception
  obtain ⟨hp, g, d, t, os⟩ := s
  have LT : Looks (model prog w) hp (typeOf (.ref x)) (.ref C) := I.cls ▸ (Looks.ld I.at_).andThen .now
  have sub : Looks (model prog w) hp (isInstance (.ref x) (.type "BaseException")) true := LT.andThen (looks_mroIn X hsub)
  have hx1 : (onTheHeap (Value.ref C) && Value.builtin bga == Value.builtin "object.__getattribute__") = false := by
    rw [show (Value.builtin bga == Value.builtin "object.__getattribute__") = false by decide +kernel]; rfl
  have hk : builtinKind bga = some .slot := by decide +kernel
  have hsplit : splitId bga = some ("BaseException", "__getattribute__") := by decide +kernel
  unfold getAttr getAttrBy
  refine wpAny_bind (wpAny_mkText (wpAny_holding (wpAny_bind (LT.at (wpAny_bind ((looks_findIn X hga).at ?_))))))
  dsimp only
  rw [hx1]
  show wpAny _ _ (getAttrByItsOwn (.ref x) (.str name t) (.ref C) (.builtin bga) true true) _ _ _
  unfold getAttrByItsOwn hookBefore callGetattribute boundAndCalled
  refine wpAny_bind (m := if onTheHeap (.ref C) then typeLookup (.ref C) "__getattr__" else pure none) ((looks_findIn X hgt).at ?_)
  refine wpAny_bind (wpAny_attempt (wpAny_holding ?_))
  show wpAny _ _ (bindSpecial (.builtin bga) (.ref x) >>= _) _ _ _
  refine wpAny_bind (wpAny_of_eq (FB.ga.bind _) ?_)
  refine wpAny_mono (Q := fun u s' => u = v ∧ s' = ⟨hp, g, d, t + 1, os⟩) (E := fun _ _ => False) (wpAny_call (codeAny_call_builtin FB.ga.plain F.entry_bexc_ga
    (@check_slot (model prog w) _ _ ⟨hp, g, d, t + 1, os⟩ bga "BaseException" "__getattribute__" (.ref x) [.str name t] [] _ hk hsplit sub (F.args_bexc_ga _ _) (exc_oga (s := ⟨hp, g, d, t + 1, os⟩) X I hf ?_)))) (fun u s' hu => ?_) fun _ _ z => z.elim
  · exact ⟨rfl, rfl⟩
  · obtain ⟨rfl, rfl⟩ := hu
    exact handed_on hh h
end
end Mine
end
section
open PySem PySem.W PyProof.Rows PySem.Calls
namespace Mine
structure Slide (ls : List Addr) (h h' : Heap) : Prop where
  keep : ∀ b o, b ∉ ls → h.get? b = some o → h'.get? b = some o
  up : h.UpToSlots h'
theorem S.slide {G : Amb} {L : Addr} {ρ : Loc} {σ : St} {h h' : Heap} {ls : List Addr} (x : S G L ρ σ h) (sl : Slide ls h h') (off : ∀ a ∈ ls, σ a = none ∧ G.h₀.get? a = none) (nt : ∀ a ∈ ls, ∀ xs n, h.get? a ≠ some (tupOf xs n)) : S G L ρ σ h' ∧ TupK h h' := by
  have t : TupK h h' := fun a xs n e => sl.keep a _ (fun m => nt a m _ _ e) e
  obtain ⟨m, n, r⟩ := x.frame.ns
  exact ⟨⟨fun b o e => sl.keep b o (fun m => by rw [(off b m).2] at e; cases e) (x.base b o e), fun a o e => (x.obj a o e).mono t fun ob hb => sl.keep a ob (fun m => by rw [(off a m).1] at e; cases e) hb, x.new,
    ⟨m, sl.up.ns n, fun z d q => let ⟨v, a, b⟩ := r z d q; ⟨v, a, b.mono t⟩⟩, x.off, x.above⟩, t⟩
def OutF (G : Amb) (σ : St) (h : Heap) (l : List Env) : Prop := ∀ env ∈ l, env.scope.kind ≠ .module ∧ ∃ L m, env.frame = some L ∧ h.Ns L m ∧ G.h₀.get? L = none ∧ σ L = none
theorem OutF.toFun {G : Amb} {σ : St} {h B : Heap} : ∀ {l : List Env}, OutF G σ h l → (∀ a ∈ l.filterMap (·.frame), B.get? a = none) → h.FunFrames B l
  | [], _, _ => trivial
  | env :: l, x, hB => by
    obtain ⟨hk, L, m, hf, n, _, _⟩ := x env (by simp)
    exact Heap.FunFrames.cons hk hf n (hB L (by simp [hf])) (OutF.toFun (fun e he => x e (by simp [he])) fun a ha => hB a (by
      rw [List.filterMap_cons, hf]; exact List.mem_cons_of_mem _ ha))
theorem OutF.ext {G : Amb} {σ σ' : St} {h h' : Heap} {l : List Env} (x : OutF G σ h l) (E : Ext σ h h' σ') : OutF G σ' h' l := fun env he => by
  obtain ⟨hk, L, m, hf, n, b, c⟩ := x env he
  exact ⟨hk, L, m, hf, E.ns L m c n, b, E.off c n⟩
section
variable {G : Amb} {A : Around} {L : Addr} {ρ : Loc} {σ : St}
theorem call_raw {f : Addr} {oc : Value} {od : Option Addr} {osl : Array (Option Value)} {name qual : Str} {params : Arguments} {body : List Stmt} {scope : Scope} {dV kV doc pm cdv ct : Value} {an : Option Addr} {n : Nat} (xs : List Str) {ds : List V} {ρ₀ : Loc} {s : Shared} {vs : List Value} {RR : Result → Shared → Prop}
    (ho : G.K.lookup f = some ⟨oc, od, .func (fnOf name qual params body scope dV kV doc pm an cdv ct), osl⟩) (hcd : codeIn G.K cdv qual = true) (R : Room A (n + 1)) (x : S G L ρ σ s.heap) (r : RepAll s.heap vs ds)
    (h : ∀ L' env h₁ tk, env = envX qual scope L' f cdv [] → L ≠ L' → s.heap.get? L' = none → σ L' = none → G.h₀.get? L' = none → (∀ b o, s.heap.get? b = some o → h₁.get? b = some o) → S G L' ρ₀ σ h₁ → S G L ρ σ h₁ →
      wpAny (model G.prog G.w) (A.deeper env) (execs body env) (fun f s' => RR (.ok (.ret (match f with | .ret v => v | _ => .none))) s')
        (fun e s' => wpAny (model G.prog G.w) (A.deeper env) (leaving env e) (fun _ s'' => RR (.error e) s'') (fun e' s'' => RR (.error e') s'') s') { s with heap := h₁, toks := tk })
    (hlen : ds.length = xs.length := by rfl) (hnd : xs.Nodup := by decide)
    (hbind : ∀ vs : List Value, vs.length = xs.length → bindArgs (fnOf name qual params body scope dV kV doc pm an cdv ct) ⟨vs, []⟩ = pure (xs.zip vs) := by
      intro vs hv; rcases vs with _ | ⟨a, _ | ⟨b, _ | ⟨c, _ | ⟨d, _⟩⟩⟩⟩ <;> first | rfl | (simp at hv))
    (hkind' : ∀ x ∈ xs, scope.names.lookup x = some .local := by decide) (hcn : cellsFrom 0 scope.names [] = [] := by rfl) (hρ' : ρ₀ = locs scope xs ds := by rfl)
    (hco : scope.isCoroutine = false := by rfl) (hgen : scope.isGenerator = false := by rfl) (hk : scope.kind = .function := by rfl) : codeAny (model G.prog G.w) A (.call (.ref f) ⟨vs, []⟩) RR s := by
  have hc : ∀ m, cellsFrom m scope.names [] = [] := fun m => by
    have e := cellsFrom_names scope.names m 0 [] [] rfl
    rw [hcn] at e
    exact List.map_eq_nil_iff.mp e
  have hρ : ∀ y d, ρ₀.get y = some d → (Loc.get (xs.zip ds) y = some d ∧ scope.names.lookup y = some .local) := fun y d e => locs_get scope hnd (hρ' ▸ e)
  have hl : vs.length = xs.length := r.length.trans hlen
  have XI := x.In
  refine codeAny_call_cells (fd := fnOf name qual params body scope dV kV doc pm an cdv ct) (body := body) (binds := xs.zip vs) (by have := R.depth; omega) (XI _ _ ho) rfl (G.lim.keeps x.base) (codeRec_of XI hcd) rfl (hbind vs hl) rfl ?_ ?_ hco hgen hk
  · intro y hy
    have : y.1 ∈ (xs.zip vs).map (·.1) := List.mem_map.mpr ⟨y, hy, rfl⟩
    rw [zip_keys xs vs hl] at this
    exact .inl (hkind' y.1 this)
  · intro s₁ y
    obtain ⟨h₁, tk, rfl, kp⟩ := y.done
    have hL' : s.heap.get? s.heap.objs.size = none := Mine.none_at_size s.heap
    have σL : σ s.heap.objs.size = none := x.unused hL'
    have x₁ : S G L ρ σ h₁ := x.keeps kp
    have tkp : TupK s.heap h₁ := .of_keeps kp
    have hbig : G.h₀.objs.size ≤ s.heap.objs.size := Nat.le_of_lt x.big
    have y₁ : S G s.heap.objs.size ρ₀ σ h₁ := ⟨x₁.base, x₁.obj, x₁.new, ⟨⟨_, y.toInCall.ns, fun z d q => by
      obtain ⟨q1, q2⟩ := hρ z d q
      obtain ⟨v, e, rv⟩ := bindL_get (kindOf := (callEnvC (fnOf name qual params body scope dV kV doc pm an cdv ct) s.heap.objs.size f).kindOf) (y := z) q2 (fun _ => none) hnd hl r q1
      exact ⟨v, e, rv.mono tkp⟩⟩⟩, σL, hbig⟩
    have hLne : L ≠ s.heap.objs.size := Nat.ne_of_lt x.frame.lt
    have := h s.heap.objs.size (envF qual scope s.heap.objs.size f cdv) h₁ tk (by show envOfC .. = _; unfold envOfC; rw [hc]) hLne hL' σL (Heap.get?_none_of_le hbig) kp y₁ x₁
    exact this
theorem opr_fn0 {f : Addr} {oc : Value} {od : Option Addr} {osl : Array (Option Value)} {name qual : Str} {params : Arguments} {body : List Stmt} {scope : Scope} {dV kV doc pm cdv ct : Value} {an : Option Addr} {n : Nat} (xs : List Str) {ds : List V} {ρ₀ : Loc} {s : Shared} {vs : List Value} {outer : List Env}
    {k : Addr → Addr → Addr → St → Prop} {Q : Value → Shared → Prop} {E : Value → Shared → Prop}
    (ho : G.K.lookup f = some ⟨oc, od, .func (fnOf name qual params body scope dV kV doc pm an cdv ct), osl⟩) (hcd : codeIn G.K cdv qual = true) (R : Room A (n + 1)) (x : S G L ρ σ s.heap) (r : RepAll s.heap vs ds)
    (hfr : A.frames = some outer) (hof : OutF G σ s.heap outer)
    (h : ∀ L' A' env, env = envX qual scope L' f cdv [] → Room A' n → RV G A' env ρ₀ σ (execs body env) k)
    (hE : ∀ e C dx h' h'' tk σ' t L', Ext σ s.heap h' σ' → S G L ρ σ' h' → h'.get? e = some { cls := .ref C, dict := some dx, data := .fields #[.ref t, .none, .none, .none, .bool false, .none] } → σ' e = none → s.heap.get? e = none → k e C dx σ' →
      s.heap.get? L' = none → σ' L' = none → (∀ xs n, h'.get? L' ≠ some (tupOf xs n)) → OutF G σ' h' outer →
      Fly (hideAll h' (e :: L' :: outer.filterMap (·.frame))) h'' outer e (.ref C) (.ref t) (some dx) .none → h'.UpToSlots h'' → E (.ref e) { s with heap := h'', toks := tk })
    (hlen : ds.length = xs.length := by rfl) (hnd : xs.Nodup := by decide)
    (hbind : ∀ vs : List Value, vs.length = xs.length → bindArgs (fnOf name qual params body scope dV kV doc pm an cdv ct) ⟨vs, []⟩ = pure (xs.zip vs) := by
      intro vs hv; rcases vs with _ | ⟨a, _ | ⟨b, _ | ⟨c, _ | ⟨d, _⟩⟩⟩⟩ <;> first | rfl | (simp at hv))
    (hkind' : ∀ x ∈ xs, scope.names.lookup x = some .local := by decide) (hcn : cellsFrom 0 scope.names [] = [] := by rfl) (hρ' : ρ₀ = locs scope xs ds := by rfl)
    (hco : scope.isCoroutine = false := by rfl) (hgen : scope.isGenerator = false := by rfl) (hk : scope.kind = .function := by rfl) : wpAny (model G.prog G.w) A (call (.ref f) vs) Q E s := by
  refine wpAny_call (call_raw xs ho hcd R x r (fun L' env h₁ tk he hLL hL' σL hG0 kp y₁ x₁ => ?_) hlen hnd hbind hkind' hcn hρ' hco hgen hk)
  have hkf : env.scope.kind = .function := by subst he; exact hk
  have hef : env.frame = some L' := by subst he; rfl
  have heL : env.locals = L' := by subst he; rfl
  refine wpAny_mono (h L' (A.deeper env) env he (R.in_ _) _ _ PassesOwn.leaving (heL ▸ y₁) ?_) (fun _ _ z => z.elim) fun _ _ z => z
  intro e C dx h' tk' ρ' σ' E₁ z ⟨t, het⟩ σe hne hk'
  rw [heL] at E₁ z
  have E₂ : Ext σ s.heap h' σ' := Ext.thenS (Ext.keeps kp) E₁ hL'
  have z' : S G L ρ σ' h' := x₁.ofExtS E₁ hLL z
  have hof' := hof.ext E₂
  have hB : ∀ a ∈ e :: L' :: outer.filterMap (·.frame), (hideAll h' (e :: L' :: outer.filterMap (·.frame))).get? a = none := fun a ha => hideAll_none _ ha
  obtain ⟨mL, nL, _⟩ := z.frame.ns
  refine fly_leave (A := A.deeper env) (outer := outer) (L := L') (B := hideAll h' (e :: L' :: outer.filterMap (·.frame))) (Around.frames_deeper hfr) ?_ hef het (fun b o q => of_hideAll _ q) (hB e (by simp)) rfl rfl rfl rfl rfl fun h'' F u => ?_
  · exact Heap.FunFrames.cons (by rw [hkf]; decide) hef nL (hB L' (by simp)) (hof'.toFun fun a ha => hB a (by simp [ha]))
  · refine hE e C dx h' h'' tk' σ' t L' E₂ z' het σe ?_ hk' hL' z.off (fun xs n q => ?_) hof' F u
    · cases q : s.heap.get? e with
      | none => rfl
      | some o => have := kp _ _ q; rw [show h₁.get? e = none from hne] at this; cases this
    · obtain ⟨o, _, _, hoo, hd, _⟩ := nL
      rw [hoo] at q; cases q; cases hd
end
end Mine
namespace Mine
section
variable {G : Amb} {A : Around} {env : Env} {L : Addr} {ρ : Loc} {σ : St} {X : Value → Shared → Prop} {k : V → St → Prop}
theorem op_sub_int {a b : Int} (h : k (.int (a - b)) σ) : Op2 G A L ρ σ (binaryOp .Sub) (.int a) (.int b) k X := fun s u v x r₁ r₂ => by
  refine r₁.elim fun _ => ?_; refine r₂.elim fun _ => ?_; exact sub_int' (.tok x (.int _ _) h)
theorem op_is_none {d : V} (hd : d = .none ∨ ∃ i, d = .int i) (h : k (.bool (match d with | .none => true | _ => false)) σ) : Op2 G A L ρ σ (compareOp .Is) d .none k X := fun s u v x r₁ r₂ => by
  cases r₂
  rcases hd with rfl | ⟨i, rfl⟩
  · cases r₁; exact wpAny_is_self rfl (.here x (.bool _) h)
  · cases r₁; exact wpAny_is_other rfl (by intro q; cases q) (.here x (.bool _) h)
theorem wk_str (hh : A.handled = none) (I : Addr) (x : Str) (t : Tok) (target : Expr) : Wk G A I [I] x.cps.size (fun i => .str ⟨#[(x.cps[i]?).getD 0]⟩) (fun _ => True) (fun i h => h.IsStrIter I "str_ascii_iterator" x t i) target where
  frame := fun i h h' st _ k => let ⟨o, ho, r⟩ := st; ⟨o, k I (by simp) o ho, r⟩
  live := fun i h st b m => by
    rw [List.mem_singleton] at m; subst m
    obtain ⟨o, ho, hc, hd⟩ := st
    exact ⟨o, ho, fun ⟨_, xs, n, t⟩ => by rw [hd] at t; cases t⟩
  next := fun i s L ρ σ Q E hi y need st hσ hQ => by
    have hlive := st
    refine wpAny_pyNext_ascii_item st (c := x.cps[i]) (by simp [hi]) fun h' hit' hs' => hQ _ _ fun Q' E' hq => ?_
    obtain ⟨o, hoI, hcI, hdI⟩ := id hit'
    have kb : ∀ b o, b ∉ [I] → s.heap.get? b = some o → h'.get? b = some o := fun b o hb e => hs'.extBut b o (fun h => hb (by simp [h])) e
    refine go_quiet hoI hcI hdI (by decide) (hq h' _ ?_ hit' kb)
    rw [Array.getElem?_eq_getElem hi]
    exact .str _ _
  done := fun s L ρ σ Q E x need st hσ hQ => wpAny_pyNext_ascii_end hh st (by simp) fun h' he' => hQ h' s.toks fun b o hb e => he' b o (fun h => hb (by simp [h])) e
  self := fun i s Q E st hQ => wpAny_pyIter_striter_ascii st hQ
theorem ie_str {iter target : Expr} {kk : Nat → (Nat → V) → (St → Prop) → St → Prop} (hh : A.handled = none)
    (h : EV G A env ρ σ iter (fun d σ₁ => ∃ x, d = .str x ∧ x.cps.all (· < 128) = true ∧ kk x.cps.size (fun i => .str ⟨#[(x.cps[i]?).getD 0]⟩) (fun _ => True) σ₁) X) : IE G A env ρ σ iter target kk X := fun s x => by
  refine wpAny_mono (h s x) (fun v s₁ p => ?_) fun _ _ e => e
  refine p.elim fun h₁ t₁ d σ₁ E₁ x₁ r₁ q₉ => ?_; obtain ⟨y, rfl, ha, hk⟩ := q₉
  refine r₁.elim fun t => ?_
  refine wpAny_pyIter_ascii ha ?_
  have kp : ∀ b o, h₁.get? b = some o → (h₁.push { cls := .type "str_ascii_iterator", data := .fields #[.str y t, .int 0 0] }).get? b = some o := fun b o e => Heap.get?_push_of_some _ e
  have hn := Mine.none_at_size h₁
  refine ⟨_, t₁, σ₁, _, [h₁.objs.size], _, _, _, _, rfl, rfl, E₁.trans (.keeps kp), x₁.keeps kp, wk_str hh _ y t target, ?_, ?_, ⟨_, Heap.get?_push_size _ rfl, rfl, rfl⟩, hk⟩
  · intro b m; rw [List.mem_singleton] at m; subst m
    cases q : s.heap.get? h₁.objs.size with
    | none => rfl
    | some o => obtain ⟨o', e'⟩ := E₁.alive _ o q; rw [hn] at e'; cases e'
  · intro b m; rw [List.mem_singleton] at m; subst m; exact x₁.unused hn
end
end Mine
namespace Mine
section
variable {G : Amb} {A : Around} {env : Env} {L : Addr} {ρ : Loc} {σ : St} {X : Value → Shared → Prop} {k : V → St → Prop}
theorem ev_rev {value st : Expr} {p pos : Pos} (h : EV G A env ρ σ value (fun d σ₁ => EV G A env ρ σ₁ st (fun c σ₂ => ∃ a ds, d = .ref a ∧ c = .int (-1) ∧ σ₂ a = some (.list ds) ∧ ds.length ≤ sizeLine ∧ ∀ b, σ₂ b = none → k (.ref b) (σ₂.set b (.list ds.reverse))) X) X)
    (ht : ∀ o r, letTemporaryGo value o r = pure () := by intro _ _; rfl) : EV G A env ρ σ (.Subscript value (.Slice none none (some st) p) pos) k X := fun s x => by
  refine wpAny_Subscript_Slice_step (T := "list") list_getitem_lookup (wpAny_mono (h s x) (fun v s₁ p => wpAny_Slice ?_) fun _ _ e => e) ht
  refine p.elim fun h₁ t₁ d σ₁ E₁ x₁ r₁ q₁ => ?_
  rw [evalPart_none, evalPart_some]
  refine wpAny_pure (wpAny_pure (wpAny_mono (q₁ _ x₁) (fun w s₂ p => ?_) fun _ _ e => e))
  refine p.elim fun h₂ t₂ c σ₂ E₂ x₂ r₂ q₂ => ?_
  obtain ⟨a, ds, rfl, rfl, ea, hsz, q₂⟩ := q₂
  cases r₁; cases r₂
  rename_i tn
  obtain ⟨vs, m, ho, r⟩ := x₂.list ea
  have hl : vs.size = ds.length := by simpa using r.length
  have kp₁ : ∀ b o, h₂.get? b = some o → (h₂.push { cls := .type "slice", data := .fields #[.none, .none, .int (-1) tn] }).get? b = some o := fun b o e => Heap.get?_push_of_some _ e
  have hio := Heap.IsSliceOf.new h₂ .none .none (.int (-1) tn)
  have x₃ := x₂.keeps kp₁
  dsimp only
  refine ⟨(isList_of (kp₁ _ _ ho)).typeIs, ?_⟩
  generalize hH : h₂.push { cls := .type "slice", data := .fields #[.none, .none, .int (-1) tn] } = h₃ at *
  refine wpAny_getItem_list_slice (s := ⟨h₃, _, _, _, _⟩) (isList_of (kp₁ _ _ ho)) hio .none .none (.int _ _) (by decide) ?_ (by rw [hl]; exact hsz)
  rw [krv_pick]
  have kp₂ : ∀ b o, h₃.get? b = some o → (h₃.push { cls := .type "list", data := .seq vs.toList.reverse.toArray }).get? b = some o := fun b o e => Heap.get?_push_of_some _ e
  have hn := Mine.none_at_size h₃
  have hD := Heap.get?_push_size h₃ (o := { cls := .type "list", data := .seq vs.toList.reverse.toArray }) rfl
  have kp : ∀ b o, h₂.get? b = some o → (h₃.push { cls := .type "list", data := .seq vs.toList.reverse.toArray }).get? b = some o := fun b o e => kp₂ b o (kp₁ b o e)
  exact ⟨_, t₂, _, _, rfl, ((E₁.trans E₂).trans (.keeps kp₁)).trans (.new hn kp₂), x₃.newAt (o := .list ds.reverse) hn (Nat.le_of_lt x₃.big) kp₂ ⟨_, 0, hD, by simpa using r.reverse.mono (.of_keeps kp)⟩, .ref _, q₂ _ (x₃.unused hn)⟩
theorem ev_uptoS {value u : Expr} {p pos : Pos} (h : EV G A env ρ σ value (fun d σ₁ => EV G A env ρ σ₁ u (fun c σ₂ => ∃ x, ∃ n : Nat, d = .str x ∧ c = .int n ∧ x.cps.size ≤ sizeLine ∧ (∀ tm, slicePicked x none (some ((n : Int), tm)) none = List.range n) ∧ k (.str ⟨(x.cps.toList.take n).toArray⟩) σ₂) X) X)
    (ht : ∀ o r, letTemporaryGo value o r = pure () := by intro _ _; rfl) : EV G A env ρ σ (.Subscript value (.Slice none (some u) none p) pos) k X := fun s x => by
  refine wpAny_Subscript_str_slice (wpAny_mono (h s x) (fun v s₁ p => ?_) fun _ _ e => e) ht
  refine p.elim fun h₁ t₁ d σ₁ E₁ x₁ r₁ q₁ => ?_
  rw [evalPart_none, evalPart_some]
  refine wpAny_pure (wpAny_mono (q₁ _ x₁) (fun w s₂ p => ?_) fun _ _ e => e)
  refine p.elim fun h₂ t₂ c σ₂ E₂ x₂ r₂ q₂ => ?_
  obtain ⟨y, n, rfl, rfl, hsz, hp, q₂⟩ := q₂
  cases r₁; cases r₂
  rename_i tn tm
  refine ⟨y, _, none, some ((n : Int), tm), rfl, rfl, rfl, ?_⟩
  have hr : (List.range n).filterMap (y.cps[·]?) = y.cps.toList.take n := by
    have := pick_run y.cps 0 n
    rwa [show (List.range n).map (0 + ·) = List.range n by simp, List.drop_zero] at this
  have kp₁ : ∀ b o, h₂.get? b = some o → (h₂.push { cls := .type "slice", data := .fields #[.none, .int n tm, .none] }).get? b = some o := fun b o e => Heap.get?_push_of_some _ e
  have x₃ := x₂.keeps kp₁
  have hlen : (Str.mk (y.cps.toList.take n).toArray).length ≤ sizeLine := by
    show (y.cps.toList.take n).toArray.size ≤ sizeLine
    rw [List.size_toArray, List.length_take, Array.length_toList]; exact Nat.le_trans (Nat.min_le_right _ _) hsz
  unfold sliceMade
  rw [hp tm, hr]
  split
  · rename_i q
    have hn : n = y.cps.size := by
      simp only [Option.map_none, Option.getD_none, beq_self_eq_true, Bool.true_and, beq_iff_eq, List.length_range] at q
      exact q
    have hy : (⟨(y.cps.toList.take n).toArray⟩ : Str) = y := by
      rw [hn, List.take_of_length_le (by simp)]
    rw [hy] at q₂
    exact ⟨_, t₂, _, σ₂, rfl, (E₁.trans E₂).trans (.keeps kp₁), x₃, .str _ _, q₂⟩
  · exact ⟨hlen, _, _, _, σ₂, rfl, (E₁.trans E₂).trans (.keeps kp₁), x₃, .str _ _, q₂⟩
end
end Mine
namespace Mine
section
variable {G : Amb} {A : Around} {env : Env} {L : Addr} {ρ : Loc} {σ : St} {X : Value → Shared → Prop}
theorem wk_enum (hh : A.handled = none) (e it l : Addr) (hne : e ≠ it) (ds : List V) {elts : List Expr} {c : Nat} {tp : Pos} :
    Wk G A e [e, it] ds.length (fun i => .tup [.int i, ds.getD i .none]) (fun σ => σ l = some (.list ds)) (fun i h => (∃ old, IsEnum h e it i old) ∧ h.IsListIter it l i) (.Tuple elts c tp) where
  frame := fun i h h' st _ k => by
    obtain ⟨⟨old, he⟩, hit⟩ := st
    exact ⟨⟨old, k e (by simp) _ he⟩, hit.at fun o => k it (by simp) o⟩
  live := fun i h st b m => by
    obtain ⟨⟨old, he⟩, o, ho, hc, hd⟩ := st
    simp only [List.mem_cons, List.mem_nil_iff, or_false] at m
    rcases m with rfl | rfl
    · exact ⟨_, he, fun ⟨_, xs, n, t⟩ => by cases t⟩
    · exact ⟨o, ho, fun ⟨_, xs, n, t⟩ => by rw [hd] at t; cases t⟩
  next := fun i s L ρ σ Q E hi x need st hσ hQ => by
    obtain ⟨⟨old, he⟩, hit⟩ := st
    obtain ⟨vs, n, ho, r⟩ := x.list need
    have hl : vs.size = ds.length := by simpa using r.length
    obtain ⟨v, hv, rv⟩ := r.get i (d := ds.getD i .none) (by rw [List.getD_eq_getElem?_getD, List.getElem?_eq_getElem hi]; rfl)
    refine wpAny_pyNext_enum_item he hit (isList_of ho) (x := v) (by simpa using hv) hne fun h' heo hit' ht hz hk => hQ _ _ fun Q' E' hq => ?_
    refine wpAny_letOwnedTupleGo_enum heo fun h₂ he₂ hs₂ => ?_
    have hTe : s.heap.objs.size ≠ e := Nat.ne_of_gt (Heap.lt_size he)
    have ht₂ : h₂.get? s.heap.objs.size = some (tupOf #[.int i s.toks, v] 0) := (hs₂.2 _ hTe).trans ht
    have kb : ∀ b o, b ∉ [e, it] → s.heap.get? b = some o → h₂.get? b = some o := fun b o hb q => by
      simp only [List.mem_cons, List.mem_nil_iff, or_false, not_or] at hb
      exact (hs₂.2 b hb.1).trans (hk b o hb.1 hb.2 q)
    have t : TupK s.heap h₂ := tupK_but kb fun b m => by
      obtain ⟨o, ho', hc', hd'⟩ := id hit
      simp only [List.mem_cons, List.mem_nil_iff, or_false] at m
      rcases m with rfl | rfl
      · exact ⟨_, he, fun ⟨_, xs, n, t⟩ => by cases t⟩
      · exact ⟨o, ho', fun ⟨_, xs, n, t⟩ => by rw [hd'] at t; cases t⟩
    refine hq h₂ _ (.tup (vs := #[.int i s.toks, v]) (n := 0) ht₂ (.cons (.int _ _) (.cons (rv.mono t) .nil))) ⟨⟨v, he₂⟩, hit'.at fun o q => (hs₂.2 it (Ne.symm hne)).trans q⟩ kb
  done := fun s L ρ σ Q E x need st hσ hQ => by
    obtain ⟨⟨old, he⟩, hit⟩ := st
    obtain ⟨vs, n, ho, r⟩ := x.list need
    have hl : vs.size = ds.length := by simpa using r.length
    exact wpAny_pyNext_enum_end hh he hit (isList_of ho) (by rw [← hl]; simp) fun h' he' => hQ h' s.toks fun b o hb q => he' b o (fun z => hb (by simp [z])) q
  self := fun i s Q E st hQ => by
    obtain ⟨⟨old, he⟩, _⟩ := st
    exact wpAny_pyIter_enum he hQ
theorem ie_enum {arg : Expr} {p pos : Pos} {elts : List Expr} {c : Nat} {tp : Pos} {kk : Nat → (Nat → V) → (St → Prop) → St → Prop} (hh : A.handled = none) (hn : G.mg "enumerate" = none) (hb : G.mb "enumerate" = some (.type "enumerate"))
    (h : EV G A env ρ σ arg (fun d σ₁ => ∃ a ds, d = .ref a ∧ σ₁ a = some (.list ds) ∧ kk ds.length (fun i => .tup [.int i, ds.getD i .none]) (fun σ => σ a = some (.list ds)) σ₁) X)
    (hg : env.globals = mainGlobals := by rfl) (hbn : env.builtins = builtinsNs := by rfl) (hk : env.scope.kind = .function := by rfl) (hl : env.kindOf "enumerate" = some .globalImplicit := by rfl)
    (he : eval (.Call (.Name "enumerate" p) [arg] [] pos) env = (do callWith pos (← eval (.Name "enumerate" p) env) [] (backTo pos (starEach [arg] env)) (backToKw pos (keywordEach [] env))) := by rfl)
    (hs : starEach [arg] env = (false, eval arg env) :: starEach [] env := by rfl) : IE G A env ρ σ (.Call (.Name "enumerate" p) [arg] [] pos) (.Tuple elts c tp) kk X := fun s x => by
  refine Call_ (Name_function_global hk hl (loadGlobal_builtin (hg ▸ G.ng.keeps x.base) hn (hbn ▸ G.nb.keeps x.base) hb ?_) (by decide)) he
  rw [hs]
  refine callWith_of (P := G.K.In) rfl (CK.type "enumerate").looks (evalArgs_plain ?_)
  show wpAny _ _ (spliced (backTo pos ((false, eval arg env) :: starEach [] env))) _ _ _
  rw [← hs]
  refine PyProof.Rows.args_cons (wpAny_mono (h s x) (fun v s₁ p => ?_) fun _ _ e => e) hs
  refine p.elim fun h₁ t₁ d σ₁ E₁ x₁ r₁ q₉ => ?_; obtain ⟨a, ds, rfl, ea, hk'⟩ := q₉
  cases r₁
  refine PyProof.Rows.args_nil ⟨x₁.In, ?_⟩
  obtain ⟨vs, n, ho, r⟩ := x₁.list ea
  refine call_enumerate_1 (s := { s with heap := h₁, toks := t₁ }) ho fun h' hE hI hz kp => ?_
  refine wpAny_pyIter_enum hE ?_
  have off : ∀ b ∈ [h₁.objs.size + 1, h₁.objs.size], h₁.get? b = none := fun b m => by
    simp only [List.mem_cons, List.mem_nil_iff, or_false] at m
    rcases m with rfl | rfl
    · exact Heap.get?_none_of_le (Nat.le_succ _)
    · exact Heap.get?_none_of_le (Nat.le_refl _)
  refine ⟨h', t₁, σ₁, _, [h₁.objs.size + 1, h₁.objs.size], _, _, _, _, rfl, rfl, E₁.trans (.keeps kp), x₁.keeps kp, wk_enum hh _ _ a (Nat.succ_ne_self _) ds, fun b m => ?_, fun b m => x₁.unused (off b m), ⟨⟨_, hE⟩, hI⟩, hk'⟩
  cases q : s.heap.get? b with
  | none => rfl
  | some o => obtain ⟨o', e'⟩ := E₁.alive _ o q; rw [off b m] at e'; cases e'
end
end Mine
namespace Mine
structure IsG (G : Amb) : Prop where
  K : G.K = heapK G.w.params
  glob : ∀ x v, nsIn G.K mainGlobals x = some (some v) → G.mg x = some v
  noGlob : ∀ x, nsIn G.K mainGlobals x = some none → G.mg x = none
  boot : ∀ x v, bootBuiltins x = some v → x ≠ "__name__" → G.mb x = some v
structure Rw where
  spot : Int
  disj : Bool
  names : List Str
  mult : Str
  node : V
def Rw.V (r : Rw) : V := .tup [.int r.spot, .bool r.disj, .tup (r.names.map .str), .str r.mult, r.node]
structure It where
  spot : Int
  names : List Str
  abs : Bool
  mult : Str
  parent : Str
  supers : List Str
  rows : List Rw
  facts : List V
def It.V (t : It) : V := .tup [.str "sig", .int t.spot, .tup (t.names.map .str), .bool t.abs, .str t.mult, .str t.parent, .tup (t.supers.map .str), .tup (t.rows.map Rw.V), .tup t.facts]
def It.direct (t : It) : List Str := (if t.parent = "" then [] else [t.parent]) ++ t.supers
def gets {α : Type} : List (Str × α) → Str → Option α
  | [], _ => none
  | (y, e) :: r, x => if x = y then some e else gets r x
abbrev Ens := List (Str × It)
def vents (es : Ens) : List (Str × V) := es.map fun p => (p.1, p.2.V)
theorem get_vents (es : Ens) (x : Str) : Loc.get (vents es) x = (gets es x).map It.V := by
  induction es with
  | nil => rfl
  | cons p r ih =>
    obtain ⟨y, t⟩ := p
    show Loc.get ((y, t.V) :: vents r) x = _
    unfold Loc.get gets
    split
    · rfl
    · exact ih
theorem find_of_get {x : Str} {d : V} : ∀ {ps : List (Str × V)}, Loc.get ps x = some d → ∃ p, ps.find? (fun p => p.1 == x) = some p ∧ p.2 = d
  | [], e => by simp [Loc.get] at e
  | (y, d') :: r, e => by
    unfold Loc.get at e
    rw [List.find?_cons]
    by_cases q : x = y
    · subst q; rw [if_pos rfl] at e; cases e; exact ⟨(x, d), by simp, rfl⟩
    · rw [if_neg q] at e
      have : (y == x) = false := beq_eq_false_iff_ne.mpr (Ne.symm q)
      dsimp only
      rw [this]; exact find_of_get e
theorem find_none {x : Str} : ∀ {ps : List (Str × V)}, Loc.get ps x = none → ps.find? (fun p => p.1 == x) = none
  | [], e => rfl
  | (y, d') :: r, e => by
    unfold Loc.get at e
    rw [List.find?_cons]
    by_cases q : x = y
    · subst q; rw [if_pos rfl] at e; cases e
    · rw [if_neg q] at e
      have : (y == x) = false := beq_eq_false_iff_ne.mpr (Ne.symm q)
      dsimp only
      rw [this]; exact find_none e
def ownNames : List Str := ["entries", "stands", "opened", "ordered", "own_fields"]
theorem get_own {x : Str} (hx : x ∉ ownNames) : ∀ {ps : List (Str × V)}, (∀ p ∈ ps, p.1 ∈ ownNames) → Loc.get ps x = none
  | [], _ => rfl
  | (y, d) :: r, h => by
    unfold Loc.get
    have q : ¬ x = y := fun q => by subst q; exact hx (h (x, d) (by simp))
    rw [if_neg q]
    exact get_own hx fun p hp => h p (by simp [hp])
def Self (σ : St) (a : Addr) (ps : List (Str × V)) : Prop := ∃ dx, σ a = some (.inst 257 dx) ∧ σ dx = some (.attrs ps) ∧ ∀ p ∈ ps, p.1 ∈ ownNames
def Ents (σ : St) (a : Addr) (es : Ens) : Prop := ∃ ps E ep, Self σ a ps ∧ Loc.get ps "entries" = some (.ref E) ∧ σ E = some (.sdict ep (vents es))
theorem Self.le {σ σ' : St} {a ps} (x : Self σ a ps) (l : Le σ σ') : Self σ' a ps := let ⟨dx, p, q, r⟩ := x; ⟨dx, l _ _ p, l _ _ q, r⟩
theorem Ents.le {σ σ' : St} {a es} (x : Ents σ a es) (l : Le σ σ') : Ents σ' a es := let ⟨ps, E, ep, p, q, r⟩ := x; ⟨ps, E, ep, p.le l, q, l _ _ r⟩
section
variable {G : Amb} {A : Around} {env : Env} {L : Addr} {ρ : Loc} {σ : St} {X : Value → Shared → Prop} {k : V → St → Prop}
theorem K_attr (hG : IsG G) {x : Str} (hx : x ∈ ownNames) : plainGet G.K 257 x = true ∧ hasDictIn G.K 257 = true ∧ findIn G.K (.ref 257) x = some none ∧ noGet G.K none = true := by
  rw [hG.K]
  simp only [ownNames, List.mem_cons, List.mem_nil_iff, or_false] at hx
  rcases hx with rfl | rfl | rfl | rfl | rfl <;> exact ⟨rfl, rfl, rfl, rfl⟩
theorem ev_self (hG : IsG G) {e : Expr} {x : Str} {pos : Pos} (h : EV G A env ρ σ e (fun d σ₁ => ∃ a ps d', d = .ref a ∧ Self σ₁ a ps ∧ Loc.get ps x = some d' ∧ k d' σ₁) X) (hx : x ∈ ownNames := by decide)
    (he : eval (.Attribute e x pos) env = (do
      let o ← eval e env
      standAt pos.atName
      let r ← holding [o] (getAttr o x true)
      letTemporaryGo e o r
      pure r) := by with_unfolding_all rfl) : EV G A env ρ σ (.Attribute e x pos) k X := by
  obtain ⟨k1, k2, k3, k4⟩ := K_attr hG hx
  refine ev_Attr (h.mono ?_) he
  rintro d σ₁ ⟨a, ps, d', rfl, ⟨dx, s1, s2, _⟩, hg, hk⟩
  obtain ⟨p, hp, rfl⟩ := find_of_get hg
  exact ⟨a, 257, dx, ps, p, none, rfl, s1, s2, hp, k1, k2, k3, k4, hk⟩
structure IsM (G : Amb) (m : Str) (f : Addr) : Prop where
  get : plainGet G.K 257 m = true
  find : findIn G.K (.ref 257) m = some (some (.ref f))
  fn : isFn G.K (.ref f) = true
  keep : keepIn G.K (.ref f) = true
theorem gm_self {m : Str} {f : Addr} (M : IsM G m f) {a : Addr} {ps} (x : Self σ a ps) {k : Value → List V → Prop} (h : k (.ref f) [.ref a]) (hm : m ∉ ownNames := by decide) : GM G A L ρ σ m (.ref a) k X :=
  let ⟨dx, s1, s2, s3⟩ := x; gm_inst s1 s2 (find_none (get_own hm s3)) M.get M.find M.fn h
theorem IsM.ck {m : Str} {f : Addr} (M : IsM G m f) : CK G (.ref f) := .inr M.keep
theorem ev_m1 {m : Str} {f : Addr} (M : IsM G m f) {o e : Expr} {apos pos : Pos} {pl : Sem Bool} (h : EV G A env ρ σ o (fun d σ₁ => ∃ a ps, d = .ref a ∧ Self σ₁ a ps ∧ EV G A env ρ σ₁ e (fun d₂ σ₂ => OpC G A env.locals ρ σ₂ (.ref f) [.ref a, d₂] k X) X) X)
    (hm : m ∉ ownNames := by decide)
    (he : eval (.Call (.Attribute o m apos) [e] [] pos) env = (do
      let ov ← eval o env
      standAt apos.atName
      let (f, first) ← holding [ov] (getMethod ov m pl)
      callWith pos f first (backTo pos (starEach [e] env)) []) := by rfl)
    (hs : starEach [e] env = (false, eval e env) :: starEach [] env := by rfl) : EV G A env ρ σ (.Call (.Attribute o m apos) [e] [] pos) k X := by
  refine ev_MCall (pl := pl) (h.mono ?_) he hs
  rintro d σ₁ ⟨a, ps, rfl, s, h⟩
  exact gm_self M s ⟨M.ck, lv_cons (h.mono fun _ _ q => lv_nil q) hs⟩ hm
theorem ev_m0 {m : Str} {f : Addr} (M : IsM G m f) {o : Expr} {apos pos : Pos} {pl : Sem Bool} (h : EV G A env ρ σ o (fun d σ₁ => ∃ a ps, d = .ref a ∧ Self σ₁ a ps ∧ OpC G A env.locals ρ σ₁ (.ref f) [.ref a] k X) X)
    (hm : m ∉ ownNames := by decide)
    (he : eval (.Call (.Attribute o m apos) [] [] pos) env = (do
      let ov ← eval o env
      standAt apos.atName
      let (f, first) ← holding [ov] (getMethod ov m pl)
      callWith pos f first (backTo pos (starEach [] env)) []) := by rfl) : EV G A env ρ σ (.Call (.Attribute o m apos) [] [] pos) k X := by
  refine ev_MCall0 (pl := pl) (h.mono ?_) he
  rintro d σ₁ ⟨a, ps, rfl, s, h⟩
  exact gm_self M s ⟨M.ck, h⟩ hm
theorem M_parent (hG : IsG G) : IsM G "parent" 177 := by constructor <;> rw [hG.K] <;> rfl
theorem M_supers (hG : IsG G) : IsM G "supers" 184 := by constructor <;> rw [hG.K] <;> rfl
theorem M_is_subset (hG : IsG G) : IsM G "is_subset" 191 := by constructor <;> rw [hG.K] <;> rfl
theorem M_direct (hG : IsG G) : IsM G "direct" 125 := by constructor <;> rw [hG.K] <;> rfl
theorem M_all_above (hG : IsG G) : IsM G "all_above" 219 := by constructor <;> rw [hG.K] <;> rfl
theorem M_take_sig (hG : IsG G) : IsM G "take_sig" 111 := by constructor <;> rw [hG.K] <;> rfl
theorem M_look_above (hG : IsG G) : IsM G "look_above" 118 := by constructor <;> rw [hG.K] <;> rfl
theorem M_parents_first (hG : IsG G) : IsM G "parents_first" 130 := by constructor <;> rw [hG.K] <;> rfl
theorem M_all_fields (hG : IsG G) : IsM G "all_fields" 137 := by constructor <;> rw [hG.K] <;> rfl
theorem M_look_fields (hG : IsG G) : IsM G "look_fields" 144 := by constructor <;> rw [hG.K] <;> rfl
theorem B_name (hG : IsG G) {x : Str} {v : Value} (h : bootBuiltins x = some v) (h1 : nsIn (heapK G.w.params) mainGlobals x = some none) (h2 : x ≠ "__name__") : G.mg x = none ∧ G.mb x = some v :=
  ⟨hG.noGlob x (by rw [hG.K]; exact h1), hG.boot x v h h2⟩
theorem B_list (hG : IsG G) : G.mg "list" = none ∧ G.mb "list" = some (.type "list") := B_name hG rfl rfl (by decide)
theorem B_tuple (hG : IsG G) : G.mg "tuple" = none ∧ G.mb "tuple" = some (.type "tuple") := B_name hG rfl rfl (by decide)
theorem B_len (hG : IsG G) : G.mg "len" = none ∧ G.mb "len" = some (.builtin "len") := B_name hG rfl rfl (by decide)
theorem B_range (hG : IsG G) : G.mg "range" = none ∧ G.mb "range" = some (.type "range") := B_name hG rfl rfl (by decide)
theorem ev_entry (hG : IsG G) {e₁ e₂ e₃ : Expr} {p₁ p₂ p₃ : Pos} {i : Int} {it : It} {d : V} {self : Addr} {es : Ens} {name : Str} {tv : List V} (H : Ents σ self es) (hn : gets es name = some it)
    (h₁ : ∀ (k : V → St → Prop), k (.ref self) σ → EV G A env ρ σ e₁ k X) (h₂ : ∀ (k : V → St → Prop), k (.str name) σ → EV G A env ρ σ e₂ k X) (h₃ : ∀ (k : V → St → Prop), k (.int i) σ → EV G A env ρ σ e₃ k X)
    (h0 : 0 ≤ i) (hi : i < 2 ^ 63) (hV : it.V = .tup tv) (hd : tv[i.toNat]? = some d) (h : k d σ)
    (he : eval (.Attribute e₁ "entries" p₁) env = (do
      let o ← eval e₁ env
      standAt p₁.atName
      let r ← holding [o] (getAttr o "entries" true)
      letTemporaryGo e₁ o r
      pure r) := by with_unfolding_all rfl)
    (hs₁ : ∀ a t, subscripted e₂ false (.ref a) (.str name t) = operate [.ref a, .str name t] (getItem (.ref a) (.str name t)) := by intro _ _; with_unfolding_all rfl)
    (hs₂ : ∀ a t, subscripted e₃ false (.ref a) (.int i t) = operate [.ref a, .int i t] (getItem (.ref a) (.int i t)) := by intro _ _; with_unfolding_all rfl) :
    EV G A env ρ σ (.Subscript (.Subscript (.Attribute e₁ "entries" p₁) e₂ p₂) e₃ p₃) k X := by
  obtain ⟨ps, E, ep, s, hg, hE⟩ := H
  refine ev_Subscript (ev_Subscript (ev_self hG (h₁ _ ⟨self, ps, _, rfl, s, hg, h₂ _ (op_item_sdict (d := it.V) hE (by rw [get_vents, hn]; rfl) ?_ (hs₁ _))⟩) (by decide) he))
  refine h₃ _ ?_
  rw [hV]
  exact op_item_tup h0 hi hd h hs₂
theorem c_parent (hG : IsG G) {n : Nat} (R : Room A (n + 1)) {self : Addr} {es : Ens} {name : Str} {it : It} (H : Ents σ self es) (hn : gets es name = some it)
    (h : k (.str it.parent) σ) : OpC G A L ρ σ (.ref 177) [.ref self, .str name] k X := by
  refine opc_fn0 (f := 177) ["self", "name"] (by rw [hG.K]; rfl) (by rw [hG.K]; rfl) R fun L' A' env he R' => ?_
  subst he
  exact sv_cons (sv_Return (ev_entry hG (i := 5) H hn (fun k h => ev_local h) (fun k h => ev_local h) (fun k h => ev_int h) (by decide) (by decide) rfl rfl h))
end
end Mine
namespace Mine
section
variable {G : Amb} {A : Around} {env : Env} {L : Addr} {ρ : Loc} {σ : St} {X : Value → Shared → Prop} {k : V → St → Prop}
theorem c_supers (hG : IsG G) {n : Nat} (R : Room A (n + 1)) {self : Addr} {es : Ens} {name : Str} {it : It} (H : Ents σ self es) (hn : gets es name = some it)
    (h : k (.tup (it.supers.map .str)) σ) : OpC G A L ρ σ (.ref 184) [.ref self, .str name] k X := by
  refine opc_fn0 (f := 184) ["self", "name"] (by rw [hG.K]; rfl) (by rw [hG.K]; rfl) R fun L' A' env he R' => ?_
  subst he
  obtain ⟨b1, b2⟩ := B_tuple hG
  refine sv_cons (sv_Return (ev_Call (ev_builtin b1 b2 rfl ⟨_, rfl, .type _, lv_cons ?_⟩)))
  exact ev_entry hG (i := 6) H hn (fun k h => ev_local h) (fun k h => ev_local h) (fun k h => ev_int h) (by decide) (by decide) rfl rfl (lv_nil (opc_tuple_tup h))
theorem c_is_subset (hG : IsG G) {n : Nat} (R : Room A (n + 1)) {self : Addr} {es : Ens} {name : Str} {it : It} (H : Ents σ self es) (hn : gets es name = some it) (hs : it.supers.length ≤ 1000)
    (h : k (.bool (!it.supers.isEmpty)) σ) : OpC G A L ρ σ (.ref 191) [.ref self, .str name] k X := by
  refine opc_fn0 (f := 191) ["self", "name"] (by rw [hG.K]; rfl) (by rw [hG.K]; rfl) R fun L' A' env he R' => ?_
  subst he
  obtain ⟨b1, b2⟩ := B_len hG
  refine sv_cons (sv_Return (ev_Compare (ev_Call (ev_builtin b1 b2 rfl ⟨_, rfl, .builtin _, lv_cons ?_⟩))))
  refine ev_entry hG (i := 6) H hn (fun k h => ev_local h) (fun k h => ev_local h) (fun k h => ev_int h) (by decide) (by decide) rfl rfl (lv_nil (opc_len_tup (by rw [List.length_map, sizeLine_eq]; omega) ?_))
  refine ev_int (op_gt_int ?_)
  have e : decide ((0 : Int) < ((it.supers.map V.str).length : Nat)) = !it.supers.isEmpty := by
    rw [List.length_map]
    cases it.supers <;> simp
  show k (V.bool (decide ((0 : Int) < ((it.supers.map V.str).length : Nat)))) σ
  rw [e]; exact h
theorem c_direct (hG : IsG G) {n : Nat} (R : Room A (n + 2)) {self : Addr} {es : Ens} {name : Str} {it : It} (H : Ents σ self es) (hn : gets es name = some it) (hs : it.supers.length ≤ 1000)
    (h : k (.tup (it.direct.map .str)) σ) : OpC G A L ρ σ (.ref 125) [.ref self, .str name] k X := by
  refine opc_fn0 (f := 125) ["self", "name"] (by rw [hG.K]; rfl) (by rw [hG.K]; rfl) R fun L' A' env he R' => ?_
  subst he
  obtain ⟨ps, E, ep, s, hg, hE⟩ := id H
  refine sv_cons (sv_Return (ev_BinOp (ev_IfExp (bv_Compare (ev_m1 (M_parent hG) (ev_local (x := "self") ⟨self, ps, rfl, s, ev_local (x := "name") (c_parent hG R' H hn (ev_str (op_ne_str ⟨_, rfl, ?_⟩)))⟩))))))
  by_cases q : it.parent = ""
  · have e : it.direct = it.supers := by unfold It.direct; rw [if_pos q]; rfl
    rw [e] at h
    simp only [q, decide_true, Bool.not_true, Bool.false_eq_true, if_false]
    exact ev_Tuple (lv_nil ⟨by simp, ev_m1 (M_supers hG) (ev_local (x := "self") ⟨self, ps, rfl, s, ev_local (x := "name") (c_supers hG R' H hn (op_add_tup (by simp; rw [sizeLine_eq]; omega) (by show k (V.tup _) σ; simpa using h)))⟩)⟩)
  · have e : it.direct = it.parent :: it.supers := by unfold It.direct; rw [if_neg q]; rfl
    rw [e] at h
    simp only [q, decide_false, Bool.not_false, if_true]
    exact ev_Tuple (lv_cons (ev_m1 (M_parent hG) (ev_local (x := "self") ⟨self, ps, rfl, s, ev_local (x := "name") (c_parent hG R' H hn (lv_nil ⟨len_ok rfl, ev_m1 (M_supers hG) (ev_local (x := "self") ⟨self, ps, rfl, s, ev_local (x := "name") (c_supers hG R' H hn (op_add_tup (by simp; rw [sizeLine_eq]; omega) (by show k (V.tup _) σ; simpa using h)))⟩)⟩))⟩)))
end
end Mine
namespace Mine
structure WF (es : Ens) : Prop where
  size : es.length ≤ 100
  keys : (es.map (·.1)).Nodup
  sup : ∀ x it, gets es x = some it → it.supers.length ≤ 2
  dir : ∀ x it, gets es x = some it → ∀ y ∈ it.direct, ∃ it', gets es y = some it'
  dnd : ∀ x it, gets es x = some it → it.direct.Nodup
  ok : ∀ x it, gets es x = some it → PyData.strOk x = true
theorem gets_mem {α : Type} {x : Str} {it : α} : ∀ {es : List (Str × α)}, gets es x = some it → x ∈ es.map (·.1)
  | [], e => by simp [gets] at e
  | (y, t) :: r, e => by
    unfold gets at e
    by_cases q : x = y
    · simp [q]
    · rw [if_neg q] at e
      exact List.mem_cons_of_mem _ (gets_mem e)
inductive Up (es : Ens) : Str → Str → Prop
  | one {a b it} : gets es a = some it → b ∈ it.direct → Up es a b
  | more {a b c it} : Up es a b → gets es b = some it → c ∈ it.direct → Up es a c
structure Above (es : Ens) (name : Str) (it : It) (over : List Str) : Prop where
  nd : over.Nodup
  mem : ∀ x, x ∈ over ↔ Up es name x
  pre : it.direct <+: over
theorem direct_len (t : It) : t.direct.length ≤ t.supers.length + 1 := by
  unfold It.direct; split <;> simp <;> omega
theorem nodup_le {xs ys : List Str} (hn : xs.Nodup) (h : ∀ x ∈ xs, x ∈ ys) : xs.length ≤ ys.length := by
  induction xs generalizing ys with
  | nil => simp
  | cons x xs ih =>
    simp only [List.nodup_cons] at hn
    have hx := h x (by simp)
    have : xs.length ≤ (ys.erase x).length := ih hn.2 fun y hy => by
      have hne : y ≠ x := fun q => hn.1 (q ▸ hy)
      rw [List.mem_erase_of_ne hne]; exact h y (by simp [hy])
    rw [List.length_erase_of_mem hx] at this
    have := List.length_pos_of_mem hx
    simp; omega
structure Mid (es : Ens) (name : Str) (it : It) (found waiting : List Str) : Prop where
  nd : found.Nodup
  up : ∀ x, (x ∈ found ∨ x ∈ waiting) → Up es name x
  cl : ∀ x ∈ found, ∀ t, gets es x = some t → ∀ y ∈ t.direct, y ∈ found ∨ y ∈ waiting
  cl0 : ∀ y ∈ it.direct, y ∈ found ∨ y ∈ waiting
  pre : (it.direct <+: found) ∨ ∃ u, it.direct = found ++ u ∧ u <+: waiting
  key : ∀ x, (x ∈ found ∨ x ∈ waiting) → ∃ t, gets es x = some t
  len : waiting.length ≤ 3 * (found.length + 1)
theorem Up.key {es : Ens} (W : WF es) {a b : Str} (h : Up es a b) : ∃ t, gets es b = some t := by
  cases h with
  | one ha hb => exact W.dir _ _ ha _ hb
  | more _ hb hc => exact W.dir _ _ hb _ hc
theorem Mid.start {es : Ens} {name : Str} {it : It} (W : WF es) (hn : gets es name = some it) : Mid es name it [] it.direct where
  nd := .nil
  up := fun x h => by rcases h with h | h; cases h; exact .one hn h
  cl := fun x h => by cases h
  cl0 := fun y h => .inr h
  pre := .inr ⟨it.direct, rfl, List.prefix_refl _⟩
  key := fun x h => by rcases h with h | h; cases h; exact W.dir _ _ hn _ h
  len := by have := direct_len it; have := W.sup _ _ hn; simp; omega
theorem Mid.old {es : Ens} {name : Str} {it : It} {found waiting : List Str} {o : Str} (W : WF es) (hn : gets es name = some it) (M : Mid es name it found (o :: waiting)) (ho : o ∈ found) : Mid es name it found waiting where
  nd := M.nd
  up := fun x h => M.up x (h.imp id fun h => by simp [h])
  cl := fun x h t ht y hy => by
    rcases M.cl x h t ht y hy with h | h
    · exact .inl h
    · rcases List.mem_cons.mp h with rfl | h
      · exact .inl ho
      · exact .inr h
  cl0 := fun y hy => by
    rcases M.cl0 y hy with h | h
    · exact .inl h
    · rcases List.mem_cons.mp h with rfl | h
      · exact .inl ho
      · exact .inr h
  pre := by
    rcases M.pre with h | ⟨u, h1, h2⟩
    · exact .inl h
    · cases u with
      | nil => exact .inl (by rw [h1]; simp)
      | cons v u =>
        obtain ⟨rest, hr⟩ := h2
        simp only [List.cons_append, List.cons.injEq] at hr
        obtain ⟨rfl, hr⟩ := hr
        have hd := W.dnd _ _ hn
        rw [h1] at hd
        have := (List.nodup_append.mp hd).2.2 v ho v (by simp)
        exact absurd rfl this
  key := fun x h => M.key x (h.imp id fun h => by simp [h])
  len := by have := M.len; simp at this; omega
theorem Mid.new {es : Ens} {name : Str} {it t : It} {found waiting : List Str} {o : Str} (W : WF es) (M : Mid es name it found (o :: waiting)) (ho : o ∉ found) (ht : gets es o = some t) : Mid es name it (found ++ [o]) (waiting ++ t.direct) where
  nd := by
    rw [List.nodup_append]
    refine ⟨M.nd, by simp, fun a ha b hb => ?_⟩
    rw [List.mem_singleton] at hb; subst hb
    exact fun q => ho (q ▸ ha)
  up := fun x h => by
    rcases h with h | h
    · rcases List.mem_append.mp h with h | h
      · exact M.up x (.inl h)
      · rw [List.mem_singleton] at h; subst h; exact M.up x (.inr (by simp))
    · rcases List.mem_append.mp h with h | h
      · exact M.up x (.inr (by simp [h]))
      · exact .more (M.up o (.inr (by simp))) ht h
  cl := fun x h t' ht' y hy => by
    rcases List.mem_append.mp h with h | h
    · rcases M.cl x h t' ht' y hy with h | h
      · exact .inl (by simp [h])
      · rcases List.mem_cons.mp h with rfl | h
        · exact .inl (by simp)
        · exact .inr (by simp [h])
    · rw [List.mem_singleton] at h; subst h
      rw [ht] at ht'; cases ht'
      exact .inr (by simp [hy])
  cl0 := fun y hy => by
    rcases M.cl0 y hy with h | h
    · exact .inl (by simp [h])
    · rcases List.mem_cons.mp h with rfl | h
      · exact .inl (by simp)
      · exact .inr (by simp [h])
  pre := by
    rcases M.pre with h | ⟨u, h1, h2⟩
    · exact .inl (h.trans (List.prefix_append _ _))
    · cases u with
      | nil => exact .inl (by rw [h1]; simp)
      | cons v u =>
        obtain ⟨rest, hr⟩ := h2
        simp only [List.cons_append, List.cons.injEq] at hr
        obtain ⟨rfl, hr⟩ := hr
        exact .inr ⟨u, by rw [h1]; simp, ⟨rest ++ t.direct, by rw [← hr]; simp⟩⟩
  key := fun x h => by
    rcases h with h | h
    · rcases List.mem_append.mp h with h | h
      · exact M.key x (.inl h)
      · rw [List.mem_singleton] at h; subst h; exact ⟨t, ht⟩
    · rcases List.mem_append.mp h with h | h
      · exact M.key x (.inr (by simp [h]))
      · exact W.dir _ _ ht _ h
  len := by
    have := M.len
    have := direct_len t
    have := W.sup _ _ ht
    simp at *; omega
theorem Mid.fin {es : Ens} {name : Str} {it : It} {found : List Str} (hn : gets es name = some it) (M : Mid es name it found []) : Above es name it found where
  nd := M.nd
  mem := fun x => ⟨fun h => M.up x (.inl h), fun h => by
    induction h with
    | one ha hb =>
      rw [hn] at ha; cases ha
      rcases M.cl0 _ hb with h | h
      · exact h
      · cases h
    | more _ hb hc ih =>
      rcases M.cl _ ih _ hb _ hc with h | h
      · exact h
      · cases h⟩
  pre := by
    rcases M.pre with h | ⟨u, h1, h2⟩
    · exact h
    · have : u = [] := List.prefix_nil.mp h2
      subst this
      rw [h1]; simp
theorem Mid.flen {es : Ens} {name : Str} {it : It} {found waiting : List Str} (M : Mid es name it found waiting) : found.length ≤ es.length := by
  have := nodup_le (ys := es.map (·.1)) M.nd fun x hx => let ⟨t, ht⟩ := M.key x (.inl hx); gets_mem ht
  simpa using this
section
variable {G : Amb} {A : Around} {env : Env} {L : Addr} {ρ : Loc} {σ : St} {X : Value → Shared → Prop} {k : V → St → Prop}
theorem c_all_above (hG : IsG G) {n : Nat} (R : Room A (n + 3)) {self : Addr} {es : Ens} {name : Str} {it : It} (H : Ents σ self es) (W : WF es) (hn : gets es name = some it)
    (h : ∀ D σ' over, Le σ σ' → σ D = none → σ' D = some (.list (over.map .str)) → Above es name it over → k (.ref D) σ') : OpC G A L ρ σ (.ref 219) [.ref self, .str name] k X := by
  refine opc_fn0 (f := 219) ["self", "name"] (by rw [hG.K]; rfl) (by rw [hG.K]; rfl) R fun L' A' env he R' => ?_
  obtain ⟨ps, E, ep, s, hg, hE⟩ := id H
  obtain ⟨bl1, bl2⟩ := B_list hG
  obtain ⟨bn1, bn2⟩ := B_len hG
  have hsz : it.direct.length ≤ 100 := by have := direct_len it; have := W.sup _ _ hn; omega
  subst he
  refine sv_cons (sv_AssignSwap (names := ["found", "waiting"]) R'.handled ?_)
  refine ev_Tuple (lv_cons (ev_List (lv_nil ⟨len_ok rfl, fun F hF => ?_⟩)))
  have l1 : Le σ (σ.set F (.list [])) := Le.set hF
  refine lv_cons (ev_Call (ev_builtin bl1 bl2 rfl ⟨_, rfl, .type _, lv_cons (ev_m1 (M_direct hG) (ev_local (x := "self") ⟨self, ps, rfl, s.le l1, ev_local (x := "name") (c_direct hG R' (H.le l1) hn (by have := W.sup _ _ hn; omega) ?_)⟩))⟩))
  refine lv_nil (opc_list_tup (by simp [sizeLine_eq]; omega) fun Wt hW => lv_nil ⟨len_ok rfl, _, rfl, rfl, ?_⟩)
  refine tl_cons (ts_bind (ts_local (tl_cons (ts_bind (ts_local (tl_nil ?_))))))
  show SV G _ _ _ _ _ _ _
  have lW : Le (σ.set F (.list [])) ((σ.set F (.list [])).set Wt (.list (it.direct.map .str))) := Le.set hW
  have hFW : F ≠ Wt := fun q => by rw [q, St.set_same] at hW; cases hW
  refine sv_cons (sv_While PassesOwn.never (fun m ρ' σ' => ∃ found waiting, Mid es name it found waiting ∧ Sub [("self", .ref self), ("name", .str name), ("waiting", .ref Wt), ("found", .ref F)] ρ' ∧
    Le σ σ' ∧ σ' F = some (.list (found.map .str)) ∧ σ' Wt = some (.list (waiting.map .str)) ∧ m = (es.length - found.length) * 4 + waiting.length) _
    ⟨[], it.direct, .start W hn, ⟨rfl, rfl, rfl, rfl, trivial⟩, l1.trans lW, by rw [St.set_ne _ _ hFW, St.set_same]; rfl, by rw [St.set_same], rfl⟩ ?_)
  rintro m ρ' σ' ⟨found, waiting, M, hs, le, hf, hw, rfl⟩
  refine ⟨_, hs, bv_Compare (ev_Call (ev_builtin bn1 bn2 rfl ⟨_, rfl, .builtin _, lv_cons (ev_local (x := "waiting") (lv_nil (opc_len_list hw ?_ (ev_int (op_gt_int ⟨_, rfl, ?_⟩)))))⟩))⟩
  · have := M.len; have := M.flen; have := W.size; rw [List.length_map, sizeLine_eq]; omega
  cases waiting with
  | nil =>
    simp only [List.map_nil, List.length_nil, Int.natCast_zero, Int.lt_irrefl, decide_false, Bool.false_eq_true, if_false]
    refine sv_cons (sv_Return (ev_local (x := "found") ?_))
    exact h F σ' found le hF hf (M.fin hn)
  | cons o waiting =>
    have hpos : decide ((0 : Int) < (((o :: waiting).map V.str).length : Nat)) = true := by simp
    rw [hpos, if_pos rfl]
    obtain ⟨t, ht⟩ := M.key o (.inr (by simp))
    have hml := M.len
    have hfl := M.flen
    have hsz' := W.size
    rw [List.length_cons] at hml
    refine sv_cons (sv_Assign (ev_MCall (ev_local (x := "waiting") (gm_list PySem.F.slot_list_pop PySem.F.type_list_pop hw ⟨.builtin _, lv_cons (ev_int (lv_nil (opc_pop_at (d := .str o) hw ?_ (by decide) rfl ?_)))⟩))))
    · rw [List.length_map, List.length_cons, sizeLine_eq]; omega
    have hf₁ : (σ'.set Wt (.list (waiting.map .str))) F = some (.list (found.map .str)) := St.keep hFW hf
    have hw₁ : (σ'.set Wt (.list (waiting.map .str))) Wt = some (.list (waiting.map .str)) := St.set_same ..
    have σW : σ Wt = none := by rw [St.set_ne _ _ hFW.symm] at hW; exact hW
    have le₁ : Le σ (σ'.set Wt (.list (waiting.map .str))) := le.setL σW
    refine sv_cons (sv_If (bv_Compare (ev_local (x := "other") (ev_local (x := "found") (op_notIn_strs hf₁ ⟨_, rfl, ?_⟩)))))
    by_cases ho : o ∈ found
    · simp only [ho, decide_true, Bool.not_true, Bool.false_eq_true, if_false]
      refine sv_nil (sv_nil ⟨_, ?_, found, waiting, M.old W hn ho, ⟨rfl, rfl, rfl, rfl, trivial⟩, le₁, hf₁, hw₁, rfl⟩)
      simp only [List.length_cons]; omega
    · simp only [ho, decide_false, Bool.not_false, if_true]
      have N := M.new W ho ht
      have hN := N.flen
      rw [List.length_append, List.length_singleton] at hN
      refine sv_cons (sv_Expr (ev_MCall (ev_local (x := "found") (gm_list PySem.F.slot_list_append PySem.F.type_list_append hf₁ ⟨.builtin _, lv_cons (ev_local (x := "other") (lv_nil (opc_append hf₁ ?_ ⟨rfl, ?_⟩)))⟩))))
      · rw [List.length_map, sizeLine_eq]; omega
      have le₂ : Le σ ((σ'.set Wt (.list (waiting.map .str))).set F (.list (found.map .str ++ [.str o]))) := le₁.setL hF
      have hw₂ : ((σ'.set Wt (.list (waiting.map .str))).set F (.list (found.map .str ++ [.str o]))) Wt = some (.list (waiting.map .str)) := St.keep hFW.symm hw₁
      refine sv_cons (sv_Expr (ev_MCall (ev_local (x := "waiting") (gm_list PySem.F.slot_list_extend PySem.F.type_list_extend hw₂ ⟨.builtin _, lv_cons (ev_m1 (M_direct hG) (ev_local (x := "self") ⟨self, ps, rfl, s.le le₂, ev_local (x := "other")
        (c_direct hG R' (H.le le₂) ht (by have := W.sup _ _ ht; omega) (lv_nil (opc_extend_tup hw₂ ?_ ⟨rfl, ?_⟩)))⟩))⟩))))
      · have := direct_len t; have := W.sup _ _ ht; rw [List.length_map, List.length_map, sizeLine_eq]; omega
      refine sv_nil (sv_nil ⟨_, ?_, found ++ [o], waiting ++ t.direct, N, ⟨rfl, rfl, rfl, rfl, trivial⟩, le₂.setL σW, ?_, ?_, rfl⟩)
      · have := direct_len t; have := W.sup _ _ ht
        simp only [List.length_append, List.length_cons, List.length_nil]; omega
      · rw [St.set_ne _ _ hFW, St.set_same]; simp
      · rw [St.set_same]; simp
end
end Mine
namespace Mine
def HasL (σ : St) (a : Addr) (x : Str) (ds : List V) : Prop := ∃ ps l, Self σ a ps ∧ Loc.get ps x = some (.ref l) ∧ σ l = some (.list ds)
theorem HasL.le {σ σ' : St} {a x ds} (h : HasL σ a x ds) (l : Le σ σ') : HasL σ' a x ds := let ⟨ps, m, p, q, r⟩ := h; ⟨ps, m, p.le l, q, l _ _ r⟩
section
variable {G : Amb} {A : Around} {env : Env} {L : Addr} {ρ : Loc} {σ : St} {X : Value → Shared → Prop} {k : V → St → Prop}
theorem M_fields (hG : IsG G) : IsM G "fields" 240 := by constructor <;> rw [hG.K] <;> rfl
theorem M_take_order (hG : IsG G) : IsM G "take_order" 149 := by constructor <;> rw [hG.K] <;> rfl
theorem c_fields (hG : IsG G) {n : Nat} (R : Room A (n + 1)) {self : Addr} {ds : List V} (H : HasL σ self "own_fields" ds) (hsz : ds.length ≤ sizeLine)
    (h : ∀ D, σ D = none → k (.ref D) (σ.set D (.list ds))) : OpC G A L ρ σ (.ref 240) [.ref self] k X := by
  refine opc_fn0 (f := 240) ["self"] (by rw [hG.K]; rfl) (by rw [hG.K]; rfl) R fun L' A' env he R' => ?_
  obtain ⟨ps, l, s, hg, hl⟩ := id H
  obtain ⟨b1, b2⟩ := B_list hG
  subst he
  exact sv_cons (sv_Return (ev_Call (ev_builtin b1 b2 rfl ⟨_, rfl, .type _, lv_cons (ev_self hG (ev_local (x := "self") ⟨self, ps, _, rfl, s, hg, lv_nil (opc_list_list hl hsz h)⟩))⟩)))
end
end Mine
namespace Mine
def Mod (W : List Addr) (σ σ' : St) : Prop := ∀ b o, b ∉ W → σ b = some o → σ' b = some o
theorem Mod.refl (W : List Addr) (σ : St) : Mod W σ σ := fun _ _ _ e => e
theorem Mod.trans {W : List Addr} {a b c : St} (x : Mod W a b) (y : Mod W b c) : Mod W a c := fun p o m e => y p o m (x p o m e)
theorem Mod.set {W : List Addr} {σ σ' : St} {a : Addr} {o : AObj} (x : Mod W σ σ') (m : a ∈ W) : Mod W σ (σ'.set a o) := fun b o' hb e => by
  have q : b ≠ a := fun q => by subst q; exact hb m
  rw [St.set_ne _ _ q]; exact x b o' hb e
theorem Le.mod {W : List Addr} {σ σ' : St} (x : Le σ σ') : Mod W σ σ' := fun b o _ e => x b o e
theorem Mod.sub {W W' : List Addr} {σ σ' : St} (x : Mod W σ σ') (h : ∀ b ∈ W, b ∈ W') : Mod W' σ σ' := fun b o m e => x b o (fun q => m (h b q)) e
theorem Self.mod {W : List Addr} {σ σ' : St} {a ps} (x : Self σ a ps) (l : Mod W σ σ') (hi : ∀ b ∈ W, ∀ C dx, σ b ≠ some (.inst C dx)) (ha : ∀ b ∈ W, ∀ ps, σ b ≠ some (.attrs ps)) : Self σ' a ps :=
  let ⟨dx, p, q, r⟩ := x; ⟨dx, l _ _ (fun m => hi _ m _ _ p) p, l _ _ (fun m => ha _ m _ q) q, r⟩
structure Cons (σ : St) (me E S : Addr) (ps : List (Str × V)) (es : Ens) (stands : List Str) : Prop where
  slf : Self σ me ps
  gE : Loc.get ps "entries" = some (.ref E)
  gS : Loc.get ps "stands" = some (.ref S)
  ent : ∃ ep, σ E = some (.sdict ep (vents es))
  std : σ S = some (.list (stands.map .str))
theorem Cons.ne {σ self E S ps es stands} (x : Cons σ self E S ps es stands) : E ≠ S := fun q => by
  obtain ⟨ep, h⟩ := x.ent; have := x.std; rw [← q, h] at this; cases this
theorem Cons.ents {σ self E S ps es stands} (x : Cons σ self E S ps es stands) : Ents σ self es := let ⟨ep, h⟩ := x.ent; ⟨ps, E, ep, x.slf, x.gE, h⟩
theorem Cons.hasS {σ self E S ps es stands} (x : Cons σ self E S ps es stands) : HasL σ self "stands" (stands.map .str) := ⟨ps, S, x.slf, x.gS, x.std⟩
theorem vput_new (es : Ens) (x : Str) (it : It) (h : x ∉ es.map (·.1)) : vput (vents es) x it.V = vents (es ++ [(x, it)]) := by
  unfold vput
  have e : (vents es).any (fun kv => decide (kv.1 = x)) = false := by
    rw [List.any_eq_false]
    intro p hp
    unfold vents at hp
    obtain ⟨q, hq, rfl⟩ := List.mem_map.mp hp
    simp only [decide_eq_true_eq]
    exact fun e => h (List.mem_map.mpr ⟨q, hq, e⟩)
  rw [e, if_neg (by decide)]
  simp [vents]
theorem gets_none {α : Type} {x : Str} : ∀ {es : List (Str × α)}, x ∉ es.map (·.1) → gets es x = none
  | [], _ => rfl
  | (y, t) :: r, h => by
    simp only [List.map_cons, List.mem_cons, not_or] at h
    unfold gets
    rw [if_neg h.1]; exact gets_none h.2
section
variable {G : Amb} {A : Around} {env : Env} {L : Addr} {ρ : Loc} {σ : St} {X : Value → Shared → Prop} {k : V → St → Prop}
theorem c_take_sig (hG : IsG G) {n : Nat} (R : Room A (n + 1)) {self E S : Addr} {ps : List (Str × V)} {es : Ens} {stands : List Str} {it : It} (H : Cons σ self E S ps es stands) (hnd : it.names.Nodup) (hdis : ∀ x ∈ it.names, x ∉ es.map (·.1))
    (hsz : es.length + it.names.length ≤ 1000) (hst : stands.length + it.names.length ≤ 1000) (hsup : it.supers.length ≤ 1000) (hab : it.supers ≠ [] → it.abs = false)
    (h : ∀ σ', Mod [E, S] σ σ' → Cons σ' self E S ps (es ++ it.names.map fun x => (x, it)) (stands ++ it.names) → k .none σ') : OpC G A L ρ σ (.ref 111) [.ref self, it.V] k X := by
  refine opc_fn0 (f := 111) ["self", "item"] (by rw [hG.K]; rfl) (by rw [hG.K]; rfl) R fun L' A' env he R' => ?_
  obtain ⟨bn1, bn2⟩ := B_len hG
  subst he
  refine sv_cons (sv_For PassesOwn.never (ie_tup R'.handled (ev_Subscript (ev_local (x := "item") (ev_int (op_item_tup (d := .tup (it.names.map .str)) (by decide) (by decide) rfl ⟨_, rfl, ?_⟩))))))
  have ne := H.ne
  refine ⟨fun i ρ' σ' => Sub [("self", .ref self), ("item", it.V)] ρ' ∧ Mod [E, S] σ σ' ∧ Cons σ' self E S ps (es ++ (it.names.take i).map fun x => (x, it)) (stands ++ it.names.take i),
    ⟨⟨rfl, rfl, trivial⟩, Mod.refl _ _, by simpa using H⟩, fun _ _ _ _ => trivial, ?_, ?_⟩
  · rintro i ρ₁ σ₁ hi ⟨hs, hm, C⟩
    rw [List.length_map] at hi
    refine TS.sub ?_ hs
    dsimp only
    rw [getD_map (default : Str) _ _ _ hi]
    have hget : it.names.getD i default = it.names[i] := by rw [List.getD_eq_getElem?_getD, List.getElem?_eq_getElem hi]; rfl
    rw [hget]
    have htk : it.names.take (i + 1) = it.names.take i ++ [it.names[i]] := by rw [List.take_add_one, List.getElem?_eq_getElem hi]; rfl
    obtain ⟨ep, hE⟩ := C.ent
    have hnot : it.names[i] ∉ (es ++ (it.names.take i).map fun x => (x, it)).map (·.1) := by
      rw [List.map_append, List.map_map, List.mem_append]
      rintro (q | q)
      · exact hdis _ (List.getElem_mem hi) q
      · have em : (List.map (fun x => (x, it)) (it.names.take i)).map (·.1) = it.names.take i := by rw [List.map_map]; exact List.map_id _
        have q' : it.names[i] ∈ it.names.take i := by rw [← em]; simpa using q
        obtain ⟨j, hj, e⟩ := List.mem_take_iff_getElem.mp q'
        have := (List.getElem_inj hnd).mp e
        omega
    refine ts_Name (ts_local (sv_cons (sv_If (bv_Compare (ev_local (x := "name") (ev_self hG (ev_local (x := "self") ⟨self, ps, _, rfl, C.slf, C.gE, op_in_sdict hE ⟨_, rfl, ?_⟩⟩)))))))
    rw [get_vents, gets_none hnot]
    simp only [Option.map_none, Option.isSome_none, Bool.false_eq_true, if_false]
    refine sv_nil (sv_cons (sv_AssignSub (ev_local (x := "item") (ev_self hG (ev_local (x := "self") ⟨self, ps, _, rfl, C.slf, C.gE, ev_local (x := "name") (set_sdict hE ?_ fun ep' => ?_)⟩)))))
    · have hl := List.length_take_le i it.names
      simp only [vents, List.length_map, List.length_append]; rw [sizeLine_eq]; omega
    rw [vput_new _ _ _ hnot]
    have C' : Cons (σ₁.set E (.sdict ep' (vents ((es ++ (it.names.take i).map fun x => (x, it)) ++ [(it.names[i], it)])))) self E S ps ((es ++ (it.names.take i).map fun x => (x, it)) ++ [(it.names[i], it)]) (stands ++ it.names.take i) :=
      ⟨C.slf.mod ((Mod.refl [E] σ₁).set (by simp)) (fun b m C dx q => by rw [List.mem_singleton.mp m, hE] at q; cases q) (fun b m ps q => by rw [List.mem_singleton.mp m, hE] at q; cases q), C.gE, C.gS, ⟨_, St.set_same ..⟩, (St.keep ne.symm C.std)⟩
    refine sv_cons (sv_Expr (ev_MCall (ev_self hG (ev_local (x := "self") ⟨self, ps, _, rfl, C'.slf, C'.gS, gm_list PySem.F.slot_list_append PySem.F.type_list_append C'.std ⟨.builtin _, lv_cons (ev_local (x := "name") (lv_nil (opc_append C'.std ?_ ⟨rfl, ?_⟩)))⟩⟩))))
    · have hl := List.length_take_le i it.names
      simp only [List.length_map, List.length_append]; rw [sizeLine_eq]; omega
    refine sv_nil ⟨⟨rfl, rfl, trivial⟩, (hm.set (by simp)).set (by simp), ?_⟩
    rw [htk, List.map_append (f := fun x => (x, it)), ← List.append_assoc es, ← List.append_assoc stands]
    obtain ⟨ep2, hE2⟩ := C'.ent
    exact ⟨C'.slf.mod ((Mod.refl [S] _).set (by simp)) (fun b m C dx q => by rw [List.mem_singleton.mp m, C'.std] at q; cases q) (fun b m ps q => by rw [List.mem_singleton.mp m, C'.std] at q; cases q), C'.gE, C'.gS, ⟨ep2, (St.keep ne hE2)⟩, by rw [St.set_same, List.map_append (l₂ := [it.names[i]])]; rfl⟩
  · rintro ρ₁ σ₁ ⟨hs, hm, C⟩
    rw [List.length_map, List.take_length] at C
    refine SV.sub ?_ hs
    have last : k .none σ₁ := h σ₁ hm C
    refine sv_cons (sv_If (bv_And (bv_Compare (ev_Call (ev_builtin bn1 bn2 rfl ⟨_, rfl, .builtin _, lv_cons (ev_Subscript (ev_local (x := "item") (ev_int (op_item_tup (d := .tup (it.supers.map .str)) (by decide) (by decide) rfl (lv_nil (opc_len_tup (by rw [List.length_map, sizeLine_eq]; omega) (ev_int (op_gt_int ⟨_, rfl, ?_⟩))))))))⟩)))))
    cases hq : it.supers with
    | nil => simpa using sv_nil (sv_nil last)
    | cons a r =>
      simp only [List.map_cons, List.length_cons, List.length_map]
      rw [show decide ((0 : Int) < ((r.length + 1 : Nat) : Int)) = true from by simp, if_pos rfl]
      have hf := hab (by rw [hq]; simp)
      refine bv_And (bv_plain (ev_Subscript (ev_local (x := "item") (ev_int (op_item_tup (d := .bool it.abs) (by decide) (by decide) rfl ⟨_, rfl, ?_⟩)))))
      rw [hf]
      simp only [Bool.false_eq_true, if_false]
      exact sv_nil (sv_nil last)
theorem c_look_above (hG : IsG G) {n : Nat} (R : Room A (n + 3)) {self : Addr} {es : Ens} {name : Str} {it : It} (H : Ents σ self es) (W : WF es) (hn : gets es name = some it)
    (hp : it.parent ≠ "" → ∀ t, gets es it.parent = some t → t.supers = [])
    (h : k .none σ) : OpC G A L ρ σ (.ref 118) [.ref self, .str name] k X := by
  refine opc_fn0 (f := 118) ["self", "name"] (by rw [hG.K]; rfl) (by rw [hG.K]; rfl) R fun L' A' env he R' => ?_
  obtain ⟨ps, E, ep, s, hg, hE⟩ := id H
  have hsup := W.sup _ _ hn
  subst he
  refine sv_cons (sv_For PassesOwn.never (ie_tup R'.handled (ev_m1 (M_direct hG) (ev_local (x := "self") ⟨self, ps, rfl, s, ev_local (x := "name") (c_direct hG R' H hn (by omega) ⟨_, rfl, ?_⟩)⟩))))
  refine ⟨fun i ρ' σ' => Sub [("self", .ref self), ("name", .str name)] ρ' ∧ σ' = σ, ⟨⟨rfl, rfl, trivial⟩, rfl⟩, fun _ _ _ _ => trivial, ?_, ?_⟩
  · rintro i ρ₁ _ hi ⟨hs, rfl⟩
    rw [List.length_map] at hi
    refine TS.sub ?_ hs
    dsimp only
    rw [getD_map (default : Str) _ _ _ hi]
    obtain ⟨t, ht⟩ := W.dir _ _ hn _ (getD_mem default _ hi)
    refine ts_Name (ts_local (sv_cons (sv_If (bv_Compare (ev_local (x := "other") (ev_self hG (ev_local (x := "self") ⟨self, ps, _, rfl, s, hg, op_notIn_sdict hE ⟨_, rfl, ?_⟩⟩)))))))
    rw [get_vents, ht]
    simp only [Option.map_some, Option.isSome_some, Bool.not_true, Bool.false_eq_true, if_false]
    exact sv_nil (sv_nil ⟨⟨rfl, rfl, trivial⟩, rfl⟩)
  · rintro ρ₁ _ ⟨hs, rfl⟩
    refine SV.sub ?_ hs
    refine sv_cons (sv_If (bv_And (bv_Compare (ev_m1 (M_parent hG) (ev_local (x := "self") ⟨self, ps, rfl, s, ev_local (x := "name") (c_parent hG (R'.le (by omega : n + 1 ≤ n + 2)) H hn (ev_str (op_ne_str ⟨_, rfl, ?_⟩)))⟩)))))
    by_cases q : it.parent = ""
    · simp only [q, decide_true, Bool.not_true, Bool.false_eq_true, if_false]
      exact sv_nil (sv_nil h)
    · simp only [q, decide_false, Bool.not_false, if_true]
      obtain ⟨t, ht⟩ := W.dir _ _ hn it.parent (by unfold It.direct; rw [if_neg q]; simp)
      refine bv_And (bv_plain (ev_m1 (M_is_subset hG) (ev_local (x := "self") ⟨self, ps, rfl, s, ev_m1 (M_parent hG) (ev_local (x := "self") ⟨self, ps, rfl, s, ev_local (x := "name") (c_parent hG (R'.le (by omega : n + 1 ≤ n + 2)) H hn
        (c_is_subset hG (R'.le (by omega : n + 1 ≤ n + 2)) H ht (by rw [hp q t ht]; simp) ⟨_, rfl, ?_⟩))⟩)⟩)))
      rw [hp q t ht]
      simp only [List.isEmpty_nil, Bool.not_true, Bool.false_eq_true, if_false]
      exact sv_nil (sv_nil h)
end
end Mine
namespace Mine
def dirs (es : Ens) (x : Str) : List Str := ((gets es x).map It.direct).getD []
def ready (es : Ens) (found : List Str) (x : Str) : Bool := (dirs es x).all fun y => decide (y ∈ found)
inductive PF (es : Ens) : List Str → List Str → List Str → Prop
  | done {f} : PF es f [] f
  | step {f rest x out} : rest.find? (ready es f) = some x → PF es (f ++ [x]) (rest.erase x) out → PF es f rest out
theorem filter_head {α : Type} (p : α → Bool) (xs : List α) : (xs.filter p).head? = xs.find? p := by
  induction xs with
  | nil => rfl
  | cons x r ih =>
    rw [List.filter_cons, List.find?_cons]
    cases p x <;> simp [ih]
theorem filter_notIn (xs found : List Str) : (xs.filter fun x => !decide (x ∈ found)).isEmpty = xs.all fun y => decide (y ∈ found) := by
  induction xs with
  | nil => rfl
  | cons x r ih =>
    rw [List.filter_cons, List.all_cons, ← ih]
    by_cases q : x ∈ found <;> simp [q]
section
variable {G : Amb} {A : Around} {env : Env} {L : Addr} {ρ : Loc} {σ : St} {X : Value → Shared → Prop} {k : V → St → Prop}
theorem c_parents_first (hG : IsG G) {n : Nat} (R : Room A (n + 3)) {self : Addr} {es : Ens} {stands out : List Str} (H : Ents σ self es) (HS : HasL σ self "stands" (stands.map .str)) (W : WF es) (hall : ∀ x ∈ stands, ∃ t, gets es x = some t) (hsz : stands.length ≤ 1000)
    (hp : PF es [] stands out)
    (h : ∀ D σ', Le σ σ' → σ D = none → σ' D = some (.list (out.map .str)) → k (.ref D) σ') : OpC G A L ρ σ (.ref 130) [.ref self] k X := by
  refine opc_fnC (f := 130) ["self"] (ρ₀ := []) (by rw [hG.K]; rfl) (by rw [hG.K]; rfl) R fun L' A' env σC he R' le hc => ?_
  obtain ⟨ps, l, s, hg, hl⟩ := id HS
  obtain ⟨bl1, bl2⟩ := B_list hG
  obtain ⟨bn1, bn2⟩ := B_len hG
  subst he
  have c1 : σC (L' + 1) = some (.cell (some (.ref self))) := (hc "self" (L' + 1) (.tail _ (.head _))).1
  have c2 : σC (L' + 2) = some (.cell none) := (hc "found" (L' + 2) (.head _)).1
  have n2 : σ (L' + 2) = none := (hc "found" (L' + 2) (.head _)).2
  have lf : ∀ a, σC a = none → σ a = none := fun a q => by
    cases e : σ a with
    | none => rfl
    | some o => rw [le _ _ e] at q; cases q
  refine sv_cons (sv_AssignTup (ev_Tuple (lv_cons (ev_List (lv_nil ⟨len_ok rfl, fun F hF => ?_⟩)))))
  have l1 : Le σC (σC.set F (.list [])) := Le.set hF
  refine lv_cons (ev_Call (ev_builtin bl1 bl2 rfl ⟨_, rfl, .type _, lv_cons (ev_self hG (ev_cell (x := "self") (c := L' + 1) (l1 _ _ c1) ⟨self, ps, _, rfl, s.le (le.trans l1), hg, lv_nil (opc_list_list (l1 _ _ (le _ _ hl)) (by rw [List.length_map, sizeLine_eq]; omega) fun Q hQ => ?_)⟩))⟩))
  have l2 := Le.set (o := .list (stands.map .str)) hQ
  have hFQ : F ≠ Q := fun q => by rw [q, St.set_same] at hQ; cases hQ
  refine lv_nil ⟨len_ok rfl, ts_Tuple R'.handled (tl_cons (ts_Name (ts_cell (c := L' + 2) (l2 _ _ (l1 _ _ c2)) (tl_cons (ts_Name (ts_local (tl_nil ?_)))))))⟩
  have hF2 : F ≠ L' + 2 := fun q => by rw [q, c2] at hF; cases hF
  have hQ2 : Q ≠ L' + 2 := fun q => by have := l1 _ _ c2; rw [← q, hQ] at this; cases this
  have hF1 : L' + 1 ≠ F := fun q => by rw [← q, c1] at hF; cases hF
  have σQ : σ Q = none := lf _ (by rw [St.set_ne _ _ hFQ.symm] at hQ; exact hQ)
  have σF : σ F = none := lf _ hF
  refine sv_cons (sv_While PassesOwn.never (fun m ρ' σ' => ∃ found rest, PF es found rest out ∧ (∀ x ∈ rest, x ∈ stands) ∧ found.length + rest.length ≤ stands.length ∧ Sub [("rest", .ref Q)] ρ' ∧ Le σ σ' ∧
    σ' (L' + 1) = some (.cell (some (.ref self))) ∧ σ' (L' + 2) = some (.cell (some (.ref F))) ∧ σ' F = some (.list (found.map .str)) ∧ σ' Q = some (.list (rest.map .str)) ∧ m = rest.length) _
    ⟨[], stands, hp, fun _ h => h, by simp, ⟨rfl, trivial⟩, ((le.trans l1).trans l2).setL n2, (St.keep ((Nat.ne_of_lt (Nat.lt_succ_self _))) (l2 _ _ (l1 _ _ c1))), St.set_same .., (St.keep hF2 (l2 _ _ (St.set_same ..))), (St.keep hQ2 (St.set_same ..)), rfl⟩ ?_)
  rintro m ρ' σ' ⟨found, rest, P, hin, hlen, hs, le', d1, d2, hf, hr, rfl⟩
  refine ⟨_, hs, bv_Compare (ev_Call (ev_builtin bn1 bn2 rfl ⟨_, rfl, .builtin _, lv_cons (ev_local (x := "rest") (lv_nil (opc_len_list hr ?_ (ev_int (op_gt_int ⟨_, rfl, ?_⟩)))))⟩))⟩
  · rw [List.length_map, sizeLine_eq]; omega
  cases P with
  | done =>
    simp only [List.map_nil, List.length_nil, Int.natCast_zero, Int.lt_irrefl, decide_false, Bool.false_eq_true, if_false]
    exact sv_cons (sv_Return (ev_cell (x := "found") (c := L' + 2) d2 (h F σ' le' σF hf)))
  | @step _ _ x _ hx hp' =>
    have hxr : x ∈ rest := List.mem_of_find?_eq_some hx
    have hpos : 0 < rest.length := List.length_pos_of_mem hxr
    rw [show decide ((0 : Int) < ((rest.map V.str).length : Nat)) = true from by rw [List.length_map]; simp; omega, if_pos rfl]
    refine sv_cons (sv_Over (default : Str) (ie_list R'.handled (ev_local (x := "rest") ⟨Q, _, rfl, hr, rest, V.str, ready es found, V.str,
      ⟨by simp, fun i d hi => getD_map d _ _ _ (by simpa using hi), fun σ'' l' => l' _ _ hr, by rw [sizeLine_eq]; omega, fun C y σ₂ hy l₂ => ?_⟩, fun Bq σ₂ l₂ hB hB' => ?_⟩)))
    · obtain ⟨t, ht⟩ := hall y (hin y hy)
      have hsup := W.sup _ _ ht
      have hdl := direct_len t
      have l02 := le'.trans l₂
      refine ts_Name (ts_local (qv_one (bv_Compare (ev_Over (default : Str) (ie_tup R'.handled (ev_m1 (M_direct hG) (ev_cell (x := "self") (c := L' + 1) (l₂ _ _ d1) ⟨self, ps, rfl, s.le l02, ev_local (x := "name") (c_direct hG R' (H.le l02) ht (by omega) ⟨_, rfl,
        t.direct, V.str, (fun z => !decide (z ∈ found)), V.str, ⟨by simp, fun i d hi => getD_map d _ _ _ (by simpa using hi), fun _ _ => trivial, by rw [sizeLine_eq]; omega, fun C₂ z σ₃ hz l₃ => ?_⟩, fun D₂ σ₃ l₃ hD₂ hD₂' => ?_⟩)⟩)))))))
      · refine ts_Name (ts_local (qv_one (bv_Compare (ev_local (x := "other") (ev_cell (x := "found") (c := L' + 2) (l₃ _ _ (l₂ _ _ d2)) (op_notIn_strs (l₃ _ _ (l₂ _ _ hf)) ⟨_, rfl, rfl, ?_⟩))))))
        by_cases q : z ∈ found
        · simp only [q, decide_true, Bool.not_true, Bool.false_eq_true, if_false]; exact Le.refl _
        · simp only [q, decide_false, Bool.not_false, if_true]
          exact ev_local (x := "other") ⟨rfl, Le.refl _⟩
      · refine ev_List (lv_nil ⟨len_ok rfl, fun N hN => ?_⟩)
        have hDN : D₂ ≠ N := fun q => by rw [q] at hD₂'; rw [hN] at hD₂'; cases hD₂'
        refine op_eq_nil (n := n) (R'.le (by omega)) ((St.keep hDN hD₂')) (St.set_same ..) (fit_strs fun z hz => ?_) ⟨_, rfl, ?_⟩
        · obtain ⟨t', ht'⟩ := W.dir _ _ ht z (List.mem_filter.mp hz).1
          exact W.ok _ _ ht'
        · have e : ((t.direct.filter fun z => !decide (z ∈ found)).map V.str).isEmpty = ready es found y := by
            rw [List.isEmpty_map, filter_notIn]
            unfold ready dirs
            rw [ht]; rfl
          rw [e]
          refine ⟨rfl, ?_⟩
          cases ready es found y with
          | false => simp only [Bool.false_eq_true, if_false]; exact l₃.trans (Le.set hN)
          | true =>
            simp only [if_true]
            exact ev_local (x := "name") ⟨rfl, l₃.trans (Le.set hN)⟩
    · have l02 := le'.trans l₂
      have hhead : (rest.filter (ready es found))[0]? = some x := by rw [← List.head?_eq_getElem?, filter_head]; exact hx
      have hlenf := List.length_filter_le (ready es found) rest
      have hne : 0 < (rest.filter (ready es found)).length := (List.getElem?_eq_some_iff.mp hhead).1
      refine sv_cons (sv_If (bv_Compare (ev_Call (ev_builtin bn1 bn2 rfl ⟨_, rfl, .builtin _, lv_cons (ev_local (x := "able") (lv_nil (opc_len_list hB' ?_ (ev_int (op_eq_int ⟨_, rfl, ?_⟩)))))⟩))))
      · rw [List.length_map, sizeLine_eq]; omega
      rw [show decide ((((rest.filter (ready es found)).map V.str).length : Int) = 0) = false from by rw [List.length_map, decide_eq_false_iff_not]; omega]
      simp only [Bool.false_eq_true, if_false]
      refine sv_nil (sv_cons (sv_Expr (ev_MCall (ev_cell (x := "found") (c := L' + 2) (l₂ _ _ d2) (gm_list PySem.F.slot_list_append PySem.F.type_list_append (l₂ _ _ hf) ⟨.builtin _, lv_cons (ev_Subscript (ev_local (x := "able") (ev_int
        (op_item_list (d := .str x) hB' (by decide) (by decide) ?_ (lv_nil (opc_append (l₂ _ _ hf) ?_ ⟨rfl, ?_⟩))))))⟩)))))
      · show ((rest.filter (ready es found)).map V.str)[0]? = _
        rw [List.getElem?_map, hhead]; rfl
      · rw [List.length_map, sizeLine_eq]; omega
      have hBF : Bq ≠ F := fun q => by rw [q, hf] at hB; cases hB
      have hBQ : Bq ≠ Q := fun q => by rw [q, hr] at hB; cases hB
      have hr₃ : (σ₂.set F (.list (found.map .str ++ [.str x]))) Q = some (.list (rest.map .str)) := St.keep hFQ.symm (l₂ _ _ hr)
      have hB₃ : (σ₂.set F (.list (found.map .str ++ [.str x]))) Bq = some (.list ((rest.filter (ready es found)).map .str)) := St.keep hBF hB'
      refine sv_cons (sv_Expr (ev_MCall (ev_local (x := "rest") (gm_list PySem.F.slot_list_remove PySem.F.type_list_remove hr₃ ⟨.builtin _, lv_cons (ev_Subscript (ev_local (x := "able") (ev_int
        (op_item_list (d := .str x) hB₃ (by decide) (by decide) ?_ (lv_nil (opc_remove hr₃ ?_ hxr ⟨rfl, ?_⟩))))))⟩))))
      · show ((rest.filter (ready es found)).map V.str)[0]? = _
        rw [List.getElem?_map, hhead]; rfl
      · rw [sizeLine_eq]; omega
      have hle := List.length_erase_of_mem hxr
      refine sv_nil ⟨_, ?_, found ++ [x], rest.erase x, hp', fun z hz => hin z (List.mem_of_mem_erase hz), ?_, ⟨rfl, trivial⟩, (l02.setL σF).setL σQ, ?_, ?_, ?_, ?_, rfl⟩
      · omega
      · simp only [List.length_append, List.length_cons, List.length_nil]; omega
      · rw [St.set_ne _ _ (fun q => by rw [q, hr] at d1; cases d1), St.set_ne _ _ hF1]; exact l₂ _ _ d1
      · rw [St.set_ne _ _ hQ2.symm, St.set_ne _ _ hF2.symm]; exact l₂ _ _ d2
      · rw [St.set_ne _ _ hFQ, St.set_same]; simp
      · rw [St.set_same]
end
end Mine
namespace Mine
structure Fd where
  field : Str
  name : Str
  mult : Str
  node : V
  spot : Int
  grp : Int
def Fd.V (f : Fd) : V := .tup [.str f.field, .str f.name, .str f.mult, f.node, .int f.spot, .int f.grp]
def one (r : Rw) (name : Str) (g : Int) (f : Str) : Fd := ⟨f, name, r.mult, r.node, r.spot, if r.disj then g else -1⟩
abbrev FS := List Fd × Int
def stepRow (name : Str) (st : FS) (r : Rw) : FS := (st.1 ++ r.names.map (one r name st.2), st.2 + if r.disj then 1 else 0)
def rowsOf (es : Ens) (x : Str) : List Rw := ((gets es x).map It.rows).getD []
def stepName (es : Ens) (st : FS) (x : Str) : FS := (rowsOf es x).foldl (stepRow x) st
def allF (es : Ens) (seq : List Str) : FS := seq.foldl (stepName es) ([], 0)
theorem foldl_len {α : Type} (f : FS → α → FS) (hf : ∀ st a, st.1.length ≤ (f st a).1.length) : ∀ (xs : List α) (st : FS), st.1.length ≤ (xs.foldl f st).1.length
  | [], _ => Nat.le_refl _
  | a :: r, st => Nat.le_trans (hf st a) (foldl_len f hf r _)
theorem stepRow_len (name : Str) (st : FS) (r : Rw) : st.1.length ≤ (stepRow name st r).1.length := by simp [stepRow]
theorem stepName_len (es : Ens) (st : FS) (x : Str) : st.1.length ≤ (stepName es st x).1.length := foldl_len _ (stepRow_len x) _ _
theorem foldl_take {α β : Type} (f : β → α → β) (b : β) (xs : List α) (i : Nat) (h : i < xs.length) : (xs.take (i + 1)).foldl f b = f ((xs.take i).foldl f b) xs[i] := by
  rw [List.take_add_one, List.getElem?_eq_getElem h, List.foldl_append]; rfl
theorem foldl_take_len {α : Type} (f : FS → α → FS) (hf : ∀ st a, st.1.length ≤ (f st a).1.length) (xs : List α) (st : FS) (i : Nat) : ((xs.take i).foldl f st).1.length ≤ (xs.foldl f st).1.length := by
  conv => rhs; rw [← List.take_append_drop i xs, List.foldl_append]
  exact foldl_len f hf _ _
theorem getD_mapE {α : Type} (e : V) (enc : α → V) (xs : List α) {i : Nat} (h : i < xs.length) : (xs.map enc).getD i e = enc xs[i] := by
  rw [List.getD_eq_getElem?_getD, List.getElem?_map, List.getElem?_eq_getElem h]; rfl
section
variable {G : Amb} {A : Around} {env : Env} {L : Addr} {ρ : Loc} {σ : St} {X : Value → Shared → Prop} {k : V → St → Prop}
theorem c_all_fields (hG : IsG G) {n : Nat} (R : Room A (n + 1)) {self : Addr} {es : Ens} {seq : List Str} (H : Ents σ self es) (HS : HasL σ self "ordered" (seq.map .str)) (hall : ∀ x ∈ seq, ∃ t, gets es x = some t) (hsz : (allF es seq).1.length ≤ 10000)
    (h : ∀ D σ', Le σ σ' → σ D = none → σ' D = some (.list ((allF es seq).1.map Fd.V)) → k (.ref D) σ') : OpC G A L ρ σ (.ref 137) [.ref self] k X := by
  refine opc_fn0 (f := 137) ["self"] (by rw [hG.K]; rfl) (by rw [hG.K]; rfl) R fun L' A' env he R' => ?_
  obtain ⟨ps, l, s, hg, hl⟩ := id HS
  subst he
  refine sv_cons (sv_AssignSwap (names := ["found", "group"]) R'.handled (ev_Tuple (lv_cons (ev_List (lv_nil ⟨len_ok rfl, fun F hF => lv_cons (ev_int (lv_nil ⟨len_ok rfl, _, rfl, rfl, tl_cons (ts_bind (ts_local (tl_cons (ts_bind (ts_local (tl_nil ?_)))))) ⟩)) ⟩)))))
  refine sv_cons (sv_For PassesOwn.never (ie_list R'.handled (ev_self hG (ev_local (x := "self") ⟨self, ps, _, rfl, s.le (Le.set hF), hg, l, _, rfl, Le.set hF _ _ hl, ?_⟩))))
  have bound : ∀ i, ((seq.take i).foldl (stepName es) ([], 0)).1.length ≤ 10000 := fun i => Nat.le_trans (foldl_take_len _ (stepName_len es) _ _ _) hsz
  refine ⟨fun i ρ' σ' => Sub [("self", .ref self), ("group", .int ((seq.take i).foldl (stepName es) ([], 0)).2), ("found", .ref F)] ρ' ∧ Le σ σ' ∧ σ' F = some (.list (((seq.take i).foldl (stepName es) ([], 0)).1.map Fd.V)),
    ⟨⟨rfl, rfl, rfl, trivial⟩, Le.set hF, by rw [St.set_same]; rfl⟩, fun i ρ σ' h => h.2.1 _ _ hl, ?_, ?_⟩
  · rintro i ρ₁ σ₁ hi ⟨hs, le, hf⟩
    rw [List.length_map] at hi
    refine TS.sub ?_ hs
    dsimp only
    have hb1 := bound (i + 1)
    rw [foldl_take _ _ _ _ hi] at hb1 ⊢
    rw [getD_mapE _ _ _ hi]
    generalize hst : (seq.take i).foldl (stepName es) ([], 0) = st at hf hb1 ⊢
    obtain ⟨t, ht⟩ := hall _ (List.getElem_mem hi)
    generalize seq[i] = name at ht hb1 ⊢
    have hrows : rowsOf es name = t.rows := by unfold rowsOf; rw [ht]; rfl
    unfold stepName at hb1 ⊢
    rw [hrows] at hb1 ⊢
    refine ts_Name (ts_local (sv_cons (sv_For PassesOwn.never (ie_tup R'.handled (ev_entry hG (i := 7) (H.le le) ht (fun k h => ev_local (x := "self") h) (fun k h => ev_local (x := "name") h) (fun k h => ev_int h) (by decide) (by decide) rfl rfl ⟨_, rfl, ?_⟩)))))
    have bound2 : ∀ j, ((t.rows.take j).foldl (stepRow name) st).1.length ≤ 10000 := fun j => Nat.le_trans (foldl_take_len _ (stepRow_len name) _ _ _) hb1
    refine ⟨fun j ρ' σ' => Sub [("self", .ref self), ("group", .int ((t.rows.take j).foldl (stepRow name) st).2), ("found", .ref F), ("name", .str name)] ρ' ∧ Le σ σ' ∧ σ' F = some (.list (((t.rows.take j).foldl (stepRow name) st).1.map Fd.V)),
      ⟨⟨rfl, rfl, rfl, rfl, trivial⟩, le, hf⟩, fun _ _ _ _ => trivial, ?_, ?_⟩
    · rintro j ρ₂ σ₂ hj ⟨hs₂, le₂, hf₂⟩
      rw [List.length_map] at hj
      refine TS.sub ?_ hs₂
      dsimp only
      have hb2 := bound2 (j + 1)
      rw [foldl_take _ _ _ _ hj] at hb2 ⊢
      rw [getD_mapE _ _ _ hj]
      generalize (t.rows.take j).foldl (stepRow name) st = st₂ at hf₂ hb2 ⊢
      generalize t.rows[j] = r at hb2 ⊢
      refine ts_Tuple R'.handled (ds := [.int r.spot, .bool r.disj, .tup (r.names.map .str), .str r.mult, r.node]) ?_
      refine tl_cons (ts_Name (ts_local ?_))
      refine tl_cons (ts_Name (ts_local ?_))
      refine tl_cons (ts_Name (ts_local ?_))
      refine tl_cons (ts_Name (ts_local ?_))
      refine tl_cons (ts_Name (ts_local ?_))
      refine tl_nil (gen_k fun kk₂ hkk₂ => ?_)
      refine sv_cons (sv_For PassesOwn.never (ie_tup R'.handled (ev_local (x := "fields") ⟨_, rfl, ?_⟩)))
      have hb3 : st₂.1.length + r.names.length ≤ 10000 := by simpa [stepRow] using hb2
      refine ⟨fun m ρ' σ' => Sub [("self", .ref self), ("group", .int st₂.2), ("found", .ref F), ("name", .str name), ("spot", .int r.spot), ("is_disj", .bool r.disj), ("mult", .str r.mult), ("node", r.node)] ρ' ∧ Le σ σ' ∧ σ' F = some (.list ((st₂.1 ++ (r.names.take m).map (one r name st₂.2)).map Fd.V)),
        ⟨⟨rfl, rfl, rfl, rfl, rfl, rfl, rfl, rfl, trivial⟩, le₂, by simpa using hf₂⟩, fun _ _ _ _ => trivial, ?_, ?_⟩
      · rintro m ρ₃ σ₃ hm ⟨hs₃, le₃, hf₃⟩
        rw [List.length_map] at hm
        refine TS.sub ?_ hs₃
        dsimp only
        rw [getD_mapE _ _ _ hm]
        have fl : ((st₂.1 ++ (r.names.take m).map (one r name st₂.2)).map Fd.V).length ≤ sizeLine := by
          have := List.length_take_le m r.names
          simp only [List.length_map, List.length_append]; rw [sizeLine_eq]; omega
        have fe : ((st₂.1 ++ (r.names.take m).map (one r name st₂.2)).map Fd.V) ++ [(one r name st₂.2 r.names[m]).V] = (st₂.1 ++ (r.names.take (m + 1)).map (one r name st₂.2)).map Fd.V := by
          rw [List.take_add_one, List.getElem?_eq_getElem hm]
          simp only [List.map_append, List.map_cons, List.map_nil, List.append_assoc, Option.toList_some]
        refine ts_Name (ts_local (gen_k fun kk hkk => ?_))
        refine sv_cons (sv_Expr (ev_MCall (ev_local (x := "found") (gm_list PySem.F.slot_list_append PySem.F.type_list_append hf₃ ⟨.builtin _, lv_cons ?_⟩))))
        refine ev_Tuple ?_
        refine lv_cons (ev_local (x := "field") ?_)
        refine lv_cons (ev_local (x := "name") ?_)
        refine lv_cons (ev_local (x := "mult") ?_)
        refine lv_cons (ev_local (x := "node") ?_)
        refine lv_cons (ev_local (x := "spot") ?_)
        refine lv_cons ?_
        refine ev_IfExp (bv_plain (ev_local (x := "is_disj") ⟨_, rfl, ?_⟩))
        cases hd : r.disj with
        | true =>
          simp only [if_true]
          refine ev_local (x := "group") (lv_nil ⟨len_ok rfl, lv_nil (opc_append hf₃ fl ⟨rfl, ?_⟩)⟩)
          have e : (one r name st₂.2 r.names[m]).V = V.tup [.str r.names[m], .str name, .str r.mult, r.node, .int r.spot, .int st₂.2] := by simp [one, Fd.V, hd]
          rw [← e, fe]
          exact sv_nilK hkk ⟨⟨rfl, rfl, rfl, rfl, rfl, by rw [← hd]; rfl, rfl, rfl, trivial⟩, le₃.setL hF, St.set_same ..⟩
        | false =>
          simp only [Bool.false_eq_true, if_false]
          refine ev_neg (ev_int ⟨_, rfl, lv_nil ⟨len_ok rfl, lv_nil (opc_append hf₃ fl ⟨rfl, ?_⟩)⟩⟩)
          have e : (one r name st₂.2 r.names[m]).V = V.tup [.str r.names[m], .str name, .str r.mult, r.node, .int r.spot, .int (-1)] := by simp [one, Fd.V, hd]
          rw [← e, fe]
          exact sv_nilK hkk ⟨⟨rfl, rfl, rfl, rfl, rfl, by rw [← hd]; rfl, rfl, rfl, trivial⟩, le₃.setL hF, St.set_same ..⟩
      · rintro ρ₃ σ₃ ⟨hs₃, le₃, hf₃⟩
        rw [List.length_map, List.take_length] at hf₃
        refine SV.sub ?_ hs₃
        refine sv_cons (sv_Assign (ev_BinOp (ev_local (x := "group") (ev_IfExp (bv_plain (ev_local (x := "is_disj") ⟨_, rfl, ?_⟩))))))
        cases hd : r.disj with
        | true =>
          simp only [if_true]
          refine ev_int (op_add_int (sv_nilK hkk₂ ?_))
          refine ⟨⟨rfl, ?_, rfl, rfl, trivial⟩, le₃, ?_⟩
          · simp [stepRow, hd]; rfl
          · exact hf₃
        | false =>
          simp only [Bool.false_eq_true, if_false]
          refine ev_int (op_add_int (sv_nilK hkk₂ ?_))
          refine ⟨⟨rfl, ?_, rfl, rfl, trivial⟩, le₃, ?_⟩
          · simp [stepRow, hd]; rfl
          · exact hf₃
    · rintro ρ₂ σ₂ ⟨hs₂, le₂, hf₂⟩
      rw [List.length_map, List.take_length] at hs₂ hf₂
      refine SV.sub (sv_nil ?_) hs₂
      exact ⟨⟨rfl, rfl, rfl, trivial⟩, le₂, hf₂⟩
  · rintro ρ₁ σ₁ ⟨hs, le, hf⟩
    rw [List.length_map, List.take_length] at hf
    exact SV.sub (sv_cons (sv_Return (ev_local (x := "found") (h F σ₁ le hF hf)))) hs
end
end Mine
namespace Mine
def OKF (es : Ens) (fs : List Fd) : Prop := ∀ i (hi : i < fs.length), gets es fs[i].field = none ∧ (∃ t, gets es fs[i].name = some t) ∧ ∀ a ∈ fs.take i, a.field = fs[i].field → a.name ≠ fs[i].name ∧ ¬ Up es fs[i].name a.name
def oV (p : Str × Str) : V := .tup [.str p.1, .str p.2]
def Op.V (spot : Int) (module : Str) (sig alias : Str) : V := .tup [.str "open", .int spot, .str module, .tup [.str sig], .str alias]
theorem mem_take_succ {α : Type} {xs : List α} {i : Nat} (hi : i < xs.length) (a : α) : a ∈ xs.take (i + 1) ↔ a ∈ xs.take i ∨ a = xs[i] := by
  rw [List.take_add_one, List.getElem?_eq_getElem hi, List.mem_append, Option.toList_some, List.mem_singleton]
section
variable {G : Amb} {A : Around} {env : Env} {L : Addr} {ρ : Loc} {σ : St} {X : Value → Shared → Prop} {k : V → St → Prop}
theorem c_look_fields (hG : IsG G) {n : Nat} (R : Room A (n + 4)) {self : Addr} {es : Ens} {fs : List Fd} (H : Ents σ self es) (HS : HasL σ self "own_fields" (fs.map Fd.V)) (W : WF es) (ok : OKF es fs) (hsz : fs.length ≤ 10000)
    (h : ∀ σ', Le σ σ' → k .none σ') : OpC G A L ρ σ (.ref 144) [.ref self] k X := by
  refine opc_fn0 (f := 144) ["self"] (by rw [hG.K]; rfl) (by rw [hG.K]; rfl) R fun L' A' env he R' => ?_
  obtain ⟨ps, l, s, hg, hl⟩ := id HS
  obtain ⟨ps', E, ep, s', hg', hE⟩ := id H
  subst he
  refine sv_cons (sv_Assign (ev_Dict0t fun D hD => ?_))
  refine sv_cons (sv_For PassesOwn.never (ie_list R'.handled (ev_self hG (ev_local (x := "self") ⟨self, ps, _, rfl, s.le (Le.set hD), hg, l, _, rfl, Le.set hD _ _ hl, ?_⟩))))
  refine ⟨fun i ρ' σ' => Sub [("self", .ref self), ("seen", .ref D)] ρ' ∧ Le σ σ' ∧ ∃ ks : List (List Str), σ' D = some (.tdict ks) ∧ ks.length ≤ i ∧ ∀ f x, [f, x] ∈ ks ↔ ∃ a ∈ fs.take i, a.field = f ∧ a.name = x,
    ⟨⟨rfl, rfl, trivial⟩, Le.set hD, [], St.set_same .., Nat.le_refl _, by simp⟩, fun i ρ σ' h => h.2.1 _ _ hl, ?_, ?_⟩
  · rintro i ρ₁ σ₁ hi ⟨hs, le, ks, hks, hkl, hmem⟩
    rw [List.length_map] at hi
    refine TS.sub ?_ hs
    dsimp only
    rw [getD_mapE _ _ _ hi]
    obtain ⟨o1, ⟨t, ht⟩, o3⟩ := ok i hi
    have hnext : ∀ f x, [f, x] ∈ (if [fs[i].field, fs[i].name] ∈ ks then ks else ks ++ [[fs[i].field, fs[i].name]]) ↔ ∃ a ∈ fs.take (i + 1), a.field = f ∧ a.name = x := fun f x => by
      have key : (∃ a ∈ fs.take (i + 1), a.field = f ∧ a.name = x) ↔ (∃ a ∈ fs.take i, a.field = f ∧ a.name = x) ∨ (fs[i].field = f ∧ fs[i].name = x) := by
        constructor
        · rintro ⟨a, ha, e⟩
          rcases (mem_take_succ hi a).mp ha with ha | rfl
          · exact .inl ⟨a, ha, e⟩
          · exact .inr e
        · rintro (⟨a, ha, e⟩ | e)
          · exact ⟨a, (mem_take_succ hi a).mpr (.inl ha), e⟩
          · exact ⟨fs[i], (mem_take_succ hi _).mpr (.inr rfl), e⟩
      rw [key]
      split
      · rename_i hin
        rw [hmem]
        constructor
        · exact .inl
        · rintro (q | ⟨e1, e2⟩)
          · exact q
          · rw [e1, e2] at hin; exact (hmem _ _).mp hin
      · rw [List.mem_append, hmem]
        constructor
        · rintro (q | q)
          · exact .inl q
          · simp at q; exact .inr ⟨q.1.symm, q.2.symm⟩
        · rintro (q | ⟨e1, e2⟩)
          · exact .inl q
          · right; simp [e1, e2]
    generalize fs[i] = f at o1 ht o3 hnext ⊢
    refine ts_Tuple R'.handled (ds := [.str f.field, .str f.name, .str f.mult, f.node, .int f.spot, .int f.grp]) ?_
    refine tl_cons (ts_Name (ts_local ?_))
    refine tl_cons (ts_Name (ts_local ?_))
    refine tl_cons (ts_Name (ts_local ?_))
    refine tl_cons (ts_Name (ts_local ?_))
    refine tl_cons (ts_Name (ts_local ?_))
    refine tl_cons (ts_Name (ts_local ?_))
    refine tl_nil (gen_k fun kk hkk => ?_)
    have hE₁ := le _ _ hE
    refine sv_cons (sv_If (bv_Compare (ev_local (x := "field") (ev_self hG (ev_local (x := "self") ⟨self, ps', _, rfl, s'.le le, hg', op_in_sdict hE₁ ⟨_, rfl, ?_⟩⟩)))))
    rw [get_vents, o1]
    simp only [Option.map_none, Option.isSome_none, Bool.false_eq_true, if_false]
    refine sv_nil (sv_cons (sv_For PassesOwn.never (ie_list R'.handled (ev_BinOp (ev_List (lv_cons (ev_local (x := "name") (lv_nil ⟨len_ok rfl, fun B hB => ?_⟩))))))))
    have leB := le.trans (Le.set (o := .list [.str f.name]) hB)
    refine ev_m1 (M_all_above hG) (ev_local (x := "self") ⟨self, ps, rfl, s.le leB, ev_local (x := "name") (c_all_above hG R' (H.le leB) W ht fun Q σ₂ over l₂ hQ hQ' Ab => ?_)⟩)
    have hlen : over.length ≤ 100 := by
      have := nodup_le (ys := es.map (·.1)) Ab.nd fun x hx => by obtain ⟨t, ht⟩ := ((Ab.mem x).mp hx).key W; exact gets_mem ht
      have := W.size
      rw [List.length_map] at *; omega
    refine op_add_list (l₂ _ _ (St.set_same ..)) hQ' (by simp; rw [sizeLine_eq]; omega) fun T hT => ?_
    have l3 : Le σ (σ₂.set T (.list ([.str f.name] ++ over.map .str))) := (leB.trans l₂).trans (Le.set hT)
    have hks₂ : σ₂ D = some (.tdict ks) := l₂ _ _ ((St.keep ((fun q => by rw [← q, hks] at hB; cases hB)) hks))
    have hks₃ : (σ₂.set T (.list ([.str f.name] ++ over.map .str))) D = some (.tdict ks) := Le.set hT _ _ hks₂
    refine ⟨_, _, rfl, St.set_same .., ?_⟩
    have eT : ([V.str f.name] ++ over.map V.str) = (f.name :: over).map V.str := rfl
    rw [eT] at *
    refine ⟨fun j ρ' σ' => Sub [("self", .ref self), ("seen", .ref D), ("field", .str f.field), ("name", .str f.name)] ρ' ∧ Le (σ₂.set T (.list ((f.name :: over).map .str))) σ',
      ⟨⟨rfl, rfl, rfl, rfl, trivial⟩, Le.refl _⟩, fun i ρ σ' h => h.2 _ _ (St.set_same ..), ?_, ?_⟩
    · rintro j ρ₂ σ₃ hj ⟨hs₂, le₃⟩
      rw [List.length_map] at hj
      refine TS.sub ?_ hs₂
      dsimp only
      rw [getD_mapE _ _ _ hj]
      have hmm : (f.name :: over)[j] ∈ f.name :: over := List.getElem_mem hj
      generalize (f.name :: over)[j] = other at hmm ⊢
      have hnot : [f.field, other] ∉ ks := fun q => by
        obtain ⟨a, ha, e1, e2⟩ := (hmem _ _).mp q
        obtain ⟨n1, n2⟩ := o3 a ha e1
        rw [e2] at n1 n2
        rcases List.mem_cons.mp hmm with h1 | h1
        · exact n1 h1
        · exact n2 ((Ab.mem _).mp h1)
      refine ts_Name (ts_local (gen_k fun kk' hkk' => ?_))
      refine sv_cons (sv_If (bv_Compare (ev_Tuple ?_)))
      refine lv_cons (ev_local (x := "field") ?_)
      refine lv_cons (ev_local (x := "other") ?_)
      refine lv_nil ⟨len_ok rfl, ev_local (x := "seen") (op_in_tdict (xs := [f.field, other]) R' (le₃ _ _ hks₃) ⟨_, rfl, ?_⟩)⟩
      rw [decide_eq_false hnot, if_neg (by decide)]
      exact sv_nil (sv_nilK hkk' ⟨⟨rfl, rfl, rfl, rfl, trivial⟩, le₃⟩)
    · rintro ρ₂ σ₃ ⟨hs₂, le₃⟩
      refine SV.sub ?_ hs₂
      refine sv_cons (sv_AssignSub (ev_bool (ev_local (x := "seen") (ev_Tuple ?_))))
      refine lv_cons (ev_local (x := "field") ?_)
      refine lv_cons (ev_local (x := "name") ?_)
      refine lv_nil ⟨len_ok rfl, set_tdict (xs := [f.field, f.name]) R' (le₃ _ _ hks₃) (by rw [sizeLine_eq]; omega) ?_⟩
      refine sv_nilK hkk ⟨⟨rfl, rfl, trivial⟩, (l3.trans le₃).setL hD, _, St.set_same .., ?_, hnext⟩
      split
      · omega
      · simp; omega
  · rintro ρ₁ σ₁ ⟨hs, le, _⟩
    exact sv_nil (h σ₁ le)
end
end Mine
namespace Mine
theorem Mod.thenNew {W U : List Addr} {a b c : St} (x : Mod W a b) (y : Mod U b c) (h : ∀ u ∈ U, a u = none ∨ u ∈ W) : Mod W a c := fun p o m e => y p o (fun q => by
  rcases h p q with h | h
  · rw [e] at h; cases h
  · exact m h) (x p o m e)
def orderName (alias : Str) : Str := if alias = "" then "ordering" else alias
section
variable {G : Amb} {A : Around} {env : Env} {L : Addr} {ρ : Loc} {σ : St} {X : Value → Shared → Prop} {k : V → St → Prop}
theorem ev_det {e : Expr} (d : V) (hh : ∀ k' : V → St → Prop, k' d σ → EV G A env ρ σ e k' X) (h : k d σ) : EV G A env ρ σ e k X := hh k h
theorem K_set (hG : IsG G) {x : Str} (hx : x ∈ ownNames) : SetAt G.K 257 x := by
  rw [hG.K]
  simp only [ownNames, List.mem_cons, List.mem_nil_iff, or_false] at hx
  rcases hx with rfl | rfl | rfl | rfl | rfl <;> exact ⟨rfl, rfl, rfl, rfl⟩
theorem c_take_order (hG : IsG G) {n : Nat} (R : Room A (n + 1)) {self O : Addr} {ps : List (Str × V)} {es : Ens} {ops : List (Str × Str)} {spot : Int} {sig alias : Str} (H : Ents σ self es) (s : Self σ self ps) (gO : Loc.get ps "opened" = some (.ref O)) (hO : σ O = some (.list (ops.map oV)))
    (hs : ∃ t, gets es sig = some t) (hnew : orderName alias ∉ ops.map (·.1)) (hsz : ops.length ≤ 1000)
    (h : ∀ σ', Mod [O] σ σ' → σ' O = some (.list ((ops ++ [(orderName alias, sig)]).map oV)) → k .none σ') : OpC G A L ρ σ (.ref 149) [.ref self, Op.V spot "util/ordering" sig alias] k X := by
  refine opc_fn0 (f := 149) ["self", "item"] (by rw [hG.K]; rfl) (by rw [hG.K]; rfl) R fun L' A' env he R' => ?_
  obtain ⟨ps', E, ep, s', hg', hE⟩ := id H
  obtain ⟨bn1, bn2⟩ := B_len hG
  subst he
  refine sv_cons (sv_AssignTup (ev_15 (ev_local (x := "item") (ev_int (ev_int ⟨.str "open", .int spot, .str "util/ordering", .tup [.str sig], .str alias, rfl, rfl, rfl, ?_⟩)))))
  refine ts_Tuple R'.handled ?_
  refine tl_cons (ts_Name (ts_local ?_))
  refine tl_cons (ts_Name (ts_local ?_))
  refine tl_cons (ts_Name (ts_local ?_))
  refine tl_cons (ts_Name (ts_local ?_))
  refine tl_nil ?_
  have hmo : G.mg "ORDERING" = some (.str "util/ordering" 287) := hG.glob _ _ (by rw [hG.K]; rfl)
  refine sv_cons (sv_If (bv_Or (bv_Compare (ev_local (x := "module") (ev_global hmo (fun _ => .str _ _) (op_ne_str ⟨_, rfl, ?_⟩))))))
  rw [show (!decide (("util/ordering" : Str) = "util/ordering")) = false from by simp, if_neg (by decide)]
  refine bv_Or (bv_Compare (ev_Call (ev_builtin bn1 bn2 rfl ⟨_, rfl, .builtin _, lv_cons (ev_local (x := "args") (lv_nil (opc_len_tup (ds := [.str sig]) (len_ok rfl) (ev_int (op_ne_int ⟨_, rfl, ?_⟩)))))⟩)))
  rw [show (!decide ((([V.str sig].length : Nat) : Int) = 1)) = false from rfl, if_neg (by decide)]
  refine bv_Or_nil ?_
  rw [if_neg (by decide)]
  refine sv_nil ?_
  obtain ⟨t, ht⟩ := hs
  refine sv_cons (sv_If (bv_Compare (ev_Subscript (ev_local (x := "args") (ev_int (op_item_tup (d := .str sig) (by decide) (by decide) rfl ?_))))))
  refine ev_self hG (ev_local (x := "self") ⟨self, ps', _, rfl, s', hg', op_notIn_sdict hE ⟨_, rfl, ?_⟩⟩)
  rw [get_vents, ht]
  simp only [Option.map_some, Option.isSome_some, Bool.not_true, Bool.false_eq_true, if_false]
  refine sv_nil (sv_cons (sv_Assign (ev_det (.str (orderName alias)) (fun k' hk => ?_) ?_)))
  · refine ev_IfExp (bv_Compare (ev_local (x := "alias") (ev_str (op_ne_str ⟨_, rfl, ?_⟩))))
    by_cases q : alias = ""
    · simp only [q, decide_true, Bool.not_true, Bool.false_eq_true, if_false]
      rw [show orderName alias = "ordering" from if_pos q] at hk
      exact ev_str hk
    · simp only [q, decide_false, Bool.not_false, if_true]
      rw [show orderName alias = alias from if_neg q] at hk
      exact ev_local (x := "alias") hk
  refine sv_cons (sv_If (bv_Compare (ev_local (x := "name") (ev_Over (default : Str × Str) (ie_list R'.handled (ev_self hG (ev_local (x := "self") ⟨self, ps, _, rfl, s, gO, O, _, rfl, hO, ops, oV, (fun _ => true), (fun p => .str p.1),
    ⟨by simp, fun i d hi => getD_map d _ _ _ (by simpa using hi), fun σ' l' => l' _ _ hO, by rw [sizeLine_eq]; omega, fun C x σ₂ hx l₂ => ?_⟩, fun D σ' l' hD hD' => ?_⟩)))))))
  · refine ts_Tuple R'.handled (ds := [.str x.1, .str x.2]) (tl_cons (ts_Name (ts_local (tl_cons (ts_Name (ts_local (tl_nil (qv_nil ⟨rfl, ?_⟩))))))))
    rw [if_pos rfl]
    exact ev_local (x := "other") ⟨rfl, Le.refl _⟩
  · have e : ((ops.filter fun _ => true).map fun p => V.str p.1) = (ops.map (·.1)).map V.str := by rw [List.filter_eq_self.mpr (fun _ _ => rfl), List.map_map]; rfl
    rw [e] at hD'
    refine op_in_strs hD' ⟨_, rfl, ?_⟩
    rw [decide_eq_false hnew, if_neg (by decide)]
    have hO' := l' _ _ hO
    refine sv_nil (sv_cons (sv_Expr (ev_MCall (ev_self hG (ev_local (x := "self") ⟨self, ps, _, rfl, s.le l', gO, gm_list PySem.F.slot_list_append PySem.F.type_list_append hO' ⟨.builtin _, lv_cons (ev_Tuple ?_)⟩⟩)))))
    refine lv_cons (ev_local (x := "name") ?_)
    refine lv_cons (ev_Subscript (ev_local (x := "args") (ev_int (op_item_tup (d := .str sig) (by decide) (by decide) rfl ?_))))
    refine lv_nil ⟨len_ok rfl, lv_nil (opc_append hO' (by rw [List.length_map, sizeLine_eq]; omega) ⟨rfl, ?_⟩)⟩
    refine sv_nil (h _ (l'.mod.set (by simp)) ?_)
    rw [St.set_same]; simp [oV]
end
end Mine
namespace Mine
inductive Item where
  | sig (t : It)
  | opn (spot : Int) (s alias : Str)
  | other (spot : Int)
def Item.V : Item → V
  | .sig t => t.V
  | .opn spot s alias => Op.V spot "util/ordering" s alias
  | .other spot => .tup [.str "fact", .int spot, .str "", .tup []]
def Item.kind : Item → Str
  | .sig _ => "sig"
  | .opn _ _ _ => "open"
  | .other _ => "fact"
theorem Item.head (x : Item) : ∃ tv, x.V = .tup tv ∧ tv[0]? = some (.str x.kind) := by cases x <;> exact ⟨_, rfl, rfl⟩
def Item.ents : Item → Ens
  | .sig t => t.names.map fun x => (x, t)
  | _ => []
def Item.ops : Item → List (Str × Str)
  | .opn _ s alias => [(orderName alias, s)]
  | _ => []
def entsOf (items : List Item) : Ens := items.flatMap Item.ents
def opsOf (items : List Item) : List (Str × Str) := items.flatMap Item.ops
def keysOf (es : Ens) : List Str := es.map (·.1)
structure Good (items : List Item) (seq : List Str) : Prop where
  W : WF (entsOf items)
  sig : ∀ t, Item.sig t ∈ items → t.supers.length ≤ 2 ∧ (t.supers ≠ [] → t.abs = false)
  par : ∀ x t, gets (entsOf items) x = some t → t.parent ≠ "" → ∀ t', gets (entsOf items) t.parent = some t' → t'.supers = []
  pf : PF (entsOf items) [] (keysOf (entsOf items)) seq
  inn : ∀ x ∈ seq, ∃ t, gets (entsOf items) x = some t
  okf : OKF (entsOf items) (allF (entsOf items) seq).1
  len : (allF (entsOf items) seq).1.length ≤ 10000
  ops : ∀ p ∈ opsOf items, ∃ t, gets (entsOf items) p.2 = some t
  ond : ((opsOf items).map (·.1)).Nodup
  size : items.length ≤ 100
theorem flat_take {β : Type} (f : Item → List β) (items : List Item) (i : Nat) (h : i < items.length) : (items.take (i + 1)).flatMap f = (items.take i).flatMap f ++ f items[i] := by
  rw [List.take_add_one, List.getElem?_eq_getElem h, List.flatMap_append]
  simp only [Option.toList_some, List.flatMap_cons, List.flatMap_nil, List.append_nil]
theorem flat_pre {β : Type} (f : Item → List β) (items : List Item) (i : Nat) : (items.take i).flatMap f <+: items.flatMap f := by
  conv => rhs; rw [← List.take_append_drop i items, List.flatMap_append]
  exact List.prefix_append _ _
theorem nodup_pre {xs ys : List Str} (h : ys.Nodup) (p : xs <+: ys) : xs.Nodup := h.sublist p.sublist
theorem mem_gets {α : Type} {x : Str} : ∀ {es : List (Str × α)}, x ∈ es.map (·.1) → ∃ t, gets es x = some t
  | [], h => by simp at h
  | (y, t) :: r, h => by
    unfold gets
    by_cases q : x = y
    · exact ⟨t, by rw [if_pos q]⟩
    · rw [if_neg q]
      simp only [List.map_cons, List.mem_cons] at h
      rcases h with h | h
      · exact absurd h q
      · exact mem_gets h
abbrev ps3 (E S O : Addr) : List (Str × V) := [("entries", .ref E), ("stands", .ref S), ("opened", .ref O)]
abbrev ps4 (E S O D : Addr) : List (Str × V) := [("entries", .ref E), ("stands", .ref S), ("opened", .ref O), ("ordered", .ref D)]
abbrev ps5 (E S O D F : Addr) : List (Str × V) := [("entries", .ref E), ("stands", .ref S), ("opened", .ref O), ("ordered", .ref D), ("own_fields", .ref F)]
structure Made (σ : St) (me : Addr) (es : Ens) (seq : List Str) (fs : List Fd) (ops : List (Str × Str)) : Prop where
  ents : Ents σ me es
  stands : HasL σ me "stands" ((keysOf es).map .str)
  ordered : HasL σ me "ordered" (seq.map .str)
  fields : HasL σ me "own_fields" (fs.map Fd.V)
  opened : HasL σ me "opened" (ops.map oV)
  short : ∃ ps, Self σ me ps ∧ ps.length ≤ 5
section
variable {G : Amb} {A : Around} {env : Env} {L : Addr} {ρ : Loc} {σ : St} {X : Value → Shared → Prop} {k : V → St → Prop}
theorem k_init (hG : IsG G) {n : Nat} (R : Room A (n + 5)) {self dx Il : Addr} {items : List Item} {seq : List Str} (h1 : σ self = some (.inst 257 dx)) (h2 : σ dx = some (.attrs [])) (h3 : σ Il = some (.list (items.map Item.V))) (ok : Good items seq)
    (h : ∀ σ', Mod [dx] σ σ' → Made σ' self (entsOf items) seq (allF (entsOf items) seq).1 (opsOf items) → k .none σ') : OpK G A L ρ σ (.ref 104) [.ref self, .ref Il] k := by
  refine opk_fn0 (f := 104) ["self", "items"] (by rw [hG.K]; rfl) (by rw [hG.K]; rfl) R fun L' A' env he R' => ?_
  subst he
  have hne : self ≠ dx := fun q => by rw [q, h2] at h1; cases h1
  have hIl : Il ≠ dx := fun q => by rw [q, h2] at h3; cases h3
  refine sv_cons (sv_AssignAttr (ev_Dict0 fun E ep hE => ev_local (x := "self") ⟨self, 257, dx, [], rfl, Le.set hE _ _ h1, Le.set hE _ _ h2, K_set hG (by decide), by decide, ?_⟩))
  have dE : dx ≠ E := fun q => by rw [q, hE] at h2; cases h2
  have sE : self ≠ E := fun q => by rw [q, hE] at h1; cases h1
  refine sv_cons (sv_AssignAttr (ev_List (lv_nil ⟨len_ok rfl, fun S hS => ev_local (x := "self") ⟨self, 257, dx, _, rfl, Le.set hS _ _ ((St.keep hne (Le.set hE _ _ h1))), Le.set hS _ _ (St.set_same ..), K_set hG (by decide), (by show (1 : Nat) < 1000; decide), ?_⟩⟩)))
  have dS : dx ≠ S := fun q => by rw [q, St.set_same] at hS; cases hS
  have hS' : (σ.set E (.sdict ep [])) S = none := by rw [St.set_ne _ _ dS.symm] at hS; exact hS
  have ES : E ≠ S := fun q => by rw [q, St.set_same] at hS'; cases hS'
  have hS'' : σ S = none := by rw [St.set_ne _ _ ES.symm] at hS'; exact hS'
  have sS : self ≠ S := fun q => by rw [q, hS''] at h1; cases h1
  refine sv_cons (sv_AssignAttr (ev_List (lv_nil ⟨len_ok rfl, fun O hO => ev_local (x := "self") ⟨self, 257, dx, _, rfl, Le.set hO _ _ ((St.keep hne (Le.set hS _ _ (by rw [St.set_ne _ _ hne]; exact Le.set hE _ _ h1)))), Le.set hO _ _ (St.set_same ..), K_set hG (by decide), (by show (2 : Nat) < 1000; decide), ?_⟩⟩)))
  have dO : dx ≠ O := fun q => by rw [q, St.set_same] at hO; cases hO
  rw [St.set_ne _ _ dO.symm] at hO
  have SO : S ≠ O := fun q => by rw [q, St.set_same] at hO; cases hO
  rw [St.set_ne _ _ SO.symm, St.set_ne _ _ dO.symm] at hO
  have EO : E ≠ O := fun q => by rw [q, St.set_same] at hO; cases hO
  have hO'' : σ O = none := by rw [St.set_ne _ _ EO.symm] at hO; exact hO
  have sO : self ≠ O := fun q => by rw [q, hO''] at h1; cases h1
  have hp3 : (Loc.put (Loc.put (Loc.put [] "entries" (.ref E)) "stands" (.ref S)) "opened" (.ref O)) = (ps3 E S O) := rfl
  rw [hp3]
  generalize hσ₃ : (((((σ.set E (.sdict ep [])).set dx (.attrs (Loc.put [] "entries" (.ref E)))).set S (.list [])).set dx (.attrs (Loc.put (Loc.put [] "entries" (.ref E)) "stands" (.ref S)))).set O (.list [])).set dx (.attrs (ps3 E S O)) = σ₃
  have a1 : σ₃ self = some (.inst 257 dx) := by
    rw [← hσ₃, St.set_ne _ _ hne, St.set_ne _ _ sO, St.set_ne _ _ hne, St.set_ne _ _ sS, St.set_ne _ _ hne, St.set_ne _ _ sE]; exact h1
  have a2 : σ₃ dx = some (.attrs (ps3 E S O)) := by rw [← hσ₃, St.set_same]
  have a3 : σ₃ E = some (.sdict ep (vents [])) := by
    rw [← hσ₃, St.set_ne _ _ dE.symm, St.set_ne _ _ EO, St.set_ne _ _ dE.symm, St.set_ne _ _ ES, St.set_ne _ _ dE.symm, St.set_same]; rfl
  have a4 : σ₃ S = some (.list (([] : List Str).map .str)) := by
    rw [← hσ₃, St.set_ne _ _ dS.symm, St.set_ne _ _ SO, St.set_ne _ _ dS.symm, St.set_same]; rfl
  have a5 : σ₃ O = some (.list (([] : List (Str × Str)).map oV)) := by
    rw [← hσ₃, St.set_ne _ _ dO.symm, St.set_same]; rfl
  have aM : Mod [dx] σ σ₃ := by
    rw [← hσ₃]
    refine Mod.set ?_ (by simp)
    refine Mod.thenNew (U := [O]) ?_ ((Mod.refl [O] _).set (by simp)) (fun u hu => by rw [List.mem_singleton.mp hu]; exact .inl hO'')
    refine Mod.set ?_ (by simp)
    refine Mod.thenNew (U := [S]) ?_ ((Mod.refl [S] _).set (by simp)) (fun u hu => by rw [List.mem_singleton.mp hu]; exact .inl hS'')
    refine Mod.set ?_ (by simp)
    exact Mod.thenNew (U := [E]) (Mod.refl _ _) ((Mod.refl [E] _).set (by simp)) (fun u hu => by rw [List.mem_singleton.mp hu]; exact .inl hE)
  clear hσ₃ hO hS hS' hp3
  have IE' : Il ∉ [E, S] := fun m => by
    rcases List.mem_cons.mp m with q | q
    · rw [q, hE] at h3; cases h3
    · rw [List.mem_singleton.mp q, hS''] at h3; cases h3
  have own3 : ∀ p ∈ ps3 E S O, p.1 ∈ ownNames := by
    intro p hp
    simp only [List.mem_cons, List.mem_nil_iff, or_false] at hp
    rcases hp with rfl | rfl | rfl
    · show ("entries" : Str) ∈ ownNames; decide
    · show ("stands" : Str) ∈ ownNames; decide
    · show ("opened" : Str) ∈ ownNames; decide
  have h3' := aM _ _ (by simp; exact hIl) h3
  have hit : ∀ x ∈ items, ∃ tv, x.V = .tup tv ∧ tv[0]? = some (.str x.kind) := fun x _ => x.head
  have hkey : (keysOf (entsOf items)).Nodup := ok.W.keys
  refine sv_cons (sv_For PassesOwn.never (ie_list R'.handled (ev_local (x := "items") ⟨Il, _, rfl, h3', ?_⟩)))
  refine ⟨fun i ρ' σ' => Sub [("self", .ref self), ("items", .ref Il)] ρ' ∧ Mod [E, S] σ₃ σ' ∧ Cons σ' self E S (ps3 E S O) (entsOf (items.take i)) (keysOf (entsOf (items.take i))),
    ⟨⟨rfl, rfl, trivial⟩, Mod.refl _ _, ⟨dx, a1, a2, own3⟩, rfl, rfl, ⟨ep, a3⟩, a4⟩, fun i ρ σ' h => h.2.1 _ _ IE' h3', ?_, ?_⟩
  · rintro i ρ₁ σ₁ hi ⟨hs, hm, C⟩
    rw [List.length_map] at hi
    refine TS.sub ?_ hs
    dsimp only
    rw [getD_mapE _ _ _ hi]
    have hmem : items[i] ∈ items := List.getElem_mem hi
    have htk : entsOf (items.take (i + 1)) = entsOf (items.take i) ++ items[i].ents := flat_take _ _ _ hi
    have hpre : keysOf (entsOf (items.take (i + 1))) <+: keysOf (entsOf items) := (flat_pre Item.ents items (i + 1)).map _
    have hnd := nodup_pre hkey hpre
    rw [htk] at hnd ⊢
    have hlen : (entsOf (items.take i) ++ items[i].ents).length ≤ 100 := by
      have e := (flat_pre Item.ents items (i + 1)).length_le
      have := ok.W.size
      rw [← htk]; exact Nat.le_trans e this
    generalize items[i] = x at hmem hnd hlen ⊢
    obtain ⟨tv, hv, h0⟩ := x.head
    refine ts_Name (ts_local (gen_k fun kk hkk => sv_cons (sv_If (bv_Compare (ev_Subscript (ev_local (x := "item") (ev_int ?_)))))))
    rw [hv]
    refine op_item_tup (by decide) (by decide) h0 (ev_str (op_eq_str ⟨_, rfl, ?_⟩))
    cases x with
    | sig t =>
      rw [show decide ((Item.sig t).kind = "sig") = true from (by show decide (("sig" : Str) = "sig") = true; decide), if_pos rfl]
      obtain ⟨s1, s2⟩ := ok.sig t hmem
      have e : keysOf (entsOf (items.take i) ++ (Item.sig t).ents) = keysOf (entsOf (items.take i)) ++ t.names := by
        unfold keysOf; rw [List.map_append]
        congr 1
        show (t.names.map fun x => (x, t)).map (·.1) = t.names
        rw [List.map_map]; exact List.map_id _
      rw [e] at hnd hkk
      obtain ⟨n1, n2, n3⟩ := List.nodup_append.mp hnd
      have hl2 : (entsOf (items.take i)).length + t.names.length ≤ 100 := by
        have : (entsOf (items.take i) ++ (Item.sig t).ents).length = (entsOf (items.take i)).length + t.names.length := by rw [List.length_append]; congr 1; exact List.length_map ..
        omega
      have hkl : (keysOf (entsOf (items.take i))).length = (entsOf (items.take i)).length := List.length_map ..
      refine sv_cons (sv_Expr (ev_m1 (M_take_sig hG) (ev_local (x := "self") ⟨self, _, rfl, C.slf, ev_local (x := "item") ?_⟩)))
      rw [← hv]
      refine c_take_sig hG R' C n2 (fun x hx q => n3 _ q _ hx rfl) (by omega) (by omega) (by omega) s2 fun σ₂ m₂ C₂ => ⟨rfl, ?_⟩
      exact sv_nil (sv_nilK hkk ⟨⟨rfl, rfl, trivial⟩, hm.trans m₂, C₂⟩)
    | opn a b c =>
      rw [show decide ((Item.opn a b c).kind = "sig") = false from (by show decide (("open" : Str) = "sig") = false; decide), if_neg (by decide)]
      exact sv_nil (sv_nilK hkk ⟨⟨rfl, rfl, trivial⟩, hm, by simpa [Item.ents] using C⟩)
    | other a =>
      rw [show decide ((Item.other a).kind = "sig") = false from (by show decide (("fact" : Str) = "sig") = false; decide), if_neg (by decide)]
      exact sv_nil (sv_nilK hkk ⟨⟨rfl, rfl, trivial⟩, hm, by simpa [Item.ents] using C⟩)
  rintro ρ₁ σ₄ ⟨hs, m₄, C⟩
  rw [List.length_map, List.take_length] at C
  refine SV.sub ?_ hs
  clear hs
  have hkl : (keysOf (entsOf items)).length ≤ 100 := by unfold keysOf; rw [List.length_map]; exact ok.W.size
  have hin : ∀ x ∈ keysOf (entsOf items), ∃ t, gets (entsOf items) x = some t := fun x hx => mem_gets hx
  have O4 : σ₄ O = some (.list (([] : List (Str × Str)).map oV)) := m₄ _ _ (by simp; exact ⟨Ne.symm EO, Ne.symm SO⟩) a5
  have d4 : σ₄ self = some (.inst 257 dx) := m₄ _ _ (by simp; exact ⟨sE, sS⟩) a1
  have e4 : σ₄ dx = some (.attrs (ps3 E S O)) := m₄ _ _ (by simp; exact ⟨dE, dS⟩) a2
  have f4 : σ₄ Il = some (.list (items.map Item.V)) := m₄ _ _ IE' h3'
  have M4 : Mod [dx] σ σ₄ := aM.thenNew m₄ fun u hu => by
    rcases List.mem_cons.mp hu with q | q
    · rw [q]; exact .inl hE
    · rw [List.mem_singleton.mp q]; exact .inl hS''
  have W := ok.W
  refine sv_cons (sv_For PassesOwn.never (ie_list R'.handled (ev_self hG (ev_local (x := "self") ⟨self, _, _, rfl, C.slf, C.gS, S, _, rfl, C.std, ?_⟩))))
  refine ⟨fun i ρ' σ' => Sub [("self", .ref self), ("items", .ref Il)] ρ' ∧ σ' = σ₄, ⟨⟨rfl, rfl, trivial⟩, rfl⟩, fun i ρ σ' h => by rw [h.2]; exact C.std, ?_, ?_⟩
  · rintro i ρ₂ _ hi ⟨hs, rfl⟩
    rw [List.length_map] at hi
    refine TS.sub ?_ hs
    dsimp only
    rw [getD_mapE _ _ _ hi]
    obtain ⟨t, ht⟩ := hin _ (List.getElem_mem hi)
    refine ts_Name (ts_local (sv_cons (sv_Expr (ev_m1 (M_look_above hG) (ev_local (x := "self") ⟨self, _, rfl, C.slf, ev_local (x := "name") (c_look_above hG (R'.le (by omega : n + 3 ≤ n + 4)) C.ents W ht (ok.par _ _ ht) ⟨rfl, ?_⟩)⟩)))))
    exact sv_nil ⟨⟨rfl, rfl, trivial⟩, rfl⟩
  rintro ρ₂ _ ⟨hs, rfl⟩
  refine SV.sub ?_ hs
  clear hs
  refine sv_cons (sv_AssignAttr (ev_m0 (M_parents_first hG) (ev_local (x := "self") ⟨self, _, rfl, C.slf, c_parents_first hG (n := n + 1) R' C.ents C.hasS W hin (by omega) ok.pf fun D σ₅ le₅ hD hD' => ?_⟩)))
  have d5 := le₅ _ _ d4
  have e5 := le₅ _ _ e4
  have C5 : Cons σ₅ self E S (ps3 E S O) (entsOf items) (keysOf (entsOf items)) := ⟨C.slf.le le₅, C.gE, C.gS, let ⟨ep, q⟩ := C.ent; ⟨ep, le₅ _ _ q⟩, le₅ _ _ C.std⟩
  refine ev_local (x := "self") ⟨self, 257, dx, _, rfl, d5, e5, K_set hG (by decide), (by show (3 : Nat) < 1000; decide), ?_⟩
  have hp4 : Loc.put (ps3 E S O) "ordered" (.ref D) = ps4 E S O D := rfl
  rw [hp4]
  have own4 : ∀ p ∈ ps4 E S O D, p.1 ∈ ownNames := by
    intro p hp
    simp only [List.mem_cons, List.mem_nil_iff, or_false] at hp
    rcases hp with rfl | rfl | rfl | rfl
    · show ("entries" : Str) ∈ ownNames; decide
    · show ("stands" : Str) ∈ ownNames; decide
    · show ("opened" : Str) ∈ ownNames; decide
    · show ("ordered" : Str) ∈ ownNames; decide
  have Dd : D ≠ dx := fun q => by rw [q, e4] at hD; cases hD
  have M6 : Mod [dx] σ (σ₅.set dx (.attrs (ps4 E S O D))) := (M4.trans le₅.mod).set (by simp)
  have S6 : Self (σ₅.set dx (.attrs (ps4 E S O D))) self (ps4 E S O D) := ⟨dx, (St.keep hne d5), St.set_same .., own4⟩
  have E6 : ∃ ep, (σ₅.set dx (.attrs (ps4 E S O D))) E = some (.sdict ep (vents (entsOf items))) := by obtain ⟨ep, q⟩ := C5.ent; exact ⟨ep, (St.keep dE.symm q)⟩
  have H6 : Ents (σ₅.set dx (.attrs (ps4 E S O D))) self (entsOf items) := let ⟨ep, q⟩ := E6; ⟨_, E, ep, S6, rfl, q⟩
  have s6 : (σ₅.set dx (.attrs (ps4 E S O D))) S = some (.list ((keysOf (entsOf items)).map .str)) := St.keep dS.symm C5.std
  have o6 : (σ₅.set dx (.attrs (ps4 E S O D))) O = some (.list (([] : List (Str × Str)).map oV)) := St.keep dO.symm (le₅ _ _ O4)
  have D6 : (σ₅.set dx (.attrs (ps4 E S O D))) D = some (.list (seq.map .str)) := St.keep Dd hD'
  have f6 : (σ₅.set dx (.attrs (ps4 E S O D))) Il = some (.list (items.map Item.V)) := St.keep hIl (le₅ _ _ f4)
  have d6 : (σ₅.set dx (.attrs (ps4 E S O D))) self = some (.inst 257 dx) := St.keep hne d5
  have e6 : (σ₅.set dx (.attrs (ps4 E S O D))) dx = some (.attrs (ps4 E S O D)) := St.set_same ..
  generalize σ₅.set dx (.attrs (ps4 E S O D)) = σ₆ at *
  refine sv_cons (sv_AssignAttr (ev_m0 (M_all_fields hG) (ev_local (x := "self") ⟨self, _, rfl, S6, c_all_fields hG (n := n + 3) R' H6 ⟨_, D, S6, rfl, D6⟩ ok.inn ok.len fun F σ₇ le₇ hF hF' => ?_⟩)))
  refine ev_local (x := "self") ⟨self, 257, dx, _, rfl, le₇ _ _ d6, le₇ _ _ e6, K_set hG (by decide), (by show (4 : Nat) < 1000; decide), ?_⟩
  have hp5 : Loc.put (ps4 E S O D) "own_fields" (.ref F) = ps5 E S O D F := rfl
  rw [hp5]
  have own5 : ∀ p ∈ ps5 E S O D F, p.1 ∈ ownNames := by
    intro p hp
    simp only [List.mem_cons, List.mem_nil_iff, or_false] at hp
    rcases hp with rfl | rfl | rfl | rfl | rfl
    · show ("entries" : Str) ∈ ownNames; decide
    · show ("stands" : Str) ∈ ownNames; decide
    · show ("opened" : Str) ∈ ownNames; decide
    · show ("ordered" : Str) ∈ ownNames; decide
    · show ("own_fields" : Str) ∈ ownNames; decide
  have Fd' : F ≠ dx := fun q => by rw [q, e6] at hF; cases hF
  have M8 : Mod [dx] σ (σ₇.set dx (.attrs (ps5 E S O D F))) := (M6.trans le₇.mod).set (by simp)
  have S8 : Self (σ₇.set dx (.attrs (ps5 E S O D F))) self (ps5 E S O D F) := ⟨dx, (St.keep hne (le₇ _ _ d6)), St.set_same .., own5⟩
  have E8 : ∃ ep, (σ₇.set dx (.attrs (ps5 E S O D F))) E = some (.sdict ep (vents (entsOf items))) := by obtain ⟨ep, q⟩ := E6; exact ⟨ep, (St.keep dE.symm (le₇ _ _ q))⟩
  have s8 : (σ₇.set dx (.attrs (ps5 E S O D F))) S = some (.list ((keysOf (entsOf items)).map .str)) := St.keep dS.symm (le₇ _ _ s6)
  have o8 : (σ₇.set dx (.attrs (ps5 E S O D F))) O = some (.list (([] : List (Str × Str)).map oV)) := St.keep dO.symm (le₇ _ _ o6)
  have D8 : (σ₇.set dx (.attrs (ps5 E S O D F))) D = some (.list (seq.map .str)) := St.keep Dd (le₇ _ _ D6)
  have F8 : (σ₇.set dx (.attrs (ps5 E S O D F))) F = some (.list ((allF (entsOf items) seq).1.map Fd.V)) := St.keep Fd' hF'
  have f8 : (σ₇.set dx (.attrs (ps5 E S O D F))) Il = some (.list (items.map Item.V)) := St.keep hIl (le₇ _ _ f6)
  have OD : D ≠ O := fun q => by rw [q] at hD; rw [O4] at hD; cases hD
  have OF : F ≠ O := fun q => by rw [q] at hF; rw [o6] at hF; cases hF
  have OI : Il ≠ O := fun q => by rw [q] at h3; rw [hO''] at h3; cases h3
  generalize σ₇.set dx (.attrs (ps5 E S O D F)) = σ₈ at *
  obtain ⟨ep8, hE8⟩ := E8
  refine sv_cons (sv_Expr (ev_m0 (M_look_fields hG) (ev_local (x := "self") ⟨self, _, rfl, S8, c_look_fields hG (n := n) R' ⟨_, E, ep8, S8, rfl, hE8⟩ ⟨_, F, S8, rfl, F8⟩ W ok.okf ok.len fun σ₉ le₉ => ⟨rfl, ?_⟩⟩)))
  refine sv_cons (sv_For PassesOwn.never (ie_list R'.handled (ev_local (x := "items") ⟨Il, _, rfl, le₉ _ _ f8, ?_⟩)))
  refine ⟨fun i ρ' σ' => Sub [("self", .ref self), ("items", .ref Il)] ρ' ∧ Mod [O] σ₉ σ' ∧ σ' O = some (.list ((opsOf (items.take i)).map oV)),
    ⟨⟨rfl, rfl, trivial⟩, Mod.refl _ _, le₉ _ _ o8⟩, fun i ρ σ' h => h.2.1 _ _ (by simp; exact OI) (le₉ _ _ f8), ?_, ?_⟩
  · rintro i ρ₃ σ₁ hi ⟨hs, hm, hO₁⟩
    rw [List.length_map] at hi
    refine TS.sub ?_ hs
    dsimp only
    rw [getD_mapE _ _ _ hi]
    have hmem : items[i] ∈ items := List.getElem_mem hi
    have htk : opsOf (items.take (i + 1)) = opsOf (items.take i) ++ items[i].ops := flat_take _ _ _ hi
    have hpre := flat_pre Item.ops items (i + 1)
    have hnd := nodup_pre ok.ond (hpre.map (·.1))
    have hinn : ∀ p ∈ opsOf (items.take (i + 1)), ∃ t, gets (entsOf items) p.2 = some t := fun p hp => ok.ops p (hpre.subset hp)
    have hol : (opsOf (items.take i)).length ≤ i := by
      have : ∀ l : List Item, (opsOf l).length ≤ l.length := fun l => by
        induction l with
        | nil => exact Nat.le_refl _
        | cons y r ih =>
          have e : opsOf (y :: r) = y.ops ++ opsOf r := rfl
          rw [e, List.length_append]
          have : y.ops.length ≤ 1 := by cases y <;> simp [Item.ops]
          simp only [List.length_cons]; omega
      have h := this (items.take i)
      have := List.length_take_le i items
      omega
    have hsz := ok.size
    change ((opsOf (items.take (i + 1))).map (·.1)).Nodup at hnd
    rw [htk] at hnd hinn ⊢
    generalize items[i] = x at hmem hnd hinn ⊢
    obtain ⟨tv, hv, h0⟩ := x.head
    have S9 : Self σ₁ self (ps5 E S O D F) := (S8.le le₉).mod hm (fun b m C dx q => by rw [List.mem_singleton.mp m, le₉ _ _ o8] at q; cases q) (fun b m ps q => by rw [List.mem_singleton.mp m, le₉ _ _ o8] at q; cases q)
    have H9 : Ents σ₁ self (entsOf items) := ⟨_, E, ep8, S9, rfl, hm _ _ (by simp; exact EO) (le₉ _ _ hE8)⟩
    refine ts_Name (ts_local (gen_k fun kk hkk => sv_cons (sv_If (bv_Compare (ev_Subscript (ev_local (x := "item") (ev_int ?_)))))))
    rw [hv]
    refine op_item_tup (by decide) (by decide) h0 (ev_str (op_eq_str ⟨_, rfl, ?_⟩))
    cases x with
    | opn a b c =>
      rw [show decide ((Item.opn a b c).kind = "open") = true from (by show decide (("open" : Str) = "open") = true; decide), if_pos rfl]
      refine sv_cons (sv_Expr (ev_m1 (M_take_order hG) (ev_local (x := "self") ⟨self, _, rfl, S9, ev_local (x := "item") ?_⟩)))
      rw [← hv]
      refine c_take_order hG R' H9 S9 rfl hO₁ (hinn (orderName c, b) (List.mem_append.mpr (.inr (by simp [Item.ops])))) ?_ (by omega) fun σ₂ m₂ h₂ => ⟨rfl, ?_⟩
      · rw [List.map_append] at hnd
        intro q
        exact (List.nodup_append.mp hnd).2.2 _ q (orderName c) (by simp [Item.ops]) rfl
      · exact sv_nil (sv_nilK hkk ⟨⟨rfl, rfl, trivial⟩, hm.trans m₂, h₂⟩)
    | sig t =>
      rw [show decide ((Item.sig t).kind = "open") = false from (by show decide (("sig" : Str) = "open") = false; decide), if_neg (by decide)]
      exact sv_nil (sv_nilK hkk ⟨⟨rfl, rfl, trivial⟩, hm, by simpa [Item.ops] using hO₁⟩)
    | other a =>
      rw [show decide ((Item.other a).kind = "open") = false from (by show decide (("fact" : Str) = "open") = false; decide), if_neg (by decide)]
      exact sv_nil (sv_nilK hkk ⟨⟨rfl, rfl, trivial⟩, hm, by simpa [Item.ops] using hO₁⟩)
  · rintro ρ₃ σ₁ ⟨hs, hm, hO₁⟩
    rw [List.length_map, List.take_length] at hO₁
    have S9 : Self σ₁ self (ps5 E S O D F) := (S8.le le₉).mod hm (fun b m C dx q => by rw [List.mem_singleton.mp m, le₉ _ _ o8] at q; cases q) (fun b m ps q => by rw [List.mem_singleton.mp m, le₉ _ _ o8] at q; cases q)
    refine sv_nil (h σ₁ ((M8.trans le₉.mod).thenNew hm fun u hu => by rw [List.mem_singleton.mp hu]; exact .inl hO'') ⟨⟨_, E, ep8, S9, rfl, hm _ _ (by simp; exact EO) (le₉ _ _ hE8)⟩, ⟨_, S, S9, rfl, hm _ _ (by simp; exact SO) (le₉ _ _ s8)⟩, ⟨_, D, S9, rfl, hm _ _ (by simp; exact OD) (le₉ _ _ D8)⟩,
      ⟨_, F, S9, rfl, hm _ _ (by simp; exact OF) (le₉ _ _ F8)⟩, ⟨_, O, S9, rfl, hO₁⟩, ⟨_, S9, by show (5 : Nat) ≤ 5; decide⟩⟩)
theorem c_new (hG : IsG G) {n : Nat} (R : Room A (n + 6)) {Il : Addr} {items : List Item} {seq : List Str} (h3 : σ Il = some (.list (items.map Item.V))) (ok : Good items seq)
    (h : ∀ x σ', σ x = none → Le σ σ' → Made σ' x (entsOf items) seq (allF (entsOf items) seq).1 (opsOf items) → k (.ref x) σ') : OpC G A L ρ σ (.ref 257) [.ref Il] k X := by
  refine opc_cls (fI := 104) (by rw [hG.K]; rfl) (by rw [hG.K]; rfl) (by rw [hG.K]; rfl) R fun A' x dx R' hx hd hne => ?_
  have l1 : Le σ ((σ.set dx (.attrs [])).set x (.inst 257 dx)) := (Le.set hd).setL hx
  refine k_init hG R' (St.set_same ..) ((St.keep ((Ne.symm hne)) (St.set_same ..))) (l1 _ _ h3) ok fun σ' m M => ⟨rfl, h x σ' hx ?_ M⟩
  exact fun b o e => m b o (fun q => by rw [List.mem_singleton.mp q, hd] at e; cases e) (l1 b o e)
end
end Mine
end
section
open PySem PySem.W PySem.Calls
set_option maxRecDepth 100000
namespace Mine
structure IsP (G : Amb) : Prop where
  file : ((G.prog.main.file : Str) == "/claim/cut.py") = true
  top : (G.prog.main.scope.names.lookup ("super" : Str)).isSome = false
def bareX (t : Addr) : Obj := { cls := .ref 88, dict := none, data := .fields #[.ref t, .none, .none, .none, .bool false, .none] }
def dictX (t dx : Addr) : Obj := { cls := .ref 88, dict := some dx, data := .fields #[.ref t, .none, .none, .none, .bool false, .none] }
def entX (w : World) (name : Str) (tk : Tok) (v : Value) : DictEntry := ⟨PyData.keyHash w.params name, .str name tk, v⟩
def MidX (e : Addr) (_ h : Heap) : Prop := ∃ t, h.get? e = some (bareX t)
def End1 (w : World) (e : Addr) (v : Value) (h₀ h : Heap) : Prop := ∃ t dx tk, h.get? e = some (dictX t dx) ∧ (∀ b o, b ≠ e → h₀.get? b = some o → b < dx) ∧ h₀.get? dx = none ∧ dx ≠ e ∧ h.get? dx = some (dictOf [entX w "what" tk v] 1)
def End2 (w : World) (e : Addr) (v v2 : Value) (h₀ h : Heap) : Prop := ∃ t dx tk tk', h.get? e = some (dictX t dx) ∧ (∀ b o, b ≠ e → h₀.get? b = some o → b < dx) ∧ h₀.get? dx = none ∧ dx ≠ e ∧ h.get? dx = some (dictOf [entX w "what" tk v, entX w "spot" tk' v2] 2)
section
variable {G : Amb} {A : Around} {s : Shared} {R : Result → Shared → Prop} {e t0 : Addr} {v v2 : Value}
theorem bmX : BmOk "Exception" [.ref 76, .ref 47, .type "Exception", .type "BaseException", .type "object"] := ⟨by decide, by decide, by decide⟩
theorem finder_init (hG : IsG G) (hP : IsP G) (hroom : A.depth < recursionLimit) (hbase : G.h₀.StaysIn s.heap) (he : s.heap.get? e = some (bareX t0)) (heG : G.h₀.get? e = none)
    (hR : ∀ h₂ tk, KB e s.heap h₂ → End1 G.w e v s.heap h₂ → R (.ok (.ret .none)) { s with heap := h₂, toks := tk }) : codeAny (model G.prog G.w) A (.call (.ref 37) ⟨[.ref e, v], []⟩) R s := by
  have X := G.X.keeps hbase
  have hg : G.mg "super" = none := hG.noGlob _ (by rw [hG.K]; rfl)
  have hb : G.mb "super" = some (.type "super") := hG.boot _ _ rfl (by decide)
  have ne : e ≠ 88 := fun q => by
    have : G.h₀.get? 88 = _ := G.X _ _ (show G.K.lookup 88 = some _ by rw [hG.K]; rfl)
    rw [← q, heG] at this; cases this
  refine sup_init (f := 37) (cc := 25) (cda := 36) (D := 47) (C := 88) (self := "self") (what := "what") (val := "what") (attr := "what") (v := v) (v2 := v) (Mid := MidX e) (End := End1 G.w e v) (binds := [("self", .ref e), ("what", v)])
    (by rw [hG.K]; rfl) (by rw [hG.K]; rfl) hroom hbase he rfl (fun _ q => by cases q) heG rfl rfl rfl rfl rfl rfl (by rw [hG.K]; rfl) rfl hP.file (by rw [hG.K]; rfl) (by rw [hG.K]; rfl) (by rw [hG.K]; rfl) hg hb (by rfl) (by rfl) (by rfl) (by rfl) (by rfl) hP.top (by simp; decide) (by decide) ?_ ?_ ?_
  · intro s₁ so A₁ pl Q E k hso hq
    obtain ⟨h, g, d, t, os⟩ := s₁
    have X₁ := X.keeps k
    have hkq : (h.push (wrapObj e)).get? h.objs.size = some (wrapObj e) := Heap.get?_push_at rfl rfl
    have up : ∀ b o, h.get? b = some o → (h.push (wrapObj e)).get? b = some o := fun b o q => Heap.get?_push_of_some _ q
    refine super_get hso (looks_opaque X₁ (by rw [hG.K]; rfl)) (l₀ := [.ref 88, .ref 76, .ref 47, .type "Exception", .type "BaseException", .type "object"]) ?_ rfl X₁ (by rw [hG.K]; rfl) (k _ _ he) rfl (by rw [hG.K]; rfl) ne rfl ?_
    · exact (looks_clsIn X₁ (by rw [hG.K]; rfl)).andThen .now
    · refine hq _ _ up ⟨.machine, .inr (.inl rfl), (Looks.ld (part := none) hkq).andThen .now⟩ fun A₂ E₂ Q₂ tk _ hQ => ?_
      exact wrap_call bmX (X₁.keeps up _ _ (by rw [hG.K]; rfl)) hkq (up _ _ (k _ _ he)) rfl rfl rfl fun h' t' kp he' => hQ h' tk kp ⟨t', he'⟩
  · intro s₁ h₁ A₁ E Q k K M hQ
    obtain ⟨t, ht⟩ := M
    have X₁ := G.X.keeps (h' := s₁.heap) fun b o q => K b o (fun z => by rw [z, heG] at q; cases q) (k _ _ (hbase b o q))
    refine set_plain X₁ (ox := bareX t) (od := none) ⟨ht, rfl, rfl, trivial⟩ (by rw [hG.K]; rfl) ?_
    refine osa_first (s := { s₁ with toks := s₁.toks + 1 }) X₁ ht (by rw [hG.K]; rfl) (by rw [hG.K]; rfl) (by rw [hG.K]; rfl) fun h' d k' hlt hd hde hx hdd => ?_
    refine hQ h' _ (K.trans k') ⟨t, d, _, hx, fun b o n q => hlt b o (K b o n q), ?_, hde, hdd⟩
    cases z : h₁.get? d with
    | none => rfl
    | some o => have := K d o hde z; rw [show s₁.heap.get? d = none from hd] at this; cases this
  · intro h₁ h₂ tk k K ⟨t, dx, tk', a, lt, b, c, d⟩
    refine hR h₂ tk ((KB.of k).trans K) ⟨t, dx, tk', a, fun b o n q => lt b o n (k b o q), ?_, c, d⟩
    cases z : s.heap.get? dx with
    | none => rfl
    | some o => have := k dx o z; rw [b] at this; cases this
theorem spot_init (hG : IsG G) (hP : IsP G) (hroom : A.depth + 1 < recursionLimit) (hbase : G.h₀.StaysIn s.heap) (he : s.heap.get? e = some (bareX t0)) (heG : G.h₀.get? e = none)
    (hR : ∀ h₂ tk, KB e s.heap h₂ → End2 G.w e v v2 s.heap h₂ → R (.ok (.ret .none)) { s with heap := h₂, toks := tk }) : codeAny (model G.prog G.w) A (.call (.ref 66) ⟨[.ref e, v, v2], []⟩) R s := by
  have X := G.X.keeps hbase
  have hg : G.mg "super" = none := hG.noGlob _ (by rw [hG.K]; rfl)
  have hb : G.mb "super" = some (.type "super") := hG.boot _ _ rfl (by decide)
  have ne : e ≠ 88 := fun q => by
    have : G.h₀.get? 88 = _ := G.X _ _ (show G.K.lookup 88 = some _ by rw [hG.K]; rfl)
    rw [← q, heG] at this; cases this
  refine sup_init (f := 66) (cc := 54) (cda := 65) (D := 76) (C := 88) (self := "self") (what := "what") (val := "spot") (attr := "spot") (v := v) (v2 := v2) (Mid := End1 G.w e v) (End := End2 G.w e v v2) (binds := [("self", .ref e), ("what", v), ("spot", v2)])
    (by rw [hG.K]; rfl) (by rw [hG.K]; rfl) (by omega) hbase he rfl (fun _ q => by cases q) heG rfl rfl rfl rfl rfl rfl (by rw [hG.K]; rfl) rfl hP.file (by rw [hG.K]; rfl) (by rw [hG.K]; rfl) (by rw [hG.K]; rfl) hg hb (by rfl) (by rfl) (by rfl) (by rfl) (by rfl) hP.top (by simp; decide) (by decide) ?_ ?_ ?_
  · intro s₁ so A₁ pl Q E k hso hq
    obtain ⟨h, g, d, t, os⟩ := s₁
    have X₁ := X.keeps k
    have hkq : (h.push (methodObj (.ref 37) (.ref e))).get? h.objs.size = some (methodObj (.ref 37) (.ref e)) := Heap.get?_push_at rfl rfl
    have up : ∀ b o, h.get? b = some o → (h.push (methodObj (.ref 37) (.ref e))).get? b = some o := fun b o q => Heap.get?_push_of_some _ q
    have X₂ := X₁.keeps up
    refine ks_wpAny_getMethod_super hso (looks_opaque X₁ (by rw [hG.K]; rfl)) (l₀ := [.ref 88, .ref 76, .ref 47, .type "Exception", .type "BaseException", .type "object"]) ?_ rfl X₁ (by rw [hG.K]; rfl) (X₁ _ _ (show G.K.lookup 37 = some _ by rw [hG.K]; rfl)) rfl ne rfl ?_
    · exact (looks_clsIn X₁ (by rw [hG.K]; rfl)).andThen .now
    · refine hq _ _ up ⟨.boundFrame, .inr (.inr rfl), (Looks.ld (part := none) hkq).andThen ((Looks.ld (part := none) (X₂ _ _ (show G.K.lookup 37 = some _ by rw [hG.K]; rfl))).andThen .now)⟩ fun A₂ E₂ Q₂ tk hdep hQ => ?_
      exact wpAny_call (method_call (s := ⟨h.push (methodObj (.ref 37) (.ref e)), g, d, tk, os⟩) hkq (finder_init (s := ⟨h.push (methodObj (.ref 37) (.ref e)), g, d, tk, os⟩) hG hP (by omega) (fun b o q => up _ _ (k _ _ (hbase b o q))) (up _ _ (k _ _ he)) heG fun h₂ tk₂ K₂ E₂ => hQ h₂ tk₂ K₂ E₂))
  · intro s₁ h₁ A₁ E Q k K M hQ
    obtain ⟨t, dx, tk, hx, lt, hd, hde, hdd⟩ := M
    have X₁ := G.X.keeps (h' := s₁.heap) fun b o q => K b o (fun z => by rw [z, heG] at q; cases q) (k _ _ (hbase b o q))
    refine set_plain X₁ (ox := dictX t dx) (od := some _) ⟨hx, rfl, rfl, hdd⟩ (by rw [hG.K]; rfl) ?_
    refine osa_exc (s := { s₁ with toks := s₁.toks + 1 }) (es := [entX G.w "what" tk v]) (n := 1) X₁ hx hdd (by rw [hG.K]; rfl) (by rw [hG.K]; rfl) (by rw [hG.K]; rfl) (by rfl) (Nat.le_of_ble_eq_true rfl) fun h' hs hd' => ?_
    refine hQ h' _ (fun b o n q => ?_) ⟨t, dx, tk, _, (hs.2 e (Ne.symm hde)).trans hx, lt, hd, hde, hd'⟩
    rw [hs.2 b fun z => by rw [z, hd] at q; cases q]; exact K b o n q
  · intro h₁ h₂ tk k K ⟨t, dx, tk', tk'', a, lt, b, c, d⟩
    refine hR h₂ tk ((KB.of k).trans K) ⟨t, dx, tk', tk'', a, fun b o n q => lt b o n (k b o q), ?_, c, d⟩
    cases z : s.heap.get? dx with
    | none => rfl
    | some o => have := k dx o z; rw [b] at this; cases this
end
end Mine
end
section
open PySem PySem.W PyProof.Rows PySem.Calls
set_option maxRecDepth 100000
namespace Mine
section
variable {G : Amb} {A : Around} {L : Addr} {ρ : Loc} {σ : St} {k : Addr → Addr → Addr → St → Prop}
theorem mk_fault (hG : IsG G) (hP : IsP G) {n : Nat} (R : Room A (n + 2)) {m : Str} {sp : Int} (h : ∀ e dx σ', Le σ σ' → σ' dx = some (.attrs [("what", .str m), ("spot", .int sp)]) → k e 88 dx σ') : MkX G A L ρ σ 88 [.str m, .int sp] k := fun s vs x r => by
  obtain ⟨hh, g, d, t, os⟩ := s
  obtain ⟨v, vs, rfl⟩ : ∃ v w, vs = v :: w := by cases r; exact ⟨_, _, rfl⟩
  obtain ⟨v2, rfl⟩ : ∃ w, vs = [w] := by cases r; rename_i r; cases r; rename_i r; cases r; exact ⟨_, rfl⟩
  have r1 : Rep hh v (.str m) := by cases r; assumption
  have r2 : Rep hh v2 (.int sp) := by cases r; rename_i r; cases r; assumption
  have rd := R.depth
  refine exc_call (fI := 66) F.excBase_Exception bmX x.In (x.In _ _ (by rw [hG.K]; rfl)) (by rw [hG.K]; rfl) (by rw [hG.K]; rfl) (fun h₁ e hm => ?_) (len_ok rfl)
  obtain ⟨t₁, ht, hn, htt⟩ := hm.there
  have heG : G.h₀.get? e = none := by
    cases q : G.h₀.get? e with
    | none => rfl
    | some o => have := x.base _ _ q; rw [hm.new] at this; cases this
  refine wpAny_call (spot_init (s := ⟨h₁, g, d, t, os⟩) (t0 := t₁) hG hP ?_ (fun b o q => hm.keeps _ _ (x.base _ _ q)) ht heG fun h₂ tk K₂ E₂ => ⟨rfl, ?_⟩)
  · have := (R.under (n := n + 1) ⟨.ref 88 :: [v, v2], []⟩).depth; omega
  obtain ⟨t₂, dx, tk₁, tk₂, a, lt, b, c, d'⟩ := E₂
  have kp : ∀ b o, hh.get? b = some o → h₂.get? b = some o := fun b o q => K₂ b o (fun z => by rw [z, hm.new] at q; cases q) (hm.keeps _ _ q)
  have hdx : hh.get? dx = none := by
    cases q : hh.get? dx with
    | none => rfl
    | some o => have := hm.keeps _ _ q; rw [show h₁.get? dx = none from b] at this; cases this
  have big : G.h₀.objs.size ≤ dx := by
    obtain ⟨mm, ⟨oL, _, _, hL, _⟩, _⟩ := x.frame.ns
    exact Nat.le_of_lt (Nat.lt_of_le_of_lt x.above (lt L oL (fun z => by rw [z, show hh.get? e = none from hm.new] at hL; cases hL) (hm.keeps _ _ hL)))
  have y : S G L ρ (σ.set dx (.attrs [("what", .str m), ("spot", .int sp)])) h₂ := x.newAt (o := .attrs [("what", .str m), ("spot", .int sp)]) hdx big kp
    ⟨_, _, d', .cons ⟨⟨_, rfl⟩, rfl, r1.mono (.of_keeps kp)⟩ (.cons ⟨⟨_, rfl⟩, rfl, r2.mono (.of_keeps kp)⟩ .nil)⟩
  have σe : σ e = none := x.unused hm.new
  exact ⟨e, dx, h₂, tk, _, rfl, rfl, .new hdx kp, y, ⟨t₂, a⟩, (St.keep (Ne.symm c) σe), hm.new, h e dx _ (Le.setL (Le.refl _) (x.unused hdx)) (St.set_same ..)⟩
end
end Mine
namespace Mine
def OKat (es : Ens) (fs : List Fd) (i : Nat) (f : Fd) : Prop := gets es f.field = none ∧ ∀ a ∈ fs.take i, a.field = f.field → a.name ≠ f.name ∧ ¬ Up es f.name a.name
def Bad (es : Ens) (fs : List Fd) (i : Nat) (f : Fd) : Prop := gets es f.field ≠ none ∨ ∃ a ∈ fs.take i, a.field = f.field ∧ (a.name = f.name ∨ Up es f.name a.name)
theorem key_next {fs : List Fd} {ks : List (List Str)} {i : Nat} (hi : i < fs.length) (hmem : ∀ f x, [f, x] ∈ ks ↔ ∃ a ∈ fs.take i, a.field = f ∧ a.name = x) (f x : Str) :
    [f, x] ∈ (if [fs[i].field, fs[i].name] ∈ ks then ks else ks ++ [[fs[i].field, fs[i].name]]) ↔ ∃ a ∈ fs.take (i + 1), a.field = f ∧ a.name = x := by
  have key : (∃ a ∈ fs.take (i + 1), a.field = f ∧ a.name = x) ↔ (∃ a ∈ fs.take i, a.field = f ∧ a.name = x) ∨ (fs[i].field = f ∧ fs[i].name = x) := by
    constructor
    · rintro ⟨a, ha, e⟩
      rcases (mem_take_succ hi a).mp ha with ha | rfl
      · exact .inl ⟨a, ha, e⟩
      · exact .inr e
    · rintro (⟨a, ha, e⟩ | e)
      · exact ⟨a, (mem_take_succ hi a).mpr (.inl ha), e⟩
      · exact ⟨fs[i], (mem_take_succ hi _).mpr (.inr rfl), e⟩
  rw [key]
  split
  · rename_i hin
    rw [hmem]
    constructor
    · exact .inl
    · rintro (q | ⟨e1, e2⟩)
      · exact q
      · rw [e1, e2] at hin; exact (hmem _ _).mp hin
  · rw [List.mem_append, hmem]
    constructor
    · rintro (q | q)
      · exact .inl q
      · simp at q; exact .inr ⟨q.1.symm, q.2.symm⟩
    · rintro (q | ⟨e1, e2⟩)
      · exact .inl q
      · right; simp [e1, e2]
section
variable {G : Amb} {A : Around} {env : Env} {L : Addr} {ρ : Loc} {σ : St}
theorem rv_fault (hG : IsG G) (hP : IsP G) {n : Nat} (R : Room A (n + 2)) {msg : Expr} {p1 p2 p3 p4 : Pos} {sp : Int} {k : Addr → Addr → Addr → St → Prop}
    (hm : EV G A env ρ σ msg (fun d σ₁ => Le σ σ₁ ∧ ∃ m, d = .str m) never)
    (hk : ∀ e dx σ', Le σ σ' → (∃ m, σ' dx = some (.attrs [("what", .str m), ("spot", .int sp)])) → k e 88 dx σ')
    (hv : ρ.get "spot" = some (.int sp)) (hkf : env.scope.kind = .function := by rfl) (hl : env.kindOf "spot" = some .local := by rfl) (hl2 : env.kindOf "KindFault" = some .globalImplicit := by rfl) (hg : env.globals = mainGlobals := by rfl)
    (he : eval (.Call (.Name "KindFault" p1) [msg, .Name "spot" p2] [] p3) env = (do callWith p3 (← eval (.Name "KindFault" p1) env) [] (backTo p3 (starEach [msg, .Name "spot" p2] env)) (backToKw p3 (keywordEach [] env))) := by rfl)
    (hs : starEach [msg, .Name "spot" p2] env = (false, eval msg env) :: starEach [.Name "spot" p2] env := by rfl) :
    RV G A env ρ σ (exec (.Raise (some (.Call (.Name "KindFault" p1) [msg, .Name "spot" p2] [] p3)) none p4) env) k := by
  refine rv_RaiseCall (C := 88) (by rw [hG.K]; rfl) (by decide) R.handled (.inr (by rw [hG.K]; rfl)) ?_ he hs rfl
  have hmo : G.mg "KindFault" = some (.ref 88) := hG.glob _ _ (by rw [hG.K]; rfl)
  refine ev_global hmo (fun _ => .glob _ rfl) ⟨rfl, lv_cons (hm.mono fun d σ₁ ⟨le, m, hd⟩ => ?_) hs⟩ hg hkf hl2
  subst hd
  exact lv_cons (ev_local (x := "spot") (lv_nil (mk_fault hG hP R fun e dx σ' l' hx => hk e dx σ' (le.trans l') ⟨_, hx⟩)) hv hkf hl)
theorem first_in {α : Type} (p : α → Bool) : ∀ (l : List α), (∃ x ∈ l, p x = true) → ∃ m, ∃ hm : m < l.length, p l[m] = true ∧ ∀ j (hj : j < l.length), j < m → p l[j] = false
  | [], h => by obtain ⟨x, hx, _⟩ := h; cases hx
  | a :: l, h => by
    cases q : p a with
    | true => exact ⟨0, by simp, q, fun j _ h => absurd h (Nat.not_lt_zero j)⟩
    | false =>
      obtain ⟨m, hm, h1, h2⟩ := first_in p l (by
        obtain ⟨x, hx, e⟩ := h
        rcases List.mem_cons.mp hx with rfl | hx
        · rw [q] at e; cases e
        · exact ⟨x, hx, e⟩)
      refine ⟨m + 1, by simpa using hm, by simpa using h1, fun j hj hjm => ?_⟩
      cases j with
      | zero => exact q
      | succ j => simpa using h2 j (by simpa using hj) (by omega)
theorem slen {y : Str} {n : Nat} (h : Nat.ble y.length n = true) : y.length ≤ n := Nat.le_of_ble_eq_true h
def FLen (fs : List Fd) : Prop := ∀ f ∈ fs, f.field.length ≤ 1000 ∧ f.name.length ≤ 1000
theorem rv_look (hG : IsG G) (hP : IsP G) {n : Nat} (R' : Room A (n + 3)) {L' : Addr} {cdv : Value} {self : Addr} {es : Ens} {fs : List Fd} (H : Ents σ self es) (HS : HasL σ self "own_fields" (fs.map Fd.V)) (W : WF es) (hsz : fs.length ≤ 10000) (hlen : FLen fs)
    (hnames : ∀ f ∈ fs, ∃ t, gets es f.name = some t) {m : Nat} (hm : m < fs.length) (ok : ∀ i (hi : i < fs.length), i < m → OKat es fs i fs[i]) (bad : Bad es fs m fs[m]) {k : Addr → Addr → Addr → St → Prop}
    (h : ∀ e dx σ', Le σ σ' → (∃ t, σ' dx = some (.attrs [("what", .str t), ("spot", .int fs[m].spot)])) → k e 88 dx σ') :
    RV G A (envX "Signatures.look_fields" (fScope (inAt 7 6)) L' 144 cdv []) [("self", .ref self)] σ (execs (fBody (inAt 7 6)) (envX "Signatures.look_fields" (fScope (inAt 7 6)) L' 144 cdv [])) k := by
  obtain ⟨ps, l, s, hg, hl⟩ := id HS
  obtain ⟨ps', E, ep, s', hg', hE⟩ := id H
  refine rv_next (sv_Assign (ev_Dict0t fun D hD => ?_))
  refine ⟨rfl, ?_⟩
  refine rv_head (rv_For (ie_list R'.handled (ev_self hG (ev_local (x := "self") ⟨self, ps, _, rfl, s.le (Le.set hD), hg, l, _, rfl, Le.set hD _ _ hl, ?_⟩))))
  refine ⟨fun i ρ' σ' => Sub [("self", .ref self), ("seen", .ref D)] ρ' ∧ Le σ σ' ∧ ∃ ks : List (List Str), σ' D = some (.tdict ks) ∧ ks.length ≤ i ∧ ∀ f x, [f, x] ∈ ks ↔ ∃ a ∈ fs.take i, a.field = f ∧ a.name = x, m, by simpa using hm,
    ⟨⟨rfl, rfl, trivial⟩, Le.set hD, [], St.set_same .., Nat.le_refl _, by simp⟩, fun i ρ σ' h => h.2.1 _ _ hl, ?_, ?_⟩
  · rintro i ρ₁ σ₁ him ⟨hs, le, ks, hks, hkl, hmem⟩
    have hi : i < fs.length := Nat.lt_trans him hm
    refine TS.sub ?_ hs
    dsimp only
    rw [getD_mapE _ _ _ hi]
    obtain ⟨o1, o3⟩ := ok i hi him
    obtain ⟨t, ht⟩ := hnames _ (List.getElem_mem hi)
    have hnext := key_next hi hmem
    generalize fs[i] = f at o1 ht o3 hnext ⊢
    refine ts_Tuple R'.handled (ds := [.str f.field, .str f.name, .str f.mult, f.node, .int f.spot, .int f.grp]) ?_
    refine tl_cons (ts_Name (ts_local ?_))
    refine tl_cons (ts_Name (ts_local ?_))
    refine tl_cons (ts_Name (ts_local ?_))
    refine tl_cons (ts_Name (ts_local ?_))
    refine tl_cons (ts_Name (ts_local ?_))
    refine tl_cons (ts_Name (ts_local ?_))
    refine tl_nil (gen_k fun kk hkk => ?_)
    have hE₁ := le _ _ hE
    refine sv_cons (sv_If (bv_Compare (ev_local (x := "field") (ev_self hG (ev_local (x := "self") ⟨self, ps', _, rfl, s'.le le, hg', op_in_sdict hE₁ ⟨_, rfl, ?_⟩⟩)))))
    rw [get_vents, o1]
    simp only [Option.map_none, Option.isSome_none, Bool.false_eq_true, if_false]
    refine sv_nil (sv_cons (sv_For PassesOwn.never (ie_list R'.handled (ev_BinOp (ev_List (lv_cons (ev_local (x := "name") (lv_nil ⟨len_ok rfl, fun B hB => ?_⟩))))))))
    have leB := le.trans (Le.set (o := .list [.str f.name]) hB)
    refine ev_m1 (M_all_above hG) (ev_local (x := "self") ⟨self, ps, rfl, s.le leB, ev_local (x := "name") (c_all_above hG R' (H.le leB) W ht fun Q σ₂ over l₂ hQ hQ' Ab => ?_)⟩)
    have hlen : over.length ≤ 100 := by
      have := nodup_le (ys := es.map (·.1)) Ab.nd fun x hx => by obtain ⟨t, ht⟩ := ((Ab.mem x).mp hx).key W; exact gets_mem ht
      have := W.size
      rw [List.length_map] at *; omega
    refine op_add_list (l₂ _ _ (St.set_same ..)) hQ' (by simp; rw [sizeLine_eq]; omega) fun T hT => ?_
    have l3 : Le σ (σ₂.set T (.list ([.str f.name] ++ over.map .str))) := (leB.trans l₂).trans (Le.set hT)
    have hks₂ : σ₂ D = some (.tdict ks) := l₂ _ _ ((St.keep ((fun q => by rw [← q, hks] at hB; cases hB)) hks))
    have hks₃ : (σ₂.set T (.list ([.str f.name] ++ over.map .str))) D = some (.tdict ks) := Le.set hT _ _ hks₂
    refine ⟨_, _, rfl, St.set_same .., ?_⟩
    have eT : ([V.str f.name] ++ over.map V.str) = (f.name :: over).map V.str := rfl
    rw [eT] at *
    refine ⟨fun j ρ' σ' => Sub [("self", .ref self), ("seen", .ref D), ("field", .str f.field), ("name", .str f.name)] ρ' ∧ Le (σ₂.set T (.list ((f.name :: over).map .str))) σ',
      ⟨⟨rfl, rfl, rfl, rfl, trivial⟩, Le.refl _⟩, fun i ρ σ' h => h.2 _ _ (St.set_same ..), ?_, ?_⟩
    · rintro j ρ₂ σ₃ hj ⟨hs₂, le₃⟩
      rw [List.length_map] at hj
      refine TS.sub ?_ hs₂
      dsimp only
      rw [getD_mapE _ _ _ hj]
      have hmm : (f.name :: over)[j] ∈ f.name :: over := List.getElem_mem hj
      generalize (f.name :: over)[j] = other at hmm ⊢
      have hnot : [f.field, other] ∉ ks := fun q => by
        obtain ⟨a, ha, e1, e2⟩ := (hmem _ _).mp q
        obtain ⟨n1, n2⟩ := o3 a ha e1
        rw [e2] at n1 n2
        rcases List.mem_cons.mp hmm with h1 | h1
        · exact n1 h1
        · exact n2 ((Ab.mem _).mp h1)
      refine ts_Name (ts_local (gen_k fun kk' hkk' => ?_))
      refine sv_cons (sv_If (bv_Compare (ev_Tuple ?_)))
      refine lv_cons (ev_local (x := "field") ?_)
      refine lv_cons (ev_local (x := "other") ?_)
      refine lv_nil ⟨len_ok rfl, ev_local (x := "seen") (op_in_tdict (xs := [f.field, other]) R' (le₃ _ _ hks₃) ⟨_, rfl, ?_⟩)⟩
      rw [decide_eq_false hnot, if_neg (by decide)]
      exact sv_nil (sv_nilK hkk' ⟨⟨rfl, rfl, rfl, rfl, trivial⟩, le₃⟩)
    · rintro ρ₂ σ₃ ⟨hs₂, le₃⟩
      refine SV.sub ?_ hs₂
      refine sv_cons (sv_AssignSub (ev_bool (ev_local (x := "seen") (ev_Tuple ?_))))
      refine lv_cons (ev_local (x := "field") ?_)
      refine lv_cons (ev_local (x := "name") ?_)
      refine lv_nil ⟨len_ok rfl, set_tdict (xs := [f.field, f.name]) R' (le₃ _ _ hks₃) (by rw [sizeLine_eq]; omega) ?_⟩
      refine sv_nilK hkk ⟨rfl, ⟨rfl, rfl, trivial⟩, (l3.trans le₃).setL hD, _, St.set_same .., ?_, hnext⟩
      split
      · omega
      · simp; omega
  · rintro ρ₁ σ₁ ⟨hs, le, ks, hks, hkl, hmem⟩
    refine TS.sub ?_ hs
    dsimp only
    rw [getD_mapE _ _ _ hm]
    obtain ⟨t, ht⟩ := hnames _ (List.getElem_mem hm)
    obtain ⟨fl1, fl2⟩ := hlen _ (List.getElem_mem hm)
    generalize fs[m] = f at bad ht h fl1 fl2 ⊢
    refine ts_Tuple R'.handled (ds := [.str f.field, .str f.name, .str f.mult, f.node, .int f.spot, .int f.grp]) ?_
    refine tl_cons (ts_Name (ts_local ?_))
    refine tl_cons (ts_Name (ts_local ?_))
    refine tl_cons (ts_Name (ts_local ?_))
    refine tl_cons (ts_Name (ts_local ?_))
    refine tl_cons (ts_Name (ts_local ?_))
    refine tl_cons (ts_Name (ts_local ?_))
    refine tl_nil ?_
    have hE₁ := le _ _ hE
    by_cases hf : gets es f.field = none
    · have hb : ∃ a ∈ fs.take m, a.field = f.field ∧ (a.name = f.name ∨ Up es f.name a.name) := bad.resolve_left fun z => z hf
      refine rv_next (sv_If (bv_Compare (ev_local (x := "field") (ev_self hG (ev_local (x := "self") ⟨self, ps', _, rfl, s'.le le, hg', op_in_sdict hE₁ ⟨_, rfl, ?_⟩⟩)))))
      rw [get_vents, hf]
      simp only [Option.map_none, Option.isSome_none, Bool.false_eq_true, if_false]
      refine sv_nil ⟨rfl, rv_head (rv_For (ie_list R'.handled (ev_BinOp (ev_List (lv_cons (ev_local (x := "name") (lv_nil ⟨len_ok rfl, fun B hB => ?_⟩)))))))⟩
      have leB := le.trans (Le.set (o := .list [.str f.name]) hB)
      refine ev_m1 (M_all_above hG) (ev_local (x := "self") ⟨self, ps, rfl, s.le leB, ev_local (x := "name") (c_all_above hG R' (H.le leB) W ht fun Q σ₂ over l₂ hQ hQ' Ab => ?_)⟩)
      have hlen : over.length ≤ 100 := by
        have := nodup_le (ys := es.map (·.1)) Ab.nd fun x hx => by obtain ⟨t, ht⟩ := ((Ab.mem x).mp hx).key W; exact gets_mem ht
        have := W.size
        rw [List.length_map] at *; omega
      refine op_add_list (l₂ _ _ (St.set_same ..)) hQ' (by simp; rw [sizeLine_eq]; omega) fun T hT => ?_
      have l3 : Le σ (σ₂.set T (.list ([.str f.name] ++ over.map .str))) := (leB.trans l₂).trans (Le.set hT)
      have hks₂ : σ₂ D = some (.tdict ks) := l₂ _ _ ((St.keep ((fun q => by rw [← q, hks] at hB; cases hB)) hks))
      have hks₃ : (σ₂.set T (.list ([.str f.name] ++ over.map .str))) D = some (.tdict ks) := Le.set hT _ _ hks₂
      refine ⟨_, _, rfl, St.set_same .., ?_⟩
      have eT : ([V.str f.name] ++ over.map V.str) = (f.name :: over).map V.str := rfl
      rw [eT] at *
      obtain ⟨m', hm', hp, hbefore⟩ := first_in (fun o => decide ([f.field, o] ∈ ks)) (f.name :: over) (by
        obtain ⟨a, ha, e1, e2⟩ := hb
        refine ⟨a.name, ?_, decide_eq_true ((hmem _ _).mpr ⟨a, ha, e1, rfl⟩)⟩
        rcases e2 with e2 | e2
        · rw [e2]; exact List.mem_cons_self
        · exact List.mem_cons_of_mem _ ((Ab.mem _).mpr e2))
      refine ⟨fun j ρ' σ' => Sub [("self", .ref self), ("seen", .ref D), ("field", .str f.field), ("name", .str f.name), ("spot", .int f.spot)] ρ' ∧ Le (σ₂.set T (.list ((f.name :: over).map .str))) σ', m', by simpa using hm',
        ⟨⟨rfl, rfl, rfl, rfl, rfl, trivial⟩, Le.refl _⟩, fun i ρ σ' h => h.2 _ _ (St.set_same ..), ?_, ?_⟩
      · rintro j ρ₂ σ₃ hjm ⟨hs₂, le₃⟩
        have hj : j < (f.name :: over).length := Nat.lt_trans hjm hm'
        refine TS.sub ?_ hs₂
        dsimp only
        rw [getD_mapE _ _ _ hj]
        have hnot : [f.field, (f.name :: over)[j]] ∉ ks := of_decide_eq_false (hbefore j hj hjm)
        generalize (f.name :: over)[j] = other at hnot ⊢
        refine ts_Name (ts_local (gen_k fun kk' hkk' => ?_))
        refine sv_cons (sv_If (bv_Compare (ev_Tuple ?_)))
        refine lv_cons (ev_local (x := "field") ?_)
        refine lv_cons (ev_local (x := "other") ?_)
        refine lv_nil ⟨len_ok rfl, ev_local (x := "seen") (op_in_tdict (xs := [f.field, other]) R' (le₃ _ _ hks₃) ⟨_, rfl, ?_⟩)⟩
        rw [decide_eq_false hnot, if_neg (by decide)]
        exact sv_nil (sv_nilK hkk' ⟨rfl, ⟨rfl, rfl, rfl, rfl, rfl, trivial⟩, le₃⟩)
      · rintro ρ₂ σ₃ ⟨hs₂, le₃⟩
        refine TS.sub ?_ hs₂
        dsimp only
        rw [getD_mapE _ _ _ hm']
        have hin : [f.field, (f.name :: over)[m']] ∈ ks := of_decide_eq_true hp
        generalize (f.name :: over)[m'] = other at hin ⊢
        refine ts_Name (ts_local (rv_head (rv_If (bv_Compare (ev_Tuple ?_)))))
        refine lv_cons (ev_local (x := "field") ?_)
        refine lv_cons (ev_local (x := "other") ?_)
        refine lv_nil ⟨len_ok rfl, ev_local (x := "seen") (op_in_tdict (xs := [f.field, other]) R' (le₃ _ _ hks₃) ⟨_, rfl, ?_⟩)⟩
        rw [decide_eq_true hin, if_pos rfl]
        refine rv_head (rv_fault (n := n) hG hP (R'.le (by omega)) (ev_JoinedStr ?_) (fun e dx σ' l' hx => h e dx σ' ((l3.trans le₃).trans l') hx) rfl)
        refine jb_cons (n := 0) (m := 1000) (Nat.le_refl _) rfl (ev_FV (ev_local (x := "name") ⟨_, rfl, Nat.le_trans fl2 (len_ok rfl), _, rfl, fl2, fun o2 b2 => ?_⟩))
        refine jb_cons (m := 50) b2 rfl (ev_str ⟨_, rfl, slen rfl, fun o1 b1 => ?_⟩)
        refine jb_cons (m := 1000) b1 rfl (ev_FV (ev_local (x := "field") ⟨_, rfl, Nat.le_trans fl1 (len_ok rfl), _, rfl, fl1, fun o2 b2 => ?_⟩))
        refine jb_cons (m := 50) b2 rfl (ev_str ⟨_, rfl, slen rfl, fun o3 b3 => ?_⟩)
        exact jb_nil b3 rfl ⟨Le.refl _, _, rfl⟩
    · refine rv_head (rv_If (bv_Compare (ev_local (x := "field") (ev_self hG (ev_local (x := "self") ⟨self, ps', _, rfl, s'.le le, hg', op_in_sdict hE₁ ⟨_, rfl, ?_⟩⟩)))))
      rw [get_vents]
      cases hgf : gets es f.field with
      | none => exact absurd hgf hf
      | some tt =>
        simp only [Option.map_some, Option.isSome_some, if_true]
        refine rv_head (rv_fault (n := n) hG hP (R'.le (by omega)) (ev_JoinedStr ?_) (fun e dx σ' l' hx => h e dx σ' (le.trans l') hx) rfl)
        refine jb_cons (n := 0) (m := 50) (Nat.le_refl _) rfl (ev_str ⟨_, rfl, slen rfl, fun o1 b1 => ?_⟩)
        refine jb_cons (m := 1000) b1 rfl (ev_FV (ev_local (x := "field") ⟨_, rfl, Nat.le_trans fl1 (len_ok rfl), _, rfl, fl1, fun o2 b2 => ?_⟩))
        refine jb_cons (m := 50) b2 rfl (ev_str ⟨_, rfl, slen rfl, fun o3 b3 => ?_⟩)
        exact jb_nil b3 rfl ⟨Le.refl _, _, rfl⟩
end
end Mine
namespace Mine
section
variable {G : Amb} {A : Around} {L : Addr} {ρ : Loc} {σ : St}
theorem c_refused_bad (hG : IsG G) (hP : IsP G) {n : Nat} (R : Room A (n + 5)) {s : Shared} {env0 : Env} (hfr : A.frames = some [env0]) (hk0 : env0.scope.kind = .function) (hf0 : env0.frame = some L) (x : S G L ρ σ s.heap)
    {told : Addr} {es : Ens} {fs : List Fd} (H : Ents σ told es) (HS : HasL σ told "own_fields" (fs.map Fd.V)) (W : WF es) (hsz : fs.length ≤ 10000) (hlen : FLen fs)
    (hnames : ∀ f ∈ fs, ∃ t, gets es f.name = some t) {m : Nat} (hm : m < fs.length) (ok : ∀ i (hi : i < fs.length), i < m → OKat es fs i fs[i]) (bad : Bad es fs m fs[m]) {Q : Value → Shared → Prop} {E : Value → Shared → Prop}
    (hQ : ∀ h' tk σ' v, ExtS L σ s.heap h' σ' → S G L ρ σ' h' → Rep h' v (.int fs[m].spot) → Le σ σ' → Q v { s with heap := h', toks := tk }) :
    wpAny (model G.prog G.w) A (call (.ref 285) [.ref told]) Q E s := by
  obtain ⟨hp, gs, dr, tk, os⟩ := s
  refine wpAny_call (call_raw (f := 285) (ρ := ρ) (L := L) (ds := [.ref told]) ["told"] (by rw [hG.K]; rfl) (by rw [hG.K]; rfl) R x (.cons (.ref _) .nil) fun L1 env1 h₁ tk₁ he hLL hL1 σL1 hG1 kp y₁ x₁ => ?_)
  have hfr1 : (A.deeper env1).frames = some [env1, env0] := Around.frames_deeper hfr
  have R1 : Room (A.deeper env1) (n + 4) := R.in_ env1
  subst he
  obtain ⟨ps', E', ep, s', hg', hE'⟩ := id H
  obtain ⟨mm, nn, hmm⟩ := y₁.frame.ns
  obtain ⟨u, hu, ru⟩ := hmm "told" (.ref told) rfl
  cases ru
  have M := M_look_fields hG
  refine wpAny_execs_cons (wpAny_Try_except (wpAny_execs_cons (PySem.wpAny_Expr (MethodCall_ (wpAny_Name (wpAny_loadName_local rfl rfl nn hu ?_))))))
  refine wpAny_mono (gm_self (A := A.deeper _) (L := L1) (ρ := [("told", .ref told)]) (X := never) (k := fun f fd => f = .ref 144 ∧ fd = [.ref told]) M s' ⟨rfl, rfl⟩ (by decide) ⟨h₁, gs, dr, tk₁, os⟩ _ _ y₁ (.ref _)) (fun fx s₂ p => ?_) fun _ _ z => z.elim
  obtain ⟨rfl, fd, rfx, hfx, rfl⟩ := p
  rw [hfx]
  refine callWith_of (P := G.K.In) rfl M.ck.looks (evalArgs_nil3 ⟨y₁.In, ?_⟩)
  rw [List.append_nil]
  have hof : OutF G σ h₁ [envX "_law_refused" (fScope (topAt 13)) L1 285 (.ref 284) [], env0] := fun e he => by
    rcases List.mem_cons.mp he with rfl | he
    · exact ⟨show ScopeKind.function ≠ .module by decide, L1, mm, rfl, nn, hG1, σL1⟩
    · rcases List.mem_singleton.mp he with rfl
      obtain ⟨m0, n0, _⟩ := x₁.frame.ns
      exact ⟨by rw [hk0]; decide, L, m0, hf0, n0, Heap.get?_none_of_le x.above, x.off⟩
  refine opr_fn0 (f := 144) (n := n + 3) (L := L1) (ρ := [("told", .ref told)]) (k := fun e C dx σ' => C = 88 ∧ Le σ σ' ∧ ∃ t, σ' dx = some (.attrs [("what", .str t), ("spot", .int fs[m].spot)])) ["self"] (by rw [hG.K]; rfl) (by rw [hG.K]; rfl) R1 y₁ rfx hfr1 hof (fun L' A' env he R' => ?_) ?_
  · subst he
    exact rv_look (n := n) hG hP R' H HS W hsz hlen hnames hm ok bad fun e dx σ' l hx => ⟨rfl, l, hx⟩
  · intro e C dx h' h'' tk' σ' t L' E₂ z het σe hne hk' hL' σL' ntL' hof' F u
    obtain ⟨rfl, le, msg, hdx⟩ := hk'
    refine fly_look (outer := [env0]) (L := L1) hfr1 rfl F fun h₃ F₃ u₃ => fly_land (s := ⟨h₃, gs, dr, tk', os⟩) F₃ fun h₄ F₄ u₄ => ?_
    have hmo : G.mg "KindFault" = some (.ref 88) := hG.glob _ _ (by rw [hG.K]; rfl)
    have lsd : e :: L' :: [envX "_law_refused" (fScope (topAt 13)) L1 285 (.ref 284) [], env0].filterMap (·.frame) = [e, L', L1, L] := by
      simp only [List.filterMap_cons, List.filterMap_nil, hf0]
    rw [lsd] at F₃ F₄ F
    have heG : G.h₀.get? e = none := by
      cases q : G.h₀.get? e with
      | none => rfl
      | some o => have := y₁.base _ _ q; rw [show h₁.get? e = none from hne] at this; cases this
    have hLG : G.h₀.get? L' = none := by
      cases q : G.h₀.get? L' with
      | none => rfl
      | some o => have := y₁.base _ _ q; rw [show h₁.get? L' = none from hL'] at this; cases this
    have xz : S G L ρ σ' h' := ⟨z.base, z.obj, z.new, x₁.frame.ext x₁.off E₂, (let ⟨_, n0, _⟩ := x₁.frame.ns; E₂.off x₁.off n0), x₁.above⟩
    have off : ∀ a ∈ [e, L', L1, L], σ' a = none ∧ G.h₀.get? a = none := fun a ha => by
      simp only [List.mem_cons, List.mem_nil_iff, or_false] at ha
      rcases ha with rfl | rfl | rfl | rfl
      · exact ⟨σe, heG⟩
      · exact ⟨σL', hLG⟩
      · exact ⟨z.off, hG1⟩
      · exact ⟨xz.off, Heap.get?_none_of_le x.above⟩
    have ntN : ∀ {a : Addr} {m : Str → Option Value}, h'.Ns a m → ∀ xs n, h'.get? a ≠ some (tupOf xs n) := fun ⟨o, _, _, ho, hd, _⟩ xs n q => by rw [ho] at q; cases q; cases hd
    have nt : ∀ a ∈ [e, L', L1, L], ∀ xs n, h'.get? a ≠ some (tupOf xs n) := fun a ha => by
      simp only [List.mem_cons, List.mem_nil_iff, or_false] at ha
      rcases ha with rfl | rfl | rfl | rfl
      · intro xs n q; rw [het] at q; cases q
      · exact ntL'
      · obtain ⟨_, n0, _⟩ := z.frame.ns; exact ntN n0
      · obtain ⟨_, n0, _⟩ := xz.frame.ns; exact ntN n0
    have sl₄ : Slide [e, L', L1, L] h' h₄ := ⟨fun b o m q => F₄.stay _ _ (hideAll_get _ q m), u.trans (u₃.trans u₄)⟩
    obtain ⟨z₄, t₄⟩ := z.slide sl₄ off nt
    obtain ⟨st₄, hid₄, fr₄, oe, vs, T, oT, ts, he₄, hc₄, hx₄, hd₄, _⟩ := id F₄
    refine wpAny_handleBy_cons (codeAny_handlers_test (Name_function_global rfl rfl (loadGlobal_global (G.ng.keeps z₄.base) hmo ?_) (by decide))) (by intro q; cases q)
    refine wpAny_excMatches_sub_self (z₄.In _ _ (by rw [hG.K]; rfl)) he₄ hc₄ (by decide) (codeAny_handlers_suite_as ?_)
    refine fly_land (s := ⟨h₄, gs, dr, tk', os⟩) F₄ fun h₅ F₅ u₅ => ?_
    have sl₅ : Slide [e, L', L1, L] h' h₅ := ⟨fun b o m q => F₅.stay _ _ (hideAll_get _ q m), sl₄.up.trans u₅⟩
    obtain ⟨z₅, t₅⟩ := z.slide sl₅ off nt
    obtain ⟨xz₅, _⟩ := xz.slide sl₅ off nt
    obtain ⟨st₅, hid₅, fr₅, oe₅, vs₅, T₅, oT₅, ts₅, he₅, hc₅, hx₅, hd₅, _⟩ := id F₅
    have eL1 : e ≠ L1 := fun q => by
      obtain ⟨_, n0, _⟩ := z.frame.ns
      obtain ⟨o, _, _, ho, hd, _⟩ := n0
      rw [q, ho] at het; cases het; cases hd
    refine store_local (s := ⟨h₅, gs, dr, tk', os⟩) rfl rfl z₅ (.ref e) fun h₆ E₆ z₆ t₆ => ?_
    have he₆ : h₆.get? e = some oe₅ := E₆.keep e oe₅ eL1 σe he₅
    obtain ⟨ds, nds, hds, rds⟩ := z₆.obj dx _ hdx
    have za := attrs_get (name := "spot") rds
    rw [show ([("what", V.str msg), ("spot", V.int fs[m].spot)] : List (Str × V)).find? (fun p => p.1 == ("spot" : Str)) = some (("spot" : Str), V.int fs[m].spot) from rfl] at za
    obtain ⟨w, hw, rw'⟩ := za
    obtain ⟨m6, n6, hm6⟩ := z₆.frame.ns
    obtain ⟨u6, hu6, ru6⟩ := hm6 "fault" (.ref e) rfl
    cases ru6
    have I₆ : InstAt h₆ e oe₅ 88 (some (dictOf ds nds)) := ⟨he₆, hc₅, by unfold notCls; rw [hd₅], by rw [hx₅]; exact hds⟩
    refine wpAny_execs_cons (PySem.wpAny_Return_some (Attribute_any_ (wpAny_Name (wpAny_loadName_local (s := ⟨h₆, gs, dr, tk' + 1, os⟩) rfl rfl n6 hu6 ?_))))
    refine exc_attr (s := ⟨h₆, gs, dr, tk' + 1, os⟩) z₆.In I₆ (by rw [hG.K]; rfl) (by rw [hG.K]; rfl) (by rw [hG.K]; rfl) (findObj_own (attr := none) (by rw [hG.K]; rfl) (by rw [hG.K]; rfl) rfl (by rw [lookIn_dict]; exact hw)) rw'.handed ?_
    refine wpAny_nameGoes (s := ⟨h₆, gs, dr, tk' + 1 + 1, os⟩) rfl n6 rfl fun h₇ m7 n7 hs₇ => ?_
    obtain ⟨o6, ho6, hn6⟩ := ns_no_tuple n6
    obtain ⟨o7, ho7, _⟩ := ns_no_tuple n7
    have E₇ : ExtS L1 σ' h₆ h₇ σ' := ⟨tupK_sameBut hs₇ ho6 hn6, fun a o na _ q => (hs₇.2 a na).trans q, fun a e q => absurd e q, fun a o q => by
        by_cases na : a = L1
        · exact ⟨o7, na ▸ ho7⟩
        · exact ⟨o, (hs₇.2 a na).trans q⟩⟩
    have z₇ : S G L1 [] σ' h₇ := ⟨fun b o q => (hs₇.2 b (fun y => by rw [show b = L1 from y, hG1] at q; cases q)).trans (z₆.base b o q), fun a o q => (z₆.obj a o q).mono E₇.tup fun ob hb => (hs₇.2 a (fun y => by rw [show a = L1 from y, z₆.off] at q; cases q)).trans hb,
      z₆.new, ⟨m7, n7, fun _ _ q => by cases q⟩, z₆.off, z₆.above⟩
    have xz₇ : S G L ρ σ' h₇ := (xz₅.ofExtS E₆ hLL z₆).ofExtS E₇ hLL z₇
    have EF : ExtS L σ hp h₇ σ' := by
      refine ⟨(TupK.of_keeps kp).trans (E₂.tup.trans (t₅.trans (E₆.tup.trans E₇.tup))), fun a o na q hq => ?_, fun a q n => ?_, fun a o hq => ?_⟩
      · have h1 := kp a o hq
        have σa := E₂.offO q h1
        have nl : a ∉ [e, L', L1, L] := fun ha => by
          simp only [List.mem_cons, List.mem_nil_iff, or_false] at ha
          rcases ha with rfl | rfl | rfl | rfl
          · rw [show h₁.get? a = none from hne] at h1; cases h1
          · rw [show h₁.get? a = none from hL'] at h1; cases h1
          · rw [show hp.get? a = none from hL1] at hq; cases hq
          · exact na rfl
        have nl1 : a ≠ L1 := fun y => nl (by simp [y])
        exact E₇.keep a o nl1 σa (E₆.keep a o nl1 σa (sl₅.keep a o nl (E₂.keep a o q h1)))
      · cases y : hp.get? a with
        | none => rfl
        | some o => have := E₂.dom a q n; rw [kp a o y] at this; cases this
      · obtain ⟨o', e'⟩ := E₂.alive a o (kp a o hq)
        by_cases nl : a ∈ [e, L', L1, L]
        · simp only [List.mem_cons, List.mem_nil_iff, or_false] at nl
          rcases nl with rfl | rfl | rfl | rfl
          · have := kp a o hq; rw [show h₁.get? a = none from hne] at this; cases this
          · have := kp a o hq; rw [show h₁.get? a = none from hL'] at this; cases this
          · exact ⟨o7, ho7⟩
          · obtain ⟨_, ⟨o8, _, _, ho8, _⟩, _⟩ := xz₇.frame.ns; exact ⟨o8, ho8⟩
        · obtain ⟨o1, h1⟩ := E₆.alive a o' (sl₅.keep a o' nl e')
          exact E₇.alive a o1 h1
    exact hQ h₇ _ σ' w EF xz₇ (rw'.mono E₇.tup) le
end
end Mine
namespace Mine
section
variable {G : Amb} {A : Around} {env : Env} {L : Addr} {ρ : Loc} {σ : St} {X : Value → Shared → Prop}
theorem sv_TryOk {body orelse : List Stmt} {h₀ : ExceptHandler} {hs : List ExceptHandler} {pos : Pos} {k : AF → Loc → St → Prop}
    (h : SV G A env ρ σ (execs body env) (fun φ ρ' σ' => φ = .next ∧ SV G A env ρ' σ' (execs orelse env) k X) never) : SV G A env ρ σ (exec (.Try body (h₀ :: hs) orelse [] pos) env) k X := fun s x => by
  refine wpAny_Try_except (wpAny_mono (h s x) (fun f s' p => ?_) fun _ _ e => e.elim)
  refine p.elim fun h₁ t₁ φ ρ₁ σ₁ E₁ x₁ r q => ?_
  obtain ⟨rfl, q⟩ := q
  cases f <;> first | exact r.elim | skip
  exact wpAny_mono (q _ x₁) (fun _ _ q => PostS.trans E₁ q) fun _ _ e => e
theorem c_refused_ok (hG : IsG G) {n : Nat} (R : Room A (n + 5)) {told : Addr} {es : Ens} {fs : List Fd} {k : V → St → Prop} (H : Ents σ told es) (HS : HasL σ told "own_fields" (fs.map Fd.V)) (W : WF es) (ok : OKF es fs) (hsz : fs.length ≤ 10000)
    (h : ∀ σ', Le σ σ' → k .none σ') : OpC G A L ρ σ (.ref 285) [.ref told] k X := by
  refine opc_fn0 (f := 285) ["told"] (by rw [hG.K]; rfl) (by rw [hG.K]; rfl) R fun L' A' env he R' => ?_
  subst he
  obtain ⟨ps, l, s, hg, hl⟩ := id HS
  refine sv_cons (sv_TryOk (sv_cons (sv_Expr (ev_m0 (M_look_fields hG) (ev_local (x := "told") ⟨told, ps, rfl, s, c_look_fields hG R' H HS W ok hsz fun σ' le => ⟨rfl, sv_nil ⟨rfl, sv_nil ?_⟩⟩⟩)))))
  exact sv_cons (sv_Return (ev_none (h σ' le)))
end
end Mine
namespace Mine
def Deck (σ : St) (hd C : Addr) (cells : List Int) (B : Nat) : Prop :=
  ∃ pos : Nat, pos ≤ B ∧ cells.length ≤ 50 ∧ σ hd = some (.list [.int pos, .ref C]) ∧ σ C = some (.list (cells.map .int)) ∧ hd ≠ C
theorem Deck.le {σ σ' : St} {hd C cells B} (x : Deck σ hd C cells B) (l : Le σ σ') : Deck σ' hd C cells B := let ⟨a, h1, h2, h3, h4, h5⟩ := x; ⟨a, h1, h2, l _ _ h3, l _ _ h4, h5⟩
theorem Deck.up {σ : St} {hd C cells B B'} (x : Deck σ hd C cells B) (l : B ≤ B') : Deck σ hd C cells B' := let ⟨a, h1, h⟩ := x; ⟨a, Nat.le_trans h1 l, h⟩
section
variable {G : Amb} {A : Around} {env : Env} {L : Addr} {ρ : Loc} {σ : St} {X : Value → Shared → Prop} {k : V → St → Prop}
theorem c_dealt (hG : IsG G) {n : Nat} (R : Room A (n + 1)) {hd C : Addr} {cells : List Int} {B : Nat} (H : Deck σ hd C cells B) (hB : B ≤ 1000000) {many : Int} (hm : 0 < many)
    (h : ∀ r : Nat, (r : Int) < many → ∀ σ', Mod [hd] σ σ' → Deck σ' hd C cells (B + 1) → k (.int r) σ') : OpC G A L ρ σ (.ref 268) [.ref hd, .int many] k X := by
  refine opc_fn0 (f := 268) ["deck", "many"] (by rw [hG.K]; rfl) (by rw [hG.K]; rfl) R fun L' A' env he R' => ?_
  obtain ⟨pos, hpos, hcl, hH, hC, hne⟩ := H
  obtain ⟨bn1, bn2⟩ := B_len hG
  subst he
  refine sv_cons (sv_AssignSub (ev_BinOp (ev_Subscript (ev_local (x := "deck") (ev_int (op_item_list (i := 0) (d := .int pos) hH (by decide) (by decide) rfl (ev_int (op_add_int ?_))))))))
  refine ev_local (x := "deck") (ev_int (set_list (i := 0) hH (by decide) (by simp) (by decide) ?_))
  have hv : ([V.int pos, V.ref C].set (0 : Int).toNat (V.int ((pos : Int) + 1))) = [V.int ((pos + 1 : Nat) : Int), V.ref C] := rfl
  rw [hv]
  have hH' : (σ.set hd (.list [V.int ((pos + 1 : Nat) : Int), V.ref C])) hd = some (.list [V.int ((pos + 1 : Nat) : Int), V.ref C]) := St.set_same ..
  have hC' : (σ.set hd (.list [V.int ((pos + 1 : Nat) : Int), V.ref C])) C = some (.list (cells.map .int)) := St.keep hne.symm hC
  have hm' : Mod [hd] σ (σ.set hd (.list [V.int ((pos + 1 : Nat) : Int), V.ref C])) := (Mod.refl _ _).set (by simp)
  generalize σ.set hd (.list [V.int ((pos + 1 : Nat) : Int), V.ref C]) = σ₁ at *
  have fin : ∀ i : Int, k (V.int (i % many)) σ₁ := fun i => by
    have h0 := Int.emod_nonneg i (Int.ne_of_gt hm)
    have h1 := Int.emod_lt_of_pos i hm
    obtain ⟨r, hr⟩ := Int.eq_ofNat_of_zero_le h0
    rw [hr]
    exact h r (by omega) σ₁ hm' ⟨pos + 1, by omega, hcl, hH', hC', hne⟩
  have it0 : ∀ {e₁ e₂ : Expr} {k : V → St → Prop} {X : Value → Shared → Prop} {L ρ}, k (.int ((pos + 1 : Nat) : Int)) σ₁ → (∀ t, subscripted e₂ false (.ref hd) (.int 0 t) = operate [.ref hd, .int 0 t] (getItem (.ref hd) (.int 0 t))) → Op2 G A' L ρ σ₁ (subscriptTail e₁ e₂) (.ref hd) (.int 0) k X := fun hk hs => op_item_list (i := 0) hH' (by decide) (by decide) rfl hk hs
  refine sv_cons (sv_If (bv_Compare (ev_Subscript (ev_local (x := "deck") (ev_int (it0 ?_ (by intro _; with_unfolding_all rfl)))))))
  refine ev_Call (ev_builtin bn1 bn2 rfl ⟨_, rfl, .builtin _, ?_⟩)
  refine lv_cons (ev_Subscript (ev_local (x := "deck") (ev_int (op_item_list (i := 1) (d := .ref C) hH' (by decide) (by decide) rfl ?_))))
  refine lv_nil (opc_len_list hC' (by rw [List.length_map, sizeLine_eq]; omega) (op_le_int ⟨_, rfl, ?_⟩))
  rw [List.length_map]
  by_cases q : ((pos + 1 : Nat) : Int) ≤ (cells.length : Nat)
  · rw [decide_eq_true q, if_pos rfl]
    have hlt : pos < cells.length := by omega
    refine sv_cons (sv_Return (ev_BinOp (ev_Subscript (ev_Subscript (ev_local (x := "deck") (ev_int (op_item_list (i := 1) (d := .ref C) hH' (by decide) (by decide) rfl ?_)))))))
    refine ev_BinOp (ev_Subscript (ev_local (x := "deck") (ev_int (it0 (ev_int (op_sub_int ?_)) (by intro _; with_unfolding_all rfl)))))
    rw [show ((pos + 1 : Nat) : Int) - 1 = (pos : Int) by omega]
    refine op_item_list (i := (pos : Int)) (d := .int cells[pos]) hC' (by omega) (by omega) ?_ (ev_local (x := "many") (op_mod_int hm (fin _)))
    show (cells.map V.int)[pos]? = _
    rw [List.getElem?_map, List.getElem?_eq_getElem hlt]; rfl
  · rw [decide_eq_false q, if_neg (by decide)]
    have ib : ∀ i : Int, -(2 ^ 64) < i → i < 2 ^ 64 → ∀ j, IntMulOk i j := fun i a b j => .of_left (intBits_le_64 a b)
    refine sv_nil (sv_cons (sv_Return ?_))
    refine ev_BinOp (ev_BinOp (ev_BinOp (ev_BinOp (ev_BinOp ?_))))
    refine ev_int (ev_Subscript (ev_local (x := "deck") (ev_int (it0 (op_mul_int (ib _ (by decide) (by decide) _) ?_) (by intro _; with_unfolding_all rfl)))))
    refine ev_BinOp (ev_BinOp (ev_Subscript (ev_local (x := "deck") (ev_int (it0 ?_ (by intro _; with_unfolding_all rfl))))))
    refine ev_Subscript (ev_local (x := "deck") (ev_int (it0 (op_mul_int (ib _ (by omega) (by omega) _) ?_) (by intro _; with_unfolding_all rfl))))
    refine ev_int (op_floordiv_int (by decide) (by decide) rfl (op_add_int (ev_int (op_add_int (ev_int (op_mod_int (by decide) ?_))))))
    exact ev_local (x := "many") (op_mod_int hm (fin _))
end
end Mine
namespace Mine
theorem Mod.at1 {hd : Addr} {σ σ' : St} (x : Mod [hd] σ σ') {a : Addr} {o : AObj} (e : σ a = some o) (ne : a ≠ hd) : σ' a = some o := x a o (by simp; exact ne) e
theorem Deck.ne {σ : St} {hd C cells B a} (x : Deck σ hd C cells B) (h : ∀ i c, σ a ≠ some (.list [.int i, .ref c])) : a ≠ hd := fun q => by
  obtain ⟨pos, _, _, h3, _⟩ := x
  subst q; exact h _ _ h3
def lett (j : Nat) : Str := ⟨#[(("ABCDEF" : Str).cps[j]?).getD 0]⟩
theorem lett_at (j : Nat) (h : j < 6) : ("ABCDEF" : Str).cps[j]? = some ((("ABCDEF" : Str).cps[j]?).getD 0) := by
  have : j = 0 ∨ j = 1 ∨ j = 2 ∨ j = 3 ∨ j = 4 ∨ j = 5 := by omega
  rcases this with rfl | rfl | rfl | rfl | rfl | rfl <;> decide
theorem lett_inj {i j : Nat} (hi : i < 6) (hj : j < 6) (h : lett i = lett j) : i = j := by
  have hi' : i = 0 ∨ i = 1 ∨ i = 2 ∨ i = 3 ∨ i = 4 ∨ i = 5 := by omega
  have hj' : j = 0 ∨ j = 1 ∨ j = 2 ∨ j = 3 ∨ j = 4 ∨ j = 5 := by omega
  rcases hi' with rfl | rfl | rfl | rfl | rfl | rfl <;> rcases hj' with rfl | rfl | rfl | rfl | rfl | rfl <;> first | rfl | (exact absurd h (by decide))
theorem lett_ok (j : Nat) (h : j < 6) : PyData.strOk (lett j) = true := by
  have : j = 0 ∨ j = 1 ∨ j = 2 ∨ j = 3 ∨ j = 4 ∨ j = 5 := by omega
  rcases this with rfl | rfl | rfl | rfl | rfl | rfl <;> decide +kernel
def cutL (kk : Nat) : Str := ⟨(("ABCDEF" : Str).cps.toList.take kk).toArray⟩
theorem cutL_all (kk : Nat) (h : kk < 6) : (cutL kk).cps.all (· < 128) = true ∧ (cutL kk).cps.size = kk ∧ (∀ i, i < kk → (⟨#[((cutL kk).cps[i]?).getD 0]⟩ : Str) = lett i) ∧ ∀ tm, slicePicked "ABCDEF" none (some ((kk : Int), tm)) none = List.range kk := by
  have : kk = 0 ∨ kk = 1 ∨ kk = 2 ∨ kk = 3 ∨ kk = 4 ∨ kk = 5 := by omega
  rcases this with rfl | rfl | rfl | rfl | rfl | rfl <;> exact ⟨by decide +kernel, by decide +kernel, by decide +kernel, fun _ => by rfl⟩
inductive DirOk (kk : Nat) (ps : List Str) : Str → List Str → List Str → Prop
  | ext {j} : j < kk → lett j ∉ ps → DirOk kk ps (lett j) [] ps
  | top : DirOk kk ps "" [] ps
  | one {i} : i < kk → DirOk kk ps "" [lett i] (ps ++ [lett kk])
  | two {i j} : i < kk → j < kk → i ≠ j → DirOk kk ps "" [lett i, lett j] (ps ++ [lett kk])
section
variable {G : Amb} {A : Around} {env : Env} {L : Addr} {ρ : Loc} {σ : St} {X : Value → Shared → Prop} {k : V → St → Prop}
theorem G_dealt (hG : IsG G) : G.mg "_law_dealt" = some (.ref 268) ∧ CK G (.ref 268) := ⟨hG.glob _ _ (by rw [hG.K]; rfl), .inr (by rw [hG.K]; rfl)⟩
theorem G_letters (hG : IsG G) : G.mg "_law_letters" = some (.str "ABCDEF" 516) := hG.glob _ _ (by rw [hG.K]; rfl)
theorem ev_dealt (hG : IsG G) {n : Nat} (R : Room A (n + 1)) {e₁ e₂ : Expr} {p pos : Pos} {hd C : Addr} {cells : List Int} {B : Nat} (H : Deck σ hd C cells B) (hB : B ≤ 1000000) {many : Int} (hm : 0 < many)
    (h₁ : ∀ (k : V → St → Prop), k (.ref hd) σ → EV G A env ρ σ e₁ k X) (h₂ : ∀ (k : V → St → Prop), k (.int many) σ → EV G A env ρ σ e₂ k X)
    (h : ∀ r : Nat, (r : Int) < many → ∀ σ', Mod [hd] σ σ' → Deck σ' hd C cells (B + 1) → k (.int r) σ')
    (hk : env.scope.kind = .function := by rfl) (hl : env.kindOf "_law_dealt" = some .globalImplicit := by rfl) (hg : env.globals = mainGlobals := by rfl)
    (he : eval (.Call (.Name "_law_dealt" p) [e₁, e₂] [] pos) env = (do callWith pos (← eval (.Name "_law_dealt" p) env) [] (backTo pos (starEach [e₁, e₂] env)) (backToKw pos (keywordEach [] env))) := by rfl)
    (hs : starEach [e₁, e₂] env = (false, eval e₁ env) :: starEach [e₂] env := by rfl) (hs₂ : starEach [e₂] env = (false, eval e₂ env) :: starEach [] env := by rfl) (hplain : (backTo pos (starEach [e₂] env)).any (·.1) = false := by rfl) :
    EV G A env ρ σ (.Call (.Name "_law_dealt" p) [e₁, e₂] [] pos) k X := by
  obtain ⟨g1, g2⟩ := G_dealt hG
  refine ev_Call (ev_global g1 (fun _ => .glob _ rfl) ⟨_, rfl, g2, lv_cons (h₁ _ (lv_cons (h₂ _ (lv_nil (c_dealt hG R H hB hm h))) hs₂)) hs⟩ hg hk hl) he hs hplain
theorem sv_IfEsc {test : Expr} {body orelse : List Stmt} {pos : Pos} {k : AF → Loc → St → Prop} (Q : Loc → St → Prop)
    (h : BV G A env ρ σ (isTrue test env (eval test env)) (fun b σ' => if b = true then SV G A env ρ σ' (execs body env) (fun φ ρ' σ' => (φ = .next ∧ Q ρ' σ') ∨ ∃ d, φ = .ret d ∧ k (.ret d) ρ' σ') X else SV G A env ρ σ' (execs orelse env) (fun φ ρ' σ' => (φ = .next ∧ Q ρ' σ') ∨ ∃ d, φ = .ret d ∧ k (.ret d) ρ' σ') X) X)
    (hQ : ∀ ρ' σ', Q ρ' σ' → k .next ρ' σ') : SV G A env ρ σ (exec (.If test body orelse pos) env) k X :=
  (sv_If (k := fun φ ρ' σ' => (φ = .next ∧ Q ρ' σ') ∨ ∃ d, φ = .ret d ∧ k (.ret d) ρ' σ') h).mono fun φ ρ' σ' q => by
    rcases q with ⟨rfl, q⟩ | ⟨d, rfl, q⟩
    · exact hQ _ _ q
    · exact q
theorem c_ldirect (hG : IsG G) {n : Nat} (R : Room A (n + 3)) {hd C P : Addr} {cells : List Int} {B kk : Nat} {ps : List Str} (H : Deck σ hd C cells B) (hB : B ≤ 900000) (hkk : kk < 6) (hP : σ P = some (.list (ps.map .str))) (hps : ps.length ≤ 10)
    (hPd : P ≠ hd) (hPC : P ≠ C)
    (h : ∀ parent supers ps' σ', DirOk kk ps parent supers ps' → Mod [hd, P] σ σ' → Deck σ' hd C cells (B + 3) → σ' P = some (.list (ps'.map .str)) → k (.tup [.str parent, .tup (supers.map .str)]) σ') :
    OpC G A L ρ σ (.ref 273) [.ref hd, .ref P, .int kk] k X := by
  refine opc_fnC (f := 273) ["deck", "parts", "k"] (ρ₀ := [("deck", .ref hd), ("k", .int kk)]) (by rw [hG.K]; rfl) (by rw [hG.K]; rfl) R fun L' A' env σC he R' le hc => ?_
  obtain ⟨bn1, bn2⟩ := B_len hG
  subst he
  have hlet := G_letters hG
  have c1 : σC (L' + 1) = some (.cell (some (.ref P))) := (hc "parts" (L' + 1) (.head _)).1
  have HC := H.le le
  have PC := le _ _ hP
  have ne1 : L' + 1 ≠ hd := HC.ne fun i c q => by rw [c1] at q; cases q
  have R1 : Room A' (n + 1) := R'.le (by omega)
  obtain ⟨ca, cs, ci, cp⟩ := cutL_all kk hkk
  refine sv_cons (sv_AssignSwap (names := ["way", "free"]) R'.handled (ev_Tuple (lv_cons ?_)))
  refine ev_dealt hG R1 HC (by omega) (many := 4) (by decide) (fun k h => ev_local (x := "deck") h) (fun k h => ev_int h) fun way hway σ₁ m₁ H₁ => ?_
  have d1 := m₁.at1 c1 ne1
  have P1 := m₁.at1 PC hPd
  refine lv_cons (ev_Over 0 (ie_str R'.handled (ev_uptoS (ev_global hlet (fun _ => .str _ _) (ev_local (x := "k") ⟨"ABCDEF", kk, rfl, rfl, by decide, cp, ?_⟩)))))
  refine ⟨cutL kk, rfl, ca, List.range kk, (fun i => .str (lett i)), (fun i => !decide (lett i ∈ ps)), (fun i => .str (lett i)),
    ⟨by simp [cs], fun i d hi => ?_, fun _ _ => trivial, by rw [List.length_range, sizeLine_eq]; omega, fun C₂ i σ₂ hi l₂ => ?_⟩, fun F σ₂ l₂ hF hF' => ?_⟩
  · rw [cs] at hi
    rw [List.getD_eq_getElem?_getD, List.getElem?_range hi]
    show V.str _ = V.str (lett i)
    rw [ci i hi]
  · refine ts_Name (ts_local (qv_one (bv_Compare (ev_local (x := "late") (ev_cell (x := "parts") (c := L' + 1) (l₂ _ _ d1) (op_notIn_strs (l₂ _ _ P1) ⟨_, rfl, rfl, ?_⟩))))))
    by_cases q : lett i ∈ ps
    · simp only [q, decide_true, Bool.not_true, Bool.false_eq_true, if_false]; exact Le.refl _
    · simp only [q, decide_false, Bool.not_false, if_true]; exact ev_local (x := "late") ⟨rfl, Le.refl _⟩
  refine lv_nil ⟨len_ok rfl, _, rfl, rfl, tl_cons (ts_bind (ts_local (tl_cons (ts_bind (ts_local (tl_nil ?_))))))⟩
  generalize hfr : (List.range kk).filter (fun i => !decide (lett i ∈ ps)) = fr at *
  have frm : ∀ i ∈ fr, i < kk ∧ lett i ∉ ps := fun i hi => by
    rw [← hfr, List.mem_filter, List.mem_range] at hi
    exact ⟨hi.1, by simpa using hi.2⟩
  have frl : fr.length ≤ 6 := by
    rw [← hfr]; have := List.length_filter_le (fun i => !decide (lett i ∈ ps)) (List.range kk); rw [List.length_range] at this; omega
  have hFP : F ≠ P := fun q => by rw [q, P1] at hF; cases hF
  have hFd : F ≠ hd := fun q => by rw [q] at hF; obtain ⟨_, _, _, h3, _⟩ := H₁; rw [h3] at hF; cases hF
  have m₂ : Mod [hd] σC σ₂ := m₁.trans l₂.mod
  have fin : ∀ {parent supers ps' σ'}, DirOk kk ps parent supers ps' → Mod [hd, P] σ₂ σ' → Deck σ' hd C cells (B + 3) → σ' P = some (.list (ps'.map .str)) → k (.tup [.str parent, .tup (supers.map .str)]) σ' := fun d m e f =>
    h _ _ _ _ d (((le.mod).trans (m₂.sub (by simp))).trans m) e f
  refine sv_cons (sv_IfEsc (fun ρ' σ' => Sub [("deck", .ref hd), ("k", .int kk), ("way", .int way)] ρ' ∧ Le σ₂ σ') ?_ ?_)
  · refine bv_And (bv_Compare (ev_local (x := "way") (ev_Tuple (lv_cons (ev_int (lv_cons (ev_int (lv_nil ⟨len_ok rfl, op_in_ints (xs := [1, 2]) ⟨_, rfl, ?_⟩⟩))))))))
    by_cases q : (way : Int) ∈ ([1, 2] : List Int)
    · rw [decide_eq_true q, if_pos rfl]
      refine bv_And (bv_Compare (ev_local (x := "free") (ev_List (lv_nil ⟨len_ok rfl, fun N hN => ?_⟩))))
      have lN : Le σ₂ (σ₂.set N (.list [])) := Le.set hN
      refine op_ne_nil R1 (lN _ _ hF') (St.set_same ..) (fun d hd => ?_) ⟨_, rfl, ?_⟩
      · obtain ⟨i, hi, rfl⟩ := List.mem_map.mp hd
        exact Fit.str (lett_ok i (by have := (frm i hi).1; omega))
      · by_cases qe : fr = []
        · rw [qe]
          exact sv_nil (.inl ⟨rfl, ⟨rfl, rfl, rfl, trivial⟩, lN⟩)
        · have hne : (fr.map fun i => V.str (lett i)).isEmpty = false := by cases fr with | nil => exact absurd rfl qe | cons _ _ => rfl
          have hpos : 0 < fr.length := List.length_pos_iff.mpr qe
          rw [hne]
          refine bv_And_nil (sv_cons (sv_Return (ev_Tuple (lv_cons (ev_Subscript (ev_local (x := "free") ?_))))))
          refine ev_dealt hG R1 ((H₁.le l₂).le lN) (by omega) (many := (fr.length : Int)) (by omega) (fun k h => ev_local (x := "deck") h) (fun k h => ?_) fun r hr σ₄ m₄ H₄ => ?_
          · refine ev_Call (ev_builtin bn1 bn2 rfl ⟨_, rfl, .builtin _, lv_cons (ev_local (x := "free") (lv_nil (opc_len_list (lN _ _ hF') (by rw [List.length_map, sizeLine_eq]; omega) ?_)))⟩)
            rw [List.length_map]; exact h
          · have hr' : r < fr.length := by omega
            refine op_item_list (i := (r : Int)) (d := .str (lett fr[r])) (m₄.at1 (lN _ _ hF') hFd) (by omega) (by omega) ?_ (lv_cons (ev_Tuple (lv_nil ⟨len_ok rfl, lv_nil ⟨len_ok rfl, .inr ⟨_, rfl, ?_⟩⟩⟩)))
            · show (fr.map fun i => V.str (lett i))[r]? = _
              rw [List.getElem?_map, List.getElem?_eq_getElem hr']; rfl
            · obtain ⟨f1, f2⟩ := frm _ (List.getElem_mem hr')
              exact fin (.ext f1 f2) (lN.mod.trans (m₄.sub (by simp))) (H₄.up (by omega)) (m₄.at1 (lN _ _ (l₂ _ _ P1)) hPd)
    · rw [decide_eq_false q, if_neg (by decide)]
      exact sv_nil (.inl ⟨rfl, ⟨rfl, rfl, rfl, trivial⟩, Le.refl _⟩)
  · rintro ρ' σ₃ ⟨hs, l₃⟩
    refine SV.sub ?_ hs
    have d3 := l₃ _ _ (l₂ _ _ d1)
    have P3 := l₃ _ _ (l₂ _ _ P1)
    have H₃ := (H₁.le l₂).le l₃
    have m₃ : Mod [hd] σ₂ σ₃ := l₃.mod
    refine sv_cons (sv_IfEsc (fun ρ' σ' => Sub [("deck", .ref hd), ("k", .int kk)] ρ' ∧ σ' = σ₃ ∧ 0 < kk) ?_ ?_)
    · refine bv_Or (bv_Compare (ev_local (x := "way") (ev_int (op_lt_int ⟨_, rfl, ?_⟩))))
      by_cases q : (way : Int) < 3
      · rw [decide_eq_true q, if_pos rfl]
        exact sv_cons (sv_Return (ev_Tuple (lv_cons (ev_str (lv_cons (ev_Tuple (lv_nil ⟨len_ok rfl, lv_nil ⟨len_ok rfl, .inr ⟨_, rfl, fin .top (l₃.mod) (H₃.up (by omega)) P3⟩⟩⟩)))))))
      · rw [decide_eq_false q, if_neg (by decide)]
        refine bv_Or (bv_Compare (ev_local (x := "k") (ev_int (op_eq_int ⟨_, rfl, ?_⟩))))
        by_cases q2 : (kk : Int) = 0
        · rw [decide_eq_true q2, if_pos rfl]
          exact sv_cons (sv_Return (ev_Tuple (lv_cons (ev_str (lv_cons (ev_Tuple (lv_nil ⟨len_ok rfl, lv_nil ⟨len_ok rfl, .inr ⟨_, rfl, fin .top (l₃.mod) (H₃.up (by omega)) P3⟩⟩⟩)))))))
        · rw [decide_eq_false q2, if_neg (by decide)]
          exact bv_Or_nil (sv_nil (.inl ⟨rfl, ⟨rfl, rfl, trivial⟩, rfl, by omega⟩))
    · rintro ρ' σ₄ ⟨hs, rfl, hpos⟩
      refine SV.sub ?_ hs
      have hm : (0 : Int) < (kk : Int) := by omega
      refine sv_cons (sv_AssignSwap (names := ["one", "other"]) R'.handled (ev_Tuple (lv_cons (ev_Subscript (ev_global hlet (fun _ => .str _ _) ?_)))))
      refine ev_dealt hG R1 H₃ (by omega) hm (fun k h => ev_local (x := "deck") h) (fun k h => ev_local (x := "k") h) fun a ha σ₅ m₅ H₅ => ?_
      have ha' : a < kk := by omega
      refine op_item_str (i := (a : Int)) (by omega) (by omega) (lett_at a (by omega)) ?_
      refine lv_cons (ev_Subscript (ev_global hlet (fun _ => .str _ _) ?_))
      refine ev_dealt hG R1 H₅ (by omega) hm (fun k h => ev_local (x := "deck") h) (fun k h => ev_local (x := "k") h) fun b hb σ₆ m₆ H₆ => ?_
      have hb' : b < kk := by omega
      refine op_item_str (i := (b : Int)) (by omega) (by omega) (lett_at b (by omega)) ?_
      refine lv_nil ⟨len_ok rfl, _, rfl, rfl, tl_cons (ts_bind (ts_local (tl_cons (ts_bind (ts_local (tl_nil ?_))))))⟩
      have m46 : Mod [hd] σ₄ σ₆ := m₅.trans m₆
      have P6 := m46.at1 P3 hPd
      have d6 := m46.at1 d3 ne1
      refine sv_cons (sv_Expr (ev_MCall (ev_cell (x := "parts") (c := L' + 1) d6 (gm_list PySem.F.slot_list_append PySem.F.type_list_append P6 ⟨.builtin _, lv_cons (ev_Subscript (ev_global hlet (fun _ => .str _ _) (ev_local (x := "k") (op_item_str (i := (kk : Int)) (by omega) (by omega) (lett_at kk hkk) ?_))))⟩))))
      refine lv_nil (opc_append P6 (by rw [List.length_map, sizeLine_eq]; omega) ⟨rfl, ?_⟩)
      have e7 : (ps.map V.str ++ [V.str (lett kk)]) = (ps ++ [lett kk]).map V.str := by simp
      have H₇ : Deck (σ₆.set P (.list (ps.map V.str ++ [V.str (lett kk)]))) hd C cells (B + 3) := by
        obtain ⟨pos, q1, q2, q3, q4, q5⟩ := H₆
        exact ⟨pos, by omega, q2, St.keep hPd.symm q3, St.keep hPC.symm q4, q5⟩
      have m₇ : Mod [hd, P] σ₂ (σ₆.set P (.list (ps.map V.str ++ [V.str (lett kk)]))) := ((m₃.trans m46).sub (by simp)).set (by simp)
      have P7 : (σ₆.set P (.list (ps.map V.str ++ [V.str (lett kk)]))) P = some (.list ((ps ++ [lett kk]).map .str)) := by rw [St.set_same, e7]
      have fin2 : ∀ {supers}, DirOk kk ps "" supers (ps ++ [lett kk]) → k (.tup [.str "", .tup (supers.map .str)]) (σ₆.set P (.list (ps.map V.str ++ [V.str (lett kk)]))) := fun d => h _ _ _ _ d (((le.mod).trans (m₂.sub (by simp))).trans m₇) H₇ P7
      refine sv_cons (sv_Return (ev_Tuple (lv_cons (ev_str (lv_cons (ev_IfExp (bv_Compare (ev_local (x := "one") (ev_local (x := "other") (op_eq_str ⟨_, rfl, ?_⟩))))))))))
      by_cases q : lett a = lett b
      · rw [show (⟨#[(("ABCDEF" : Str).cps[a]?).getD 0]⟩ : Str) = lett a from rfl, show (⟨#[(("ABCDEF" : Str).cps[b]?).getD 0]⟩ : Str) = lett b from rfl, decide_eq_true q, if_pos rfl]
        exact ev_Tuple (lv_cons (ev_local (x := "one") (lv_nil ⟨len_ok rfl, lv_nil ⟨len_ok rfl, fin2 (.one ha')⟩⟩)))
      · rw [show (⟨#[(("ABCDEF" : Str).cps[a]?).getD 0]⟩ : Str) = lett a from rfl, show (⟨#[(("ABCDEF" : Str).cps[b]?).getD 0]⟩ : Str) = lett b from rfl, decide_eq_false q, if_neg (by decide)]
        exact ev_Tuple (lv_cons (ev_local (x := "one") (lv_cons (ev_local (x := "other") (lv_nil ⟨len_ok rfl, lv_nil ⟨len_ok rfl, fin2 (.two ha' hb' fun z => q (by rw [z]))⟩⟩)))))
end
end Mine
namespace Mine
def Lin (σ : St) (Ld : Addr) (dom : Str → Prop) (rel : Str → Str → Prop) : Prop :=
  ∃ ep ls, σ Ld = some (.sdict ep ls) ∧ (∀ x, dom x ↔ (Loc.get ls x).isSome = true) ∧ ∀ x, dom x → ∃ a ep' m, Loc.get ls x = some (.ref a) ∧ σ a = some (.sdict ep' m) ∧ ∀ y, (Loc.get m y).isSome = true ↔ rel x y
theorem Lin.le {σ σ' : St} {Ld dom rel} (x : Lin σ Ld dom rel) (l : Le σ σ') : Lin σ' Ld dom rel := by
  obtain ⟨ep, ls, h1, h2, h3⟩ := x
  exact ⟨ep, ls, l _ _ h1, h2, fun x hx => let ⟨a, ep', m, a1, a2, a3⟩ := h3 x hx; ⟨a, ep', m, a1, l _ _ a2, a3⟩⟩
def FBad (dom : Str → Prop) (rel : Str → Str → Prop) (fs : List Fd) (i : Nat) (f : Fd) : Prop := dom f.field ∨ ∃ a ∈ fs.take i, a.field = f.field ∧ rel f.name a.name
section
variable {G : Amb} {A : Around} {env : Env} {L : Addr} {ρ : Loc} {σ : St} {X : Value → Shared → Prop} {k : V → St → Prop}
theorem B_enum (hG : IsG G) : G.mg "enumerate" = none ∧ G.mb "enumerate" = some (.type "enumerate") := B_name hG rfl rfl (by decide)
theorem c_first (hG : IsG G) {n : Nat} (R : Room A (n + 2)) {Rw Ld : Addr} {fs : List Fd} {dom : Str → Prop} {rel : Str → Str → Prop} (hR : σ Rw = some (.list (fs.map Fd.V))) (hsz : fs.length ≤ 1000) (HL : Lin σ Ld dom rel) (hfit : ∀ f ∈ fs, Fit f.V 60) (hdom : ∀ f ∈ fs, dom f.name)
    (h1 : ∀ σ', Le σ σ' → ∀ m (hm : m < fs.length), (∀ i (hi : i < fs.length), i < m → ¬ FBad dom rel fs i fs[i]) → FBad dom rel fs m fs[m] → k (.int fs[m].spot) σ')
    (h2 : ∀ σ', Le σ σ' → (∀ i (hi : i < fs.length), ¬ FBad dom rel fs i fs[i]) → k .none σ') : OpC G A L ρ σ (.ref 278) [.ref Rw, .ref Ld] k X := by
  refine opc_fnC (f := 278) ["rows", "lines"] (ρ₀ := [("rows", .ref Rw)]) (by rw [hG.K]; rfl) (by rw [hG.K]; rfl) R fun L' A' env σC he R' le hc => ?_
  obtain ⟨be1, be2⟩ := B_enum hG
  subst he
  have c1 : σC (L' + 1) = some (.cell (some (.ref Ld))) := (hc "lines" (L' + 1) (.tail _ (.head _))).1
  have c2 : σC (L' + 2) = some (.cell none) := (hc "row" (L' + 2) (.head _)).1
  have n2 : σ (L' + 2) = none := (hc "row" (L' + 2) (.head _)).2
  refine sv_cons (sv_For PassesOwn.never (ie_enum R'.handled be1 be2 (ev_local (x := "rows") ⟨Rw, _, rfl, le _ _ hR, ?_⟩)))
  refine ⟨fun i ρ' σ' => Sub [("rows", .ref Rw)] ρ' ∧ Le σ σ' ∧ σ' (L' + 1) = some (.cell (some (.ref Ld))) ∧ (∃ d, σ' (L' + 2) = some (.cell d)) ∧ ∀ j (hj : j < fs.length), j < i → ¬ FBad dom rel fs j fs[j],
    ⟨⟨rfl, trivial⟩, le, c1, ⟨_, c2⟩, fun j _ h => absurd h (Nat.not_lt_zero j)⟩, fun i ρ σ' h => h.2.1 _ _ hR, ?_, ?_⟩
  · rintro i ρ₁ σ₁ hi ⟨hs, l₁, d1, ⟨d, d2⟩, hno⟩
    rw [List.length_map] at hi
    refine TS.sub ?_ hs
    dsimp only
    rw [getD_mapE _ _ _ hi]
    have hmem := List.getElem_mem hi
    have hd := hdom _ hmem
    refine ts_Tuple R'.handled (ds := [.int i, (fs[i]).V]) (tl_cons (ts_Name (ts_local (tl_cons (ts_Name (ts_cell (c := L' + 2) d2 (tl_nil (gen_k fun kk hkk => ?_))))))))
    have l₂ : Le σ (σ₁.set (L' + 2) (.cell (some (fs[i]).V))) := l₁.setL n2
    have e1 : (σ₁.set (L' + 2) (.cell (some (fs[i]).V))) (L' + 1) = some (.cell (some (.ref Ld))) := St.keep (Nat.ne_of_lt (Nat.lt_succ_self _)) d1
    have e2 : (σ₁.set (L' + 2) (.cell (some (fs[i]).V))) (L' + 2) = some (.cell (some (fs[i]).V)) := St.set_same ..
    generalize σ₁.set (L' + 2) (.cell (some (fs[i]).V)) = σ₂ at l₂ e1 e2 ⊢
    obtain ⟨ep, ls, g1, g2, g3⟩ := HL.le l₂
    obtain ⟨la, lep, lm, i1, i2, i3⟩ := g3 _ hd
    have hR₂ := l₂ _ _ hR
    have ret : ∀ {σ'}, Le σ₂ σ' → FBad dom rel fs i fs[i] → k (.int (fs[i]).spot) σ' := fun l b => h1 _ (l₂.trans l) i hi (fun j hj hji => hno j hj hji) b
    have next : ∀ {σ'}, Le σ₂ σ' → ¬ FBad dom rel fs i fs[i] → ∀ j (hj : j < fs.length), j < i + 1 → ¬ FBad dom rel fs j fs[j] := fun _ nb j hj hji => by
      by_cases q : j = i
      · subst q; exact nb
      · exact hno j hj (by omega)
    have tk : ∀ a, a ∈ fs.take i → a ∈ fs := fun a h => List.mem_of_mem_take h
    have hi4 : ((fs[i]).V) = .tup [.str (fs[i]).field, .str (fs[i]).name, .str (fs[i]).mult, (fs[i]).node, .int (fs[i]).spot, .int (fs[i]).grp] := rfl
    rw [hi4] at e2
    refine sv_cons (sv_If (bv_Or (bv_Compare (ev_Subscript (ev_cell (x := "row") (c := L' + 2) e2 (ev_int (op_item_tup (d := .str (fs[i]).field) (by decide) (by decide) rfl ?_)))))))
    refine ev_cell (x := "lines") (c := L' + 1) e1 (op_in_sdict g1 ⟨_, rfl, ?_⟩)
    by_cases q : dom (fs[i]).field
    · rw [(g2 _).mp q, if_pos rfl]
      refine sv_cons (sv_Return (ev_Subscript (ev_cell (x := "row") (c := L' + 2) e2 (ev_int (op_item_tup (d := .int (fs[i]).spot) (by decide) (by decide) rfl ?_)))))
      exact hkk _ _ _ (ret (Le.refl _) (.inl q))
    · have q' : (Loc.get ls (fs[i]).field).isSome = false := by
        cases z : (Loc.get ls (fs[i]).field).isSome with
        | false => rfl
        | true => exact absurd ((g2 _).mpr z) q
      rw [q', if_neg (by decide)]
      have hlen : ((fs.map Fd.V).take i).length = (fs.take i).length := by simp
      refine bv_Or (bv_Compare (ev_Over (⟨"", "", "", .none, 0, 0⟩ : Fd) (ie_list R'.handled (ev_upto (ev_local (x := "rows") (ev_local (x := "k") ⟨Rw, fs.map Fd.V, i, rfl, rfl, hR₂, by rw [List.length_map, sizeLine_eq]; omega, fun B hB => ?_⟩))))))
      have lB : Le σ₂ (σ₂.set B (.list ((fs.map Fd.V).take i))) := Le.set hB
      refine ⟨B, _, rfl, St.set_same .., fs.take i, Fd.V, (fun a => decide (a.field = (fs[i]).field) && (Loc.get lm a.name).isSome), Fd.V,
        ⟨hlen, fun j d hj => ?_, fun σ' l' => l' _ _ (St.set_same ..), by rw [List.length_take, sizeLine_eq]; omega, fun C₂ a σ₃ ha l₃ => ?_⟩, fun F σ₃ l₃ hF hF' => ?_⟩
      · rw [← List.map_take]; exact getD_map d _ _ _ (by simpa using hj)
      · have f1 := l₃ _ _ (lB _ _ e1)
        have f2 := l₃ _ _ (lB _ _ e2)
        have f3 := l₃ _ _ (lB _ _ g1)
        have f4 := l₃ _ _ (lB _ _ i2)
        refine ts_Name (ts_local (qv_one (bv_And (bv_Compare (ev_Subscript (ev_local (x := "late") (ev_int (op_item_tup (d := .str a.field) (by decide) (by decide) rfl ?_))))))))
        refine ev_Subscript (ev_cell (x := "row") (c := L' + 2) f2 (ev_int (op_item_tup (d := .str (fs[i]).field) (by decide) (by decide) rfl (op_eq_str ⟨_, rfl, ?_⟩))))
        by_cases qf : a.field = (fs[i]).field
        · rw [decide_eq_true qf, if_pos rfl]
          refine bv_And (bv_Compare (ev_Subscript (ev_local (x := "late") (ev_int (op_item_tup (d := .str a.name) (by decide) (by decide) rfl ?_)))))
          refine ev_Subscript (ev_cell (x := "lines") (c := L' + 1) f1 (ev_Subscript (ev_cell (x := "row") (c := L' + 2) f2 (ev_int (op_item_tup (d := .str (fs[i]).name) (by decide) (by decide) rfl ?_)))))
          refine op_item_sdict f3 i1 (op_in_sdict f4 ⟨_, rfl, ?_⟩)
          cases z : (Loc.get lm a.name).isSome with
          | false => exact ⟨rfl, Le.refl _⟩
          | true => exact bv_And_nil ⟨rfl, ev_local (x := "late") ⟨rfl, Le.refl _⟩⟩
        · rw [decide_eq_false qf, if_neg (by decide)]
          exact ⟨rfl, Le.refl _⟩
      · refine ev_List (lv_nil ⟨len_ok rfl, fun N hN => ?_⟩)
        have lN : Le σ₃ (σ₃.set N (.list [])) := Le.set hN
        have lF := (lB.trans l₃).trans lN
        generalize hfl : (fs.take i).filter (fun a => decide (a.field = (fs[i]).field) && (Loc.get lm a.name).isSome) = fl at *
        have flm : ∀ a, a ∈ fl ↔ a ∈ fs.take i ∧ a.field = (fs[i]).field ∧ rel (fs[i]).name a.name := fun a => by
          rw [← hfl, List.mem_filter, Bool.and_eq_true, decide_eq_true_eq, i3]
        refine op_ne_nil (R'.le (by omega : n + 1 ≤ n + 1)) (lN _ _ hF') (St.set_same ..) (fun d hd => ?_) ⟨_, rfl, ?_⟩
        · obtain ⟨a, ha, rfl⟩ := List.mem_map.mp hd
          exact hfit a (tk a ((flm a).mp ha).1)
        · cases fl with
          | nil =>
            refine bv_Or_nil (sv_nil (sv_nilK hkk ⟨⟨rfl, trivial⟩, l₂.trans lF, lF _ _ e1, ⟨_, lF _ _ e2⟩, next lF fun b => ?_⟩))
            rcases b with b | ⟨a, ha, hb⟩
            · exact q b
            · exact absurd ((flm a).mpr ⟨ha, hb⟩) (by simp)
          | cons a fl =>
            obtain ⟨a1, a2⟩ := (flm a).mp (by simp)
            refine sv_cons (sv_Return (ev_Subscript (ev_cell (x := "row") (c := L' + 2) (lF _ _ e2) (ev_int (op_item_tup (d := .int (fs[i]).spot) (by decide) (by decide) rfl ?_)))))
            exact hkk _ _ _ (ret lF (.inr ⟨a, a1, a2⟩))
  · rintro ρ₁ σ₁ ⟨hs, l₁, _, _, hno⟩
    rw [List.length_map] at hno
    exact sv_cons (sv_Return (ev_none (h2 σ₁ l₁ fun i hi => hno i hi hi)))
end
end Mine
namespace Mine
theorem vput_keys (es : List (Str × V)) (x : Str) (d : V) : (vput es x d).map (·.1) = if x ∈ es.map (·.1) then es.map (·.1) else es.map (·.1) ++ [x] := by
  unfold vput
  by_cases h : x ∈ es.map (·.1)
  · have e : es.any (fun kv => decide (kv.1 = x)) = true := by
      obtain ⟨p, hp, e⟩ := List.mem_map.mp h
      exact List.any_eq_true.mpr ⟨p, hp, by simpa using e⟩
    rw [e, if_pos rfl, if_pos h, List.map_map]
    apply List.map_congr_left
    intro p hp
    simp only [Function.comp]
    split <;> rfl
  · have e : es.any (fun kv => decide (kv.1 = x)) = false := by
      rw [List.any_eq_false]
      intro p hp
      simp only [decide_eq_true_eq]
      exact fun e => h (List.mem_map.mpr ⟨p, hp, e⟩)
    rw [e, if_neg (by decide), if_neg h]; simp
theorem vput_mem (es : List (Str × V)) (x : Str) (d : V) (y : Str) : y ∈ (vput es x d).map (·.1) ↔ y ∈ es.map (·.1) ∨ y = x := by
  rw [vput_keys]
  split
  · rename_i h
    constructor
    · exact .inl
    · rintro (h' | rfl)
      · exact h'
      · exact h
  · rw [List.mem_append, List.mem_singleton]
theorem vput_nodup {es : List (Str × V)} (x : Str) (d : V) (h : (es.map (·.1)).Nodup) : ((vput es x d).map (·.1)).Nodup := by
  rw [vput_keys]
  split
  · exact h
  · rename_i hx
    rw [List.nodup_append]
    exact ⟨h, by simp, fun a ha b hb => by rw [List.mem_singleton.mp hb]; exact fun q => hx (q ▸ ha)⟩
theorem vmerge_mem (ms : List (Str × V)) : ∀ (es : List (Str × V)) (y : Str), y ∈ (vmerge es ms).map (·.1) ↔ y ∈ es.map (·.1) ∨ y ∈ ms.map (·.1) := by
  induction ms with
  | nil => intro es y; simp [vmerge]
  | cons p r ih =>
    intro es y
    have e : vmerge es (p :: r) = vmerge (vput es p.1 p.2) r := rfl
    rw [e, ih, vput_mem, List.map_cons, List.mem_cons]
    constructor
    · rintro ((h | h) | h)
      · exact .inl h
      · exact .inr (.inl h)
      · exact .inr (.inr h)
    · rintro (h | h | h)
      · exact .inl (.inl h)
      · exact .inl (.inr h)
      · exact .inr h
theorem vmerge_nodup (ms : List (Str × V)) : ∀ {es : List (Str × V)}, (es.map (·.1)).Nodup → ((vmerge es ms).map (·.1)).Nodup := by
  induction ms with
  | nil => exact fun h => h
  | cons p r ih => exact fun h => ih (vput_nodup _ _ h)
theorem Up.head {es : Ens} {a c : Str} (h : Up es a c) : ∃ t, gets es a = some t ∧ (c ∈ t.direct ∨ ∃ b ∈ t.direct, Up es b c) := by
  induction h with
  | one ha hb => exact ⟨_, ha, .inl hb⟩
  | more h1 hb hc ih =>
    obtain ⟨t, ht, h⟩ := ih
    refine ⟨t, ht, .inr ?_⟩
    rcases h with h | ⟨b', hb', h⟩
    · exact ⟨_, h, .one hb hc⟩
    · exact ⟨b', hb', .more h hb hc⟩
theorem Up.cons {es : Ens} {a b c : Str} {t : It} (ha : gets es a = some t) (hb : b ∈ t.direct) (h : Up es b c) : Up es a c := by
  induction h with
  | one h1 h2 => exact .more (.one ha hb) h1 h2
  | more _ h1 h2 ih => exact .more ih h1 h2
def itOf (k : Nat) (parent : Str) (supers : List Str) : It := ⟨10 * (k : Int), [lett k], false, "", parent, supers, [], []⟩
def layOf (its : List It) : Ens := entsOf (its.map Item.sig)
theorem layOf_snoc (its : List It) (k : Nat) (p : Str) (s : List Str) : layOf (its ++ [itOf k p s]) = layOf its ++ [(lett k, itOf k p s)] := by
  unfold layOf entsOf
  simp [Item.ents, itOf]
inductive Chn : List It → List Str → Prop
  | nil : Chn [] []
  | snoc {its ps p s ps'} : Chn its ps → its.length < 6 → DirOk its.length ps p s ps' → Chn (its ++ [itOf its.length p s]) ps'
theorem gets_app {α : Type} (x : Str) : ∀ (a b : List (Str × α)), gets (a ++ b) x = (gets a x).or (gets b x)
  | [], b => rfl
  | (y, t) :: a, b => by
    show (if x = y then some t else gets (a ++ b) x) = (if x = y then some t else gets a x).or (gets b x)
    split
    · rfl
    · exact gets_app x a b
structure ChnF (its : List It) (ps : List Str) : Prop where
  len : its.length ≤ 6
  form : ∀ k (h : k < its.length), ∃ p s, its[k] = itOf k p s ∧ ((p = "" ∨ ∃ j, ∃ hj : j < its.length, j < k ∧ p = lett j ∧ (its[j]).supers = []) ∧ (s = [] ∨ (p = "" ∧ ((∃ i, i < k ∧ s = [lett i]) ∨ ∃ i j, i < k ∧ j < k ∧ i ≠ j ∧ s = [lett i, lett j]))))
  lay : layOf its = (List.range its.length).map fun k => (lett k, its.getD k (itOf 0 "" []))
  par : ∀ x, x ∈ ps ↔ ∃ k, ∃ h : k < its.length, x = lett k ∧ (its[k]).supers ≠ []
  psl : ps.length ≤ its.length
theorem Chn.facts {its ps} (c : Chn its ps) : ChnF its ps := by
  induction c with
  | nil => exact ⟨by simp, fun k h => absurd h (by simp), rfl, fun x => by simp, by simp⟩
  | @snoc its ps p s ps' c h6 d ih =>
    have hl : (its ++ [itOf its.length p s]).length = its.length + 1 := by simp
    have old : ∀ k (h : k < its.length), (its ++ [itOf its.length p s])[k]'(by rw [hl]; omega) = its[k] := fun k h => List.getElem_append_left h
    have new : (its ++ [itOf its.length p s])[its.length]'(by rw [hl]; omega) = itOf its.length p s := by simp
    have kof : ∀ k, k < its.length → lett k ≠ lett its.length := fun k hk q => by have := lett_inj (by omega) (by omega) q; omega
    refine ⟨by rw [hl]; omega, fun k hk => ?_, ?_, fun x => ?_, ?_⟩
    · rw [hl] at hk
      by_cases q : k < its.length
      · obtain ⟨p', s', e, f1, f2⟩ := ih.form k q
        refine ⟨p', s', by rw [old k q]; exact e, ?_, f2⟩
        rcases f1 with f1 | ⟨j, hj, f3, f4, f5⟩
        · exact .inl f1
        · exact .inr ⟨j, by rw [hl]; omega, f3, f4, by rw [old j hj]; exact f5⟩
      · obtain rfl : k = its.length := by omega
        refine ⟨p, s, new, ?_⟩
        cases d with
        | @ext j h1 h2 =>
          refine ⟨.inr ⟨j, by rw [hl]; omega, h1, rfl, ?_⟩, .inl rfl⟩
          rw [old j h1]
          cases e : (its[j]).supers with
          | nil => rfl
          | cons a b => exact absurd ((ih.par _).mpr ⟨j, h1, rfl, by rw [e]; simp⟩) h2
        | top => exact ⟨.inl rfl, .inl rfl⟩
        | @one i h1 => exact ⟨.inl rfl, .inr ⟨rfl, .inl ⟨i, h1, rfl⟩⟩⟩
        | @two i j h1 h2 h3 => exact ⟨.inl rfl, .inr ⟨rfl, .inr ⟨i, j, h1, h2, h3, rfl⟩⟩⟩
    · rw [layOf_snoc, ih.lay, hl, List.range_succ, List.map_append]
      congr 1
      · apply List.map_congr_left
        intro k hk
        rw [List.mem_range] at hk
        rw [List.getD_eq_getElem?_getD, List.getD_eq_getElem?_getD, List.getElem?_append_left hk]
      · simp
    · have base : (∃ k, ∃ h : k < (its ++ [itOf its.length p s]).length, x = lett k ∧ ((its ++ [itOf its.length p s])[k]).supers ≠ []) ↔ x ∈ ps ∨ (x = lett its.length ∧ s ≠ []) := by
        rw [ih.par]
        constructor
        · rintro ⟨k, h, e, f⟩
          rw [hl] at h
          by_cases q : k < its.length
          · rw [old k q] at f; exact .inl ⟨k, q, e, f⟩
          · obtain rfl : k = its.length := by omega
            rw [new] at f; exact .inr ⟨e, f⟩
        · rintro (⟨k, h, e, f⟩ | ⟨e, f⟩)
          · exact ⟨k, by rw [hl]; omega, e, by rw [old k h]; exact f⟩
          · exact ⟨its.length, by rw [hl]; omega, e, by rw [new]; exact f⟩
      rw [base]
      cases d with
      | ext => simp
      | top => simp
      | one => simp
      | two => simp
    · rw [hl]; have := ih.psl; cases d <;> (try simp only [List.length_append, List.length_singleton]) <;> omega
end Mine
namespace Mine
theorem gets_range {α : Type} (f : Nat → α) : ∀ (n m : Nat) (x : Str) (t : α), n + m ≤ 6 → (gets ((List.range' n m).map fun k => (lett k, f k)) x = some t ↔ ∃ k, n ≤ k ∧ k < n + m ∧ x = lett k ∧ t = f k)
  | n, 0, x, t, _ => by
    simp only [List.range'_zero, List.map_nil, gets]
    constructor
    · intro h; cases h
    · rintro ⟨k, h1, h2, _⟩; omega
  | n, m + 1, x, t, hb => by
    rw [List.range'_succ, List.map_cons]
    unfold gets
    by_cases q : x = lett n
    · rw [if_pos q]
      constructor
      · intro h; cases h; exact ⟨n, Nat.le_refl _, by omega, q, rfl⟩
      · rintro ⟨k, h1, h2, e, rfl⟩
        rw [q] at e
        rw [lett_inj (by omega) (by omega) e]
    · rw [if_neg q, gets_range f (n + 1) m x t (by omega)]
      constructor
      · rintro ⟨k, h1, h2, e⟩; exact ⟨k, by omega, by omega, e⟩
      · rintro ⟨k, h1, h2, e, e'⟩
        have : k ≠ n := fun z => q (by rw [e, z])
        exact ⟨k, by omega, by omega, e, e'⟩
theorem ChnF.gets_iff {its ps} (F : ChnF its ps) {x : Str} {t : It} : gets (layOf its) x = some t ↔ ∃ k, ∃ h : k < its.length, x = lett k ∧ t = its[k] := by
  rw [F.lay, List.range_eq_range', gets_range (fun k => its.getD k (itOf 0 "" [])) 0 its.length x t (by have := F.len; omega)]
  constructor
  · rintro ⟨k, _, h, e, e'⟩
    refine ⟨k, by omega, e, ?_⟩
    rw [e', List.getD_eq_getElem?_getD, List.getElem?_eq_getElem (by omega)]; rfl
  · rintro ⟨k, h, e, e'⟩
    refine ⟨k, Nat.zero_le _, by omega, e, ?_⟩
    rw [e', List.getD_eq_getElem?_getD, List.getElem?_eq_getElem h]; rfl
theorem ChnF.keys {its ps} (F : ChnF its ps) : (layOf its).map (·.1) = (List.range its.length).map lett := by
  rw [F.lay, List.map_map]; rfl
theorem lett_nodup (n : Nat) (h : n ≤ 6) : ((List.range n).map lett).Nodup := by
  rw [List.nodup_iff_pairwise_ne, List.pairwise_map]
  refine List.Pairwise.imp_of_mem ?_ (List.nodup_iff_pairwise_ne.mp List.nodup_range)
  intro a b ha hb hne e
  rw [List.mem_range] at ha hb
  exact hne (lett_inj (by omega) (by omega) e)
theorem ChnF.dir {its ps} (F : ChnF its ps) {k : Nat} (h : k < its.length) {y : Str} (hy : y ∈ (its[k]).direct) : ∃ j, j < k ∧ y = lett j := by
  obtain ⟨p, s, e, f1, f2⟩ := F.form k h
  rw [e] at hy
  unfold It.direct itOf at hy
  rw [List.mem_append] at hy
  rcases hy with hy | hy
  · rcases f1 with f1 | ⟨j, hj, f3, f4, _⟩
    · simp [f1] at hy
    · refine ⟨j, f3, ?_⟩
      split at hy
      · cases hy
      · rw [List.mem_singleton] at hy; rw [hy, f4]
  · rcases f2 with f2 | ⟨_, ⟨i, h1, e⟩ | ⟨i, j, h1, h2, _, e⟩⟩
    · rw [f2] at hy; cases hy
    · rw [e, List.mem_singleton] at hy; exact ⟨i, h1, hy⟩
    · rw [e] at hy
      simp only [List.mem_cons, List.mem_nil_iff, or_false] at hy
      rcases hy with rfl | rfl
      · exact ⟨i, h1, rfl⟩
      · exact ⟨j, h2, rfl⟩
def relL (its : List It) (x y : Str) : Prop := y = x ∨ Up (layOf its) x y
theorem up_keys {es es' : Ens} (h : ∀ x t, gets es x = some t → gets es' x = some t) {a b : Str} (u : Up es a b) : Up es' a b := by
  induction u with
  | one h1 h2 => exact .one (h _ _ h1) h2
  | more _ h1 h2 ih => exact .more ih (h _ _ h1) h2
theorem Up.old {its ps} (F : ChnF its ps) {a b : Str} (u : Up (layOf its) a b) : ∃ j, j < its.length ∧ b = lett j := by
  cases u with
  | one h1 h2 => obtain ⟨k, h, _, e⟩ := F.gets_iff.mp h1; subst e; obtain ⟨j, h3, h4⟩ := F.dir h h2; exact ⟨j, by omega, h4⟩
  | more _ h1 h2 => obtain ⟨k, h, _, e⟩ := F.gets_iff.mp h1; subst e; obtain ⟨j, h3, h4⟩ := F.dir h h2; exact ⟨j, by omega, h4⟩
theorem rel_old {its ps ps' p s} (F : ChnF its ps) (F' : ChnF (its ++ [itOf its.length p s]) ps') {k : Nat} (hk : k < its.length) (y : Str) : relL (its ++ [itOf its.length p s]) (lett k) y ↔ relL its (lett k) y := by
  have fw : ∀ x t, gets (layOf its) x = some t → gets (layOf (its ++ [itOf its.length p s])) x = some t := fun x t h => by
    rw [layOf_snoc, gets_app, h]; rfl
  have bk : ∀ j, j < its.length → ∀ t, gets (layOf (its ++ [itOf its.length p s])) (lett j) = some t → gets (layOf its) (lett j) = some t := fun j hj t h => by
    have h' := F.gets_iff.mpr ⟨j, hj, rfl, rfl⟩
    rw [fw _ _ h'] at h; cases h; exact h'
  constructor
  · rintro (e | u)
    · exact .inl e
    · right
      have main : ∀ {a b}, Up (layOf (its ++ [itOf its.length p s])) a b → ∀ j, j < its.length → a = lett j → Up (layOf its) a b ∧ ∃ i, i < its.length ∧ b = lett i := by
        intro a b u
        induction u with
        | one h1 h2 =>
          intro j hj e; subst e
          have g := bk j hj _ h1
          have u' := Up.one g h2
          exact ⟨u', u'.old F⟩
        | more _ h1 h2 ih =>
          intro j hj e
          obtain ⟨u1, i, hi, e2⟩ := ih j hj e
          subst e2
          have u' := Up.more u1 (bk i hi _ h1) h2
          exact ⟨u', u'.old F⟩
      exact (main u k hk rfl).1
  · rintro (e | u)
    · exact .inl e
    · exact .inr (up_keys fw u)
theorem rel_new {its ps ps' p s} (F : ChnF its ps) (F' : ChnF (its ++ [itOf its.length p s]) ps') (y : Str) : relL (its ++ [itOf its.length p s]) (lett its.length) y ↔ y = lett its.length ∨ ∃ d ∈ (itOf its.length p s).direct, relL its d y := by
  have hl : (its ++ [itOf its.length p s]).length = its.length + 1 := by simp
  have g : gets (layOf (its ++ [itOf its.length p s])) (lett its.length) = some (itOf its.length p s) := F'.gets_iff.mpr ⟨its.length, by rw [hl]; omega, rfl, by simp⟩
  have od : ∀ d ∈ (itOf its.length p s).direct, ∃ j, j < its.length ∧ d = lett j := fun d hd => F'.dir (k := its.length) (by rw [hl]; omega) (by simpa using hd)
  constructor
  · rintro (e | u)
    · exact .inl e
    · right
      obtain ⟨t, ht, h⟩ := u.head
      rw [g] at ht; cases ht
      rcases h with h | ⟨d, hd, u'⟩
      · exact ⟨y, h, .inl rfl⟩
      · obtain ⟨j, hj, rfl⟩ := od d hd
        exact ⟨_, hd, (rel_old F F' hj y).mp (.inr u')⟩
  · rintro (e | ⟨d, hd, r⟩)
    · exact .inl e
    · right
      obtain ⟨j, hj, rfl⟩ := od d hd
      rcases (rel_old F F' hj y).mpr r with e | u
      · rw [e]; exact .one g hd
      · exact Up.cons g hd u
end Mine
namespace Mine
structure Rk (es : Ens) (r : Str → Nat) : Prop where
  dn : ∀ x t, gets es x = some t → ∀ y ∈ t.direct, r y < r x
  key : ∀ x t, gets es x = some t → ∀ y ∈ t.direct, ∃ t', gets es y = some t'
theorem min_ex (r : Str → Nat) : ∀ (l : List Str), l ≠ [] → ∃ x ∈ l, ∀ y ∈ l, r x ≤ r y
  | [], h => absurd rfl h
  | [a], _ => ⟨a, by simp, fun y hy => by rw [List.mem_singleton.mp hy]; exact Nat.le_refl _⟩
  | a :: b :: l, _ => by
    obtain ⟨x, hx, hm⟩ := min_ex r (b :: l) (by simp)
    by_cases q : r a ≤ r x
    · refine ⟨a, by simp, fun y hy => ?_⟩
      rcases List.mem_cons.mp hy with rfl | hy
      · exact Nat.le_refl _
      · exact Nat.le_trans q (hm y hy)
    · refine ⟨x, List.mem_cons_of_mem _ hx, fun y hy => ?_⟩
      rcases List.mem_cons.mp hy with rfl | hy
      · omega
      · exact hm y hy
theorem pf_ex {es : Ens} {r : Str → Nat} (H : Rk es r) : ∀ (n : Nat) (rest found : List Str), rest.length = n → (∀ x ∈ rest, ∃ t, gets es x = some t) → (∀ x ∈ rest, ∀ y ∈ dirs es x, y ∈ found ∨ y ∈ rest) →
    ∃ out, PF es found rest out ∧ ∃ q, out = found ++ q ∧ q.Perm rest
  | 0, rest, found, hl, _, _ => by
    have : rest = [] := List.eq_nil_of_length_eq_zero hl
    subst this
    exact ⟨found, .done, [], by simp, .nil⟩
  | n + 1, rest, found, hl, hk, hd => by
    have hne : rest ≠ [] := fun q => by rw [q] at hl; simp at hl
    obtain ⟨m, hm, hmin⟩ := min_ex r rest hne
    have hr : ready es found m = true := by
      unfold ready
      rw [List.all_eq_true]
      intro y hy
      rw [decide_eq_true_eq]
      rcases hd m hm y hy with h | h
      · exact h
      · obtain ⟨t, ht⟩ := hk m hm
        have hy' : y ∈ t.direct := by unfold dirs at hy; rw [ht] at hy; exact hy
        have := H.dn m t ht y hy'
        have := hmin y h
        omega
    obtain ⟨x, hx⟩ : ∃ x, rest.find? (ready es found) = some x := by
      cases q : rest.find? (ready es found) with
      | some x => exact ⟨x, rfl⟩
      | none => exact absurd hr (by simpa using List.find?_eq_none.mp q m hm)
    have hxm := List.mem_of_find?_eq_some hx
    obtain ⟨out, hp, q, he, hq⟩ := pf_ex H n (rest.erase x) (found ++ [x]) (by rw [List.length_erase_of_mem hxm, hl]; rfl) (fun y hy => hk y (List.mem_of_mem_erase hy)) (fun y hy z hz => by
      rcases hd y (List.mem_of_mem_erase hy) z hz with h | h
      · exact .inl (by simp [h])
      · by_cases e : z = x
        · exact .inl (by simp [e])
        · exact .inr ((List.mem_erase_of_ne e).mpr h))
    exact ⟨out, .step hx hp, x :: q, by rw [he]; simp, (hq.cons x).trans (List.perm_cons_erase hxm).symm⟩
theorem gets_iff {es : Ens} (hn : (es.map (·.1)).Nodup) {x : Str} {t : It} : gets es x = some t ↔ (x, t) ∈ es := by
  induction es with
  | nil => simp [gets]
  | cons p r ih =>
    obtain ⟨y, u⟩ := p
    rw [List.map_cons, List.nodup_cons] at hn
    unfold gets
    by_cases q : x = y
    · subst q
      rw [if_pos rfl]
      constructor
      · intro h; cases h; simp
      · intro h
        rcases List.mem_cons.mp h with h | h
        · cases h; rfl
        · exact absurd (List.mem_map.mpr ⟨_, h, rfl⟩) hn.1
    · rw [if_neg q, ih hn.2, List.mem_cons]
      constructor
      · exact .inr
      · rintro (h | h)
        · cases h; exact absurd rfl q
        · exact h
theorem foldRow_mem (x : Str) (P : Fd → Prop) : ∀ (rows : List Rw) (st : FS), (∀ f ∈ st.1, P f) → (∀ r ∈ rows, ∀ n ∈ r.names, ∀ g, P (one r x g n)) → ∀ f ∈ (rows.foldl (stepRow x) st).1, P f
  | [], st, h, _ => h
  | r :: rows, st, h, hr => by
    rw [List.foldl_cons]
    refine foldRow_mem x P rows _ ?_ (fun q hq => hr q (by simp [hq]))
    intro f hf
    unfold stepRow at hf
    rcases List.mem_append.mp hf with hf | hf
    · exact h f hf
    · obtain ⟨n, hn, rfl⟩ := List.mem_map.mp hf
      exact hr r (by simp) n hn _
theorem allF_mem_from (es : Ens) (P : Fd → Prop) : ∀ (seq : List Str) (st : FS), (∀ f ∈ st.1, P f) → (∀ x ∈ seq, ∀ r ∈ rowsOf es x, ∀ n ∈ r.names, ∀ g, P (one r x g n)) → ∀ f ∈ (seq.foldl (stepName es) st).1, P f
  | [], st, h, _ => h
  | x :: seq, st, h, hr => by
    rw [List.foldl_cons]
    exact allF_mem_from es P seq _ (foldRow_mem x P _ _ h (hr x (by simp))) (fun y hy => hr y (by simp [hy]))
theorem allF_mem {es : Ens} {seq : List Str} (P : Fd → Prop) (hr : ∀ x ∈ seq, ∀ r ∈ rowsOf es x, ∀ n ∈ r.names, ∀ g, P (one r x g n)) : ∀ f ∈ (allF es seq).1, P f :=
  allF_mem_from es P seq _ (fun f hf => by cases hf) hr
end Mine
namespace Mine
def rkL (x : Str) : Nat := ((List.range 6).find? fun k => lett k == x).getD 0
theorem rkL_at (k : Nat) (h : k < 6) : rkL (lett k) = k := by
  have : k = 0 ∨ k = 1 ∨ k = 2 ∨ k = 3 ∨ k = 4 ∨ k = 5 := by omega
  rcases this with rfl | rfl | rfl | rfl | rfl | rfl <;> decide
def turned (b : Bool) (its : List It) : List It := if b then its.reverse else its
theorem turned_perm (b : Bool) (its : List It) : (turned b its).Perm its := by
  cases b
  · exact .refl _
  · exact List.reverse_perm _
theorem ents_flat (its : List It) : entsOf (its.map Item.sig) = its.flatMap fun t => t.names.map fun x => (x, t) := by
  unfold entsOf; rw [List.flatMap_map]; rfl
theorem tperm {its : List It} (b : Bool) : (entsOf ((turned b its).map Item.sig)).Perm (layOf its) := by
  unfold layOf
  rw [ents_flat, ents_flat]
  exact (turned_perm b its).flatMap_right _
theorem ChnF.same {its ps} (F : ChnF its ps) (b : Bool) (x : Str) : gets (entsOf ((turned b its).map Item.sig)) x = gets (layOf its) x := by
  have hp := tperm (its := its) b
  have n1 : ((layOf its).map (·.1)).Nodup := by rw [F.keys]; exact lett_nodup _ F.len
  have n2 : ((entsOf ((turned b its).map Item.sig)).map (·.1)).Nodup := (hp.map _).nodup_iff.mpr n1
  have key : ∀ t, gets (entsOf ((turned b its).map Item.sig)) x = some t ↔ gets (layOf its) x = some t := fun t => by
    rw [Mine.gets_iff n2, Mine.gets_iff n1]; exact hp.mem_iff
  cases h : gets (entsOf ((turned b its).map Item.sig)) x with
  | some t => exact ((key t).mp h).symm
  | none =>
    cases h' : gets (layOf its) x with
    | none => rfl
    | some t => rw [(key t).mpr h'] at h; cases h
theorem good_of {its ps} (F : ChnF its ps) (b : Bool) : ∃ seq, Good ((turned b its).map Item.sig) seq ∧ (allF (entsOf ((turned b its).map Item.sig)) seq).1 = [] := by
  have hp := tperm (its := its) b
  have sm := F.same b
  generalize hes : entsOf ((turned b its).map Item.sig) = es at *
  have n1 : ((layOf its).map (·.1)).Nodup := by rw [F.keys]; exact lett_nodup _ F.len
  have n2 : (es.map (·.1)).Nodup := (hp.map _).nodup_iff.mpr n1
  have gi : ∀ {x t}, gets es x = some t ↔ ∃ k, ∃ h : k < its.length, x = lett k ∧ t = its[k] := fun {x t} => by rw [sm, F.gets_iff]
  have hlen : es.length = its.length := by rw [hp.length_eq]; have := congrArg List.length F.keys; simpa using this
  have dirG : ∀ x t, gets es x = some t → ∀ y ∈ t.direct, ∃ t', gets es y = some t' := fun x t h y hy => by
    obtain ⟨k, hk, _, rfl⟩ := gi.mp h
    obtain ⟨j, hj, rfl⟩ := F.dir hk hy
    exact ⟨its[j], gi.mpr ⟨j, by omega, rfl, rfl⟩⟩
  have W : WF es := {
    size := by rw [hlen]; have := F.len; omega
    keys := n2
    sup := fun x t h => by
      obtain ⟨k, hk, _, rfl⟩ := gi.mp h
      obtain ⟨p, s, e, _, f2⟩ := F.form k hk
      rw [e]
      show s.length ≤ 2
      rcases f2 with f2 | ⟨_, ⟨i, h1, e⟩ | ⟨i, j, h1, h2, _, e⟩⟩ <;> simp_all
    dir := dirG
    dnd := fun x t h => by
      obtain ⟨k, hk, _, rfl⟩ := gi.mp h
      have hl := F.len
      obtain ⟨p, s, e, _, f2⟩ := F.form k hk
      rw [e]
      show ((if p = "" then [] else [p]) ++ s).Nodup
      rcases f2 with f2 | ⟨f3, ⟨i, h1, e⟩ | ⟨i, j, h1, h2, h3, e⟩⟩
      · rw [f2]; split <;> simp
      · rw [f3, e]; simp
      · rw [f3, e]
        have : lett i ≠ lett j := fun q => h3 (lett_inj (by omega) (by omega) q)
        simp [this]
    ok := fun x t h => by
      obtain ⟨k, hk, rfl, _⟩ := gi.mp h
      exact lett_ok k (by have := F.len; omega) }
  have K : Rk es rkL := {
    dn := fun x t h y hy => by
      obtain ⟨k, hk, rfl, rfl⟩ := gi.mp h
      obtain ⟨j, hj, rfl⟩ := F.dir hk hy
      have := F.len
      rw [rkL_at k (by omega), rkL_at j (by omega)]; exact hj
    key := dirG }
  have hall : ∀ x ∈ keysOf es, ∃ t, gets es x = some t := fun x hx => mem_gets hx
  obtain ⟨seq, pf, q, hq, hperm⟩ := pf_ex K _ (keysOf es) [] rfl hall (fun x hx y hy => by
    right
    obtain ⟨t, ht⟩ := hall x hx
    unfold dirs at hy
    rw [ht] at hy
    obtain ⟨t', ht'⟩ := dirG x t ht y hy
    exact gets_mem ht')
  rw [List.nil_append] at hq
  subst hq
  have hinn : ∀ x ∈ seq, ∃ t, gets es x = some t := fun x hx => hall x (hperm.mem_iff.mp hx)
  have hnil : (allF es seq).1 = [] := by
    have := allF_mem (es := es) (seq := seq) (fun _ => False) (fun x hx r hr => by
      unfold rowsOf at hr
      obtain ⟨t, ht⟩ := hinn x hx
      rw [ht] at hr
      obtain ⟨k, hk, _, rfl⟩ := gi.mp ht
      obtain ⟨p, s, e, _⟩ := F.form k hk
      rw [Option.map_some, Option.getD_some, e] at hr
      cases hr)
    cases h : (allF es seq).1 with
    | nil => rfl
    | cons f r => exact (this f (by rw [h]; simp)).elim
  have hops : opsOf ((turned b its).map Item.sig) = [] := by
    unfold opsOf; rw [List.flatMap_map, List.flatMap_eq_nil_iff]; intro t _; rfl
  have hmem : ∀ t, Item.sig t ∈ (turned b its).map Item.sig → ∃ k, ∃ h : k < its.length, t = its[k] := fun t ht => by
    obtain ⟨t', h', e⟩ := List.mem_map.mp ht
    cases e
    obtain ⟨k, hk, e⟩ := List.mem_iff_getElem.mp ((turned_perm b its).mem_iff.mp h')
    exact ⟨k, hk, e.symm⟩
  refine ⟨seq, ?_, hnil⟩
  refine { W := hes ▸ W, sig := fun t ht => ?_, par := fun x t h hne t' h' => ?_, pf := hes ▸ pf, inn := hes ▸ hinn, okf := ?_, len := ?_, ops := fun p hp => ?_, ond := ?_, size := ?_ }
  · obtain ⟨k, hk, rfl⟩ := hmem t ht
    obtain ⟨p, s, e, _, f2⟩ := F.form k hk
    rw [e]
    refine ⟨?_, fun _ => rfl⟩
    show s.length ≤ 2
    rcases f2 with f2 | ⟨_, ⟨i, h1, e⟩ | ⟨i, j, h1, h2, _, e⟩⟩ <;> simp_all
  · rw [hes] at h h'
    obtain ⟨k, hk, _, rfl⟩ := gi.mp h
    obtain ⟨p, s, e, f1, _⟩ := F.form k hk
    rw [e] at hne h'
    rcases f1 with f1 | ⟨j, hj, _, f4, f5⟩
    · exact absurd f1 hne
    · have h'' : gets es (lett j) = some t' := by rw [← f4]; exact h'
      rw [gi.mpr ⟨j, hj, rfl, rfl⟩] at h''
      cases h''; exact f5
  · rw [hes, hnil]; intro i hi; exact absurd hi (by simp)
  · rw [hes, hnil]; simp
  · rw [hops] at hp; cases hp
  · rw [hops]; exact .nil
  · rw [List.length_map, (turned_perm b its).length_eq]; have := F.len; omega
end Mine
namespace Mine
def domL (its : List It) (x : Str) : Prop := ∃ k, k < its.length ∧ x = lett k
theorem ChnF.dom {its ps} (F : ChnF its ps) (b : Bool) (x : Str) : gets (entsOf ((turned b its).map Item.sig)) x ≠ none ↔ domL its x := by
  rw [F.same b]
  constructor
  · intro h
    cases e : gets (layOf its) x with
    | none => exact absurd e h
    | some t => obtain ⟨k, hk, e', _⟩ := F.gets_iff.mp e; exact ⟨k, hk, e'⟩
  · rintro ⟨k, hk, rfl⟩ h
    rw [F.gets_iff.mpr ⟨k, hk, rfl, rfl⟩] at h; cases h
theorem ChnF.up {its ps} (F : ChnF its ps) (b : Bool) (x y : Str) : Up (entsOf ((turned b its).map Item.sig)) x y ↔ Up (layOf its) x y :=
  ⟨up_keys fun x t h => by rw [← F.same b]; exact h, up_keys fun x t h => by rw [F.same b]; exact h⟩
theorem bad_iff {its ps} (F : ChnF its ps) (b : Bool) {fs : List Fd} {i : Nat} {f : Fd} : Bad (entsOf ((turned b its).map Item.sig)) fs i f ↔ FBad (domL its) (relL its) fs i f := by
  unfold Bad FBad relL
  rw [F.dom b]
  constructor
  · rintro (h | ⟨a, h1, h2, h3⟩)
    · exact .inl h
    · exact .inr ⟨a, h1, h2, h3.imp id (F.up b _ _).mp⟩
  · rintro (h | ⟨a, h1, h2, h3⟩)
    · exact .inl h
    · exact .inr ⟨a, h1, h2, h3.imp id (F.up b _ _).mpr⟩
theorem okat_of {es : Ens} {fs : List Fd} {i : Nat} {f : Fd} (h : ¬ Bad es fs i f) : OKat es fs i f := by
  refine ⟨?_, fun a ha e => ⟨fun q => h (.inr ⟨a, ha, e, .inl q⟩), fun q => h (.inr ⟨a, ha, e, .inr q⟩)⟩⟩
  cases e : gets es f.field with
  | none => rfl
  | some t => exact absurd (.inl (by rw [e]; simp)) h
theorem okf_all {es : Ens} {fs : List Fd} (hn : ∀ f ∈ fs, ∃ t, gets es f.name = some t) (h : ∀ i (hi : i < fs.length), ¬ Bad es fs i fs[i]) : OKF es fs := fun i hi => by
  obtain ⟨a, b⟩ := okat_of (h i hi)
  exact ⟨a, hn _ (List.getElem_mem hi), b⟩
structure RowsL (its : List It) (fs : List Fd) : Prop where
  len : fs.length ≤ 100
  name : ∀ f ∈ fs, domL its f.name
  fl : FLen fs
  fit : ∀ f ∈ fs, Fit f.V 50
theorem RowsL.filter {its fs} (x : RowsL its fs) (p : Fd → Bool) : RowsL its (fs.filter p) :=
  ⟨Nat.le_trans (List.length_filter_le _ _) x.len, fun f hf => x.name f (List.mem_filter.mp hf).1, fun f hf => x.fl f (List.mem_filter.mp hf).1, fun f hf => x.fit f (List.mem_filter.mp hf).1⟩
theorem fewer {fs : List Fd} {m : Nat} (hm : m < fs.length) : (fs.filter fun f => !decide (f.spot = fs[m].spot)).length < fs.length := by
  have h1 : (fs.filter fun f => !decide (f.spot = fs[m].spot)).length ≤ fs.length := List.length_filter_le _ _
  refine Nat.lt_of_le_of_ne h1 fun e => ?_
  have := (List.length_filter_eq_length_iff.mp e) fs[m] (List.getElem_mem hm)
  simp at this
end Mine
namespace Mine
@[irreducible] def bodyOf (K : Frag) (a : Addr) : List Stmt := match K.lookup a with | some ⟨_, _, .func fd, _⟩ => (match fd.body with | .stmts b => b | _ => []) | _ => []
@[irreducible] def scopeOf (K : Frag) (a : Addr) : Scope := match K.lookup a with | some ⟨_, _, .func fd, _⟩ => fd.scope | _ => ⟨.module, [], false, false, []⟩
theorem ints_len : ∀ {vs : List Value} {ns : List Int}, IntsAre vs ns → vs.length = ns.length
  | _, _, .nil => rfl
  | _, _, .cons _ _ r => by simp [ints_len r]
def LnsAt (σ : St) (Ld : Addr) (its : List It) : Prop := ∃ ep ls, σ Ld = some (.sdict ep ls) ∧ ls.map (·.1) = (List.range its.length).map lett ∧
  ∀ k, k < its.length → ∃ a ep' m, Loc.get ls (lett k) = some (.ref a) ∧ σ a = some (.sdict ep' m) ∧ a ≠ Ld ∧ (m.map (·.1)).Nodup ∧ (∀ y ∈ m.map (·.1), ∃ j, j < 6 ∧ y = lett j) ∧ ∀ y, y ∈ m.map (·.1) ↔ relL its (lett k) y
section
variable {G : Amb} {A : Around} {env : Env} {L : Addr} {ρ : Loc} {σ : St} {X : Value → Shared → Prop}
theorem Le.none {σ σ' : St} (x : Le σ σ') {a : Addr} (h : σ' a = none) : σ a = none := by
  cases e : σ a with
  | none => rfl
  | some o => rw [x _ _ e] at h; cases h
theorem sv_open {K : Frag} {f g : Addr} {oc : Value} {od : Option Addr} {osl : Array (Option Value)} {name qual q : Str} {params : Arguments} {body : List Stmt} {scope : Scope} {dV kV doc pm cdv cd ct : Value} {an : Option Addr} {cs : List (Str × Addr)} {k : AF → Loc → St → Prop}
    (ho : K.lookup f = some ⟨oc, od, .func (fnOf name qual params body scope dV kV doc pm an cdv ct), osl⟩)
    (h : SV G A (envX q scope L g cd cs) ρ σ (execs body (envX q scope L g cd cs)) k X) : SV G A (envX q (scopeOf K f) L g cd cs) ρ σ (execs (bodyOf K f) (envX q (scopeOf K f) L g cd cs)) k X := by
  have e1 : bodyOf K f = body := by unfold bodyOf; rw [ho]
  have e2 : scopeOf K f = scope := by unfold scopeOf; rw [ho]
  rw [e1, e2]; exact h
theorem G_direct (hG : IsG G) : G.mg "_law_direct" = some (.ref 273) ∧ CK G (.ref 273) := ⟨hG.glob _ _ (by rw [hG.K]; rfl), .inr (by rw [hG.K]; rfl)⟩
theorem G_first (hG : IsG G) : G.mg "_law_first" = some (.ref 278) ∧ CK G (.ref 278) := ⟨hG.glob _ _ (by rw [hG.K]; rfl), .inr (by rw [hG.K]; rfl)⟩
theorem G_refused (hG : IsG G) : G.mg "_law_refused" = some (.ref 285) ∧ CK G (.ref 285) := ⟨hG.glob _ _ (by rw [hG.K]; rfl), .inr (by rw [hG.K]; rfl)⟩
theorem G_cls (hG : IsG G) : G.mg "Signatures" = some (.ref 257) ∧ CK G (.ref 257) := ⟨hG.glob _ _ (by rw [hG.K]; rfl), .inr (by rw [hG.K]; rfl)⟩
theorem B_abs (hG : IsG G) : G.mg "abs" = none ∧ G.mb "abs" = some (.builtin "abs") := B_name hG rfl rfl (by decide)
theorem ev_det2 {e : Expr} {k : V → St → Prop} (Q : V → St → Prop) (h : EV G A env ρ σ e Q X) (hQ : ∀ d σ', Q d σ' → k d σ') : EV G A env ρ σ e k X := h.mono hQ
theorem loc_app (x : Str) : ∀ (a b : Loc), Loc.get (a ++ b) x = (Loc.get a x).or (Loc.get b x)
  | [], b => rfl
  | (y, t) :: a, b => by
    show (if x = y then some t else Loc.get (a ++ b) x) = (if x = y then some t else Loc.get a x).or (Loc.get b x)
    split
    · rfl
    · exact loc_app x a b
theorem loc_none {x : Str} : ∀ {a : Loc}, x ∉ a.map (·.1) → Loc.get a x = none
  | [], _ => rfl
  | (y, t) :: a, h => by
    simp only [List.map_cons, List.mem_cons, not_or] at h
    show (if x = y then some t else Loc.get a x) = none
    rw [if_neg h.1]; exact loc_none h.2
def forBody : Stmt → List Stmt
  | .For _ _ b _ _ => b
  | _ => []
def lawAt (i : Nat) : Stmt := ((fBody (topAt 14))[i]?).getD (.Pass ⟨0, 0, 0, 0⟩)
structure Lay1 (σ : St) (Dk D Im Ld Pt c : Addr) (cells : List Int) (its : List It) (ps : List Str) (B : Nat) : Prop where
  chn : Chn its ps
  deck : Deck σ Dk D cells B
  im : σ Im = some (.list (its.map It.V))
  pt : σ Pt = some (.list (ps.map .str))
  lns : LnsAt σ Ld its
  cel : σ c = some (.cell none)
  ne1 : Im ≠ Pt
  ne2 : Im ≠ Dk
  ne3 : Im ≠ D
  ne4 : Pt ≠ Dk
  ne5 : Pt ≠ D
theorem LnsAt.mod {σ σ' : St} {W : List Addr} {Ld its} (x : LnsAt σ Ld its) (m : Mod W σ σ') (h : ∀ b ∈ W, ∀ ep es, σ b ≠ some (.sdict ep es)) : LnsAt σ' Ld its := by
  obtain ⟨ep, ls, h1, h2, h3⟩ := x
  refine ⟨ep, ls, m _ _ (fun q => h _ q _ _ h1) h1, h2, fun k hk => ?_⟩
  obtain ⟨a, ep', mm, a1, a2, a3⟩ := h3 k hk
  exact ⟨a, ep', mm, a1, m _ _ (fun q => h _ q _ _ a2) a2, a3⟩
set_option maxHeartbeats 2000000 in
theorem step_sig (hG : IsG G) (R : Room A 60) {Dk D Im Ld Pt c : Addr} {cells : List Int} {its : List It} {ps : List Str} {B : Nat} {f : Addr} {cd : Value} (S : Lay1 σ Dk D Im Ld Pt c cells its ps B) (hB : B ≤ 800000) (h6 : its.length < 6)
    (hs : Sub [("deck", .ref Dk), ("items", .ref Im), ("lines", .ref Ld), ("parts", .ref Pt), ("k", .int (its.length : Nat))] ρ) :
    SV G A (envX "law" (fScope (topAt 14)) L f cd [("spot", c)]) ρ σ (execs (forBody (lawAt 2)) (envX "law" (fScope (topAt 14)) L f cd [("spot", c)]))
      (fun φ ρ' σ' => φ = .next ∧ Sub [("deck", .ref Dk), ("items", .ref Im), ("lines", .ref Ld), ("parts", .ref Pt)] ρ' ∧ ∃ its' ps', its'.length = its.length + 1 ∧ Lay1 σ' Dk D Im Ld Pt c cells its' ps' (B + 3)) never := by
  refine SV.sub ?_ hs
  obtain ⟨gd1, gd2⟩ := G_direct hG
  obtain ⟨bl1, bl2⟩ := B_list hG
  have hlet := G_letters hG
  have F := S.chn.facts
  refine sv_cons (sv_AssignTup (ev_Call (ev_global gd1 (fun _ => .glob _ rfl) ⟨_, rfl, gd2, lv_cons (ev_local (x := "deck") (lv_cons (ev_local (x := "parts") (lv_cons (ev_local (x := "k") (lv_nil ?_))))))⟩)))
  refine c_ldirect hG (R.le (by omega : 0 + 3 ≤ 60)) S.deck (by omega) h6 S.pt (Nat.le_trans F.psl (by omega)) S.ne4 S.ne5 fun p s ps' σ₁ dok m₁ H₁ P₁ => ?_
  refine ts_Tuple R.handled (ds := [.str p, .tup (s.map .str)]) (tl_cons (ts_Name (ts_local (tl_cons (ts_Name (ts_local (tl_nil ?_)))))))
  have hka := lett_at its.length h6
  have ib : ∀ i : Int, -(2 ^ 64) < i → i < 2 ^ 64 → ∀ j, IntMulOk i j := fun i a b j => .of_left (intBits_le_64 a b)
  have I₁ : σ₁ Im = some (.list (its.map It.V)) := m₁ _ _ (by simp [S.ne1, S.ne2]) S.im
  have e₁ : σ₁ c = some (.cell none) := m₁ _ _ (fun q => by
    simp only [List.mem_cons, List.mem_nil_iff, or_false] at q
    rcases q with rfl | rfl
    · obtain ⟨_, _, _, h3, _⟩ := S.deck; rw [S.cel] at h3; cases h3
    · have := S.pt; rw [S.cel] at this; cases this) S.cel
  have N₁ : LnsAt σ₁ Ld its := S.lns.mod m₁ fun b hb ep es q => by
    simp only [List.mem_cons, List.mem_nil_iff, or_false] at hb
    rcases hb with rfl | rfl
    · obtain ⟨_, _, _, h3, _⟩ := S.deck; rw [q] at h3; cases h3
    · have := S.pt; rw [q] at this; cases this
  refine sv_cons (sv_Expr (ev_MCall (ev_local (x := "items") (gm_list PySem.F.slot_list_append PySem.F.type_list_append I₁ ⟨.builtin _, lv_cons (ev_Tuple (lv_cons (ev_str (lv_cons (ev_BinOp (ev_int (ev_local (x := "k") (op_mul_int (ib _ (by decide) (by decide) _) ?_))))))))⟩))))
  refine lv_cons (ev_Tuple (lv_cons (ev_Subscript (ev_global hlet (fun _ => .str _ _) (ev_local (x := "k") (op_item_str (i := (its.length : Int)) (by omega) (by omega) hka ?_))))))
  refine lv_nil ⟨len_ok rfl, lv_cons (ev_bool (lv_cons (ev_str (lv_cons (ev_local (x := "parent") (lv_cons (ev_local (x := "supers") (lv_cons (ev_Tuple (lv_nil ⟨len_ok rfl, lv_cons (ev_Tuple (lv_nil ⟨len_ok rfl, lv_nil ⟨len_ok rfl, ?_⟩⟩))⟩))))))))))⟩
  refine lv_nil (opc_append I₁ (by rw [List.length_map, sizeLine_eq]; omega) ⟨rfl, ?_⟩)
  have hv : its.map It.V ++ [V.tup [.str "sig", .int (10 * (its.length : Int)), .tup [.str ⟨#[(("ABCDEF" : Str).cps[its.length]?).getD 0]⟩], .bool false, .str "", .str p, .tup (s.map .str), .tup [], .tup []]] = (its ++ [itOf its.length p s]).map It.V := by
    rw [List.map_append]; rfl
  rw [hv]
  have I₂ : (σ₁.set Im (.list ((its ++ [itOf its.length p s]).map It.V))) Im = some (.list ((its ++ [itOf its.length p s]).map It.V)) := St.set_same ..
  have P₂ : (σ₁.set Im (.list ((its ++ [itOf its.length p s]).map It.V))) Pt = some (.list (ps'.map .str)) := St.keep S.ne1.symm P₁
  have H₂ : Deck (σ₁.set Im (.list ((its ++ [itOf its.length p s]).map It.V))) Dk D cells (B + 3) := by
    obtain ⟨pos, q1, q2, q3, q4, q5⟩ := H₁
    exact ⟨pos, q1, q2, St.keep S.ne2.symm q3, St.keep S.ne3.symm q4, q5⟩
  have e₂ : (σ₁.set Im (.list ((its ++ [itOf its.length p s]).map It.V))) c = some (.cell none) := St.keep (fun q => by rw [q, I₁] at e₁; cases e₁) e₁
  have N₂ : LnsAt (σ₁.set Im (.list ((its ++ [itOf its.length p s]).map It.V))) Ld its := N₁.mod (W := [Im]) ((Mod.refl _ _).set (by simp)) fun b hb ep es q => by
    rw [List.mem_singleton] at hb; subst hb; rw [I₁] at q; cases q
  clear I₁ P₁ H₁ e₁ N₁ m₁ hv
  generalize σ₁.set Im (.list ((its ++ [itOf its.length p s]).map It.V)) = σ₂ at *
  have chn' : Chn (its ++ [itOf its.length p s]) ps' := .snoc S.chn h6 dok
  have F' := chn'.facts
  refine sv_cons (sv_AssignSub (ev_Dict fun Da ep hDa => pv_cons (ev_Subscript (ev_global hlet (fun _ => .str _ _) (ev_local (x := "k") (op_item_str (i := (its.length : Int)) (by omega) (by omega) hka ⟨_, rfl, ?_⟩))))))
  refine ev_bool (pv_nil ⟨St.set_same .., fun ep' => ?_⟩)
  refine ev_local (x := "lines") (ev_Subscript (ev_global hlet (fun _ => .str _ _) (ev_local (x := "k") (op_item_str (i := (its.length : Int)) (by omega) (by omega) hka ?_))))
  obtain ⟨epl, ls, g1, g2, g3⟩ := N₂
  have hLn : ls.length ≤ 6 := by have := congrArg List.length g2; rw [List.length_map, List.length_map, List.length_range] at this; omega
  have hDL : Da ≠ Ld := fun q => by rw [q, g1] at hDa; cases hDa
  have hkn : lett its.length ∉ ls.map (·.1) := fun q => by
    rw [g2] at q
    obtain ⟨j, hj, e⟩ := List.mem_map.mp q
    rw [List.mem_range] at hj
    have := lett_inj (by omega) (by omega) e; omega
  have hvm : vmerge [] [((⟨#[(("ABCDEF" : Str).cps[its.length]?).getD 0]⟩ : Str), V.bool true)] = [(lett its.length, V.bool true)] := rfl
  rw [hvm]
  have l₃ : Le σ₂ ((σ₂.set Da (.sdict ep [])).set Da (.sdict ep' [(lett its.length, V.bool true)])) := (Le.set hDa).setL hDa
  refine set_sdict (l₃ _ _ g1) (by rw [sizeLine_eq]; omega) fun ep'' => ?_
  have hvp : vput ls (⟨#[(("ABCDEF" : Str).cps[its.length]?).getD 0]⟩ : Str) (.ref Da) = ls ++ [(lett its.length, .ref Da)] := by
    unfold vput
    have e : ls.any (fun kv => decide (kv.1 = (⟨#[(("ABCDEF" : Str).cps[its.length]?).getD 0]⟩ : Str))) = false := by
      rw [List.any_eq_false]
      intro q hq
      simp only [decide_eq_true_eq]
      exact fun e => hkn (List.mem_map.mpr ⟨q, hq, e⟩)
    rw [e, if_neg (by decide)]; rfl
  rw [hvp]
  have mL : Mod [Ld] σ₂ (((σ₂.set Da (.sdict ep [])).set Da (.sdict ep' [(lett its.length, V.bool true)])).set Ld (.sdict ep'' (ls ++ [(lett its.length, .ref Da)]))) := l₃.mod.set (by simp)
  have gD : (((σ₂.set Da (.sdict ep [])).set Da (.sdict ep' [(lett its.length, V.bool true)])).set Ld (.sdict ep'' (ls ++ [(lett its.length, .ref Da)]))) Da = some (.sdict ep' [(lett its.length, V.bool true)]) := St.keep hDL (St.set_same ..)
  have gL : (((σ₂.set Da (.sdict ep [])).set Da (.sdict ep' [(lett its.length, V.bool true)])).set Ld (.sdict ep'' (ls ++ [(lett its.length, .ref Da)]))) Ld = some (.sdict ep'' (ls ++ [(lett its.length, .ref Da)])) := St.set_same ..
  generalize (((σ₂.set Da (.sdict ep [])).set Da (.sdict ep' [(lett its.length, V.bool true)])).set Ld (.sdict ep'' (ls ++ [(lett its.length, .ref Da)]))) = σ₃ at *
  have sl : s.length ≤ 2 := by cases dok <;> simp
  refine sv_cons (sv_For PassesOwn.never (ie_list R.handled (ev_BinOp (ev_det2 (fun d σ' => ∃ Bq, d = .ref Bq ∧ σ' Bq = some (.list ((if p = "" then [] else [p]).map .str)) ∧ Le σ₃ σ') ?_ ?_))))
  · refine ev_IfExp (bv_Compare (ev_local (x := "parent") (ev_str (op_ne_str ⟨_, rfl, ?_⟩))))
    by_cases q : p = ""
    · rw [decide_eq_true q, if_pos q, if_neg (by decide)]
      exact ev_List (lv_nil ⟨len_ok rfl, fun B hB => ⟨B, rfl, St.set_same .., Le.set hB⟩⟩)
    · rw [decide_eq_false q, if_neg q, if_pos (by decide)]
      exact ev_List (lv_cons (ev_local (x := "parent") (lv_nil ⟨len_ok rfl, fun B hB => ⟨B, rfl, St.set_same .., Le.set hB⟩⟩)))
  · rintro _ σ₄ ⟨Bq, rfl, hBq, l₄⟩
    refine ev_Call (ev_builtin bl1 bl2 rfl ⟨_, rfl, .type _, lv_cons (ev_local (x := "supers") (d := .tup (s.map .str)) (lv_nil (opc_list_tup (by rw [List.length_map, sizeLine_eq]; omega) fun Sq hSq => ?_)))⟩)
    refine op_add_list (Le.set hSq _ _ hBq) (St.set_same ..) (by rw [List.length_map, List.length_map, sizeLine_eq]; split <;> simp <;> omega) fun T hT => ?_
    refine ⟨T, _, rfl, St.set_same .., ?_⟩
    have l₅ : Le σ₃ ((σ₄.set Sq (.list (s.map V.str))).set T (.list ((if p = "" then [] else [p]).map V.str ++ s.map V.str))) := (l₄.trans (Le.set hSq)).trans (Le.set hT)
    have gT : ((σ₄.set Sq (.list (s.map V.str))).set T (.list ((if p = "" then [] else [p]).map V.str ++ s.map V.str))) T = some (.list ((itOf its.length p s).direct.map V.str)) := by
      rw [St.set_same]; unfold It.direct itOf; rw [List.map_append]
    have edr : ((if p = "" then [] else [p]).map V.str ++ s.map V.str) = (itOf its.length p s).direct.map V.str := by unfold It.direct itOf; rw [List.map_append]
    generalize ((σ₄.set Sq (.list (s.map V.str))).set T (.list ((if p = "" then [] else [p]).map V.str ++ s.map V.str))) = σ₅ at l₅ gT ⊢
    rw [edr]
    have hTD : T ≠ Da := fun q => by have := l₅ _ _ gD; rw [← q, gT] at this; cases this
    refine ⟨fun j ρ' σ' => Sub [("deck", .ref Dk), ("items", .ref Im), ("lines", .ref Ld), ("parts", .ref Pt), ("k", .int (its.length : Nat))] ρ' ∧ Mod [Da] σ₅ σ' ∧ ∃ ep m, σ' Da = some (.sdict ep m) ∧ (m.map (·.1)).Nodup ∧ (∀ y ∈ m.map (·.1), ∃ i, i < 6 ∧ y = lett i) ∧
      ∀ y, y ∈ m.map (·.1) ↔ y = lett its.length ∨ ∃ d ∈ (itOf its.length p s).direct.take j, relL its d y,
      ⟨⟨rfl, rfl, rfl, rfl, rfl, trivial⟩, Mod.refl _ _, ep', _, l₅ _ _ gD, by simp, fun y hy => ⟨its.length, h6, by simpa using hy⟩, fun y => by simp⟩, fun j ρ σ' h => h.2.1 _ _ (by simpa using hTD) gT, ?_, ?_⟩
    · rintro j ρ₂ σ₆ hj ⟨hs₂, m₆, ep₆, m, q1, q2, q3, q4⟩
      rw [List.length_map] at hj
      refine TS.sub ?_ hs₂
      dsimp only
      rw [getD_mapE _ _ _ hj]
      obtain ⟨i, hi, hd⟩ := F'.dir (k := its.length) (by simp) (y := (itOf its.length p s).direct[j]) (by simp)
      rw [hd]
      obtain ⟨a, epa, ma, a1, a2, a3, a4, a5, a6⟩ := g3 i hi
      have haD : a ≠ Da := fun q => by rw [q, hDa] at a2; cases a2
      have ga : σ₆ a = some (.sdict epa ma) := m₆ _ _ (by simpa using haD) (l₅ _ _ (mL _ _ (by simpa using a3) a2))
      have gL₆ := m₆ _ _ (by simpa using hDL.symm) (l₅ _ _ gL)
      have get1 : Loc.get (ls ++ [(lett its.length, V.ref Da)]) (lett its.length) = some (.ref Da) := by
        rw [loc_app, loc_none hkn]; simp [Loc.get]
      have get2 : Loc.get (ls ++ [(lett its.length, V.ref Da)]) (lett i) = some (.ref a) := by rw [loc_app, a1]; rfl
      have lm : m.length ≤ 6 := by
        have := nodup_le (ys := (List.range 6).map lett) q2 fun y hy => by obtain ⟨i, hi, rfl⟩ := q3 y hy; exact List.mem_map.mpr ⟨i, List.mem_range.mpr hi, rfl⟩
        simpa using this
      have lma : ma.length ≤ 6 := by
        have := nodup_le (ys := (List.range 6).map lett) a4 fun y hy => by obtain ⟨i, hi, rfl⟩ := a5 y hy; exact List.mem_map.mpr ⟨i, List.mem_range.mpr hi, rfl⟩
        simpa using this
      refine ts_Name (ts_local (gen_k fun kk hkk => ?_))
      refine sv_cons (sv_Expr (ev_MCall (ev_Subscript (ev_local (x := "lines") (ev_Subscript (ev_global hlet (fun _ => .str _ _) (ev_local (x := "k") (op_item_str (i := (its.length : Int)) (by omega) (by omega) hka ?_))))))))
      refine op_item_sdict gL₆ get1 (gm_dict PySem.F.slot_dict_update PySem.F.type_dict_update q1 ⟨.builtin _, lv_cons (ev_Subscript (ev_local (x := "lines") (ev_local (x := "other") (op_item_sdict gL₆ get2 ?_))))⟩)
      refine lv_nil (opc_update q1 ga haD.symm (by rw [sizeLine_eq]; omega) fun ep₇ => ⟨rfl, ?_⟩)
      refine sv_nilK hkk ⟨⟨rfl, rfl, rfl, rfl, rfl, trivial⟩, m₆.set (by simp), ep₇, _, St.set_same .., vmerge_nodup _ q2, fun y hy => ?_, fun y => ?_⟩
      · rcases (vmerge_mem _ _ _).mp hy with hy | hy
        · exact q3 y hy
        · exact a5 y hy
      · rw [vmerge_mem, q4, a6, List.take_add_one, List.getElem?_eq_getElem hj, Option.toList_some, hd]
        constructor
        · rintro ((h | ⟨d, h1, h2⟩) | h)
          · exact .inl h
          · exact .inr ⟨d, List.mem_append_left _ h1, h2⟩
          · exact .inr ⟨_, List.mem_append_right _ (by simp), h⟩
        · rintro (h | ⟨d, h1, h2⟩)
          · exact .inl (.inl h)
          · rcases List.mem_append.mp h1 with h1 | h1
            · exact .inl (.inr ⟨d, h1, h2⟩)
            · rw [List.mem_singleton] at h1; subst h1; exact .inr h2
    · rintro ρ₂ σ₆ ⟨hs₂, m₆, ep₆, m, q1, q2, q3, q4⟩
      rw [List.length_map, List.take_length] at q4
      have m26 : Mod [Ld, Da] σ₂ σ₆ := ((mL.sub (by simp)).trans l₅.mod).trans (m₆.sub (by simp))
      have nD : ∀ {a o}, σ₂ a = some o → a ≠ Da := fun e q => by rw [q, hDa] at e; cases e
      have nL : ∀ {a o}, σ₂ a = some o → (∀ ep es, o ≠ .sdict ep es) → a ≠ Ld := fun e h q => by rw [q, g1] at e; cases e; exact h _ _ rfl
      have keep : ∀ {a o}, σ₂ a = some o → (∀ ep es, o ≠ .sdict ep es) → σ₆ a = some o := fun e h => m26 _ _ (by simp [nD e, nL e h]) e
      refine sv_nil ⟨rfl, ⟨hs₂.1, hs₂.2.1, hs₂.2.2.1, hs₂.2.2.2.1, trivial⟩, _, ps', by simp, chn', ?_, keep I₂ (fun _ _ q => by cases q), keep P₂ (fun _ _ q => by cases q), ?_, keep e₂ (fun _ _ q => by cases q), S.ne1, S.ne2, S.ne3, S.ne4, S.ne5⟩
      · obtain ⟨pos, b1, b2, b3, b4, b5⟩ := H₂
        exact ⟨pos, b1, b2, keep b3 (fun _ _ q => by cases q), keep b4 (fun _ _ q => by cases q), b5⟩
      · refine ⟨ep'', _, m₆ _ _ (by simpa using hDL.symm) (l₅ _ _ gL), ?_, fun k hk => ?_⟩
        · rw [List.map_append, g2, List.length_append, List.length_singleton, List.range_succ, List.map_append]; rfl
        · rw [List.length_append, List.length_singleton] at hk
          by_cases hk' : k < its.length
          · obtain ⟨a, epa, ma, a1, a2, a3, a4, a5, a6⟩ := g3 k hk'
            refine ⟨a, epa, ma, by rw [loc_app, a1]; rfl, m26 _ _ (by simp [nD a2, a3]) a2, a3, a4, a5, fun y => ?_⟩
            rw [a6, rel_old F F' hk']
          · obtain rfl : k = its.length := by omega
            refine ⟨Da, ep₆, m, by rw [loc_app, loc_none hkn]; simp [Loc.get], q1, hDL, q2, q3, fun y => ?_⟩
            rw [q4, rel_new F F']
end
end Mine
namespace Mine
def fldL (r : Nat) : Str := (["f", "g", "f", "A", "h", "C"] : List Str).getD r ""
theorem fldL_ok (r : Nat) (h : r < 6) : ([V.str "f", V.str "g", V.str "f", V.str "A", V.str "h", V.str "C"] : List V)[r]? = some (.str (fldL r)) ∧ PyData.strOk (fldL r) = true ∧ (fldL r).length ≤ 1000 := by
  have : r = 0 ∨ r = 1 ∨ r = 2 ∨ r = 3 ∨ r = 4 ∨ r = 5 := by omega
  rcases this with rfl | rfl | rfl | rfl | rfl | rfl <;> exact ⟨rfl, by decide +kernel, by decide +kernel⟩
def rowL (r j k : Nat) : Fd := ⟨fldL r, lett j, "", .tup [.str "name", .int 3, .str "A"], 500 - 7 * (k : Int), -1⟩
section
variable {G : Amb} {A : Around} {env : Env} {L : Addr} {ρ : Loc} {σ : St} {X : Value → Shared → Prop}
set_option maxHeartbeats 2000000 in
theorem step_row (hG : IsG G) (R : Room A 60) {Dk D Im Rw c told Ld : Addr} {cells : List Int} {its : List It} {ps : List Str} {fs : List Fd} {B : Nat} {f : Addr} {cd : Value} (HD : Deck σ Dk D cells B) (hB : B ≤ 800000) (F : ChnF its ps) (h0 : 0 < its.length)
    (I : σ Im = some (.list (its.map It.V))) (W : σ Rw = some (.list (fs.map Fd.V))) (X₀ : RowsL its fs) (hk : fs.length < 100) (n1 : Im ≠ Dk) (n2 : Rw ≠ Dk) (n3 : Rw ≠ D)
    (hs : Sub [("deck", .ref Dk), ("items", .ref Im), ("rows", .ref Rw), ("told", .ref told), ("lines", .ref Ld), ("k", .int (fs.length : Nat))] ρ) :
    SV G A (envX "law" (fScope (topAt 14)) L f cd [("spot", c)]) ρ σ (execs (forBody (lawAt 5)) (envX "law" (fScope (topAt 14)) L f cd [("spot", c)]))
      (fun φ ρ' σ' => φ = .next ∧ Sub [("deck", .ref Dk), ("items", .ref Im), ("rows", .ref Rw), ("told", .ref told), ("lines", .ref Ld)] ρ' ∧ ∃ fs', fs'.length = fs.length + 1 ∧ RowsL its fs' ∧ Deck σ' Dk D cells (B + 2) ∧ σ' Rw = some (.list (fs'.map Fd.V)) ∧ Mod [Dk, Rw] σ σ') never := by
  refine SV.sub ?_ hs
  obtain ⟨bn1, bn2⟩ := B_len hG
  have hlet := G_letters hG
  have h6 := F.len
  have ib : ∀ i : Int, -(2 ^ 64) < i → i < 2 ^ 64 → ∀ j, IntMulOk i j := fun i a b j => .of_left (intBits_le_64 a b)
  refine sv_cons (sv_Assign (ev_Subscript (ev_Tuple (lv_cons (ev_str (lv_cons (ev_str (lv_cons (ev_str (lv_cons (ev_str (lv_cons (ev_str (lv_cons (ev_str (lv_nil ⟨len_ok rfl, ?_⟩))))))))))))))))
  refine ev_dealt hG (R.le (by omega : 0 + 1 ≤ 60)) HD (by omega) (many := 6) (by decide) (fun k h => ev_local (x := "deck") h) (fun k h => ev_int h) fun r hr σ₁ m₁ H₁ => ?_
  obtain ⟨f1, f2, f3⟩ := fldL_ok r (by omega)
  refine op_item_tup (i := (r : Int)) (d := .str (fldL r)) (by omega) (by omega) f1 ?_
  have I₁ := m₁.at1 I n1
  have W₁ := m₁.at1 W n2
  refine sv_cons (sv_Expr (ev_MCall (ev_local (x := "rows") (gm_list PySem.F.slot_list_append PySem.F.type_list_append W₁ ⟨.builtin _, lv_cons (ev_Tuple (lv_cons (ev_local (x := "field") (lv_cons (ev_Subscript (ev_global hlet (fun _ => .str _ _) ?_))))))⟩))))
  refine ev_dealt hG (R.le (by omega : 0 + 1 ≤ 60)) H₁ (by omega) (many := (its.length : Int)) (by omega) (fun k h => ev_local (x := "deck") h) (fun k h => ?_) fun j hj σ₂ m₂ H₂ => ?_
  · refine ev_Call (ev_builtin bn1 bn2 rfl ⟨_, rfl, .builtin _, lv_cons (ev_local (x := "items") (lv_nil (opc_len_list I₁ (by rw [List.length_map, sizeLine_eq]; omega) ?_)))⟩)
    rw [List.length_map]; exact h
  have hj' : j < its.length := by omega
  have W₂ := m₂.at1 W₁ n2
  refine op_item_str (i := (j : Int)) (by omega) (by omega) (lett_at j (by omega)) ?_
  refine lv_cons (ev_str (lv_cons (ev_Tuple (lv_cons (ev_str (lv_cons (ev_int (lv_cons (ev_str (lv_nil ⟨len_ok rfl, ?_⟩))))))))))
  refine lv_cons (ev_BinOp (ev_int (ev_BinOp (ev_int (ev_local (x := "k") (op_mul_int (ib _ (by decide) (by decide) _) (op_sub_int ?_)))))))
  refine lv_cons (ev_neg (ev_int ⟨1, rfl, lv_nil ⟨len_ok rfl, lv_nil (opc_append W₂ (by rw [List.length_map, sizeLine_eq]; omega) ⟨rfl, ?_⟩)⟩⟩))
  have hv : fs.map Fd.V ++ [V.tup [.str (fldL r), .str ⟨#[(("ABCDEF" : Str).cps[j]?).getD 0]⟩, .str "", .tup [.str "name", .int 3, .str "A"], .int (500 - 7 * (fs.length : Int)), .int (-1)]] = (fs ++ [rowL r j fs.length]).map Fd.V := by
    rw [List.map_append]; rfl
  rw [hv]
  refine sv_nil ⟨rfl, ⟨rfl, rfl, rfl, rfl, rfl, trivial⟩, fs ++ [rowL r j fs.length], by simp, ⟨by simp; omega, fun g hg => ?_, fun g hg => ?_, fun g hg => ?_⟩, ?_, St.set_same .., ((m₁.trans m₂).sub (by simp)).set (by simp)⟩
  · rcases List.mem_append.mp hg with hg | hg
    · exact X₀.name g hg
    · rw [List.mem_singleton] at hg; subst hg; exact ⟨j, hj', rfl⟩
  · rcases List.mem_append.mp hg with hg | hg
    · exact X₀.fl g hg
    · rw [List.mem_singleton] at hg; subst hg; exact ⟨f3, by show (1 : Nat) ≤ 1000; decide⟩
  · rcases List.mem_append.mp hg with hg | hg
    · exact X₀.fit g hg
    · rw [List.mem_singleton] at hg; subst hg
      refine (Fit.tup (n := 1) fun d hd => ?_).le (by decide)
      simp only [List.mem_cons, List.mem_nil_iff, or_false] at hd
      rcases hd with rfl | rfl | rfl | rfl | rfl | rfl
      · exact Fit.str f2
      · exact Fit.str (lett_ok j (by omega))
      · exact Fit.str (show PyData.strOk ("" : Str) = true by decide +kernel)
      · refine Fit.tup (n := 0) fun d hd => ?_
        simp only [List.mem_cons, List.mem_nil_iff, or_false] at hd
        rcases hd with rfl | rfl | rfl
        · exact Fit.str (by decide +kernel)
        · exact Fit.int _
        · exact Fit.str (by decide +kernel)
      · exact Fit.int _
      · exact Fit.int _
  · obtain ⟨pos, b1, b2, b3, b4, b5⟩ := H₂
    exact ⟨pos, b1, b2, St.keep n2.symm b3, St.keep n3.symm b4, b5⟩
end
end Mine
namespace Mine
theorem Loc.put_length {x : Str} {d : V} : ∀ {ps : Loc} {e : V}, Loc.get ps x = some e → (Loc.put ps x d).length = ps.length
  | [], e, h => by cases h
  | (y, t) :: r, e, h => by
    unfold Loc.put
    unfold Loc.get at h
    split
    · rfl
    · rename_i q
      rw [if_neg q] at h
      rw [List.length_cons, List.length_cons, Loc.put_length h]
theorem Loc.put_mem {x : Str} {d : V} {p : Str × V} : ∀ {ps : Loc}, p ∈ Loc.put ps x d → p ∈ ps ∨ p.1 = x
  | [], h => by
    rw [Loc.put, List.mem_singleton] at h; rw [h]; exact .inr rfl
  | (y, t) :: r, h => by
    unfold Loc.put at h
    split at h
    · rename_i q
      rcases List.mem_cons.mp h with h | h
      · rw [h]; exact .inr q.symm
      · exact .inl (List.mem_cons_of_mem _ h)
    · rcases List.mem_cons.mp h with h | h
      · rw [h]; exact .inl List.mem_cons_self
      · exact (Loc.put_mem h).imp (List.mem_cons_of_mem _) id
theorem loc_some {x : Str} {a : Loc} : (Loc.get a x).isSome = true ↔ x ∈ a.map (·.1) := by
  induction a with
  | nil => simp [Loc.get]
  | cons p r ih =>
    obtain ⟨y, t⟩ := p
    show (if x = y then some t else Loc.get r x).isSome = true ↔ _
    rw [List.map_cons, List.mem_cons]
    split
    · rename_i q; simp [q]
    · rename_i q; rw [ih]; simp [q]
theorem Self.uniq {σ : St} {a : Addr} {ps ps' : List (Str × V)} (x : Self σ a ps) (y : Self σ a ps') : ps = ps' := by
  obtain ⟨dx, p, q, _⟩ := x
  obtain ⟨dx', p', q', _⟩ := y
  rw [p] at p'; cases p'
  rw [q] at q'; cases q'; rfl
theorem LnsAt.lin {σ : St} {Ld : Addr} {its : List It} (x : LnsAt σ Ld its) : Lin σ Ld (domL its) (relL its) := by
  obtain ⟨ep, ls, h1, h2, h3⟩ := x
  refine ⟨ep, ls, h1, fun y => ?_, fun y hy => ?_⟩
  · rw [loc_some, h2, List.mem_map]
    constructor
    · rintro ⟨k, hk, rfl⟩; exact ⟨k, List.mem_range.mpr hk, rfl⟩
    · rintro ⟨k, hk, rfl⟩; exact ⟨k, List.mem_range.mp hk, rfl⟩
  · obtain ⟨k, hk, rfl⟩ := hy
    obtain ⟨a, ep', m, a1, a2, _, _, _, a6⟩ := h3 k hk
    exact ⟨a, ep', m, a1, a2, fun z => by rw [loc_some, a6]⟩
theorem Lin.mod {σ σ' : St} {W : List Addr} {Ld dom rel} (x : Lin σ Ld dom rel) (m : Mod W σ σ') (h : ∀ b ∈ W, ∀ ep es, σ b ≠ some (.sdict ep es)) : Lin σ' Ld dom rel := by
  obtain ⟨ep, ls, h1, h2, h3⟩ := x
  refine ⟨ep, ls, m _ _ (fun q => h _ q _ _ h1) h1, h2, fun k hk => ?_⟩
  obtain ⟨a, ep', mm, a1, a2, a3⟩ := h3 k hk
  exact ⟨a, ep', mm, a1, m _ _ (fun q => h _ q _ _ a2) a2, a3⟩
structure LapS (σ : St) (told Ld c : Addr) (es : Ens) (its : List It) : Prop where
  self : ∃ ps E ep F, Self σ told ps ∧ ps.length ≤ 5 ∧ Loc.get ps "entries" = some (.ref E) ∧ σ E = some (.sdict ep (vents es)) ∧ Loc.get ps "own_fields" = some F
  lin : Lin σ Ld (domL its) (relL its)
  cel : ∃ d, σ c = some (.cell d)
theorem LapS.le {σ σ' : St} {told Ld c es its} (x : LapS σ told Ld c es its) (l : Le σ σ') : LapS σ' told Ld c es its := by
  obtain ⟨⟨ps, E, ep, F, a1, a2, a3, a4, a5⟩, b, d, hd⟩ := x
  exact ⟨⟨ps, E, ep, F, a1.le l, a2, a3, l _ _ a4, a5⟩, b.le l, d, l _ _ hd⟩
theorem LapS.cell {σ : St} {told Ld c es its} (x : LapS σ told Ld c es its) (d : Option V) : LapS (σ.set c (.cell d)) told Ld c es its := by
  obtain ⟨⟨ps, E, ep, F, a1, a2, a3, a4, a5⟩, b, d0, hd⟩ := x
  have m : Mod [c] σ (σ.set c (.cell d)) := (Mod.refl _ _).set (by simp)
  have only : ∀ o, o ∈ [c] → σ o = some (.cell d0) := fun o h => by rw [List.mem_singleton.mp h]; exact hd
  refine ⟨⟨ps, E, ep, F, a1.mod m (fun o h C dx q => by rw [only o h] at q; cases q) (fun o h C q => by rw [only o h] at q; cases q), a2, a3, m _ _ (fun h => by rw [only _ h] at a4; cases a4) a4, a5⟩, b.mod m (fun o h _ _ q => by rw [only o h] at q; cases q), ⟨_, St.set_same ..⟩⟩
theorem LapS.ents {σ : St} {told Ld c es its} (x : LapS σ told Ld c es its) : Ents σ told es := let ⟨ps, E, ep, F, a1, a2, a3, a4, a5⟩ := x.self; ⟨ps, E, ep, a1, a3, a4⟩
structure LapF (σ : St) (told Ld c : Addr) (es : Ens) (its : List It) (Rw : Addr) (fs : List Fd) : Prop where
  lap : LapS σ told Ld c es its
  own : HasL σ told "own_fields" (fs.map Fd.V)
  rows : σ Rw = some (.list (fs.map Fd.V))
theorem LapF.le {σ σ' : St} {told Ld c es its Rw fs} (x : LapF σ told Ld c es its Rw fs) (l : Le σ σ') : LapF σ' told Ld c es its Rw fs := ⟨x.lap.le l, x.own.le l, l _ _ x.rows⟩
theorem LapF.cell {σ : St} {told Ld c es its Rw fs} (x : LapF σ told Ld c es its Rw fs) (d : Option V) : LapF (σ.set c (.cell d)) told Ld c es its Rw fs := by
  obtain ⟨d0, hd⟩ := x.lap.cel
  obtain ⟨ps, l, a1, a2, a3⟩ := x.own
  have m : Mod [c] σ (σ.set c (.cell d)) := (Mod.refl _ _).set (by simp)
  have only : ∀ o, o ∈ [c] → σ o = some (.cell d0) := fun o h => by rw [List.mem_singleton.mp h]; exact hd
  exact ⟨x.lap.cell d, ⟨ps, l, a1.mod m (fun o h C dx q => by rw [only o h] at q; cases q) (fun o h C q => by rw [only o h] at q; cases q), a2, m _ _ (fun h => by rw [only _ h] at a3; cases a3) a3⟩, m _ _ (fun h => by have := x.rows; rw [only _ h] at this; cases this) x.rows⟩
section
variable {G : Amb} {A : Around} {env : Env} {L : Addr} {ρ : Loc} {σ : St} {X : Value → Shared → Prop} {k : V → St → Prop}
def PostE (G : Amb) (L : Addr) (ρ : Loc) (σ : St) (s : Shared) (k : V → St → Prop) (v : Value) (s' : Shared) : Prop :=
  ∃ h' tk d σ', s' = { s with heap := h', toks := tk } ∧ ExtS L σ s.heap h' σ' ∧ S G L ρ σ' h' ∧ Rep h' v d ∧ k d σ'
def EE (G : Amb) (A : Around) (env : Env) (ρ : Loc) (σ : St) (e : Expr) (k : V → St → Prop) (X : Value → Shared → Prop) : Prop :=
  ∀ s, S G env.locals ρ σ s.heap → wpAny (model G.prog G.w) A (eval e env) (PostE G env.locals ρ σ s k) X s
theorem PostE.trans {σ₁ : St} {s : Shared} {h₁ tk v s'} (x : ExtS L σ s.heap h₁ σ₁) (y : PostE G L ρ σ₁ { s with heap := h₁, toks := tk } k v s') : PostE G L ρ σ s k v s' :=
  let ⟨h', tk', d, σ', a, b, c, e, r⟩ := y; ⟨h', tk', d, σ', a, x.trans b, c, e, r⟩
theorem ee_Call {func : Expr} {e : Expr} {rest : List Expr} {pos : Pos} (h : EV G A env ρ σ func (fun d σ₁ => ∃ f, d = .glob f ∧ CK G f ∧ LV G A env ρ σ₁ pos (e :: rest) (fun ds σ₂ => ∀ s vs, S G env.locals ρ σ₂ s.heap → RepAll s.heap vs ds → wpAny (model G.prog G.w) A (call f vs) (PostE G env.locals ρ σ₂ s k) X s) X) X)
    (he : eval (.Call func (e :: rest) [] pos) env = (do callWith pos (← eval func env) [] (backTo pos (starEach (e :: rest) env)) (backToKw pos (keywordEach [] env))) := by rfl)
    (hs : starEach (e :: rest) env = (false, eval e env) :: starEach rest env := by rfl) (hplain : (backTo pos (starEach rest env)).any (·.1) = false := by rfl) :
    EE G A env ρ σ (.Call func (e :: rest) [] pos) k X := fun s x => by
  refine Call_ (wpAny_mono (h s x) (fun v s₁ p => ?_) fun _ _ e => e) he
  refine p.elim fun h₁ t₁ d σ₁ E₁ x₁ r₁ q₉ => ?_; obtain ⟨f, rfl, hf, q⟩ := q₉
  cases r₁
  have h' := q { s with heap := h₁, toks := t₁ } x₁
  rw [hs] at h' ⊢
  refine callWith_of (P := G.K.In) (by show ((false || (backTo pos (starEach rest env)).any (·.1)) || false) = false; rw [hplain]; rfl) (hf.looks) (evalArgs_plain (wpAny_mono h' (fun vs s₂ p => ?_) fun _ _ e => e))
  refine p.elim fun h₂ t₂ ds σ₂ E₂ x₂ r₂ q₂ => ?_
  exact ⟨x₂.In, wpAny_mono (q₂ _ vs x₂ r₂) (fun _ _ q => PostE.trans (E₁.trans E₂).toS q) fun _ _ e => e⟩
theorem sv_IfOr {l r : Expr} {op : CmpOp} {rest : List Expr} {p₁ p₂ pos : Pos} {body orelse : List Stmt} {k : AF → Loc → St → Prop}
    (h : EE G A env ρ σ l (fun a σ₁ => EV G A env ρ σ₁ r (fun b σ₂ => Op2 G A env.locals ρ σ₂ (compareOp op) a b (fun d σ₃ => d = .bool false ∧
      BV G A env ρ σ₃ (isTrue (.BoolOp .Or rest p₂) env (eval (.BoolOp .Or (.Compare l [op] [r] p₁ :: rest) p₂) env)) (fun b σ' => if b = true then SV G A env ρ σ' (execs body env) k X else SV G A env ρ σ' (execs orelse env) k X) X) X) X) X)
    (hm : behindInMarks op r = false := by with_unfolding_all rfl) : SV G A env ρ σ (exec (.If (.BoolOp .Or (.Compare l [op] [r] p₁ :: rest) p₂) body orelse pos) env) k X := fun s x => by
  refine wpAny_If (isTrue_or (wpAny_isTrue_Compare1 ?_ hm))
  refine wpAny_mono (h s x) (fun u s₁ p => ?_) fun _ _ e => e
  obtain ⟨h₁, t₁, a, σ₁, rfl, E₁, x₁, r₁, q₁⟩ := p
  refine wpAny_mono (q₁ _ x₁) (fun v s₂ p => ?_) fun _ _ e => e
  refine p.elim fun h₂ t₂ b σ₂ E₂ x₂ r₂ q₂ => ?_
  refine wpAny_mono (q₂ _ u v x₂ (r₁.mono E₂.tup) r₂) (fun c s₃ p => ?_) fun _ _ e => e
  refine p.elim fun h₃ t₃ d σ₃ E₃ x₃ r₃ q₉ => ?_; obtain ⟨rfl, q₃⟩ := q₉
  cases r₃
  refine wpAny_truthy_bool ?_
  rw [if_neg (by decide)]
  refine wpAny_mono (q₃ _ x₃) (fun b s₄ p => ?_) fun _ _ e => e
  refine p.elim fun h₄ t₄ d σ₄ E₄ x₄ r₄ q₉ => ?_; obtain ⟨rfl, q₄⟩ := q₉
  have E : ExtS env.locals σ s.heap h₄ σ₄ := E₁.trans ((E₂.trans E₃).trans E₄).toS
  cases b with
  | true => exact wpAny_mono (q₄ _ x₄) (fun _ _ q => PostS.trans E q) fun _ _ e => e
  | false => exact wpAny_mono (q₄ _ x₄) (fun _ _ q => PostS.trans E q) fun _ _ e => e
end
end Mine
namespace Mine
section
variable {G : Amb} {A : Around} {env : Env} {L : Addr} {ρ : Loc} {σ : St} {X : Value → Shared → Prop}
set_option maxHeartbeats 4000000 in
theorem step_lap (hG : IsG G) (hP : IsP G) (R : Room A 60) {told Ld Rw c f : Addr} {cd : Value} {its : List It} {ps : List Str} {b : Bool} {fs : List Fd}
    (hfr : A.frames = some [envX "law" (fScope (topAt 14)) L f cd [("spot", c)]]) (F : ChnF its ps) (W : WF (entsOf ((turned b its).map Item.sig)))
    (S₀ : LapS σ told Ld c (entsOf ((turned b its).map Item.sig)) its) (X₀ : RowsL its fs) (hR : σ Rw = some (.list (fs.map Fd.V)))
    (hs : Sub [("told", .ref told), ("lines", .ref Ld), ("rows", .ref Rw)] ρ) :
    SV G A (envX "law" (fScope (topAt 14)) L f cd [("spot", c)]) ρ σ (execs (forBody (lawAt 6)) (envX "law" (fScope (topAt 14)) L f cd [("spot", c)]))
      (fun φ ρ' σ' => φ = .ret (.bool true) ∨ (φ = .next ∧ ∃ Rw' fs', Sub [("told", .ref told), ("lines", .ref Ld), ("rows", .ref Rw')] ρ' ∧ LapS σ' told Ld c (entsOf ((turned b its).map Item.sig)) its ∧ RowsL its fs' ∧ σ' Rw' = some (.list (fs'.map Fd.V)) ∧ fs'.length < fs.length)) never := by
  refine SV.sub ?_ hs
  obtain ⟨bl1, bl2⟩ := B_list hG
  obtain ⟨gf1, gf2⟩ := G_first hG
  obtain ⟨gr1, gr2⟩ := G_refused hG
  have hn : ∀ g ∈ fs, ∃ t, gets (entsOf ((turned b its).map Item.sig)) g.name = some t := fun g hg => by
    have := (F.dom b g.name).mpr (X₀.name g hg)
    cases e : gets (entsOf ((turned b its).map Item.sig)) g.name with
    | none => exact absurd e this
    | some t => exact ⟨t, rfl⟩
  have hbad : ∀ {i g}, Bad (entsOf ((turned b its).map Item.sig)) fs i g ↔ FBad (domL its) (relL its) fs i g := bad_iff F b
  generalize hes : entsOf ((turned b its).map Item.sig) = es at *
  have hln := X₀.len
  have hsz : (fs.map Fd.V).length ≤ sizeLine := by rw [List.length_map, sizeLine_eq]; omega
  obtain ⟨⟨qs, E, ep, Fo, a1, a2, a3, a4, a5⟩, lin₀, dc, hdc⟩ := S₀
  obtain ⟨dx, b1, b2, b3⟩ := a1
  refine sv_cons (sv_AssignAttr (ev_Call (ev_builtin bl1 bl2 rfl ⟨_, rfl, .type _, lv_cons (ev_local (x := "rows") (lv_nil (opc_list_list hR hsz fun Nl hNl => ?_)))⟩)))
  have l₁ : Le σ (σ.set Nl (.list (fs.map Fd.V))) := Le.set hNl
  have gN : (σ.set Nl (.list (fs.map Fd.V))) Nl = some (.list (fs.map Fd.V)) := St.set_same ..
  generalize σ.set Nl (.list (fs.map Fd.V)) = σ₁ at l₁ gN ⊢
  refine ev_local (x := "told") ⟨told, 257, dx, qs, rfl, l₁ _ _ b1, l₁ _ _ b2, K_set hG (by decide), by omega, ?_⟩
  have m₁ : Mod [dx] σ₁ (σ₁.set dx (.attrs (Loc.put qs "own_fields" (.ref Nl)))) := (Mod.refl _ _).set (by simp)
  have gd : (σ₁.set dx (.attrs (Loc.put qs "own_fields" (.ref Nl)))) dx = some (.attrs (Loc.put qs "own_fields" (.ref Nl))) := St.set_same ..
  have nd : ∀ {o : Addr}, o ∈ [dx] → ∀ {x : AObj}, σ₁ o = some x → x = .attrs qs := by
    intro o h x e
    rw [List.mem_singleton.mp h, l₁ _ _ b2] at e; cases e; rfl
  have b1' := m₁ told _ (fun h => by have := nd h (l₁ _ _ b1); cases this) (l₁ _ _ b1)
  have hN₂ := m₁ Nl _ (fun h => by have := nd h gN; cases this) gN
  have hE₂ := m₁ E _ (fun h => by have := nd h (l₁ _ _ a4); cases this) (l₁ _ _ a4)
  have hR₂ := m₁ Rw _ (fun h => by have := nd h (l₁ _ _ hR); cases this) (l₁ _ _ hR)
  have hc₂ := m₁ c _ (fun h => by have := nd h (l₁ _ _ hdc); cases this) (l₁ _ _ hdc)
  have lin₂ := (lin₀.le l₁).mod m₁ fun o h e es q => by have := nd h q; cases this
  generalize σ₁.set dx (.attrs (Loc.put qs "own_fields" (.ref Nl))) = σ₂ at *
  have hps : (Loc.put qs "own_fields" (.ref Nl)).length = qs.length := Loc.put_length a5
  have Se : Self σ₂ told (Loc.put qs "own_fields" (.ref Nl)) := ⟨dx, b1', gd, fun p hp => by
    rcases Loc.put_mem hp with h | h
    · exact b3 p h
    · rw [h]; decide⟩
  have ge : Loc.get (Loc.put qs "own_fields" (.ref Nl)) "entries" = some (.ref E) := by rw [Loc.get_put, if_neg (by decide)]; exact a3
  have go : Loc.get (Loc.put qs "own_fields" (.ref Nl)) "own_fields" = some (.ref Nl) := by rw [Loc.get_put, if_pos rfl]
  have H₂ : LapF σ₂ told Ld c es its Rw fs := ⟨⟨⟨_, E, ep, _, Se, by omega, ge, hE₂, go⟩, lin₂, dc, hc₂⟩, ⟨_, Nl, Se, go, hN₂⟩, hR₂⟩
  generalize Loc.put qs "own_fields" (.ref Nl) = qs' at *
  clear l₁ gN m₁ gd nd b1' hN₂ hE₂ hc₂ b1 b2 b3 a3 a4 a5 lin₀ hdc hNl hR hps Se ge go lin₂ hR₂
  refine sv_cons (sv_AssignCell (ev_Call (ev_global gf1 (fun _ => .glob _ rfl) ⟨_, rfl, gf2, lv_cons (ev_local (x := "rows") (lv_cons (ev_local (x := "lines") (lv_nil ?_))))⟩)))
  refine c_first hG (R.le (by omega : 0 + 2 ≤ 60)) H₂.rows (by omega) H₂.lap.lin (fun g hg => (X₀.fit g hg).le (by decide)) X₀.name (fun σ₃ l₃ m hm hno hb => ⟨(H₂.le l₃).lap.cel, ?_⟩) (fun σ₃ l₃ hno => ⟨(H₂.le l₃).lap.cel, ?_⟩)
  · -- refused
    have H₃ := (H₂.le l₃).cell (some (.int fs[m].spot))
    have c₃ : (σ₃.set c (.cell (some (.int fs[m].spot)))) c = some (.cell (some (.int fs[m].spot))) := St.set_same ..
    generalize σ₃.set c (.cell (some (.int fs[m].spot))) = σ₄ at H₃ c₃ ⊢
    refine sv_cons (sv_IfOr (ee_Call (ev_global gr1 (fun _ => .glob _ rfl) ⟨_, rfl, gr2, lv_cons (ev_local (x := "told") (lv_nil fun s vs x r => ?_))⟩)))
    obtain ⟨v, rfl, r₁⟩ := repAll_one r
    refine r₁.elim ?_
    refine c_refused_bad hG hP (n := 55) R hfr rfl rfl x H₃.lap.ents H₃.own W (by omega) X₀.fl hn hm (fun i hi him => okat_of fun q => hno i hi him (hbad.mp q)) (hbad.mpr hb) fun h' tk σ₅ w E₅ x₅ r₅ l₅ => ⟨h', tk, _, σ₅, rfl, E₅, x₅, r₅, ?_⟩
    have H₅ := H₃.le l₅
    have c₅ := l₅ _ _ c₃
    refine ev_cell (x := "spot") (c := c) c₅ (op_ne_int ⟨by simp, ?_⟩)
    obtain ⟨qs, Fl, s1, s2, s3⟩ := id H₅.own
    refine bv_Or (bv_Compare (ev_m0 (M_fields hG) (ev_local (x := "told") ⟨told, qs, rfl, s1, c_fields hG (R.le (by omega : 0 + 1 ≤ 60)) H₅.own hsz fun D hD => ev_local (x := "rows") ?_⟩)))
    have H₆ := H₅.le (Le.set (o := .list (fs.map Fd.V)) hD)
    have c₆ := Le.set (o := .list (fs.map Fd.V)) hD _ _ c₅
    refine op_ne_same R (St.set_same ..) H₆.rows (fun d hd => ?_) ⟨_, rfl, ?_⟩
    · obtain ⟨g, hg, rfl⟩ := List.mem_map.mp hd; exact (X₀.fit g hg).le (by decide)
    generalize σ₅.set D (.list (fs.map Fd.V)) = σ₆ at H₆ c₆ ⊢
    rw [if_neg (by decide)]
    refine bv_Or_nil ?_
    rw [if_neg (by decide)]
    refine sv_nil (sv_cons (sv_If (bv_Compare (ev_cell (x := "spot") (c := c) c₆ (ev_none (op_is_none (.inr ⟨_, rfl⟩) ⟨_, rfl, ?_⟩))))))
    rw [if_neg (by simp)]
    refine sv_nil (sv_cons (sv_Over (⟨"", "", "", .none, 0, 0⟩ : Fd) (ie_list R.handled (ev_local (x := "rows") ⟨Rw, _, rfl, H₆.rows, fs, Fd.V, (fun g => !decide (g.spot = fs[m].spot)), Fd.V,
      ⟨by simp, fun j d hj => getD_map d _ _ _ (by simpa using hj), fun σ' l' => l' _ _ H₆.rows, by rw [sizeLine_eq]; omega, fun C g σ₇ hg l₇ => ?_⟩, fun D' σ₇ l₇ hD' hD'' => ?_⟩))))
    · refine ts_Name (ts_local (qv_one (bv_Compare (ev_Subscript (ev_local (x := "row") (ev_int (op_item_tup (d := .int g.spot) (by decide) (by decide) rfl (ev_cell (x := "spot") (c := c) (l₇ _ _ c₆) (op_ne_int ⟨_, rfl, ?_⟩)))))))))
      by_cases q : g.spot = fs[m].spot
      · rw [decide_eq_true q]
        exact ⟨rfl, Le.refl _⟩
      · rw [decide_eq_false q]
        exact ⟨rfl, ev_local (x := "row") ⟨rfl, Le.refl _⟩⟩
    · exact sv_nil (.inr ⟨rfl, D', _, ⟨rfl, rfl, rfl, trivial⟩, H₆.lap.le l₇, X₀.filter _, hD'', fewer hm⟩)
  · -- not refused
    have H₃ := (H₂.le l₃).cell (some .none)
    have c₃ : (σ₃.set c (.cell (some .none))) c = some (.cell (some .none)) := St.set_same ..
    generalize σ₃.set c (.cell (some .none)) = σ₄ at H₃ c₃ ⊢
    refine sv_cons (sv_If (bv_Or (bv_Compare (ev_Call (ev_global gr1 (fun _ => .glob _ rfl) ⟨_, rfl, gr2, lv_cons (ev_local (x := "told") (lv_nil ?_))⟩)))))
    refine c_refused_ok hG (n := 55) R H₃.lap.ents H₃.own W (okf_all hn fun i hi q => hno i hi (hbad.mp q)) (by omega) fun σ₅ l₅ => ?_
    have H₅ := H₃.le l₅
    have c₅ := l₅ _ _ c₃
    refine ev_cell (x := "spot") (c := c) c₅ (op_ne_sameT R Fit.none ⟨_, rfl, ?_⟩)
    rw [if_neg (by decide)]
    obtain ⟨qs, Fl, s1, s2, s3⟩ := id H₅.own
    refine bv_Or (bv_Compare (ev_m0 (M_fields hG) (ev_local (x := "told") ⟨told, qs, rfl, s1, c_fields hG (R.le (by omega : 0 + 1 ≤ 60)) H₅.own hsz fun D hD => ev_local (x := "rows") ?_⟩)))
    have H₆ := H₅.le (Le.set (o := .list (fs.map Fd.V)) hD)
    have c₆ := Le.set (o := .list (fs.map Fd.V)) hD _ _ c₅
    refine op_ne_same R (St.set_same ..) H₆.rows (fun d hd => ?_) ⟨_, rfl, ?_⟩
    · obtain ⟨g, hg, rfl⟩ := List.mem_map.mp hd; exact (X₀.fit g hg).le (by decide)
    rw [if_neg (by decide)]
    refine bv_Or_nil ?_
    rw [if_neg (by decide)]
    refine sv_nil (sv_cons (sv_If (bv_Compare (ev_cell (x := "spot") (c := c) c₆ (ev_none (op_is_none (.inl rfl) ⟨_, rfl, ?_⟩))))))
    rw [if_pos rfl]
    exact sv_cons (sv_Return (ev_bool (.inl rfl)))
end
end Mine
namespace Mine
theorem Lay1.le {σ σ' : St} {Dk D Im Ld Pt c cells its ps B} (x : Lay1 σ Dk D Im Ld Pt c cells its ps B) (l : Le σ σ') : Lay1 σ' Dk D Im Ld Pt c cells its ps B :=
  ⟨x.chn, x.deck.le l, l _ _ x.im, l _ _ x.pt, x.lns.mod (W := []) l.mod (by simp), l _ _ x.cel, x.ne1, x.ne2, x.ne3, x.ne4, x.ne5⟩
theorem Lay1.up {σ : St} {Dk D Im Ld Pt c cells its ps B B'} (x : Lay1 σ Dk D Im Ld Pt c cells its ps B) (l : B ≤ B') : Lay1 σ Dk D Im Ld Pt c cells its ps B' := { x with deck := x.deck.up l }
theorem Lay1.dealt {σ σ' : St} {Dk D Im Ld Pt c cells its ps B B'} (x : Lay1 σ Dk D Im Ld Pt c cells its ps B) (m : Mod [Dk] σ σ') (H : Deck σ' Dk D cells B') : Lay1 σ' Dk D Im Ld Pt c cells its ps B' :=
  ⟨x.chn, H, m.at1 x.im x.ne2, m.at1 x.pt x.ne4, x.lns.mod m (fun b hb ep es q => by
    rw [List.mem_singleton] at hb; subst hb
    obtain ⟨_, _, _, h3, _⟩ := x.deck; rw [q] at h3; cases h3), m.at1 x.cel (fun q => by
    obtain ⟨_, _, _, h3, _⟩ := x.deck; rw [← q, x.cel] at h3; cases h3), x.ne1, x.ne2, x.ne3, x.ne4, x.ne5⟩
theorem sigs_list (items : List It) : (items.map Item.sig).map Item.V = items.map It.V := by rw [List.map_map]; rfl
section
variable {G : Amb} {A : Around} {env : Env} {L : Addr} {ρ : Loc} {σ : St} {X : Value → Shared → Prop}
set_option maxHeartbeats 1000000 in
theorem for_sigs (hG : IsG G) (R : Room A 60) {Dk D Im Ld Pt c f : Addr} {cells : List Int} {cd : Value} (S : Lay1 σ Dk D Im Ld Pt c cells [] [] 0)
    (hs : Sub [("deck", .ref Dk), ("items", .ref Im), ("lines", .ref Ld), ("parts", .ref Pt)] ρ) :
    SV G A (envX "law" (fScope (topAt 14)) L f cd [("spot", c)]) ρ σ (exec (lawAt 2) (envX "law" (fScope (topAt 14)) L f cd [("spot", c)]))
      (fun φ ρ' σ' => φ = .next ∧ Sub [("deck", .ref Dk), ("items", .ref Im), ("lines", .ref Ld), ("parts", .ref Pt)] ρ' ∧ ∃ its ps, 3 ≤ its.length ∧ Lay1 σ' Dk D Im Ld Pt c cells its ps 20) never := by
  refine SV.sub ?_ hs
  obtain ⟨br1, br2⟩ := B_range hG
  refine sv_For PassesOwn.never (ie_range R.handled ?_)
  refine ev_Call (ev_builtin br1 br2 rfl ⟨_, rfl, .type _, lv_cons (ev_BinOp (ev_int ?_))⟩)
  refine ev_dealt hG (R.le (by omega : 0 + 1 ≤ 60)) S.deck (by decide) (many := 4) (by decide) (fun k h => ev_local (x := "deck") h) (fun k h => ev_int h) fun r hr σ₁ m₁ H₁ => op_add_int ?_
  have er : (3 : Int) + (r : Int) = ((r + 3 : Nat) : Int) := by omega
  rw [er]
  refine lv_nil (opc_range fun Rg hRg => ⟨Rg, r + 3, rfl, St.set_same .., by omega, ?_⟩)
  have S₁ := (S.dealt m₁ H₁).le (Le.set (o := .range 0 ((r + 3 : Nat) : Int)) hRg)
  refine ⟨fun i ρ' σ' => Sub [("deck", .ref Dk), ("items", .ref Im), ("lines", .ref Ld), ("parts", .ref Pt)] ρ' ∧ ∃ its ps, its.length = i ∧ Lay1 σ' Dk D Im Ld Pt c cells its ps (1 + 3 * i),
    ⟨⟨rfl, rfl, rfl, rfl, trivial⟩, [], [], rfl, S₁.up (by omega)⟩, fun _ _ _ _ => trivial, ?_, ?_⟩
  · rintro i ρ₂ σ₂ hi ⟨hs, its, ps, rfl, S₂⟩
    refine TS.sub ?_ hs
    refine ts_Name (ts_local ?_)
    refine (step_sig hG R S₂ (by omega) (by omega) ⟨rfl, rfl, rfl, rfl, rfl, trivial⟩).mono fun φ ρ' σ' q => ?_
    obtain ⟨rfl, q1, its', ps', q2, q3⟩ := q
    exact ⟨q1, its', ps', q2, q3.up (by omega)⟩
  · rintro ρ₂ σ₂ ⟨hs, its, ps, hl, S₂⟩
    exact ⟨rfl, hs, its, ps, by omega, S₂.up (by omega)⟩
set_option maxHeartbeats 1000000 in
theorem st_told (hG : IsG G) (R : Room A 60) {Dk D Im Ld Pt c f : Addr} {cells : List Int} {cd : Value} {its : List It} {ps : List Str} {B : Nat} (S : Lay1 σ Dk D Im Ld Pt c cells its ps B) (hB : B ≤ 100000)
    (hs : Sub [("deck", .ref Dk), ("items", .ref Im), ("lines", .ref Ld)] ρ) :
    SV G A (envX "law" (fScope (topAt 14)) L f cd [("spot", c)]) ρ σ (exec (lawAt 3) (envX "law" (fScope (topAt 14)) L f cd [("spot", c)]))
      (fun φ ρ' σ' => φ = .next ∧ ∃ told b, Sub [("deck", .ref Dk), ("items", .ref Im), ("lines", .ref Ld), ("told", .ref told)] ρ' ∧ Lay1 σ' Dk D Im Ld Pt c cells its ps (B + 1) ∧ WF (entsOf ((turned b its).map Item.sig)) ∧ LapS σ' told Ld c (entsOf ((turned b its).map Item.sig)) its) never := by
  refine SV.sub ?_ hs
  obtain ⟨gc1, gc2⟩ := G_cls hG
  have F := S.chn.facts
  have h6 := F.len
  refine sv_Assign (ev_Call (ev_global gc1 (fun _ => .glob _ rfl) ⟨_, rfl, gc2, lv_cons (ev_det2 (fun d σ' => ∃ Bq b, d = .ref Bq ∧ σ' Bq = some (.list ((turned b its).map It.V)) ∧ Lay1 σ' Dk D Im Ld Pt c cells its ps (B + 1)) ?_ ?_)⟩))
  · refine ev_IfExp (bv_Compare ?_)
    refine ev_dealt hG (R.le (by omega : 0 + 1 ≤ 60)) S.deck (by omega) (many := 2) (by decide) (fun k h => ev_local (x := "deck") h) (fun k h => ev_int h) fun r hr σ₁ m₁ H₁ => ev_int (op_eq_int ⟨_, rfl, ?_⟩)
    have S₁ := S.dealt m₁ H₁
    by_cases q : (r : Int) = 1
    · rw [decide_eq_true q, if_pos rfl]
      refine ev_rev (ev_local (x := "items") (ev_neg (ev_int ⟨1, rfl, Im, _, rfl, rfl, S₁.im, by rw [List.length_map, sizeLine_eq]; omega, fun Bq hBq => ⟨Bq, true, rfl, ?_, S₁.le (Le.set hBq)⟩⟩)))
      rw [St.set_same, ← List.map_reverse]; rfl
    · rw [decide_eq_false q, if_neg (by decide)]
      exact ev_local (x := "items") ⟨Im, false, rfl, S₁.im, S₁⟩
  · rintro _ σ₁ ⟨Bq, b, rfl, hBq, S₁⟩
    obtain ⟨seq, ok, _⟩ := good_of F b
    refine lv_nil (c_new hG (R.le (by omega : 0 + 6 ≤ 60)) (items := (turned b its).map Item.sig) (by rw [sigs_list]; exact hBq) ok fun x σ₂ hx l₂ M => ⟨rfl, x, b, ⟨rfl, rfl, rfl, rfl, trivial⟩, S₁.le l₂, ok.W, ?_⟩)
    obtain ⟨qs, E, ep, p1, p2, p3⟩ := M.ents
    obtain ⟨qs', Fl, q1, q2, q3⟩ := M.fields
    obtain ⟨qs'', s1, s2⟩ := M.short
    obtain rfl := p1.uniq q1
    obtain rfl := p1.uniq s1
    exact ⟨⟨_, E, ep, _, p1, s2, p2, p3, q2⟩, (S₁.le l₂).lns.lin, none, (S₁.le l₂).cel⟩
set_option maxHeartbeats 1000000 in
theorem for_rows (hG : IsG G) (R : Room A 60) {Dk D Im Ld Pt c f told Rw : Addr} {cells : List Int} {cd : Value} {its : List It} {ps : List Str} {B : Nat} {es : Ens} (S : Lay1 σ Dk D Im Ld Pt c cells its ps B) (hB : B ≤ 100000) (h3 : 0 < its.length)
    (P : LapS σ told Ld c es its) (hR : σ Rw = none)
    (hs : Sub [("deck", .ref Dk), ("items", .ref Im), ("rows", .ref Rw), ("told", .ref told), ("lines", .ref Ld)] ρ) :
    SV G A (envX "law" (fScope (topAt 14)) L f cd [("spot", c)]) ρ (σ.set Rw (.list [])) (exec (lawAt 5) (envX "law" (fScope (topAt 14)) L f cd [("spot", c)]))
      (fun φ ρ' σ' => φ = .next ∧ Sub [("told", .ref told), ("lines", .ref Ld), ("rows", .ref Rw)] ρ' ∧ ∃ fs, RowsL its fs ∧ σ' Rw = some (.list (fs.map Fd.V)) ∧ LapS σ' told Ld c es its) never := by
  refine SV.sub ?_ hs
  obtain ⟨br1, br2⟩ := B_range hG
  have F := S.chn.facts
  have lw : Le σ (σ.set Rw (.list [])) := Le.set hR
  have n2 : Rw ≠ Dk := fun q => by obtain ⟨_, _, _, h3, _⟩ := S.deck; rw [← q, hR] at h3; cases h3
  have n3 : Rw ≠ D := fun q => by obtain ⟨_, _, _, _, h4, _⟩ := S.deck; rw [← q, hR] at h4; cases h4
  have n4 : Rw ≠ Im := fun q => by have := S.im; rw [← q, hR] at this; cases this
  have S₀ := S.le lw
  have w₀ : (σ.set Rw (.list [])) Rw = some (.list (([] : List Fd).map Fd.V)) := St.set_same ..
  generalize σ.set Rw (.list []) = σ₀ at *
  refine sv_For PassesOwn.never (ie_range R.handled ?_)
  refine ev_Call (ev_builtin br1 br2 rfl ⟨_, rfl, .type _, lv_cons (ev_BinOp (ev_int ?_))⟩)
  refine ev_dealt hG (R.le (by omega : 0 + 1 ≤ 60)) S₀.deck (by omega) (many := 6) (by decide) (fun k h => ev_local (x := "deck") h) (fun k h => ev_int h) fun r hr σ₁ m₁ H₁ => op_add_int ?_
  have er : (2 : Int) + (r : Int) = ((r + 2 : Nat) : Int) := by omega
  rw [er]
  refine lv_nil (opc_range fun Rg hRg => ⟨Rg, r + 2, rfl, St.set_same .., by omega, ?_⟩)
  have lR := Le.set (o := .range 0 ((r + 2 : Nat) : Int)) hRg
  have S₁ := (S₀.dealt m₁ H₁).le lR
  have w₁ := lR _ _ (m₁.at1 w₀ n2)
  have m₂ : Mod [Dk, Rw] σ (σ₁.set Rg (.range 0 ((r + 2 : Nat) : Int))) := (lw.mod.trans (m₁.sub (by simp))).trans lR.mod
  generalize σ₁.set Rg (.range 0 ((r + 2 : Nat) : Int)) = σ₂ at *
  have z : RowsL its [] := ⟨Nat.zero_le _, (fun g h => by cases h), (fun g h => by cases h), (fun g h => by cases h)⟩
  refine ⟨fun i ρ' σ' => Sub [("deck", .ref Dk), ("items", .ref Im), ("rows", .ref Rw), ("told", .ref told), ("lines", .ref Ld)] ρ' ∧ Mod [Dk, Rw] σ σ' ∧ Deck σ' Dk D cells (B + 1 + 2 * i) ∧ ∃ fs, fs.length = i ∧ RowsL its fs ∧ σ' Rw = some (.list (fs.map Fd.V)),
    ⟨⟨rfl, rfl, rfl, rfl, rfl, trivial⟩, m₂, S₁.deck.up (by omega), [], rfl, z, w₁⟩, fun _ _ _ _ => trivial, ?_, ?_⟩
  · rintro i ρ₂ σ₃ hi ⟨hs, m₃, H₃, fs, rfl, X₃, w₃⟩
    refine TS.sub ?_ hs
    refine ts_Name (ts_local ?_)
    refine (step_row hG R H₃ (by omega) F h3 (m₃ _ _ (by simp [S.ne2, n4.symm]) S.im) w₃ X₃ (by omega) S.ne2 n2 n3 ⟨rfl, rfl, rfl, rfl, rfl, rfl, trivial⟩).mono fun φ ρ' σ' q => ?_
    obtain ⟨rfl, q1, fs', q2, q3, q4, q5, q6⟩ := q
    exact ⟨q1, m₃.trans q6, q4.up (by omega), fs', q2, q3, q5⟩
  · rintro ρ₂ σ₃ ⟨hs, m₃, H₃, fs, hl, X₃, w₃⟩
    refine ⟨rfl, ⟨hs.2.2.2.1, hs.2.2.2.2.1, hs.2.2.1, trivial⟩, fs, X₃, w₃, ?_⟩
    obtain ⟨⟨qs, E, ep, Fo, a1, a2, a3, a4, a5⟩, b, d, hd⟩ := P
    have only : ∀ o, o ∈ [Dk, Rw] → ∀ x, σ o = some x → ∃ i D, x = .list [.int i, .ref D] := fun o h x e => by
      simp only [List.mem_cons, List.mem_nil_iff, or_false] at h
      rcases h with rfl | rfl
      · obtain ⟨i, _, _, h3, _⟩ := S.deck; rw [e] at h3; cases h3; exact ⟨i, _, rfl⟩
      · rw [hR] at e; cases e
    have no : ∀ {o x}, σ o = some x → (∀ ds, x ≠ .list ds) → o ∉ [Dk, Rw] := fun e n h => by obtain ⟨i, D, q⟩ := only _ h _ e; exact n _ q
    exact ⟨⟨qs, E, ep, Fo, a1.mod m₃ (fun o h C dx q => no q (fun _ q => by cases q) h) (fun o h C q => no q (fun _ q => by cases q) h), a2, a3, m₃ _ _ (no a4 fun _ q => by cases q) a4, a5⟩, b.mod m₃ (fun o h ep es q => no q (fun _ q => by cases q) h), d, m₃ _ _ (no hd fun _ q => by cases q) hd⟩
set_option maxHeartbeats 1000000 in
theorem for_laps (hG : IsG G) (hP : IsP G) (R : Room A 60) {told Ld Rw c f : Addr} {cd : Value} {its : List It} {ps : List Str} {b : Bool} {fs : List Fd}
    (hfr : A.frames = some [envX "law" (fScope (topAt 14)) L f cd [("spot", c)]]) (F : ChnF its ps) (W : WF (entsOf ((turned b its).map Item.sig)))
    (S₀ : LapS σ told Ld c (entsOf ((turned b its).map Item.sig)) its) (X₀ : RowsL its fs) (hR : σ Rw = some (.list (fs.map Fd.V)))
    (hs : Sub [("told", .ref told), ("lines", .ref Ld), ("rows", .ref Rw)] ρ) :
    SV G A (envX "law" (fScope (topAt 14)) L f cd [("spot", c)]) ρ σ (exec (lawAt 6) (envX "law" (fScope (topAt 14)) L f cd [("spot", c)])) (fun φ _ _ => φ = .ret (.bool true)) never := by
  refine SV.sub ?_ hs
  obtain ⟨br1, br2⟩ := B_range hG
  obtain ⟨bn1, bn2⟩ := B_len hG
  have hln := X₀.len
  refine sv_For PassesOwn.never (ie_range R.handled ?_)
  refine ev_Call (ev_builtin br1 br2 rfl ⟨_, rfl, .type _, lv_cons (ev_BinOp (ev_Call (ev_builtin bn1 bn2 rfl ⟨_, rfl, .builtin _, lv_cons (ev_local (x := "rows") (lv_nil (opc_len_list hR (by rw [List.length_map, sizeLine_eq]; omega) (ev_int (op_add_int ?_)))))⟩)))⟩)
  have er : ((fs.map Fd.V).length : Int) + 1 = ((fs.length + 1 : Nat) : Int) := by rw [List.length_map]; omega
  rw [er]
  refine lv_nil (opc_range fun Rg hRg => ⟨Rg, fs.length + 1, rfl, St.set_same .., by omega, ?_⟩)
  have lR := Le.set (o := .range 0 ((fs.length + 1 : Nat) : Int)) hRg
  refine ⟨fun i ρ' σ' => ∃ Rw' fs', Sub [("told", .ref told), ("lines", .ref Ld), ("rows", .ref Rw')] ρ' ∧ LapS σ' told Ld c (entsOf ((turned b its).map Item.sig)) its ∧ RowsL its fs' ∧ σ' Rw' = some (.list (fs'.map Fd.V)) ∧ fs'.length + i ≤ fs.length,
    ⟨Rw, fs, ⟨rfl, rfl, rfl, trivial⟩, S₀.le lR, X₀, lR _ _ hR, Nat.le_refl _⟩, fun _ _ _ _ => trivial, ?_, ?_⟩
  · rintro i ρ₂ σ₃ hi ⟨Rw', fs', hs, S₃, X₃, w₃, hle⟩
    refine TS.sub ?_ hs
    refine ts_Name (ts_local ?_)
    refine (step_lap hG hP R hfr F W S₃ X₃ w₃ ⟨rfl, rfl, rfl, trivial⟩).mono fun φ ρ' σ' q => ?_
    rcases q with rfl | ⟨rfl, Rw'', fs'', q1, q2, q3, q4, q5⟩
    · exact rfl
    · exact ⟨Rw'', fs'', q1, q2, q3, q4, by omega⟩
  · rintro ρ₂ σ₃ ⟨Rw', fs', hs, S₃, X₃, w₃, hle⟩
    omega
end
end Mine
namespace Mine
section
variable {G : Amb} {A : Around} {env : Env} {L : Addr} {ρ : Loc} {σ : St} {X : Value → Shared → Prop}
set_option maxHeartbeats 4000000 in
set_option maxRecDepth 20000 in
theorem sv_law (hG : IsG G) (hP : IsP G) (R : Room A 60) {a c : Addr} {vs : List Value} {ns : List Int} (hl : G.h₀.IsList a vs.toArray) (hi : IntsAre vs ns) (hn : ns.length ≤ 63) {f : Addr} {cd : Value} (hfr : A.frames = some [envX "law" (scopeOf (heapK G.w.params) 290) L f cd [("spot", c)]]) :
    SV G A (envX "law" (scopeOf (heapK G.w.params) 290) L f cd [("spot", c)]) [("script", .ref a)] (St.set (fun _ => none) c (.cell none)) (execs (bodyOf (heapK G.w.params) 290) (envX "law" (scopeOf (heapK G.w.params) 290) L f cd [("spot", c)])) (fun φ _ _ => φ = .ret (.bool true)) never := by
  obtain ⟨ba1, ba2⟩ := B_abs hG
  have esc : scopeOf (heapK G.w.params) 290 = fScope (topAt 14) := by unfold scopeOf; rfl
  rw [esc] at hfr
  have hvs := ints_len hi
  have c0 : (St.set (fun _ => none) c (.cell none)) c = some (.cell none) := St.set_same ..
  generalize (St.set (fun _ => none) c (.cell none)) = σ₀ at c0
  refine sv_open (K := heapK G.w.params) (f := 290) (by rfl) ?_
  refine sv_cons (sv_Assign (ev_List (lv_cons (ev_int (lv_cons ?_)))))
  refine ev_Over (0 : Int) (ie_list R.handled (ev_upto0 hl hi (by rw [sizeLine_eq]; omega) (ev_local (x := "script") ⟨rfl, ev_int ⟨50, rfl, fun Sl hSl => ⟨Sl, _, rfl, St.set_same .., ns.take 50, V.int, (fun _ => true), (fun i => .int ((i.natAbs : Int) % 100003)), ⟨by simp, fun j d hj => getD_map d _ _ _ (by simpa using hj), fun σ' l' => l' _ _ (St.set_same ..), ?_, fun C i σ₂ hi l₂ => ?_⟩, fun D σ₁ l₁ hD hD' => ?_⟩⟩⟩)))
  · rw [List.length_take, sizeLine_eq]; omega
  · refine ts_Name (ts_local (qv_nil ⟨rfl, ?_⟩))
    rw [if_pos rfl]
    exact ev_BinOp (ev_Call (ev_builtin ba1 ba2 rfl ⟨_, rfl, .builtin _, lv_cons (ev_local (x := "cell") (lv_nil (opc_abs (ev_int (op_mod_int (by decide) ⟨rfl, Le.refl _⟩)))))⟩))
  rw [List.filter_eq_self.mpr (fun _ _ => rfl)] at hD'
  refine lv_nil ⟨len_ok rfl, fun Dk hDk => ?_⟩
  have c1 : (σ₁.set Dk (.list [V.int 0, V.ref D])) c = some (.cell none) := Le.set hDk _ _ (l₁ _ _ (Le.set hSl _ _ c0))
  have HD : Deck (σ₁.set Dk (.list [V.int ((0 : Nat) : Int), V.ref D])) Dk D ((ns.take 50).map fun i => (i.natAbs : Int) % 100003) 0 := by
    have hne : Dk ≠ D := fun q => by rw [q, hD'] at hDk; cases hDk
    exact ⟨0, Nat.le_refl _, by simp; omega, St.set_same .., by rw [St.set_ne _ _ hne.symm, hD', List.map_map]; rfl, hne⟩
  generalize σ₁.set Dk (.list [V.int ((0 : Nat) : Int), V.ref D]) = σ₂ at *
  refine sv_cons (sv_AssignSwap (names := ["items", "lines", "parts"]) R.handled (ev_Tuple (lv_cons (ev_List (lv_nil ⟨len_ok rfl, fun Im hIm => lv_cons (ev_Dict0 fun Ld ep hLd => lv_cons (ev_List (lv_nil ⟨len_ok rfl, fun Pt hPt => lv_nil ⟨len_ok rfl, _, rfl, rfl, ?_⟩⟩)))⟩)))))
  refine tl_cons (ts_bind (ts_local (tl_cons (ts_bind (ts_local (tl_cons (ts_bind (ts_local (tl_nil ?_)))))))))
  have lI := Le.set (o := .list []) hIm
  have lL := Le.set (o := .sdict ep []) hLd
  have lP := Le.set (o := .list []) hPt
  have gI : (((σ₂.set Im (.list [])).set Ld (.sdict ep [])).set Pt (.list [])) Im = some (.list (([] : List It).map It.V)) := lP _ _ (lL _ _ (St.set_same ..))
  have gL : (((σ₂.set Im (.list [])).set Ld (.sdict ep [])).set Pt (.list [])) Ld = some (.sdict ep []) := lP _ _ (St.set_same ..)
  have gP : (((σ₂.set Im (.list [])).set Ld (.sdict ep [])).set Pt (.list [])) Pt = some (.list (([] : List Str).map .str)) := St.set_same ..
  have n1 : Im ≠ Pt := fun q => by
    have := lL _ _ (St.set_same σ₂ Im (.list []))
    rw [← q] at hPt; rw [hPt] at this; cases this
  have hPt₂ : σ₂ Pt = none := lI.none (lL.none hPt)
  have S₁ : Lay1 (((σ₂.set Im (.list [])).set Ld (.sdict ep [])).set Pt (.list [])) Dk D Im Ld Pt c ((ns.take 50).map fun i => (i.natAbs : Int) % 100003) [] [] 0 := by
    obtain ⟨_, _, _, d3, d4, _⟩ := id HD
    exact ⟨.nil, ((HD.le lI).le lL).le lP, gI, gP, ⟨ep, [], gL, rfl, fun k h => absurd h (Nat.not_lt_zero k)⟩, lP _ _ (lL _ _ (lI _ _ c1)), n1,
      (fun q => by rw [← q, hIm] at d3; cases d3), (fun q => by rw [← q, hIm] at d4; cases d4), (fun q => by rw [← q, hPt₂] at d3; cases d3), fun q => by rw [← q, hPt₂] at d4; cases d4⟩
  generalize (((σ₂.set Im (.list [])).set Ld (.sdict ep [])).set Pt (.list [])) = σ₃ at S₁ ⊢
  generalize ((ns.take 50).map fun i => (i.natAbs : Int) % 100003) = cells at S₁
  clear HD hDk c1 hIm hLd hPt lI lL lP gI gL gP n1 hPt₂ hD hD' l₁ hSl c0
  refine sv_cons ((for_sigs hG R S₁ ⟨rfl, rfl, rfl, rfl, trivial⟩).mono fun φ ρ₄ σ₄ q => ?_)
  obtain ⟨rfl, hs₄, its, ps, h3, S₄⟩ := q
  refine SV.sub (ρ₀ := [("deck", .ref Dk), ("items", .ref Im), ("lines", .ref Ld)]) ?_ ⟨hs₄.1, hs₄.2.1, hs₄.2.2.1, trivial⟩
  refine sv_cons ((st_told hG R S₄ (by omega) ⟨rfl, rfl, rfl, trivial⟩).mono fun φ ρ₅ σ₅ q => ?_)
  obtain ⟨rfl, told, b, hs₅, S₅, W, P⟩ := q
  refine SV.sub ?_ hs₅
  refine sv_cons (sv_Assign (ev_List (lv_nil ⟨len_ok rfl, fun Rw hRw => ?_⟩)))
  refine sv_cons ((for_rows hG R S₅ (by omega) (by omega) P hRw ⟨rfl, rfl, rfl, rfl, rfl, trivial⟩).mono fun φ ρ₆ σ₆ q => ?_)
  obtain ⟨rfl, hs₆, fs, X₆, w₆, P₆⟩ := q
  refine SV.sub ?_ hs₆
  refine sv_cons ((for_laps hG hP R hfr S₅.chn.facts W P₆ X₆ w₆ ⟨rfl, rfl, rfl, trivial⟩).mono fun φ ρ₇ σ₇ q => ?_)
  subst q
  exact rfl
end
end Mine
end
open PySem PySem.W PyProof.Rows
namespace Mine
theorem good_true {l : OpenLaw} {cl : Str → Option Addr} {mean : ExcName → Option Value} {args : List WData} {s₁ s' : Shared} (hk : ∀ b o, s₁.heap.get? b = some o → s'.heap.get? b = some o) (ho : s'.os = s₁.os) (hg : s'.gens = #[]) :
    GoodW l.row.claim cl mean args s₁ (Except.ok (Flow.ret (.bool true))) s' :=
  ⟨.inl ⟨.bool true, .bool true, [], rfl, fun _ => rfl, .bool true, by
    show (WShape.has l.row.records (.bool true) .bool && (WTm.eq .res (.lit (.bool true))).holds l.row.records { args := args, res := some (.bool true), after := args }) = true
    simp [WShape.has, WTm.holds, WTm.value, same]
    exact ⟨.bool, by simp [WShape.arms], rfl⟩, fun _ => ⟨.nil, fun a h => by cases h⟩⟩, hk, ho, hg⟩
theorem isG_of {p : Program} {loose : List Str} {mean : ExcName → Option Value} {w : World} {h : Heap} {mg mb : Str → Option Value} (X : (heapK w.params).In h) (T : Top p loose mean mg mb h)
    {G : Amb} (e1 : G.w = w) (e2 : G.h₀ = h) (e3 : G.K = heapK w.params) (e4 : G.mg = mg) (e5 : G.mb = mb) : IsG G where
  K := by rw [e3, e1]
  glob := fun x v e => by rw [e4]; exact mg_of X T.g (e3 ▸ e)
  noGlob := fun x e => by rw [e4]; exact mg_none_of X T.g (e3 ▸ e)
  boot := fun x v e n => by rw [e5]; exact (T.builtins x n).trans e
theorem isP_of {prog : Program} {G : Amb} (h1 : ((prog.main.file : Str) == "/claim/cut.py") = true) (h2 : (prog.main.scope.names.lookup ("super" : Str)).isSome = false) (e : G.prog = prog) : IsP G := ⟨by rw [e]; exact h1, by rw [e]; exact h2⟩
theorem sv_law' {G : Amb} {A : Around} {L c : Addr} (hG : IsG G) (hP : IsP G) (R : Room A 60) {a : Addr} {vs : List Value} {ns : List Int} (hl : G.h₀.IsList a vs.toArray) (hi : IntsAre vs ns) (hn : ns.length ≤ 63) {f : Addr} {cd : Value}
    {oc : Value} {od : Option Addr} {osl : Array (Option Value)} {name qual : Str} {params : Arguments} {body : List Stmt} {scope : Scope} {dV kV doc pm cdv ct : Value} {an : Option Addr}
    (hfr : A.frames = some [envX "law" scope L f cd [("spot", c)]])
    (ho : (heapK G.w.params).lookup 290 = some ⟨oc, od, .func (fnOf name qual params body scope dV kV doc pm an cdv ct), osl⟩) :
    SV G A (envX "law" scope L f cd [("spot", c)]) [("script", .ref a)] (St.set (fun _ => none) c (.cell none)) (execs body (envX "law" scope L f cd [("spot", c)])) (fun φ _ _ => φ = .ret (.bool true)) never := by
  have e1 : bodyOf (heapK G.w.params) 290 = body := by unfold bodyOf; rw [ho]
  have e2 : scopeOf (heapK G.w.params) 290 = scope := by unfold scopeOf; rw [ho]
  have h := sv_law (L := L) hG hP R hl hi hn (c := c) (f := f) (cd := cd) (by rw [e2]; exact hfr)
  rw [e1, e2] at h; exact h
theorem of_SVc {prog : Program} {w : World} {h₀ : Heap} {K : Frag} {mg mb : Str → Option Value} (X : K.In h₀) (ng : h₀.Ns mainGlobals mg) (nb : h₀.Ns builtinsNs mb) (lim : h₀.NoLimit)
    {A : Around} {env : Env} {ρ : Loc} {t : Sem Flow} {Q : Flow → Shared → Prop} {E : Value → Shared → Prop} {s : Shared} {m : Str → Option Value} {c : Addr} {o : Obj}
    (F : Fr h₀ env.locals s.heap m) (hρ : ∀ x d, ρ.get x = some d → ∃ v, m x = some v ∧ Rep s.heap v d) (hc : s.heap.get? c = some o) (hd : o.data = .cell none) (hLc : env.locals < c)
    (h : ∀ G : Amb, G.prog = prog → G.w = w → G.h₀ = h₀ → G.K = K → G.mg = mg → G.mb = mb → SV G A env ρ (St.set (fun _ => none) c (.cell none)) t (fun φ _ _ => φ = .ret (.bool true)) never)
    (hQ : ∀ h' tk, h₀.StaysIn h' → Q (.ret (.bool true)) { s with heap := h', toks := tk }) : wpAny (model prog w) A t Q E s := by
  have hne : env.locals ≠ c := Nat.ne_of_lt hLc
  refine wpAny_mono (h ⟨prog, w, h₀, K, X, mg, mb, ng, nb, lim⟩ rfl rfl rfl rfl rfl rfl s ⟨F.keep, fun a x e => ?_, fun a e => ?_, ⟨m, F.ns, hρ⟩, St.set_ne _ _ hne, F.above⟩) (fun f s' p => ?_) fun _ _ e => e.elim
  · by_cases q : a = c
    · subst q; rw [St.set_same] at e; cases e; exact ⟨o, none, hc, hd, trivial⟩
    · rw [St.set_ne _ _ q] at e; cases e
  · by_cases q : a = c
    · subst q; exact Nat.le_trans F.above (Nat.le_of_lt hLc)
    · rw [St.set_ne _ _ q] at e; exact absurd rfl e
  · refine p.elim fun h' tk φ ρ' σ' E x r q₉ => ?_; cases q₉
    cases f with
    | ret v => cases (show Rep h' v (.bool true) from r); exact hQ _ _ x.base
    | next => exact r.elim
    | brk => exact r.elim
    | cont => exact r.elim
theorem of_law {p : Program} {loose : List Str} {mean : ExcName → Option Value} {prog : Program} {w : World} {h₀ : Heap} {mg mb : Str → Option Value} (X : (heapK w.params).In h₀) (T : Top p loose mean mg mb h₀)
    (h1 : ((prog.main.file : Str) == "/claim/cut.py") = true) (h2 : (prog.main.scope.names.lookup ("super" : Str)).isSome = false)
    {A : Around} {L : Addr} {Q : Flow → Shared → Prop} {E : Value → Shared → Prop} {s : Shared} {m : Str → Option Value} {a : Addr} {vs : List Value} {ns : List Int} {cells : List (Addr × Obj)}
    (F : Fr h₀ L s.heap m) (hm : m "script" = some (.ref a)) (hl : h₀.IsList a vs.toArray) (hi : IntsAre vs ns) (hn : ns.length ≤ 63) (R : Room A 60) {f : Addr} {cd : Value}
    {oc : Value} {od : Option Addr} {osl : Array (Option Value)} {name qual : Str} {params : Arguments} {body : List Stmt} {scope : Scope} {dV kV doc pm cdv ct : Value} {an : Option Addr}
    (hfr : A.frames = some [envX "law" scope L f cd [("spot", L + 1)]]) (N : News h₀ L s.heap cells) {cm : Str → Option Value} (C : CellsAre cm [("spot", L + 1)] cells) (hcm : cm "spot" = none)
    (ho : (heapK w.params).lookup 290 = some ⟨oc, od, .func (fnOf name qual params body scope dV kV doc pm an cdv ct), osl⟩)
    (hQ : ∀ h' tk, h₀.StaysIn h' → Q (.ret (.bool true)) { s with heap := h', toks := tk }) : wpAny (model prog w) A (execs body (envX "law" scope L f cd [("spot", L + 1)])) Q E s := by
  obtain ⟨o, rfl, hd⟩ := CellsAre.one C
  rw [hcm] at hd
  refine of_SVc (env := envX "law" scope L f cd [("spot", L + 1)]) X T.g T.b T.nolimit F (ρ := [("script", .ref a)]) (fun x d e => ?_) ((N _ (List.mem_singleton_self _)).1) hd (Nat.lt_succ_self _) (fun G e0 e1 e2 e3 e4 e5 => ?_) hQ
  · have hx : x = "script" := by
      by_cases q : x = "script"
      · exact q
      · simp [Loc.get, q] at e
    subst hx
    have e2 : Loc.get [(("script" : Str), V.ref a)] "script" = some (.ref a) := rfl
    rw [e2] at e
    cases e
    exact ⟨_, hm, .ref _⟩
  · exact sv_law' (isG_of X T e1 e2 e3 e4 e5) (isP_of h1 h2 e0) R (by rw [e2]; exact hl) hi hn hfr (by rw [e1]; exact ho)
theorem room_caller (env : Env) : Room (callerA.deeper env) 60 := ⟨rfl, by show callerA.depth + 1 + 60 < recursionLimit; decide, by show callerA.units + 3 + 8 * 60 + 80 < cLine; decide +kernel⟩
end Mine
set_option maxRecDepth 100000 in
set_option maxHeartbeats 8000000 in
theorem PySem.Challenge.cw_rr0082_01_holds : PySem.Challenge.rw_rr0082_01.Holds := by
  refine holds_law Mine.wellOnce fun said => ?_
  refine PySem.W.holds_open (q := Mine.vw) (loose := []) (Xt := Mine.XX) (XP := XL Mine.vw []) (Yf := Mine.HH.obs) (Ya := Mine.HH.val) (YP := Mine.HH.says) (N := 4302) Mine.hlOnce (Hook.of Mine.HH) (Hook.keeps Mine.HH)
    (fun s e => xl_of s (Bool.and_eq_true_iff.mp e).1) XL.keeps (by rfl) (by rfl) (by rfl) (fun s e => recFacts_of (Bool.and_eq_true_iff.mp e).2) (by rfl) said (by decide +kernel) ⟨rfl, rfl, rfl, rfl, rfl, by decide +kernel⟩ ?hw ?hc
  case hw => w_witness2
  w_strict (
    intro w s₀ s₁ mg mb G Y fa o pm cd doc dV kV ho hd hcd hD hmg hg args vals as hpre hlay hrd hwl hlo
    have KX := kIn_of Y
    have X := (Ground.X G).1
    have V := (Ground.X G).2
    refine Ground.open G ?_
    intro T B D TE TW
    try (refine guard_noD D (by decide +kernel) ?_; clear D)
    obtain ⟨_, _, M⟩ := bmod_of_top T
    have TA := at_of_top T
    try (obtain ⟨_, _, he, B0⟩ := based_of_top T rfl hmg ho hd; have he' : cd = _ := he; subst he'; clear he)
    clear hmg
    wrow_args hpre hlay hrd hwl hlo
    refine enter_call ?_
    w_top on
    try refine codeAny_mono ?_ (fun _ _ g => GoodW.toG g)
    have he := Dflts.none hD rfl; subst he; have he := Dflts.noKw hD; subst he
    refine call_cellsN (by decide) ho (fd_plain hd) (Top.nolimit T) hcd rfl (kinds_of (by kinds_ok)) (by decide) fun h₁ tk₁ cells F N0 X0 => ?_
    rename Heap.IsList _ _ _ => hL
    rename IntsAre _ _ => hI
    rename List Int => ns
    have hn : ns.length ≤ 63 := by omega
    exact Mine.of_law KX T (by rfl) (by rfl) F rfl hL hI hn (Mine.room_caller _) rfl N0 X0 rfl rfl (fun h' tk hb => Mine.good_true hb rfl (by assumption)))
