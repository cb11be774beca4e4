import PyProof.Rows.All
import Wide.All
import OpenK.AllK
import Wide.FinOn
import PySem.Challenge.RW_qd0060_01
open PySem PySem.Spec PySem.Calls PySem.W PyProof.Rows
set_option Elab.async false
set_option compiler.extract_closed false
set_option rowWalk.seconds 0
namespace Mine

-- the written objects: the defs' parts are projections of the given program
noncomputable def dT (i : Nat) : Stmt := PySem.Challenge.pw_qd0060_01.main.body.getD i default
noncomputable def dC (i j : Nat) : Stmt := match dT i with | .ClassDef _ _ _ b _ _ _ _ _ _ _ => b.getD j default | _ => default
noncomputable def pOf (s : Stmt) : Arguments := match s with | .FunctionDef _ a _ _ _ _ _ _ _ _ => a | _ => default
noncomputable def bOf (s : Stmt) : List Stmt := match s with | .FunctionDef _ _ b _ _ _ _ _ _ _ => b | _ => []
noncomputable def sOf (s : Stmt) : PySem.Scope := match s with | .FunctionDef _ _ _ _ _ _ sc _ _ _ => sc | _ => default
set_option maxRecDepth 100000 in
noncomputable def hd.heap_39 : Params → Frag := fun P =>
  (nat_lit 2, ({ cls := Value.none, data := Data.dict #[{ hash := PyData.keyHash P (Str.ofString "type.__subclasses__.Exception.0"), key := Value.str (Str.ofString "type.__subclasses__.Exception.0") 230, val := Value.int 46 0 }, { hash := PyData.keyHash P (Str.ofString "type.__subclasses__.Exception.n"), key := Value.str (Str.ofString "type.__subclasses__.Exception.n") 231, val := Value.int 1 0 }] 2 })) ::
  (nat_lit 3, ({ cls := Value.type "dict", data := Data.dict #[{ hash := PyData.keyHash P (Str.ofString "__name__"), key := Value.str (Str.ofString "__name__") 165, val := Value.str (Str.ofString "law_qd0060_01") 613 }, { hash := PyData.keyHash P (Str.ofString "__doc__"), key := Value.str (Str.ofString "__doc__") 166, val := Value.none }, { hash := PyData.keyHash P (Str.ofString "__package__"), key := Value.str (Str.ofString "__package__") 167, val := Value.none }, { hash := PyData.keyHash P (Str.ofString "__loader__"), key := Value.str (Str.ofString "__loader__") 168, val := Value.builtin "__main__.__loader__#opaque" }, { hash := PyData.keyHash P (Str.ofString "__spec__"), key := Value.str (Str.ofString "__spec__") 169, val := Value.none }, { hash := PyData.keyHash P (Str.ofString "__annotations__"), key := Value.str (Str.ofString "__annotations__") 170, val := Value.ref 6 }, { hash := PyData.keyHash P (Str.ofString "__builtins__"), key := Value.str (Str.ofString "__builtins__") 171, val := Value.ref 4 }, { hash := PyData.keyHash P (Str.ofString "__file__"), key := Value.str (Str.ofString "__file__") 173, val := Value.str (Str.ofString "/claim/cut.py") 172 }, { hash := PyData.keyHash P (Str.ofString "__cached__"), key := Value.str (Str.ofString "__cached__") 174, val := Value.none }, { hash := PyData.keyHash P (Str.ofString "_wall"), key := Value.str (Str.ofString "_wall") 193, val := Value.ref 21 }, { hash := PyData.keyHash P (Str.ofString "ToolError"), key := Value.str (Str.ofString "ToolError") 233, val := Value.ref 46 }, { hash := PyData.keyHash P (Str.ofString "TableError"), key := Value.str (Str.ofString "TableError") 249, val := Value.ref 59 }, { hash := PyData.keyHash P (Str.ofString "TOP"), key := Value.str (Str.ofString "TOP") 253, val := Value.int 127 252 }, { hash := PyData.keyHash P (Str.ofString "CharSet"), key := Value.str (Str.ofString "CharSet") 499, val := Value.ref 227 }, { hash := PyData.keyHash P (Str.ofString "Classes"), key := Value.str (Str.ofString "Classes") 612, val := Value.ref 301 }, { hash := PyData.keyHash P (Str.ofString "_law_tin"), key := Value.str (Str.ofString "_law_tin") 620, val := Value.ref 310 }, { hash := PyData.keyHash P (Str.ofString "_law_bit"), key := Value.str (Str.ofString "_law_bit") 629, val := Value.ref 317 }, { hash := PyData.keyHash P (Str.ofString "_law_sets"), key := Value.str (Str.ofString "_law_sets") 635, val := Value.ref 322 }, { hash := PyData.keyHash P (Str.ofString "_law_told"), key := Value.str (Str.ofString "_law_told") 642, val := Value.ref 329 }, { hash := PyData.keyHash P (Str.ofString "law"), key := Value.str (Str.ofString "law") 648, val := Value.ref 334 }] 20 })) ::
  (nat_lit 15, ({ cls := Value.type "tuple", data := Data.seq #[] })) ::
  (nat_lit 17, ({ cls := Value.type "tuple", data := Data.seq #[Value.str (Str.ofString "k") 190] })) ::
  (nat_lit 18, ({ cls := Value.type "tuple", data := Data.seq #[] })) ::
  (nat_lit 20, ({ cls := Value.type "code", data := Data.fields #[Value.str (Str.ofString "_wall") 187, Value.str (Str.ofString "_wall") 188, Value.str (Str.ofString "/claim/cut.py") 189, Value.int 1 0, Value.int 1 0, Value.int 0 0, Value.int 0 0, Value.int 3 0, Value.ref 15, Value.bool true, Value.int 181 0, Value.ref 16, Value.none, Value.ref 17, Value.ref 18, Value.ref 19, Value.int 191 0, Value.int 1 0, Value.str (Str.ofString "/claim/cut.py") 192] })) ::
  (nat_lit 21, ({ cls := Value.type "function", data := Data.func { name := Str.ofString "_wall", qualname := Str.ofString "_wall", params := pOf (dT 0), body := FuncBody.stmts (bOf (dT 0)), scope := sOf (dT 0), globals := 3, closure := [], defaults := Value.none, kwdefaults := Value.none, pyModule := Value.str (Str.ofString "__main__") 164, code := Value.ref 20 } })) ::
  (nat_lit 22, ({ cls := Value.type "tuple", data := Data.seq #[Value.type "Exception"] })) ::
  (nat_lit 29, ({ cls := Value.type "tuple", data := Data.seq #[Value.none] })) ::
  (nat_lit 30, ({ cls := Value.type "tuple", data := Data.seq #[] })) ::
  (nat_lit 32, ({ cls := Value.type "tuple", data := Data.seq #[Value.str (Str.ofString "self") 211, Value.str (Str.ofString "what") 212, Value.str (Str.ofString "at") 213] })) ::
  (nat_lit 33, ({ cls := Value.type "tuple", data := Data.seq #[] })) ::
  (nat_lit 35, ({ cls := Value.type "code", data := Data.fields #[Value.str (Str.ofString "__init__") 208, Value.str (Str.ofString "ToolError.__init__") 209, Value.str (Str.ofString "/claim/cut.py") 210, Value.int 7 0, Value.int 3 0, Value.int 0 0, Value.int 0 0, Value.int 3 0, Value.ref 30, Value.bool true, Value.int 181 0, Value.ref 31, Value.none, Value.ref 32, Value.ref 33, Value.ref 34, Value.int 214 0, Value.int 7 0, Value.str (Str.ofString "/claim/cut.py") 215] })) ::
  (nat_lit 36, ({ cls := Value.type "function", data := Data.func { name := Str.ofString "__init__", qualname := Str.ofString "ToolError.__init__", params := pOf (dC 2 0), body := FuncBody.stmts (bOf (dC 2 0)), scope := sOf (dC 2 0), globals := 3, closure := [], defaults := Value.ref 29, kwdefaults := Value.none, pyModule := Value.str (Str.ofString "grammarmill.source") 194, code := Value.ref 35 } })) ::
  (nat_lit 37, ({ cls := Value.type "tuple", data := Data.seq #[] })) ::
  (nat_lit 39, ({ cls := Value.type "tuple", data := Data.seq #[Value.str (Str.ofString "self") 220] })) ::
  (nat_lit 40, ({ cls := Value.type "tuple", data := Data.seq #[] })) ::
  (nat_lit 42, ({ cls := Value.type "code", data := Data.fields #[Value.str (Str.ofString "told") 217, Value.str (Str.ofString "ToolError.told") 218, Value.str (Str.ofString "/claim/cut.py") 219, Value.int 12 0, Value.int 1 0, Value.int 0 0, Value.int 0 0, Value.int 3 0, Value.ref 37, Value.bool true, Value.int 181 0, Value.ref 38, Value.none, Value.ref 39, Value.ref 40, Value.ref 41, Value.int 221 0, Value.int 12 0, Value.str (Str.ofString "/claim/cut.py") 222] })) ::
  (nat_lit 43, ({ cls := Value.type "function", data := Data.func { name := Str.ofString "told", qualname := Str.ofString "ToolError.told", params := pOf (dC 2 1), body := FuncBody.stmts (bOf (dC 2 1)), scope := sOf (dC 2 1), globals := 3, closure := [], defaults := Value.none, kwdefaults := Value.none, pyModule := Value.str (Str.ofString "grammarmill.source") 194, code := Value.ref 42 } })) ::
  (nat_lit 44, ({ cls := Value.type "tuple", data := Data.seq #[Value.str (Str.ofString "at") 224, Value.str (Str.ofString "what") 225] })) ::
  (nat_lit 45, ({ cls := Value.type "dict", data := Data.dict #[{ hash := PyData.keyHash P (Str.ofString "__module__"), key := Value.str (Str.ofString "__module__") 203, val := Value.str (Str.ofString "grammarmill.source") 194 }, { hash := PyData.keyHash P (Str.ofString "__firstlineno__"), key := Value.str (Str.ofString "__firstlineno__") 207, val := Value.int 5 206 }, { hash := PyData.keyHash P (Str.ofString "__init__"), key := Value.str (Str.ofString "__init__") 216, val := Value.ref 36 }, { hash := PyData.keyHash P (Str.ofString "told"), key := Value.str (Str.ofString "told") 223, val := Value.ref 43 }, { hash := PyData.keyHash P (Str.ofString "__static_attributes__"), key := Value.str (Str.ofString "__static_attributes__") 226, val := Value.ref 44 }, { hash := PyData.keyHash P (Str.ofString "__weakref__"), key := Value.str (Str.ofString "__weakref__") 228, val := Value.ref 47 }, { hash := PyData.keyHash P (Str.ofString "__doc__"), key := Value.str (Str.ofString "__doc__") 229, val := Value.none }] 3 })) ::
  (nat_lit 46, ({ cls := Value.type "type", data := Data.cls { name := Str.ofString "ToolError", bases := [Value.type "Exception"], mro := [Value.ref 46, Value.type "Exception", Value.type "BaseException", Value.type "object"], ns := 45, qualname := Str.ofString "ToolError", subclasses := [Value.ref 59] }, slots := #[some (Value.ref 22), none, some (Value.str (Str.ofString "ToolError") 196), some (Value.str (Str.ofString "ToolError") 204), some (Value.builtin "Exception.__new__"), some (Value.bool true)] })) ::
  (nat_lit 47, ({ cls := Value.type "getset_descriptor", data := Data.fields #[Value.str (Str.ofString "__weakref__") 227, Value.ref 46, Value.builtin "ExceptionGroup.__weakref__", Value.none] })) ::
  (nat_lit 50, ({ cls := Value.type "tuple", data := Data.seq #[Value.ref 46] })) ::
  (nat_lit 57, ({ cls := Value.type "tuple", data := Data.seq #[] })) ::
  (nat_lit 58, ({ cls := Value.type "dict", data := Data.dict #[{ hash := PyData.keyHash P (Str.ofString "__module__"), key := Value.str (Str.ofString "__module__") 241, val := Value.str (Str.ofString "grammarmill.source") 194 }, { hash := PyData.keyHash P (Str.ofString "__firstlineno__"), key := Value.str (Str.ofString "__firstlineno__") 245, val := Value.int 14 244 }, { hash := PyData.keyHash P (Str.ofString "__static_attributes__"), key := Value.str (Str.ofString "__static_attributes__") 246, val := Value.ref 57 }, { hash := PyData.keyHash P (Str.ofString "__doc__"), key := Value.str (Str.ofString "__doc__") 247, val := Value.none }] 2 })) ::
  (nat_lit 59, ({ cls := Value.type "type", data := Data.cls { name := Str.ofString "TableError", bases := [Value.ref 46], mro := [Value.ref 59, Value.ref 46, Value.type "Exception", Value.type "BaseException", Value.type "object"], ns := 58, qualname := Str.ofString "TableError" }, slots := #[some (Value.ref 50), none, some (Value.str (Str.ofString "TableError") 234), some (Value.str (Str.ofString "TableError") 242), some (Value.builtin "Exception.__new__"), some (Value.bool true)] })) ::
  (nat_lit 69, ({ cls := Value.type "tuple", data := Data.seq #[] })) ::
  (nat_lit 71, ({ cls := Value.type "tuple", data := Data.seq #[Value.str (Str.ofString "self") 269, Value.str (Str.ofString "spans") 270] })) ::
  (nat_lit 72, ({ cls := Value.type "tuple", data := Data.seq #[] })) ::
  (nat_lit 74, ({ cls := Value.type "code", data := Data.fields #[Value.str (Str.ofString "__init__") 266, Value.str (Str.ofString "CharSet.__init__") 267, Value.str (Str.ofString "/claim/cut.py") 268, Value.int 20 0, Value.int 2 0, Value.int 0 0, Value.int 0 0, Value.int 3 0, Value.ref 69, Value.bool true, Value.int 181 0, Value.ref 70, Value.none, Value.ref 71, Value.ref 72, Value.ref 73, Value.int 271 0, Value.int 20 0, Value.str (Str.ofString "/claim/cut.py") 272] })) ::
  (nat_lit 75, ({ cls := Value.type "function", data := Data.func { name := Str.ofString "__init__", qualname := Str.ofString "CharSet.__init__", params := pOf (dC 6 0), body := FuncBody.stmts (bOf (dC 6 0)), scope := sOf (dC 6 0), globals := 3, closure := [], defaults := Value.none, kwdefaults := Value.none, pyModule := Value.str (Str.ofString "grammarmill.charset") 250, code := Value.ref 74 } })) ::
  (nat_lit 76, ({ cls := Value.type "tuple", data := Data.seq #[] })) ::
  (nat_lit 78, ({ cls := Value.type "tuple", data := Data.seq #[] })) ::
  (nat_lit 79, ({ cls := Value.type "tuple", data := Data.seq #[] })) ::
  (nat_lit 81, ({ cls := Value.type "code", data := Data.fields #[Value.str (Str.ofString "none") 274, Value.str (Str.ofString "CharSet.none") 275, Value.str (Str.ofString "/claim/cut.py") 276, Value.int 23 0, Value.int 0 0, Value.int 0 0, Value.int 0 0, Value.int 3 0, Value.ref 76, Value.bool true, Value.int 181 0, Value.ref 77, Value.none, Value.ref 78, Value.ref 79, Value.ref 80, Value.int 277 0, Value.int 23 0, Value.str (Str.ofString "/claim/cut.py") 278] })) ::
  (nat_lit 82, ({ cls := Value.type "function", data := Data.func { name := Str.ofString "none", qualname := Str.ofString "CharSet.none", params := pOf (dC 6 1), body := FuncBody.stmts (bOf (dC 6 1)), scope := sOf (dC 6 1), globals := 3, closure := [], defaults := Value.none, kwdefaults := Value.none, pyModule := Value.str (Str.ofString "grammarmill.charset") 250, annotations := some 85, code := Value.ref 81 } })) ::
  (nat_lit 83, ({ cls := Value.type "dict", data := Data.dict #[{ hash := PyData.keyHash P (Str.ofString "__module__"), key := Value.str (Str.ofString "__module__") 280, val := Value.str (Str.ofString "grammarmill.charset") 250 }, { hash := PyData.keyHash P (Str.ofString "__name__"), key := Value.str (Str.ofString "__name__") 283, val := Value.str (Str.ofString "none") 282 }, { hash := PyData.keyHash P (Str.ofString "__qualname__"), key := Value.str (Str.ofString "__qualname__") 286, val := Value.str (Str.ofString "CharSet.none") 285 }, { hash := PyData.keyHash P (Str.ofString "__doc__"), key := Value.str (Str.ofString "__doc__") 288, val := Value.none }, { hash := PyData.keyHash P (Str.ofString "__annotations__"), key := Value.str (Str.ofString "__annotations__") 290, val := Value.ref 85 }] 5 })) ::
  (nat_lit 84, ({ cls := Value.type "staticmethod", dict := some 83, data := Data.fields #[Value.ref 82, Value.bool false] })) ::
  (nat_lit 85, ({ cls := Value.type "dict", data := Data.dict #[] })) ::
  (nat_lit 86, ({ cls := Value.type "tuple", data := Data.seq #[] })) ::
  (nat_lit 88, ({ cls := Value.type "tuple", data := Data.seq #[] })) ::
  (nat_lit 89, ({ cls := Value.type "tuple", data := Data.seq #[] })) ::
  (nat_lit 91, ({ cls := Value.type "code", data := Data.fields #[Value.str (Str.ofString "every") 292, Value.str (Str.ofString "CharSet.every") 293, Value.str (Str.ofString "/claim/cut.py") 294, Value.int 27 0, Value.int 0 0, Value.int 0 0, Value.int 0 0, Value.int 3 0, Value.ref 86, Value.bool true, Value.int 181 0, Value.ref 87, Value.none, Value.ref 88, Value.ref 89, Value.ref 90, Value.int 295 0, Value.int 27 0, Value.str (Str.ofString "/claim/cut.py") 296] })) ::
  (nat_lit 92, ({ cls := Value.type "function", data := Data.func { name := Str.ofString "every", qualname := Str.ofString "CharSet.every", params := pOf (dC 6 2), body := FuncBody.stmts (bOf (dC 6 2)), scope := sOf (dC 6 2), globals := 3, closure := [], defaults := Value.none, kwdefaults := Value.none, pyModule := Value.str (Str.ofString "grammarmill.charset") 250, annotations := some 95, code := Value.ref 91 } })) ::
  (nat_lit 93, ({ cls := Value.type "dict", data := Data.dict #[{ hash := PyData.keyHash P (Str.ofString "__module__"), key := Value.str (Str.ofString "__module__") 298, val := Value.str (Str.ofString "grammarmill.charset") 250 }, { hash := PyData.keyHash P (Str.ofString "__name__"), key := Value.str (Str.ofString "__name__") 301, val := Value.str (Str.ofString "every") 300 }, { hash := PyData.keyHash P (Str.ofString "__qualname__"), key := Value.str (Str.ofString "__qualname__") 304, val := Value.str (Str.ofString "CharSet.every") 303 }, { hash := PyData.keyHash P (Str.ofString "__doc__"), key := Value.str (Str.ofString "__doc__") 306, val := Value.none }, { hash := PyData.keyHash P (Str.ofString "__annotations__"), key := Value.str (Str.ofString "__annotations__") 308, val := Value.ref 95 }] 5 })) ::
  (nat_lit 94, ({ cls := Value.type "staticmethod", dict := some 93, data := Data.fields #[Value.ref 92, Value.bool false] })) ::
  (nat_lit 95, ({ cls := Value.type "dict", data := Data.dict #[] })) ::
  (nat_lit 96, ({ cls := Value.type "tuple", data := Data.seq #[] })) ::
  (nat_lit 98, ({ cls := Value.type "tuple", data := Data.seq #[] })) ::
  (nat_lit 99, ({ cls := Value.type "tuple", data := Data.seq #[] })) ::
  (nat_lit 101, ({ cls := Value.type "code", data := Data.fields #[Value.str (Str.ofString "dot") 310, Value.str (Str.ofString "CharSet.dot") 311, Value.str (Str.ofString "/claim/cut.py") 312, Value.int 31 0, Value.int 0 0, Value.int 0 0, Value.int 0 0, Value.int 3 0, Value.ref 96, Value.bool true, Value.int 181 0, Value.ref 97, Value.none, Value.ref 98, Value.ref 99, Value.ref 100, Value.int 313 0, Value.int 31 0, Value.str (Str.ofString "/claim/cut.py") 314] })) ::
  (nat_lit 102, ({ cls := Value.type "function", data := Data.func { name := Str.ofString "dot", qualname := Str.ofString "CharSet.dot", params := pOf (dC 6 3), body := FuncBody.stmts (bOf (dC 6 3)), scope := sOf (dC 6 3), globals := 3, closure := [], defaults := Value.none, kwdefaults := Value.none, pyModule := Value.str (Str.ofString "grammarmill.charset") 250, annotations := some 105, code := Value.ref 101 } })) ::
  (nat_lit 103, ({ cls := Value.type "dict", data := Data.dict #[{ hash := PyData.keyHash P (Str.ofString "__module__"), key := Value.str (Str.ofString "__module__") 316, val := Value.str (Str.ofString "grammarmill.charset") 250 }, { hash := PyData.keyHash P (Str.ofString "__name__"), key := Value.str (Str.ofString "__name__") 319, val := Value.str (Str.ofString "dot") 318 }, { hash := PyData.keyHash P (Str.ofString "__qualname__"), key := Value.str (Str.ofString "__qualname__") 322, val := Value.str (Str.ofString "CharSet.dot") 321 }, { hash := PyData.keyHash P (Str.ofString "__doc__"), key := Value.str (Str.ofString "__doc__") 324, val := Value.none }, { hash := PyData.keyHash P (Str.ofString "__annotations__"), key := Value.str (Str.ofString "__annotations__") 326, val := Value.ref 105 }] 5 })) ::
  (nat_lit 104, ({ cls := Value.type "staticmethod", dict := some 103, data := Data.fields #[Value.ref 102, Value.bool false] })) ::
  (nat_lit 105, ({ cls := Value.type "dict", data := Data.dict #[] })) ::
  (nat_lit 106, ({ cls := Value.type "tuple", data := Data.seq #[] })) ::
  (nat_lit 109, ({ cls := Value.type "code", data := Data.fields #[Value.str (Str.ofString "of") 328, Value.str (Str.ofString "CharSet.of") 329, Value.str (Str.ofString "/claim/cut.py") 330, Value.int 35 0, Value.int 1 0, Value.int 0 0, Value.int 0 0, Value.int 3 0, Value.ref 106, Value.bool true, Value.int 181 0, Value.ref 107, Value.none, Value.none, Value.none, Value.ref 108, Value.int 331 0, Value.int 35 0, Value.str (Str.ofString "/claim/cut.py") 332] })) ::
  (nat_lit 110, ({ cls := Value.type "function", data := Data.func { name := Str.ofString "of", qualname := Str.ofString "CharSet.of", params := pOf (dC 6 4), body := FuncBody.stmts (bOf (dC 6 4)), scope := sOf (dC 6 4), globals := 3, closure := [], defaults := Value.none, kwdefaults := Value.none, pyModule := Value.str (Str.ofString "grammarmill.charset") 250, annotations := some 113, code := Value.ref 109 } })) ::
  (nat_lit 111, ({ cls := Value.type "dict", data := Data.dict #[{ hash := PyData.keyHash P (Str.ofString "__module__"), key := Value.str (Str.ofString "__module__") 334, val := Value.str (Str.ofString "grammarmill.charset") 250 }, { hash := PyData.keyHash P (Str.ofString "__name__"), key := Value.str (Str.ofString "__name__") 337, val := Value.str (Str.ofString "of") 336 }, { hash := PyData.keyHash P (Str.ofString "__qualname__"), key := Value.str (Str.ofString "__qualname__") 340, val := Value.str (Str.ofString "CharSet.of") 339 }, { hash := PyData.keyHash P (Str.ofString "__doc__"), key := Value.str (Str.ofString "__doc__") 342, val := Value.none }, { hash := PyData.keyHash P (Str.ofString "__annotations__"), key := Value.str (Str.ofString "__annotations__") 344, val := Value.ref 113 }] 5 })) ::
  (nat_lit 112, ({ cls := Value.type "staticmethod", dict := some 111, data := Data.fields #[Value.ref 110, Value.bool false] })) ::
  (nat_lit 113, ({ cls := Value.type "dict", data := Data.dict #[] })) ::
  (nat_lit 114, ({ cls := Value.type "tuple", data := Data.seq #[] })) ::
  (nat_lit 116, ({ cls := Value.type "tuple", data := Data.seq #[Value.str (Str.ofString "low") 349, Value.str (Str.ofString "high") 350] })) ::
  (nat_lit 117, ({ cls := Value.type "tuple", data := Data.seq #[] })) ::
  (nat_lit 119, ({ cls := Value.type "code", data := Data.fields #[Value.str (Str.ofString "span") 346, Value.str (Str.ofString "CharSet.span") 347, Value.str (Str.ofString "/claim/cut.py") 348, Value.int 39 0, Value.int 2 0, Value.int 0 0, Value.int 0 0, Value.int 3 0, Value.ref 114, Value.bool true, Value.int 181 0, Value.ref 115, Value.none, Value.ref 116, Value.ref 117, Value.ref 118, Value.int 351 0, Value.int 39 0, Value.str (Str.ofString "/claim/cut.py") 352] })) ::
  (nat_lit 120, ({ cls := Value.type "function", data := Data.func { name := Str.ofString "span", qualname := Str.ofString "CharSet.span", params := pOf (dC 6 5), body := FuncBody.stmts (bOf (dC 6 5)), scope := sOf (dC 6 5), globals := 3, closure := [], defaults := Value.none, kwdefaults := Value.none, pyModule := Value.str (Str.ofString "grammarmill.charset") 250, annotations := some 123, code := Value.ref 119 } })) ::
  (nat_lit 121, ({ cls := Value.type "dict", data := Data.dict #[{ hash := PyData.keyHash P (Str.ofString "__module__"), key := Value.str (Str.ofString "__module__") 354, val := Value.str (Str.ofString "grammarmill.charset") 250 }, { hash := PyData.keyHash P (Str.ofString "__name__"), key := Value.str (Str.ofString "__name__") 357, val := Value.str (Str.ofString "span") 356 }, { hash := PyData.keyHash P (Str.ofString "__qualname__"), key := Value.str (Str.ofString "__qualname__") 360, val := Value.str (Str.ofString "CharSet.span") 359 }, { hash := PyData.keyHash P (Str.ofString "__doc__"), key := Value.str (Str.ofString "__doc__") 362, val := Value.none }, { hash := PyData.keyHash P (Str.ofString "__annotations__"), key := Value.str (Str.ofString "__annotations__") 364, val := Value.ref 123 }] 5 })) ::
  (nat_lit 122, ({ cls := Value.type "staticmethod", dict := some 121, data := Data.fields #[Value.ref 120, Value.bool false] })) ::
  (nat_lit 123, ({ cls := Value.type "dict", data := Data.dict #[] })) ::
  (nat_lit 124, ({ cls := Value.type "tuple", data := Data.seq #[] })) ::
  (nat_lit 126, ({ cls := Value.type "tuple", data := Data.seq #[Value.str (Str.ofString "pairs") 369, Value.str (Str.ofString "kept") 370, Value.str (Str.ofString "first") 371, Value.str (Str.ofString "last") 372, Value.str (Str.ofString "low") 373, Value.str (Str.ofString "high") 374, Value.str (Str.ofString "spans") 375] })) ::
  (nat_lit 127, ({ cls := Value.type "tuple", data := Data.seq #[] })) ::
  (nat_lit 129, ({ cls := Value.type "code", data := Data.fields #[Value.str (Str.ofString "made") 366, Value.str (Str.ofString "CharSet.made") 367, Value.str (Str.ofString "/claim/cut.py") 368, Value.int 43 0, Value.int 1 0, Value.int 0 0, Value.int 0 0, Value.int 3 0, Value.ref 124, Value.bool true, Value.int 181 0, Value.ref 125, Value.none, Value.ref 126, Value.ref 127, Value.ref 128, Value.int 376 0, Value.int 43 0, Value.str (Str.ofString "/claim/cut.py") 377] })) ::
  (nat_lit 130, ({ cls := Value.type "function", data := Data.func { name := Str.ofString "made", qualname := Str.ofString "CharSet.made", params := pOf (dC 6 6), body := FuncBody.stmts (bOf (dC 6 6)), scope := sOf (dC 6 6), globals := 3, closure := [], defaults := Value.none, kwdefaults := Value.none, pyModule := Value.str (Str.ofString "grammarmill.charset") 250, annotations := some 133, code := Value.ref 129 } })) ::
  (nat_lit 131, ({ cls := Value.type "dict", data := Data.dict #[{ hash := PyData.keyHash P (Str.ofString "__module__"), key := Value.str (Str.ofString "__module__") 379, val := Value.str (Str.ofString "grammarmill.charset") 250 }, { hash := PyData.keyHash P (Str.ofString "__name__"), key := Value.str (Str.ofString "__name__") 382, val := Value.str (Str.ofString "made") 381 }, { hash := PyData.keyHash P (Str.ofString "__qualname__"), key := Value.str (Str.ofString "__qualname__") 385, val := Value.str (Str.ofString "CharSet.made") 384 }, { hash := PyData.keyHash P (Str.ofString "__doc__"), key := Value.str (Str.ofString "__doc__") 387, val := Value.none }, { hash := PyData.keyHash P (Str.ofString "__annotations__"), key := Value.str (Str.ofString "__annotations__") 389, val := Value.ref 133 }] 5 })) ::
  (nat_lit 132, ({ cls := Value.type "staticmethod", dict := some 131, data := Data.fields #[Value.ref 130, Value.bool false] })) ::
  (nat_lit 133, ({ cls := Value.type "dict", data := Data.dict #[] })) ::
  (nat_lit 134, ({ cls := Value.type "tuple", data := Data.seq #[] })) ::
  (nat_lit 136, ({ cls := Value.type "tuple", data := Data.seq #[Value.str (Str.ofString "self") 394, Value.str (Str.ofString "code") 395] })) ::
  (nat_lit 137, ({ cls := Value.type "tuple", data := Data.seq #[] })) ::
  (nat_lit 139, ({ cls := Value.type "code", data := Data.fields #[Value.str (Str.ofString "has") 391, Value.str (Str.ofString "CharSet.has") 392, Value.str (Str.ofString "/claim/cut.py") 393, Value.int 60 0, Value.int 2 0, Value.int 0 0, Value.int 0 0, Value.int 3 0, Value.ref 134, Value.bool true, Value.int 181 0, Value.ref 135, Value.none, Value.ref 136, Value.ref 137, Value.ref 138, Value.int 396 0, Value.int 60 0, Value.str (Str.ofString "/claim/cut.py") 397] })) ::
  (nat_lit 140, ({ cls := Value.type "function", data := Data.func { name := Str.ofString "has", qualname := Str.ofString "CharSet.has", params := pOf (dC 6 7), body := FuncBody.stmts (bOf (dC 6 7)), scope := sOf (dC 6 7), globals := 3, closure := [], defaults := Value.none, kwdefaults := Value.none, pyModule := Value.str (Str.ofString "grammarmill.charset") 250, code := Value.ref 139 } })) ::
  (nat_lit 141, ({ cls := Value.type "tuple", data := Data.seq #[] })) ::
  (nat_lit 143, ({ cls := Value.type "tuple", data := Data.seq #[Value.str (Str.ofString "self") 402] })) ::
  (nat_lit 144, ({ cls := Value.type "tuple", data := Data.seq #[] })) ::
  (nat_lit 146, ({ cls := Value.type "code", data := Data.fields #[Value.str (Str.ofString "size") 399, Value.str (Str.ofString "CharSet.size") 400, Value.str (Str.ofString "/claim/cut.py") 401, Value.int 63 0, Value.int 1 0, Value.int 0 0, Value.int 0 0, Value.int 3 0, Value.ref 141, Value.bool true, Value.int 181 0, Value.ref 142, Value.none, Value.ref 143, Value.ref 144, Value.ref 145, Value.int 403 0, Value.int 63 0, Value.str (Str.ofString "/claim/cut.py") 404] })) ::
  (nat_lit 147, ({ cls := Value.type "function", data := Data.func { name := Str.ofString "size", qualname := Str.ofString "CharSet.size", params := pOf (dC 6 8), body := FuncBody.stmts (bOf (dC 6 8)), scope := sOf (dC 6 8), globals := 3, closure := [], defaults := Value.none, kwdefaults := Value.none, pyModule := Value.str (Str.ofString "grammarmill.charset") 250, code := Value.ref 146 } })) ::
  (nat_lit 148, ({ cls := Value.type "tuple", data := Data.seq #[] })) ::
  (nat_lit 150, ({ cls := Value.type "tuple", data := Data.seq #[Value.str (Str.ofString "self") 409, Value.str (Str.ofString "found") 410, Value.str (Str.ofString "low") 411, Value.str (Str.ofString "high") 412] })) ::
  (nat_lit 151, ({ cls := Value.type "tuple", data := Data.seq #[] })) ::
  (nat_lit 153, ({ cls := Value.type "code", data := Data.fields #[Value.str (Str.ofString "codes") 406, Value.str (Str.ofString "CharSet.codes") 407, Value.str (Str.ofString "/claim/cut.py") 408, Value.int 66 0, Value.int 1 0, Value.int 0 0, Value.int 0 0, Value.int 3 0, Value.ref 148, Value.bool true, Value.int 181 0, Value.ref 149, Value.none, Value.ref 150, Value.ref 151, Value.ref 152, Value.int 413 0, Value.int 66 0, Value.str (Str.ofString "/claim/cut.py") 414] })) ::
  (nat_lit 154, ({ cls := Value.type "function", data := Data.func { name := Str.ofString "codes", qualname := Str.ofString "CharSet.codes", params := pOf (dC 6 9), body := FuncBody.stmts (bOf (dC 6 9)), scope := sOf (dC 6 9), globals := 3, closure := [], defaults := Value.none, kwdefaults := Value.none, pyModule := Value.str (Str.ofString "grammarmill.charset") 250, code := Value.ref 153 } })) ::
  (nat_lit 155, ({ cls := Value.type "tuple", data := Data.seq #[] })) ::
  (nat_lit 157, ({ cls := Value.type "tuple", data := Data.seq #[Value.str (Str.ofString "self") 419] })) ::
  (nat_lit 158, ({ cls := Value.type "tuple", data := Data.seq #[] })) ::
  (nat_lit 160, ({ cls := Value.type "code", data := Data.fields #[Value.str (Str.ofString "least") 416, Value.str (Str.ofString "CharSet.least") 417, Value.str (Str.ofString "/claim/cut.py") 418, Value.int 72 0, Value.int 1 0, Value.int 0 0, Value.int 0 0, Value.int 3 0, Value.ref 155, Value.bool true, Value.int 181 0, Value.ref 156, Value.none, Value.ref 157, Value.ref 158, Value.ref 159, Value.int 420 0, Value.int 72 0, Value.str (Str.ofString "/claim/cut.py") 421] })) ::
  (nat_lit 161, ({ cls := Value.type "function", data := Data.func { name := Str.ofString "least", qualname := Str.ofString "CharSet.least", params := pOf (dC 6 10), body := FuncBody.stmts (bOf (dC 6 10)), scope := sOf (dC 6 10), globals := 3, closure := [], defaults := Value.none, kwdefaults := Value.none, pyModule := Value.str (Str.ofString "grammarmill.charset") 250, code := Value.ref 160 } })) ::
  (nat_lit 162, ({ cls := Value.type "tuple", data := Data.seq #[] })) ::
  (nat_lit 164, ({ cls := Value.type "tuple", data := Data.seq #[Value.str (Str.ofString "self") 426] })) ::
  (nat_lit 165, ({ cls := Value.type "tuple", data := Data.seq #[] })) ::
  (nat_lit 167, ({ cls := Value.type "code", data := Data.fields #[Value.str (Str.ofString "is_empty") 423, Value.str (Str.ofString "CharSet.is_empty") 424, Value.str (Str.ofString "/claim/cut.py") 425, Value.int 77 0, Value.int 1 0, Value.int 0 0, Value.int 0 0, Value.int 3 0, Value.ref 162, Value.bool true, Value.int 181 0, Value.ref 163, Value.none, Value.ref 164, Value.ref 165, Value.ref 166, Value.int 427 0, Value.int 77 0, Value.str (Str.ofString "/claim/cut.py") 428] })) ::
  (nat_lit 168, ({ cls := Value.type "function", data := Data.func { name := Str.ofString "is_empty", qualname := Str.ofString "CharSet.is_empty", params := pOf (dC 6 11), body := FuncBody.stmts (bOf (dC 6 11)), scope := sOf (dC 6 11), globals := 3, closure := [], defaults := Value.none, kwdefaults := Value.none, pyModule := Value.str (Str.ofString "grammarmill.charset") 250, code := Value.ref 167 } })) ::
  (nat_lit 169, ({ cls := Value.type "tuple", data := Data.seq #[] })) ::
  (nat_lit 171, ({ cls := Value.type "tuple", data := Data.seq #[Value.str (Str.ofString "self") 433, Value.str (Str.ofString "other") 434] })) ::
  (nat_lit 172, ({ cls := Value.type "tuple", data := Data.seq #[] })) ::
  (nat_lit 174, ({ cls := Value.type "code", data := Data.fields #[Value.str (Str.ofString "union") 430, Value.str (Str.ofString "CharSet.union") 431, Value.str (Str.ofString "/claim/cut.py") 432, Value.int 80 0, Value.int 2 0, Value.int 0 0, Value.int 0 0, Value.int 3 0, Value.ref 169, Value.bool true, Value.int 181 0, Value.ref 170, Value.none, Value.ref 171, Value.ref 172, Value.ref 173, Value.int 435 0, Value.int 80 0, Value.str (Str.ofString "/claim/cut.py") 436] })) ::
  (nat_lit 175, ({ cls := Value.type "function", data := Data.func { name := Str.ofString "union", qualname := Str.ofString "CharSet.union", params := pOf (dC 6 12), body := FuncBody.stmts (bOf (dC 6 12)), scope := sOf (dC 6 12), globals := 3, closure := [], defaults := Value.none, kwdefaults := Value.none, pyModule := Value.str (Str.ofString "grammarmill.charset") 250, code := Value.ref 174 } })) ::
  (nat_lit 176, ({ cls := Value.type "tuple", data := Data.seq #[] })) ::
  (nat_lit 178, ({ cls := Value.type "tuple", data := Data.seq #[Value.str (Str.ofString "self") 441, Value.str (Str.ofString "other") 442] })) ::
  (nat_lit 179, ({ cls := Value.type "tuple", data := Data.seq #[] })) ::
  (nat_lit 181, ({ cls := Value.type "code", data := Data.fields #[Value.str (Str.ofString "meet") 438, Value.str (Str.ofString "CharSet.meet") 439, Value.str (Str.ofString "/claim/cut.py") 440, Value.int 83 0, Value.int 2 0, Value.int 0 0, Value.int 0 0, Value.int 3 0, Value.ref 176, Value.bool true, Value.int 181 0, Value.ref 177, Value.none, Value.ref 178, Value.ref 179, Value.ref 180, Value.int 443 0, Value.int 83 0, Value.str (Str.ofString "/claim/cut.py") 444] })) ::
  (nat_lit 182, ({ cls := Value.type "function", data := Data.func { name := Str.ofString "meet", qualname := Str.ofString "CharSet.meet", params := pOf (dC 6 13), body := FuncBody.stmts (bOf (dC 6 13)), scope := sOf (dC 6 13), globals := 3, closure := [], defaults := Value.none, kwdefaults := Value.none, pyModule := Value.str (Str.ofString "grammarmill.charset") 250, code := Value.ref 181 } })) ::
  (nat_lit 183, ({ cls := Value.type "tuple", data := Data.seq #[] })) ::
  (nat_lit 185, ({ cls := Value.type "tuple", data := Data.seq #[Value.str (Str.ofString "self") 449] })) ::
  (nat_lit 186, ({ cls := Value.type "tuple", data := Data.seq #[] })) ::
  (nat_lit 188, ({ cls := Value.type "code", data := Data.fields #[Value.str (Str.ofString "complement") 446, Value.str (Str.ofString "CharSet.complement") 447, Value.str (Str.ofString "/claim/cut.py") 448, Value.int 86 0, Value.int 1 0, Value.int 0 0, Value.int 0 0, Value.int 3 0, Value.ref 183, Value.bool true, Value.int 181 0, Value.ref 184, Value.none, Value.ref 185, Value.ref 186, Value.ref 187, Value.int 450 0, Value.int 86 0, Value.str (Str.ofString "/claim/cut.py") 451] })) ::
  (nat_lit 189, ({ cls := Value.type "function", data := Data.func { name := Str.ofString "complement", qualname := Str.ofString "CharSet.complement", params := pOf (dC 6 14), body := FuncBody.stmts (bOf (dC 6 14)), scope := sOf (dC 6 14), globals := 3, closure := [], defaults := Value.none, kwdefaults := Value.none, pyModule := Value.str (Str.ofString "grammarmill.charset") 250, code := Value.ref 188 } })) ::
  (nat_lit 190, ({ cls := Value.type "tuple", data := Data.seq #[] })) ::
  (nat_lit 192, ({ cls := Value.type "tuple", data := Data.seq #[Value.str (Str.ofString "self") 456, Value.str (Str.ofString "other") 457] })) ::
  (nat_lit 193, ({ cls := Value.type "tuple", data := Data.seq #[] })) ::
  (nat_lit 195, ({ cls := Value.type "code", data := Data.fields #[Value.str (Str.ofString "minus") 453, Value.str (Str.ofString "CharSet.minus") 454, Value.str (Str.ofString "/claim/cut.py") 455, Value.int 89 0, Value.int 2 0, Value.int 0 0, Value.int 0 0, Value.int 3 0, Value.ref 190, Value.bool true, Value.int 181 0, Value.ref 191, Value.none, Value.ref 192, Value.ref 193, Value.ref 194, Value.int 458 0, Value.int 89 0, Value.str (Str.ofString "/claim/cut.py") 459] })) ::
  (nat_lit 196, ({ cls := Value.type "function", data := Data.func { name := Str.ofString "minus", qualname := Str.ofString "CharSet.minus", params := pOf (dC 6 15), body := FuncBody.stmts (bOf (dC 6 15)), scope := sOf (dC 6 15), globals := 3, closure := [], defaults := Value.none, kwdefaults := Value.none, pyModule := Value.str (Str.ofString "grammarmill.charset") 250, code := Value.ref 195 } })) ::
  (nat_lit 197, ({ cls := Value.type "tuple", data := Data.seq #[] })) ::
  (nat_lit 199, ({ cls := Value.type "tuple", data := Data.seq #[Value.str (Str.ofString "self") 464, Value.str (Str.ofString "other") 465] })) ::
  (nat_lit 200, ({ cls := Value.type "tuple", data := Data.seq #[] })) ::
  (nat_lit 202, ({ cls := Value.type "code", data := Data.fields #[Value.str (Str.ofString "same") 461, Value.str (Str.ofString "CharSet.same") 462, Value.str (Str.ofString "/claim/cut.py") 463, Value.int 92 0, Value.int 2 0, Value.int 0 0, Value.int 0 0, Value.int 3 0, Value.ref 197, Value.bool true, Value.int 181 0, Value.ref 198, Value.none, Value.ref 199, Value.ref 200, Value.ref 201, Value.int 466 0, Value.int 92 0, Value.str (Str.ofString "/claim/cut.py") 467] })) ::
  (nat_lit 203, ({ cls := Value.type "function", data := Data.func { name := Str.ofString "same", qualname := Str.ofString "CharSet.same", params := pOf (dC 6 16), body := FuncBody.stmts (bOf (dC 6 16)), scope := sOf (dC 6 16), globals := 3, closure := [], defaults := Value.none, kwdefaults := Value.none, pyModule := Value.str (Str.ofString "grammarmill.charset") 250, code := Value.ref 202 } })) ::
  (nat_lit 204, ({ cls := Value.type "tuple", data := Data.seq #[] })) ::
  (nat_lit 206, ({ cls := Value.type "tuple", data := Data.seq #[Value.str (Str.ofString "self") 472, Value.str (Str.ofString "other") 473] })) ::
  (nat_lit 207, ({ cls := Value.type "tuple", data := Data.seq #[] })) ::
  (nat_lit 209, ({ cls := Value.type "code", data := Data.fields #[Value.str (Str.ofString "meets") 469, Value.str (Str.ofString "CharSet.meets") 470, Value.str (Str.ofString "/claim/cut.py") 471, Value.int 95 0, Value.int 2 0, Value.int 0 0, Value.int 0 0, Value.int 3 0, Value.ref 204, Value.bool true, Value.int 181 0, Value.ref 205, Value.none, Value.ref 206, Value.ref 207, Value.ref 208, Value.int 474 0, Value.int 95 0, Value.str (Str.ofString "/claim/cut.py") 475] })) ::
  (nat_lit 210, ({ cls := Value.type "function", data := Data.func { name := Str.ofString "meets", qualname := Str.ofString "CharSet.meets", params := pOf (dC 6 17), body := FuncBody.stmts (bOf (dC 6 17)), scope := sOf (dC 6 17), globals := 3, closure := [], defaults := Value.none, kwdefaults := Value.none, pyModule := Value.str (Str.ofString "grammarmill.charset") 250, code := Value.ref 209 } })) ::
  (nat_lit 211, ({ cls := Value.type "tuple", data := Data.seq #[] })) ::
  (nat_lit 213, ({ cls := Value.type "tuple", data := Data.seq #[Value.str (Str.ofString "self") 480] })) ::
  (nat_lit 214, ({ cls := Value.type "tuple", data := Data.seq #[] })) ::
  (nat_lit 216, ({ cls := Value.type "code", data := Data.fields #[Value.str (Str.ofString "folded") 477, Value.str (Str.ofString "CharSet.folded") 478, Value.str (Str.ofString "/claim/cut.py") 479, Value.int 98 0, Value.int 1 0, Value.int 0 0, Value.int 0 0, Value.int 3 0, Value.ref 211, Value.bool true, Value.int 181 0, Value.ref 212, Value.none, Value.ref 213, Value.ref 214, Value.ref 215, Value.int 481 0, Value.int 98 0, Value.str (Str.ofString "/claim/cut.py") 482] })) ::
  (nat_lit 217, ({ cls := Value.type "function", data := Data.func { name := Str.ofString "folded", qualname := Str.ofString "CharSet.folded", params := pOf (dC 6 18), body := FuncBody.stmts (bOf (dC 6 18)), scope := sOf (dC 6 18), globals := 3, closure := [], defaults := Value.none, kwdefaults := Value.none, pyModule := Value.str (Str.ofString "grammarmill.charset") 250, code := Value.ref 216 } })) ::
  (nat_lit 218, ({ cls := Value.type "tuple", data := Data.seq #[] })) ::
  (nat_lit 220, ({ cls := Value.type "tuple", data := Data.seq #[Value.str (Str.ofString "self") 487] })) ::
  (nat_lit 221, ({ cls := Value.type "tuple", data := Data.seq #[] })) ::
  (nat_lit 223, ({ cls := Value.type "code", data := Data.fields #[Value.str (Str.ofString "key") 484, Value.str (Str.ofString "CharSet.key") 485, Value.str (Str.ofString "/claim/cut.py") 486, Value.int 101 0, Value.int 1 0, Value.int 0 0, Value.int 0 0, Value.int 3 0, Value.ref 218, Value.bool true, Value.int 181 0, Value.ref 219, Value.none, Value.ref 220, Value.ref 221, Value.ref 222, Value.int 488 0, Value.int 101 0, Value.str (Str.ofString "/claim/cut.py") 489] })) ::
  (nat_lit 224, ({ cls := Value.type "function", data := Data.func { name := Str.ofString "key", qualname := Str.ofString "CharSet.key", params := pOf (dC 6 19), body := FuncBody.stmts (bOf (dC 6 19)), scope := sOf (dC 6 19), globals := 3, closure := [], defaults := Value.none, kwdefaults := Value.none, pyModule := Value.str (Str.ofString "grammarmill.charset") 250, code := Value.ref 223 } })) ::
  (nat_lit 225, ({ cls := Value.type "tuple", data := Data.seq #[Value.str (Str.ofString "spans") 491] })) ::
  (nat_lit 226, ({ cls := Value.type "dict", data := Data.dict #[{ hash := PyData.keyHash P (Str.ofString "__module__"), key := Value.str (Str.ofString "__module__") 261, val := Value.str (Str.ofString "grammarmill.charset") 250 }, { hash := PyData.keyHash P (Str.ofString "__firstlineno__"), key := Value.str (Str.ofString "__firstlineno__") 265, val := Value.int 18 264 }, { hash := PyData.keyHash P (Str.ofString "__init__"), key := Value.str (Str.ofString "__init__") 273, val := Value.ref 75 }, { hash := PyData.keyHash P (Str.ofString "none"), key := Value.str (Str.ofString "none") 291, val := Value.ref 84 }, { hash := PyData.keyHash P (Str.ofString "every"), key := Value.str (Str.ofString "every") 309, val := Value.ref 94 }, { hash := PyData.keyHash P (Str.ofString "dot"), key := Value.str (Str.ofString "dot") 327, val := Value.ref 104 }, { hash := PyData.keyHash P (Str.ofString "of"), key := Value.str (Str.ofString "of") 345, val := Value.ref 112 }, { hash := PyData.keyHash P (Str.ofString "span"), key := Value.str (Str.ofString "span") 365, val := Value.ref 122 }, { hash := PyData.keyHash P (Str.ofString "made"), key := Value.str (Str.ofString "made") 390, val := Value.ref 132 }, { hash := PyData.keyHash P (Str.ofString "has"), key := Value.str (Str.ofString "has") 398, val := Value.ref 140 }, { hash := PyData.keyHash P (Str.ofString "size"), key := Value.str (Str.ofString "size") 405, val := Value.ref 147 }, { hash := PyData.keyHash P (Str.ofString "codes"), key := Value.str (Str.ofString "codes") 415, val := Value.ref 154 }, { hash := PyData.keyHash P (Str.ofString "least"), key := Value.str (Str.ofString "least") 422, val := Value.ref 161 }, { hash := PyData.keyHash P (Str.ofString "is_empty"), key := Value.str (Str.ofString "is_empty") 429, val := Value.ref 168 }, { hash := PyData.keyHash P (Str.ofString "union"), key := Value.str (Str.ofString "union") 437, val := Value.ref 175 }, { hash := PyData.keyHash P (Str.ofString "meet"), key := Value.str (Str.ofString "meet") 445, val := Value.ref 182 }, { hash := PyData.keyHash P (Str.ofString "complement"), key := Value.str (Str.ofString "complement") 452, val := Value.ref 189 }, { hash := PyData.keyHash P (Str.ofString "minus"), key := Value.str (Str.ofString "minus") 460, val := Value.ref 196 }, { hash := PyData.keyHash P (Str.ofString "same"), key := Value.str (Str.ofString "same") 468, val := Value.ref 203 }, { hash := PyData.keyHash P (Str.ofString "meets"), key := Value.str (Str.ofString "meets") 476, val := Value.ref 210 }, { hash := PyData.keyHash P (Str.ofString "folded"), key := Value.str (Str.ofString "folded") 483, val := Value.ref 217 }, { hash := PyData.keyHash P (Str.ofString "key"), key := Value.str (Str.ofString "key") 490, val := Value.ref 224 }, { hash := PyData.keyHash P (Str.ofString "__static_attributes__"), key := Value.str (Str.ofString "__static_attributes__") 492, val := Value.ref 225 }, { hash := PyData.keyHash P (Str.ofString "__dict__"), key := Value.str (Str.ofString "__dict__") 494, val := Value.ref 228 }, { hash := PyData.keyHash P (Str.ofString "__weakref__"), key := Value.str (Str.ofString "__weakref__") 496, val := Value.ref 229 }, { hash := PyData.keyHash P (Str.ofString "__doc__"), key := Value.str (Str.ofString "__doc__") 497, val := Value.none }] 4 })) ::
  (nat_lit 227, ({ cls := Value.type "type", data := Data.cls { name := Str.ofString "CharSet", bases := [Value.type "object"], mro := [Value.ref 227, Value.type "object"], ns := 226, qualname := Str.ofString "CharSet" }, slots := #[none, none, some (Value.str (Str.ofString "CharSet") 254), some (Value.str (Str.ofString "CharSet") 262), some (Value.builtin "object.__new__"), some (Value.bool true)] })) ::
  (nat_lit 228, ({ cls := Value.type "getset_descriptor", data := Data.fields #[Value.str (Str.ofString "__dict__") 493, Value.ref 227, Value.builtin "function.__dict__", Value.builtin "function.__dict__#set"] })) ::
  (nat_lit 229, ({ cls := Value.type "getset_descriptor", data := Data.fields #[Value.str (Str.ofString "__weakref__") 495, Value.ref 227, Value.builtin "ExceptionGroup.__weakref__", Value.none] })) ::
  (nat_lit 239, ({ cls := Value.type "tuple", data := Data.seq #[] })) ::
  (nat_lit 241, ({ cls := Value.type "tuple", data := Data.seq #[Value.str (Str.ofString "self") 515, Value.str (Str.ofString "sets") 516, Value.str (Str.ofString "turns") 517, Value.str (Str.ofString "place") 518, Value.str (Str.ofString "low") 519, Value.str (Str.ofString "high") 520, Value.str (Str.ofString "known") 521, Value.str (Str.ofString "holders") 522, Value.str (Str.ofString "code") 523] })) ::
  (nat_lit 242, ({ cls := Value.type "tuple", data := Data.seq #[] })) ::
  (nat_lit 244, ({ cls := Value.type "code", data := Data.fields #[Value.str (Str.ofString "__init__") 512, Value.str (Str.ofString "Classes.__init__") 513, Value.str (Str.ofString "/claim/cut.py") 514, Value.int 105 0, Value.int 2 0, Value.int 0 0, Value.int 0 0, Value.int 3 0, Value.ref 239, Value.bool true, Value.int 181 0, Value.ref 240, Value.none, Value.ref 241, Value.ref 242, Value.ref 243, Value.int 524 0, Value.int 105 0, Value.str (Str.ofString "/claim/cut.py") 525] })) ::
  (nat_lit 245, ({ cls := Value.type "function", data := Data.func { name := Str.ofString "__init__", qualname := Str.ofString "Classes.__init__", params := pOf (dC 7 0), body := FuncBody.stmts (bOf (dC 7 0)), scope := sOf (dC 7 0), globals := 3, closure := [], defaults := Value.none, kwdefaults := Value.none, pyModule := Value.str (Str.ofString "grammarmill.charset") 250, code := Value.ref 244 } })) ::
  (nat_lit 246, ({ cls := Value.type "tuple", data := Data.seq #[] })) ::
  (nat_lit 249, ({ cls := Value.type "code", data := Data.fields #[Value.str (Str.ofString "from_bounds") 527, Value.str (Str.ofString "Classes.from_bounds") 528, Value.str (Str.ofString "/claim/cut.py") 529, Value.int 124 0, Value.int 2 0, Value.int 0 0, Value.int 0 0, Value.int 3 0, Value.ref 246, Value.bool true, Value.int 181 0, Value.ref 247, Value.none, Value.none, Value.none, Value.ref 248, Value.int 530 0, Value.int 124 0, Value.str (Str.ofString "/claim/cut.py") 531] })) ::
  (nat_lit 250, ({ cls := Value.type "function", data := Data.func { name := Str.ofString "from_bounds", qualname := Str.ofString "Classes.from_bounds", params := pOf (dC 7 1), body := FuncBody.stmts (bOf (dC 7 1)), scope := sOf (dC 7 1), globals := 3, closure := [], defaults := Value.none, kwdefaults := Value.none, pyModule := Value.str (Str.ofString "grammarmill.charset") 250, annotations := some 253, code := Value.ref 249 } })) ::
  (nat_lit 251, ({ cls := Value.type "dict", data := Data.dict #[{ hash := PyData.keyHash P (Str.ofString "__module__"), key := Value.str (Str.ofString "__module__") 533, val := Value.str (Str.ofString "grammarmill.charset") 250 }, { hash := PyData.keyHash P (Str.ofString "__name__"), key := Value.str (Str.ofString "__name__") 536, val := Value.str (Str.ofString "from_bounds") 535 }, { hash := PyData.keyHash P (Str.ofString "__qualname__"), key := Value.str (Str.ofString "__qualname__") 539, val := Value.str (Str.ofString "Classes.from_bounds") 538 }, { hash := PyData.keyHash P (Str.ofString "__doc__"), key := Value.str (Str.ofString "__doc__") 541, val := Value.none }, { hash := PyData.keyHash P (Str.ofString "__annotations__"), key := Value.str (Str.ofString "__annotations__") 543, val := Value.ref 253 }] 5 })) ::
  (nat_lit 252, ({ cls := Value.type "staticmethod", dict := some 251, data := Data.fields #[Value.ref 250, Value.bool false] })) ::
  (nat_lit 253, ({ cls := Value.type "dict", data := Data.dict #[] })) ::
  (nat_lit 254, ({ cls := Value.type "tuple", data := Data.seq #[] })) ::
  (nat_lit 256, ({ cls := Value.type "tuple", data := Data.seq #[Value.str (Str.ofString "self") 548, Value.str (Str.ofString "code") 549, Value.str (Str.ofString "left") 550, Value.str (Str.ofString "right") 551, Value.str (Str.ofString "middle") 552] })) ::
  (nat_lit 257, ({ cls := Value.type "tuple", data := Data.seq #[] })) ::
  (nat_lit 259, ({ cls := Value.type "code", data := Data.fields #[Value.str (Str.ofString "of") 545, Value.str (Str.ofString "Classes.of") 546, Value.str (Str.ofString "/claim/cut.py") 547, Value.int 144 0, Value.int 2 0, Value.int 0 0, Value.int 0 0, Value.int 3 0, Value.ref 254, Value.bool true, Value.int 181 0, Value.ref 255, Value.none, Value.ref 256, Value.ref 257, Value.ref 258, Value.int 553 0, Value.int 144 0, Value.str (Str.ofString "/claim/cut.py") 554] })) ::
  (nat_lit 260, ({ cls := Value.type "function", data := Data.func { name := Str.ofString "of", qualname := Str.ofString "Classes.of", params := pOf (dC 7 2), body := FuncBody.stmts (bOf (dC 7 2)), scope := sOf (dC 7 2), globals := 3, closure := [], defaults := Value.none, kwdefaults := Value.none, pyModule := Value.str (Str.ofString "grammarmill.charset") 250, code := Value.ref 259 } })) ::
  (nat_lit 261, ({ cls := Value.type "tuple", data := Data.seq #[] })) ::
  (nat_lit 263, ({ cls := Value.type "tuple", data := Data.seq #[Value.str (Str.ofString "self") 559, Value.str (Str.ofString "charset") 560] })) ::
  (nat_lit 264, ({ cls := Value.type "tuple", data := Data.seq #[] })) ::
  (nat_lit 266, ({ cls := Value.type "code", data := Data.fields #[Value.str (Str.ofString "mask") 556, Value.str (Str.ofString "Classes.mask") 557, Value.str (Str.ofString "/claim/cut.py") 558, Value.int 157 0, Value.int 2 0, Value.int 0 0, Value.int 0 0, Value.int 3 0, Value.ref 261, Value.bool true, Value.int 181 0, Value.ref 262, Value.none, Value.ref 263, Value.ref 264, Value.ref 265, Value.int 561 0, Value.int 157 0, Value.str (Str.ofString "/claim/cut.py") 562] })) ::
  (nat_lit 267, ({ cls := Value.type "function", data := Data.func { name := Str.ofString "mask", qualname := Str.ofString "Classes.mask", params := pOf (dC 7 3), body := FuncBody.stmts (bOf (dC 7 3)), scope := sOf (dC 7 3), globals := 3, closure := [], defaults := Value.none, kwdefaults := Value.none, pyModule := Value.str (Str.ofString "grammarmill.charset") 250, code := Value.ref 266 } })) ::
  (nat_lit 268, ({ cls := Value.type "tuple", data := Data.seq #[] })) ::
  (nat_lit 270, ({ cls := Value.type "tuple", data := Data.seq #[Value.str (Str.ofString "self") 567, Value.str (Str.ofString "mask") 568] })) ::
  (nat_lit 271, ({ cls := Value.type "tuple", data := Data.seq #[] })) ::
  (nat_lit 273, ({ cls := Value.type "code", data := Data.fields #[Value.str (Str.ofString "charset") 564, Value.str (Str.ofString "Classes.charset") 565, Value.str (Str.ofString "/claim/cut.py") 566, Value.int 160 0, Value.int 2 0, Value.int 0 0, Value.int 0 0, Value.int 3 0, Value.ref 268, Value.bool true, Value.int 181 0, Value.ref 269, Value.none, Value.ref 270, Value.ref 271, Value.ref 272, Value.int 569 0, Value.int 160 0, Value.str (Str.ofString "/claim/cut.py") 570] })) ::
  (nat_lit 274, ({ cls := Value.type "function", data := Data.func { name := Str.ofString "charset", qualname := Str.ofString "Classes.charset", params := pOf (dC 7 4), body := FuncBody.stmts (bOf (dC 7 4)), scope := sOf (dC 7 4), globals := 3, closure := [], defaults := Value.none, kwdefaults := Value.none, pyModule := Value.str (Str.ofString "grammarmill.charset") 250, code := Value.ref 273 } })) ::
  (nat_lit 275, ({ cls := Value.type "tuple", data := Data.seq #[] })) ::
  (nat_lit 277, ({ cls := Value.type "tuple", data := Data.seq #[Value.str (Str.ofString "self") 575, Value.str (Str.ofString "numbers") 576, Value.str (Str.ofString "step") 577, Value.str (Str.ofString "end") 578] })) ::
  (nat_lit 278, ({ cls := Value.type "tuple", data := Data.seq #[] })) ::
  (nat_lit 280, ({ cls := Value.type "code", data := Data.fields #[Value.str (Str.ofString "table") 572, Value.str (Str.ofString "Classes.table") 573, Value.str (Str.ofString "/claim/cut.py") 574, Value.int 163 0, Value.int 1 0, Value.int 0 0, Value.int 0 0, Value.int 3 0, Value.ref 275, Value.bool true, Value.int 181 0, Value.ref 276, Value.none, Value.ref 277, Value.ref 278, Value.ref 279, Value.int 579 0, Value.int 163 0, Value.str (Str.ofString "/claim/cut.py") 580] })) ::
  (nat_lit 281, ({ cls := Value.type "function", data := Data.func { name := Str.ofString "table", qualname := Str.ofString "Classes.table", params := pOf (dC 7 5), body := FuncBody.stmts (bOf (dC 7 5)), scope := sOf (dC 7 5), globals := 3, closure := [], defaults := Value.none, kwdefaults := Value.none, pyModule := Value.str (Str.ofString "grammarmill.charset") 250, code := Value.ref 280 } })) ::
  (nat_lit 282, ({ cls := Value.type "tuple", data := Data.seq #[] })) ::
  (nat_lit 284, ({ cls := Value.type "tuple", data := Data.seq #[Value.str (Str.ofString "self") 585, Value.str (Str.ofString "number") 586] })) ::
  (nat_lit 285, ({ cls := Value.type "tuple", data := Data.seq #[] })) ::
  (nat_lit 287, ({ cls := Value.type "code", data := Data.fields #[Value.str (Str.ofString "least") 582, Value.str (Str.ofString "Classes.least") 583, Value.str (Str.ofString "/claim/cut.py") 584, Value.int 172 0, Value.int 2 0, Value.int 0 0, Value.int 0 0, Value.int 3 0, Value.ref 282, Value.bool true, Value.int 181 0, Value.ref 283, Value.none, Value.ref 284, Value.ref 285, Value.ref 286, Value.int 587 0, Value.int 172 0, Value.str (Str.ofString "/claim/cut.py") 588] })) ::
  (nat_lit 288, ({ cls := Value.type "function", data := Data.func { name := Str.ofString "least", qualname := Str.ofString "Classes.least", params := pOf (dC 7 6), body := FuncBody.stmts (bOf (dC 7 6)), scope := sOf (dC 7 6), globals := 3, closure := [], defaults := Value.none, kwdefaults := Value.none, pyModule := Value.str (Str.ofString "grammarmill.charset") 250, code := Value.ref 287 } })) ::
  (nat_lit 289, ({ cls := Value.type "tuple", data := Data.seq #[] })) ::
  (nat_lit 292, ({ cls := Value.type "code", data := Data.fields #[Value.str (Str.ofString "word") 590, Value.str (Str.ofString "Classes.word") 591, Value.str (Str.ofString "/claim/cut.py") 592, Value.int 177 0, Value.int 2 0, Value.int 0 0, Value.int 0 0, Value.int 3 0, Value.ref 289, Value.bool true, Value.int 181 0, Value.ref 290, Value.none, Value.none, Value.none, Value.ref 291, Value.int 593 0, Value.int 177 0, Value.str (Str.ofString "/claim/cut.py") 594] })) ::
  (nat_lit 293, ({ cls := Value.type "function", data := Data.func { name := Str.ofString "word", qualname := Str.ofString "Classes.word", params := pOf (dC 7 7), body := FuncBody.stmts (bOf (dC 7 7)), scope := sOf (dC 7 7), globals := 3, closure := [], defaults := Value.none, kwdefaults := Value.none, pyModule := Value.str (Str.ofString "grammarmill.charset") 250, code := Value.ref 292 } })) ::
  (nat_lit 294, ({ cls := Value.type "tuple", data := Data.seq #[] })) ::
  (nat_lit 297, ({ cls := Value.type "code", data := Data.fields #[Value.str (Str.ofString "text") 596, Value.str (Str.ofString "Classes.text") 597, Value.str (Str.ofString "/claim/cut.py") 598, Value.int 180 0, Value.int 2 0, Value.int 0 0, Value.int 0 0, Value.int 3 0, Value.ref 294, Value.bool true, Value.int 181 0, Value.ref 295, Value.none, Value.none, Value.none, Value.ref 296, Value.int 599 0, Value.int 180 0, Value.str (Str.ofString "/claim/cut.py") 600] })) ::
  (nat_lit 298, ({ cls := Value.type "function", data := Data.func { name := Str.ofString "text", qualname := Str.ofString "Classes.text", params := pOf (dC 7 8), body := FuncBody.stmts (bOf (dC 7 8)), scope := sOf (dC 7 8), globals := 3, closure := [], defaults := Value.none, kwdefaults := Value.none, pyModule := Value.str (Str.ofString "grammarmill.charset") 250, code := Value.ref 297 } })) ::
  (nat_lit 299, ({ cls := Value.type "tuple", data := Data.seq #[Value.str (Str.ofString "bounds") 602, Value.str (Str.ofString "count") 603, Value.str (Str.ofString "numbers") 604] })) ::
  (nat_lit 300, ({ cls := Value.type "dict", data := Data.dict #[{ hash := PyData.keyHash P (Str.ofString "__module__"), key := Value.str (Str.ofString "__module__") 507, val := Value.str (Str.ofString "grammarmill.charset") 250 }, { hash := PyData.keyHash P (Str.ofString "__firstlineno__"), key := Value.str (Str.ofString "__firstlineno__") 511, val := Value.int 103 510 }, { hash := PyData.keyHash P (Str.ofString "__init__"), key := Value.str (Str.ofString "__init__") 526, val := Value.ref 245 }, { hash := PyData.keyHash P (Str.ofString "from_bounds"), key := Value.str (Str.ofString "from_bounds") 544, val := Value.ref 252 }, { hash := PyData.keyHash P (Str.ofString "of"), key := Value.str (Str.ofString "of") 555, val := Value.ref 260 }, { hash := PyData.keyHash P (Str.ofString "mask"), key := Value.str (Str.ofString "mask") 563, val := Value.ref 267 }, { hash := PyData.keyHash P (Str.ofString "charset"), key := Value.str (Str.ofString "charset") 571, val := Value.ref 274 }, { hash := PyData.keyHash P (Str.ofString "table"), key := Value.str (Str.ofString "table") 581, val := Value.ref 281 }, { hash := PyData.keyHash P (Str.ofString "least"), key := Value.str (Str.ofString "least") 589, val := Value.ref 288 }, { hash := PyData.keyHash P (Str.ofString "word"), key := Value.str (Str.ofString "word") 595, val := Value.ref 293 }, { hash := PyData.keyHash P (Str.ofString "text"), key := Value.str (Str.ofString "text") 601, val := Value.ref 298 }, { hash := PyData.keyHash P (Str.ofString "__static_attributes__"), key := Value.str (Str.ofString "__static_attributes__") 605, val := Value.ref 299 }, { hash := PyData.keyHash P (Str.ofString "__dict__"), key := Value.str (Str.ofString "__dict__") 607, val := Value.ref 302 }, { hash := PyData.keyHash P (Str.ofString "__weakref__"), key := Value.str (Str.ofString "__weakref__") 609, val := Value.ref 303 }, { hash := PyData.keyHash P (Str.ofString "__doc__"), key := Value.str (Str.ofString "__doc__") 610, val := Value.none }] 4 })) ::
  (nat_lit 301, ({ cls := Value.type "type", data := Data.cls { name := Str.ofString "Classes", bases := [Value.type "object"], mro := [Value.ref 301, Value.type "object"], ns := 300, qualname := Str.ofString "Classes" }, slots := #[none, none, some (Value.str (Str.ofString "Classes") 500), some (Value.str (Str.ofString "Classes") 508), some (Value.builtin "object.__new__"), some (Value.bool true)] })) ::
  (nat_lit 302, ({ cls := Value.type "getset_descriptor", data := Data.fields #[Value.str (Str.ofString "__dict__") 606, Value.ref 301, Value.builtin "function.__dict__", Value.builtin "function.__dict__#set"] })) ::
  (nat_lit 303, ({ cls := Value.type "getset_descriptor", data := Data.fields #[Value.str (Str.ofString "__weakref__") 608, Value.ref 301, Value.builtin "ExceptionGroup.__weakref__", Value.none] })) ::
  (nat_lit 306, ({ cls := Value.type "tuple", data := Data.seq #[] })) ::
  (nat_lit 309, ({ cls := Value.type "code", data := Data.fields #[Value.str (Str.ofString "_law_tin") 615, Value.str (Str.ofString "_law_tin") 616, Value.str (Str.ofString "/claim/cut.py") 617, Value.int 183 0, Value.int 1 0, Value.int 0 0, Value.int 0 0, Value.int 3 0, Value.ref 306, Value.bool true, Value.int 181 0, Value.ref 307, Value.none, Value.none, Value.none, Value.ref 308, Value.int 618 0, Value.int 183 0, Value.str (Str.ofString "/claim/cut.py") 619] })) ::
  (nat_lit 310, ({ cls := Value.type "function", data := Data.func { name := Str.ofString "_law_tin", qualname := Str.ofString "_law_tin", params := pOf (dT 9), body := FuncBody.stmts (bOf (dT 9)), scope := sOf (dT 9), globals := 3, closure := [], defaults := Value.none, kwdefaults := Value.none, pyModule := Value.str (Str.ofString "law_qd0060_01") 613, code := Value.ref 309 } })) ::
  (nat_lit 311, ({ cls := Value.type "tuple", data := Data.seq #[] })) ::
  (nat_lit 313, ({ cls := Value.type "tuple", data := Data.seq #[Value.str (Str.ofString "tin") 624, Value.str (Str.ofString "most") 625, Value.str (Str.ofString "digit") 626] })) ::
  (nat_lit 314, ({ cls := Value.type "tuple", data := Data.seq #[] })) ::
  (nat_lit 316, ({ cls := Value.type "code", data := Data.fields #[Value.str (Str.ofString "_law_bit") 621, Value.str (Str.ofString "_law_bit") 622, Value.str (Str.ofString "/claim/cut.py") 623, Value.int 186 0, Value.int 2 0, Value.int 0 0, Value.int 0 0, Value.int 3 0, Value.ref 311, Value.bool true, Value.int 181 0, Value.ref 312, Value.none, Value.ref 313, Value.ref 314, Value.ref 315, Value.int 627 0, Value.int 186 0, Value.str (Str.ofString "/claim/cut.py") 628] })) ::
  (nat_lit 317, ({ cls := Value.type "function", data := Data.func { name := Str.ofString "_law_bit", qualname := Str.ofString "_law_bit", params := pOf (dT 10), body := FuncBody.stmts (bOf (dT 10)), scope := sOf (dT 10), globals := 3, closure := [], defaults := Value.none, kwdefaults := Value.none, pyModule := Value.str (Str.ofString "law_qd0060_01") 613, code := Value.ref 316 } })) ::
  (nat_lit 318, ({ cls := Value.type "tuple", data := Data.seq #[] })) ::
  (nat_lit 321, ({ cls := Value.type "code", data := Data.fields #[Value.str (Str.ofString "_law_sets") 630, Value.str (Str.ofString "_law_sets") 631, Value.str (Str.ofString "/claim/cut.py") 632, Value.int 195 0, Value.int 1 0, Value.int 0 0, Value.int 0 0, Value.int 3 0, Value.ref 318, Value.bool true, Value.int 181 0, Value.ref 319, Value.none, Value.none, Value.none, Value.ref 320, Value.int 633 0, Value.int 195 0, Value.str (Str.ofString "/claim/cut.py") 634] })) ::
  (nat_lit 322, ({ cls := Value.type "function", data := Data.func { name := Str.ofString "_law_sets", qualname := Str.ofString "_law_sets", params := pOf (dT 11), body := FuncBody.stmts (bOf (dT 11)), scope := sOf (dT 11), globals := 3, closure := [], defaults := Value.none, kwdefaults := Value.none, pyModule := Value.str (Str.ofString "law_qd0060_01") 613, code := Value.ref 321 } })) ::
  (nat_lit 323, ({ cls := Value.type "tuple", data := Data.seq #[] })) ::
  (nat_lit 325, ({ cls := Value.type "tuple", data := Data.seq #[Value.str (Str.ofString "deed") 639] })) ::
  (nat_lit 326, ({ cls := Value.type "tuple", data := Data.seq #[] })) ::
  (nat_lit 328, ({ cls := Value.type "code", data := Data.fields #[Value.str (Str.ofString "_law_told") 636, Value.str (Str.ofString "_law_told") 637, Value.str (Str.ofString "/claim/cut.py") 638, Value.int 204 0, Value.int 1 0, Value.int 0 0, Value.int 0 0, Value.int 3 0, Value.ref 323, Value.bool true, Value.int 181 0, Value.ref 324, Value.none, Value.ref 325, Value.ref 326, Value.ref 327, Value.int 640 0, Value.int 204 0, Value.str (Str.ofString "/claim/cut.py") 641] })) ::
  (nat_lit 329, ({ cls := Value.type "function", data := Data.func { name := Str.ofString "_law_told", qualname := Str.ofString "_law_told", params := pOf (dT 12), body := FuncBody.stmts (bOf (dT 12)), scope := sOf (dT 12), globals := 3, closure := [], defaults := Value.none, kwdefaults := Value.none, pyModule := Value.str (Str.ofString "law_qd0060_01") 613, code := Value.ref 328 } })) ::
  (nat_lit 330, ({ cls := Value.type "tuple", data := Data.seq #[] })) ::
  (nat_lit 333, ({ cls := Value.type "code", data := Data.fields #[Value.str (Str.ofString "law") 643, Value.str (Str.ofString "law") 644, Value.str (Str.ofString "/claim/cut.py") 645, Value.int 209 0, Value.int 1 0, Value.int 0 0, Value.int 0 0, Value.int 3 0, Value.ref 330, Value.bool true, Value.int 181 0, Value.ref 331, Value.none, Value.none, Value.none, Value.ref 332, Value.int 646 0, Value.int 209 0, Value.str (Str.ofString "/claim/cut.py") 647] })) ::
  (nat_lit 334, ({ cls := Value.type "function", data := Data.func { name := Str.ofString "law", qualname := Str.ofString "law", params := pOf (dT 13), body := FuncBody.stmts (bOf (dT 13)), scope := sOf (dT 13), globals := 3, closure := [], defaults := Value.none, kwdefaults := Value.none, pyModule := Value.str (Str.ofString "law_qd0060_01") 613, code := Value.ref 333 } })) :: []
-- the top run over a tree of objects in place of a row: the one check of the top is three times smaller
noncomputable def goT (ok : Thread → Bool) (stp : SharedT → Thread → Option (SharedT × Thread)) (n : Nat) : SharedT → Thread → Option SharedT :=
  Nat.rec (fun _ _ => none) (fun _ ih s t => Bool.rec (Bool.rec none (Option.rec none (fun r => Prod.rec (fun s' t' => ih s' t') r) (stp s t)) (ok t)) (some s) (through t)) n
noncomputable def btOf (l : List Obj) : Nat → BT → Option BT :=
  List.rec (fun _ t => some t) (fun o _ ih n t => Bool.rec none (ih (n + 1) (t.ins n o)) ((t.ins n o).get n).isSome) l
noncomputable def runT (p : Program) (w : World) (N : Nat) (s₀ : Shared) : Option SharedT :=
  (btOf s₀.heap.objs.toList 0 .nil).bind fun T => goT (stepOk s₀.heap.objs.size (s₀.heap.nsMap mainGlobals "__annotations__")) (stepT (denote treeTable) p w) N ⟨T, s₀.heap.objs.size, s₀.heap.life, s₀.gens, s₀.drawn, s₀.toks, s₀.os⟩ (topStub p)
theorem goT_of {tb : String → Option Builtin} {p : Program} {w : World} {n₀ : Nat} {ann : Option Value} : ∀ (n : Nat) (s s' : SharedT) (t : Thread), goT (stepOk n₀ ann) (stepT (denote tb) p w) n s t = some s' → topRun tb p w n₀ ann n s.abs t = some s'.abs
  | 0, _, _, _, h => by cases h
  | n + 1, s, s', t, h => by
    have e : goT (stepOk n₀ ann) (stepT (denote tb) p w) (n + 1) s t = Bool.rec (Bool.rec none (Option.rec none (fun r => Prod.rec (fun s' t' => goT (stepOk n₀ ann) (stepT (denote tb) p w) n s' t') r) (stepT (denote tb) p w s t)) (stepOk n₀ ann t)) (some s) (through t) := rfl
    rw [e] at h
    unfold topRun
    cases ht : through t with
    | true => rw [ht] at h; cases h; rfl
    | false =>
      rw [ht] at h
      cases hk : stepOk n₀ ann t with
      | false => rw [hk] at h; cases h
      | true =>
        rw [hk] at h
        cases hs : stepT (denote tb) p w s t with
        | none => rw [hs] at h; cases h
        | some r =>
          obtain ⟨s₂, t₂⟩ := r
          rw [hs] at h
          rw [stepT_spec hs]
          exact goT_of n s₂ s' t₂ h
theorem btOf_of {life : Life} : ∀ (l : List Obj) (n : Nat) (t t' : BT), btOf l n t = some t' → absHeap t' (n + l.length) life = ⟨(absHeap t n life).objs ++ l.toArray, life⟩
  | [], n, t, t', h => by cases h; simp [absHeap]
  | o :: r, n, t, t', h => by
    have e : btOf (o :: r) n t = Bool.rec none (btOf r (n + 1) (t.ins n o)) ((t.ins n o).get n).isSome := rfl
    rw [e] at h
    cases hk : ((t.ins n o).get n).isSome with
    | false => rw [hk] at h; cases h
    | true =>
      rw [hk] at h
      have k := btOf_of (life := life) r (n + 1) (t.ins n o) t' h
      rw [List.length_cons, show n + (r.length + 1) = n + 1 + r.length by omega, k, absHeap_ins hk]
      show Heap.mk (((absHeap t n life).objs.push o) ++ r.toArray) life = _
      congr 1
      apply Array.ext'
      simp
theorem runT_of {p : Program} {w : World} {N : Nat} {s₀ : Shared} {s' : SharedT} (h : runT p w N s₀ = some s') : topRun treeTable p w s₀.heap.objs.size (s₀.heap.nsMap mainGlobals "__annotations__") N s₀ (topStub p) = some s'.abs := by
  obtain ⟨T, hT, h⟩ := Option.bind_eq_some_iff.mp h
  have k := btOf_of (life := s₀.heap.life) _ _ _ _ hT
  have e : (⟨T, s₀.heap.objs.size, s₀.heap.life, s₀.gens, s₀.drawn, s₀.toks, s₀.os⟩ : SharedT).abs = s₀ := by
    obtain ⟨⟨objs, life⟩, gens, drawn, toks, os⟩ := s₀
    dsimp only at k ⊢
    unfold SharedT.abs
    dsimp only
    rw [Nat.zero_add, Array.length_toList] at k
    rw [k]
    congr 2
    simp [absHeap, BT.list]
  have r := goT_of _ _ _ _ h
  rwa [e] at r
noncomputable def endsT (p : Program) (w : World) (N : Nat) : Option Shared := (fencedOpening treeTable p w N).bind fun s₀ =>
  Bool.rec none ((runT p w N s₀).bind fun s' => Bool.rec none (some s'.abs) (staticsOk (importedModules p.main.body) s₀.heap s'.abs.heap && namesBound p s'.abs.heap && gensDone s'.abs && laidKept s₀.heap s'.abs.heap)) (s₀.heap.isNs mainGlobals && s₀.gens.size == 0)
theorem endsT_of {p : Program} {w : World} {N : Nat} {s : Shared} (h : endsT p w N = some s) : openEnds treeTable p w N = some s := by
  obtain ⟨s₀, h0, h⟩ := Option.bind_eq_some_iff.mp h
  unfold openEnds
  rw [h0]
  show topFrom treeTable p w N s₀ = some s
  unfold topFrom
  cases hb : (s₀.heap.isNs mainGlobals && s₀.gens.size == 0) with
  | false => rw [hb] at h; cases h
  | true =>
    rw [hb] at h
    obtain ⟨s', h1, h⟩ := Option.bind_eq_some_iff.mp h
    dsimp only
    rw [runT_of h1]
    dsimp only [Option.bind]
    cases hc : (staticsOk (importedModules p.main.body) s₀.heap s'.abs.heap && namesBound p s'.abs.heap && gensDone s'.abs && laidKept s₀.heap s'.abs.heap) with
    | false => rw [hc] at h; cases h
    | true => rw [hc] at h; exact h
theorem left_tree {p q : Program} {loose : List PySem.Str} {Xt : Shared → Bool} {α : Type} {Yf : Shared → α} {Ya : World → α} {N : Nat} {g0 : Bool}
    (h : ∀ w, (endsT p w N).map (fun s => (openSeen q loose (importedModules p.main.body) Xt g0 s, Yf s)) = some (openGood q loose, Ya w)) : LeftO p q loose Xt Yf Ya N g0 := fun w => by
  obtain ⟨s, h1, h2⟩ := Option.map_eq_some_iff.mp (h w)
  rw [endsT_of h1]
  exact congrArg some h2

noncomputable def hd.view_39 : Program := PySem.W.view PySem.Challenge.pw_qd0060_01 [0, 2, 3, 5, 6, 7, 9, 10, 11, 12, 13]
noncomputable def hd.as : List Addr := [2, 3, 15, 17, 18, 20, 21, 22, 29, 30, 32, 33, 35, 36, 37, 39, 40, 42, 43, 44, 45, 46, 47, 50, 57, 58, 59, 69, 71, 72, 74, 75, 76, 78, 79, 81, 82, 83, 84, 85, 86, 88, 89, 91, 92, 93, 94, 95, 96, 98, 99, 101, 102, 103, 104, 105, 106, 109, 110, 111, 112, 113, 114, 116, 117, 119, 120, 121, 122, 123, 124, 126, 127, 129, 130, 131, 132, 133, 134, 136, 137, 139, 140, 141, 143, 144, 146, 147, 148, 150, 151, 153, 154, 155, 157, 158, 160, 161, 162, 164, 165, 167, 168, 169, 171, 172, 174, 175, 176, 178, 179, 181, 182, 183, 185, 186, 188, 189, 190, 192, 193, 195, 196, 197, 199, 200, 202, 203, 204, 206, 207, 209, 210, 211, 213, 214, 216, 217, 218, 220, 221, 223, 224, 225, 226, 227, 228, 229, 239, 241, 242, 244, 245, 246, 249, 250, 251, 252, 253, 254, 256, 257, 259, 260, 261, 263, 264, 266, 267, 268, 270, 271, 273, 274, 275, 277, 278, 280, 281, 282, 284, 285, 287, 288, 289, 292, 293, 294, 297, 298, 299, 300, 301, 302, 303, 306, 309, 310, 311, 313, 314, 316, 317, 318, 321, 322, 323, 325, 326, 328, 329, 330, 333, 334]
set_option maxRecDepth 100000 in
theorem hd.as_eq : ∀ P, hd.as = (hd.heap_39 P).map (·.1) := fun _ => by kernel_rfl
theorem hd.fill : (hd.heap_39, PySem.Challenge.rw_qd0060_01) = (hd.heap_39, PySem.Challenge.rw_qd0060_01) := by
  k_fill
  rfl
set_option maxRecDepth 100000 in
set_option maxHeartbeats 0 in
theorem hd.left : LeftO PySem.Challenge.rw_qd0060_01.row.toRowW.prog hd.view_39 [Str.ofString "ToolError", Str.ofString "CharSet", Str.ofString "Classes"] (fun s => xlAt hd.view_39 [] s && recOk (RowW.records PySem.Challenge.rw_qd0060_01.row.toRowW) s) (kmHook hd.heap_39 hd.as hd.as_eq [331]).obs (kmHook hd.heap_39 hd.as hd.as_eq [331]).val 5932 := left_tree fun w => by
  unfold endsT fencedOpening runT
  rw [PySem.W.Fast.te14364793385576792824, PySem.W.Fast.te1435165496053646825, PySem.W.Fast.te10274390034422433532, PySem.W.Fast.te14289696077712309145, PySem.W.Fast.te10156331382660048174, PySem.W.Fast.te11892475500146522536, PySem.W.Fast.te6613529449190102663, PySem.W.Fast.te4187177175401517315]
  kernel_rfl
theorem hd.said : PySem.Challenge.rw_qd0060_01.wellSaid = true := by
  rw [PySem.W.Fast.te9446332074065402090]
  kernel_rfl
set_option maxRecDepth 100000 in
set_option maxHeartbeats 0 in
theorem hd {d : DefRec} {kwd : List (PySem.Str × PySem.Expr)} (hdef : defOf hd.view_39 PySem.Challenge.rw_qd0060_01.row.name = some (d, kwd)) (hp : PySem.Challenge.rw_qd0060_01.row.prog.theDef PySem.Challenge.rw_qd0060_01.row.name = some (d.params, d.body, d.scope)) (hk : kwWritten? d.params.kwonlyargs d.params.kw_defaults = some kwd)
    (call : WalkO hd.view_39 [Str.ofString "ToolError", Str.ofString "CharSet", Str.ofString "Classes"] (XL hd.view_39 []) (kmHook hd.heap_39 hd.as hd.as_eq [331]).says PySem.Challenge.rw_qd0060_01.row.toRowW d kwd fun f vs => PySem.call f vs) : PySem.Challenge.rw_qd0060_01.Holds := by
  refine holds_law hd.said fun said => ?_
  refine holds_open (q := hd.view_39) (loose := [Str.ofString "ToolError", Str.ofString "CharSet", Str.ofString "Classes"]) (Xt := fun s => xlAt hd.view_39 [] s && recOk (RowW.records PySem.Challenge.rw_qd0060_01.row.toRowW) s) (XP := XL hd.view_39 []) (YP := (kmHook hd.heap_39 hd.as hd.as_eq [331]).says) (N := 5932) hd.left (Hook.of _) (Hook.keeps _) (fun s e => xl_of s (Bool.and_eq_true_iff.mp e).1) XL.keeps hdef hp hk (fun s e => recFacts_of (Bool.and_eq_true_iff.mp e).2) (by rfl) said (by decide +kernel) ⟨rfl, rfl, rfl, rfl, rfl, by decide +kernel⟩ ?hw call
  case hw => w_witness2

/-- the end of a turn: the frame, what the loop holds (own), the ledger nx with its word -/
def TEnd (h₀ : Heap) (L : Addr) (own : List (Addr × Obj)) (J : (PySem.Str → Option Value) → List (Addr × Obj) → Prop) (s₁ s₂ : Shared) : Prop :=
  ∃ h' tk m' nx, s₂ = { s₁ with heap := h', toks := tk } ∧ Fr h₀ L h' m' ∧ News h₀ L h' (own ++ nx) ∧ (∀ p ∈ nx, ∀ q ∈ own, p.1 ≠ q.1) ∧ J m' nx
def TPost (h₀ : Heap) (L : Addr) (own : List (Addr × Obj)) (J : (PySem.Str → Option Value) → List (Addr × Obj) → Prop) (s₁ : Shared) (Q : Flow → Shared → Prop) (f : Flow) (s₂ : Shared) : Prop :=
  match f with
  | .ret v => Q (.ret v) s₂
  | .brk => Q .next s₂
  | .next => TEnd h₀ L own J s₁ s₂
  | .cont => TEnd h₀ L own J s₁ s₂
theorem TEnd.intro {h₀ : Heap} {L : Addr} {own : List (Addr × Obj)} {J : (PySem.Str → Option Value) → List (Addr × Obj) → Prop} {s₁ : Shared} {h' : Heap} {tk : Nat} {m' : PySem.Str → Option Value} {led : List (Addr × Obj)}
    (F : Fr h₀ L h' m') (N : News h₀ L h' led) (nx : List (Addr × Obj)) (ho : ∀ p ∈ own, p ∈ led) (hn : ∀ p ∈ nx, p ∈ led) (hoff : ∀ p ∈ nx, ∀ q ∈ own, p.1 ≠ q.1) (hj : J m' nx) :
    TEnd h₀ L own J s₁ { s₁ with heap := h', toks := tk } :=
  ⟨h', tk, m', nx, rfl, F, fun p hp => N p ((List.mem_append.mp hp).elim (ho p) (hn p)), hoff, hj⟩
/-- the goal of a turn, hidden behind a name: what a turn's end must show is kept as a fact -/
theorem hideT {h₀ : Heap} {L : Addr} {own : List (Addr × Obj)} {J : (PySem.Str → Option Value) → List (Addr × Obj) → Prop} {s₁ : Shared} {Q : Flow → Shared → Prop} {P : (Flow → Shared → Prop) → Prop}
    (h : ∀ R : Flow → Shared → Prop, (∀ s₂, TEnd h₀ L own J s₁ s₂ → R .next s₂) → (∀ s₂, TEnd h₀ L own J s₁ s₂ → R .cont s₂) → (∀ v s₂, Q (.ret v) s₂ → R (.ret v) s₂) → P R) : P (TPost h₀ L own J s₁ Q) :=
  h _ (fun _ h => h) (fun _ h => h) (fun _ _ h => h)

section
variable {prog : Program} {w : World} {A : Around} {E : Value → Shared → Prop} {s : Shared} {env : Env} {h₀ : Heap} {body : List Stmt} {Q : Flow → Shared → Prop}

theorem loop_core {target : PySem.Expr} {I : Addr} {fp : List Addr} {n : Nat} {P : Nat → Value → Prop} {St : Nat → Heap → Prop} {m₀ : PySem.Str → Option Value} {src nx₀ : List (Addr × Obj)}
    (upd : Nat → Value → (PySem.Str → Option Value) → (PySem.Str → Option Value) → Prop)
    (J : Nat → (PySem.Str → Option Value) → List (Addr × Obj) → Prop)
    (W : Walks prog w A I fp [I] n P St)
    (hbind : ∀ i v h tk m₁ nx (K : Unit → Shared → Prop) (E' : Value → Shared → Prop), i < n → P i v → St (i + 1) h → Fr h₀ env.locals h m₁ → News h₀ env.locals h (src ++ nx) → J i m₁ nx →
      (∀ h' tk' m₂, upd i v m₁ m₂ → Fr h₀ env.locals h' m₂ → (∀ b o, b ≠ env.locals → h.get? b = some o → h'.get? b = some o) → K () { s with heap := h', toks := tk' }) →
      wpAny (model prog w) A (letOwnedTupleGo target (.ref I) v) (fun _ s' => wpAny (model prog w) A (assign target env v) K E' s') E' { s with heap := h, toks := tk })
    (hIL : I ≠ env.locals) (hI0 : h₀.get? I = none) (hst : St 0 s.heap)
    (hkeep : ∀ i h h' oI, St i h → h.get? I = some oI → h'.get? I = some oI → (∀ b o, h₀.get? b = some o → h'.get? b = some o) → News h₀ env.locals h' src → St i h')
    (hlive : ∀ i h, St i h → ∃ o, h.get? I = some o)
    (F : Fr h₀ env.locals s.heap m₀) (N : News h₀ env.locals s.heap (src ++ nx₀)) (hsI : ∀ p ∈ src, p.1 ≠ I) (hnI : ∀ p ∈ nx₀, p.1 ≠ I) (hsn : ∀ p ∈ nx₀, ∀ q ∈ src, p.1 ≠ q.1)
    (h0 : J 0 m₀ nx₀)
    (turn : ∀ i v m₁ m₂ nx h tk oI, i < n → P i v → J i m₁ nx → upd i v m₁ m₂ → (∀ p ∈ nx, p.1 ≠ I) → (∀ p ∈ nx, ∀ q ∈ src, p.1 ≠ q.1) → (∀ q ∈ src, q.1 ≠ I) → Fr h₀ env.locals h m₂ → News h₀ env.locals h ((I, oI) :: (src ++ nx)) →
      wpAny (model prog w) A (execs body env) (TPost h₀ env.locals ((I, oI) :: src) (J (i + 1)) { s with heap := h, toks := tk } Q) E { s with heap := h, toks := tk })
    (done : ∀ h' tk m' nx, J n m' nx → Fr h₀ env.locals h' m' → News h₀ env.locals h' (src ++ nx) → (∀ p ∈ nx, ∀ q ∈ src, p.1 ≠ q.1) → Q .next { s with heap := h', toks := tk })
    (hE : PassesOwn (model prog w) A env E) :
    codeAny (model prog w) A (.forLoop target (.ref I) body [] env) (fun r s' => match r with | .ok f => Q f s' | .error e => cameBackBy (model prog w) A env E e s') s := by
  refine codeAny_forLoop_any
    (fun k s' => ∃ h' tk m' nx i, s' = { s with heap := h', toks := tk } ∧ St i h' ∧ Fr h₀ env.locals h' m' ∧ News h₀ env.locals h' (src ++ nx) ∧ (∀ p ∈ nx, p.1 ≠ I) ∧ (∀ p ∈ nx, ∀ q ∈ src, p.1 ≠ q.1) ∧ J i m' nx ∧ i ≤ n ∧ k = n + 1 - i) ?_ (n + 1)
    ⟨s.heap, s.toks, m₀, nx₀, 0, rfl, hst, F, N, hnI, hsn, h0, Nat.zero_le _, rfl⟩
  rintro k s' ⟨h', tk, m', nx, i, rfl, hst', F', N', hnI', hsn', hJ, hi, rfl⟩
  have offI : ∀ p ∈ src ++ nx, p.1 ≠ I := fun p hp => (List.mem_append.mp hp).elim (hsI p) (hnI' p)
  have next : ∀ h₁ : Heap, (∀ b o, b ∉ [I] → h'.get? b = some o → h₁.get? b = some o) → Fr h₀ env.locals h₁ m' ∧ News h₀ env.locals h₁ (src ++ nx) := fun h₁ hk₁ =>
    ⟨⟨F'.ns.at' fun o e => hk₁ _ o (by simpa using Ne.symm hIL) e, fun b o e => hk₁ b o (fun hm => by rw [List.mem_singleton.mp hm, hI0] at e; cases e) (F'.keep b o e), F'.above⟩,
      fun p hp => ⟨hk₁ _ _ (by simpa using offI p hp) (N' p hp).1, (N' p hp).2⟩⟩
  by_cases hlt : i < n
  · refine wpAny_passesOwn hE (W.item i _ _ _ hlt hst' fun v h₁ tk₁ hP hst₁ hk₁ => ?_)
    obtain ⟨F₁, N₁⟩ := next h₁ hk₁
    show wpAny (model prog w) A (letOwnedTupleGo target (.ref I) v) _ _ { s with heap := h₁, toks := tk₁ }
    refine hbind i v h₁ tk₁ m' nx _ _ hlt hP hst₁ F₁ N₁ hJ fun h₂ tk₂ m₂ hu F₂ hk₂ => ?_
    obtain ⟨oI, hoI⟩ := hlive _ _ hst₁
    have hoI₂ : h₂.get? I = some oI := hk₂ I oI hIL hoI
    have N₂ : News h₀ env.locals h₂ ((I, oI) :: (src ++ nx)) := fun p hp => by
      rcases List.mem_cons.mp hp with rfl | hp
      · exact ⟨hoI₂, hIL, hI0⟩
      · exact ⟨hk₂ _ _ (N₁ p hp).2.1 (N₁ p hp).1, (N₁ p hp).2⟩
    have back : ∀ s₃ : Shared, TEnd h₀ env.locals ((I, oI) :: src) (J (i + 1)) { s with heap := h₂, toks := tk₂ } s₃ →
        ∃ m, m < n + 1 - i ∧ ∃ h' tk m' nx i, s₃ = { s with heap := h', toks := tk } ∧ St i h' ∧ Fr h₀ env.locals h' m' ∧ News h₀ env.locals h' (src ++ nx) ∧ (∀ p ∈ nx, p.1 ≠ I) ∧ (∀ p ∈ nx, ∀ q ∈ src, p.1 ≠ q.1) ∧ J i m' nx ∧ i ≤ n ∧ m = n + 1 - i := by
      rintro s₃ ⟨h₃, tk₃, m₃, nx₃, rfl, F₃, N₃, hoff₃, hJ₃⟩
      have N₃' : News h₀ env.locals h₃ (src ++ nx₃) := fun p hp => N₃ p (List.mem_cons_of_mem _ hp)
      exact ⟨n + 1 - (i + 1), by omega, h₃, tk₃, m₃, nx₃, i + 1, rfl, hkeep _ _ _ oI hst₁ hoI (N₃ (I, oI) (List.mem_cons_self ..)).1 F₃.keep (fun p hp => N₃' p (List.mem_append_left _ hp)), F₃, N₃',
        fun p hp => hoff₃ p hp (I, oI) (List.mem_cons_self ..), fun p hp q hq => hoff₃ p hp q (List.mem_cons_of_mem _ hq), hJ₃, hlt, rfl⟩
    refine wpAny_passesOwn hE (wpAny_mono (turn i v m' m₂ nx h₂ tk₂ oI hlt hP hJ hu hnI' hsn' hsI F₂ N₂) (fun f s₃ h₃ => ?_) fun _ _ e => e)
    cases f with
    | ret v => exact h₃
    | brk => exact h₃
    | next => exact back s₃ h₃
    | cont => exact back s₃ h₃
  · have hin : i = n := by omega
    subst hin
    refine W.done _ _ _ hst' fun h₁ tk₁ hk₁ => wpAny_execs_nil ?_
    obtain ⟨F₁, N₁⟩ := next h₁ hk₁
    exact done h₁ tk₁ m' nx hJ F₁ N₁ hsn'

def SrcT (h₀ : Heap) (ax : Addr) (its : Array Value) (news : List (Addr × Obj)) : Prop := h₀.IsTuple ax its ∨ ∃ o, (ax, o) ∈ news ∧ o.cls = .type "tuple" ∧ ∃ n, o.data = .seq its n
theorem SrcT.tuple {h : Heap} {L ax : Addr} {its : Array Value} {news : List (Addr × Obj)} (x : SrcT h₀ ax its news) (k : ∀ b o, h₀.get? b = some o → h.get? b = some o) (N : News h₀ L h news) : h.IsTuple ax its := by
  rcases x with ⟨o, e, r⟩ | ⟨o, hm, r⟩
  · exact ⟨o, k _ _ e, r⟩
  · exact ⟨o, (N _ hm).1, r⟩

/-- how a name of the frame is bound -/
theorem bind_name {x : PySem.Str} {px : Pos} {I : Addr} {v : Value} {h : Heap} {tk : Nat} {m₁ : PySem.Str → Option Value} {K : Unit → Shared → Prop} {E' : Value → Shared → Prop}
    (hx : env.kindOf x = some .local) (hp : (env.scope.kind == .class || (env.scope.kind == .module && env.locals != env.globals)) = false) (F : Fr h₀ env.locals h m₁)
    (k : ∀ h' tk' m₂, m₂ = (fun y => if y = x then some v else m₁ y) → Fr h₀ env.locals h' m₂ → (∀ b o, b ≠ env.locals → h.get? b = some o → h'.get? b = some o) → K () { s with heap := h', toks := tk' }) :
    wpAny (model prog w) A (letOwnedTupleGo (.Name x px) (.ref I) v) (fun _ s' => wpAny (model prog w) A (assign (.Name x px) env v) K E' s') E' { s with heap := h, toks := tk } := by
  show wpAny (model prog w) A (pure ()) _ _ _
  refine wpAny_pure (wpAny_assign_Name (wpAny_storeName_local hx F.ns (fun h₂ hn₂ hs₂ => ?_) hp))
  exact k h₂ _ _ rfl (F.set hn₂ hs₂) fun b o hb e => (hs₂.2 b hb).trans e

/-- how a pair of names is bound from a tuple -/
theorem bind_pair {x y : PySem.Str} {px py pt : Pos} {k1 : Nat} {I T : Addr} {v₀ v₁ : Value} {h : Heap} {tk : Nat} {m₁ : PySem.Str → Option Value} {K : Unit → Shared → Prop} {E' : Value → Shared → Prop}
    (hh : A.handled = none) (hx : env.kindOf x = some .local) (hy : env.kindOf y = some .local) (hp : (env.scope.kind == .class || (env.scope.kind == .module && env.locals != env.globals)) = false)
    (hgo : ∀ (K' : Unit → Shared → Prop), K' () { s with heap := h, toks := tk } → wpAny (model prog w) A (letOwnedTupleGo (.Tuple [.Name x px, .Name y py] k1 pt) (.ref I) (.ref T)) K' E' { s with heap := h, toks := tk })
    (ht : h.IsTuple T #[v₀, v₁]) (F : Fr h₀ env.locals h m₁)
    (k : ∀ h' tk' m₂, m₂ = (fun z => if z = y then some v₁ else if z = x then some v₀ else m₁ z) → Fr h₀ env.locals h' m₂ → (∀ b o, b ≠ env.locals → h.get? b = some o → h'.get? b = some o) → K () { s with heap := h', toks := tk' }) :
    wpAny (model prog w) A (letOwnedTupleGo (.Tuple [.Name x px, .Name y py] k1 pt) (.ref I) (.ref T)) (fun _ s' => wpAny (model prog w) A (assign (.Tuple [.Name x px, .Name y py] k1 pt) env (.ref T)) K E' s') E' { s with heap := h, toks := tk } := by
  refine hgo _ (wpAny_assign_Tuple hh ht rfl rfl fun h₃ hx₃ => ?_)
  replace hx₃ : Heap.ExtBut h.objs.size h h₃ := hx₃
  have up₃ : ∀ b o, h.get? b = some o → h₃.get? b = some o := fun b o e => hx₃ b o (Nat.ne_of_lt (Heap.lt_size e)) e
  have F₃ : Fr h₀ env.locals h₃ m₁ := F.keeps up₃
  show wpAny _ A (do holding [v₁] (assign (.Name x px) env v₀); do holding [] (assign (.Name y py) env v₁); pure ()) _ _ _
  refine wpAny_bind (wpAny_holding (wpAny_assign_Name (wpAny_storeName_local hx F₃.ns (fun h₄ hn₄ hs₄ => ?_) hp)))
  replace hs₄ : Heap.SameBut env.locals h₃ h₄ := hs₄
  have F₄ := F₃.set hn₄ hs₄
  refine wpAny_bind (wpAny_holding (wpAny_assign_Name (wpAny_storeName_local hy F₄.ns (fun h₅ hn₅ hs₅ => wpAny_pure ?_) hp)))
  replace hs₅ : Heap.SameBut env.locals h₄ h₅ := hs₅
  exact k h₅ _ _ rfl (F₄.set hn₅ hs₅) fun b o hb e => (hs₅.2 b hb).trans ((hs₄.2 b hb).trans (up₃ b o e))

theorem go_listiter {x y : PySem.Str} {px py pt : Pos} {k1 : Nat} {I l T : Addr} {i : Nat} {K' : Unit → Shared → Prop} {E' : Value → Shared → Prop} (hit : s.heap.IsListIter I l i) (h : K' () s) :
    wpAny (model prog w) A (letOwnedTupleGo (.Tuple [.Name x px, .Name y py] k1 pt) (.ref I) (.ref T)) K' E' s := wpAny_letOwnedTupleGo_listiter hit h
theorem go_tupleiter {x y : PySem.Str} {px py pt : Pos} {k1 : Nat} {I l T : Addr} {i : Nat} {K' : Unit → Shared → Prop} {E' : Value → Shared → Prop} (hit : s.heap.IsTupleIter I l i) (h : K' () s) :
    wpAny (model prog w) A (letOwnedTupleGo (.Tuple [.Name x px, .Name y py] k1 pt) (.ref I) (.ref T)) K' E' s := by
  obtain ⟨o, ho, hc, hd⟩ := hit
  unfold letOwnedTupleGo
  refine wpAny_bind (wpAny_load ho ?_)
  rw [hc, hd]
  dsimp only
  rw [if_neg (by
    intro h
    rw [show (["enumerate", "zip", "dict_itemiterator", "dict_reverseitemiterator", "odict_iterator", "itertools.zip_longest", "itertools.pairwise"].contains "tuple_iterator") = false from by decide, Bool.false_and] at h
    cases h)]
  exact wpAny_pure h

/-- a for over a list, one name -/
theorem list_loop {x : PySem.Str} {px : Pos} {l : Addr} {items : Array Value} {m₀ : PySem.Str → Option Value} (src : List (Addr × Obj)) {nx₀ : List (Addr × Obj)} (J : Nat → (PySem.Str → Option Value) → List (Addr × Obj) → Prop)
    (hh : A.handled = none) (hx : env.kindOf x = some .local) (hp : (env.scope.kind == .class || (env.scope.kind == .module && env.locals != env.globals)) = false)
    (hsrc : LCg.SrcAt h₀ l items src) (F : Fr h₀ env.locals s.heap m₀) (N : News h₀ env.locals s.heap (src ++ nx₀)) (hsn : ∀ p ∈ nx₀, ∀ q ∈ src, p.1 ≠ q.1) (h0 : J 0 m₀ nx₀)
    (turn : ∀ i v m₁ nx h tk I oI, items[i]? = some v → J i m₁ nx → (∀ p ∈ nx, p.1 ≠ I) → (∀ p ∈ nx, ∀ q ∈ src, p.1 ≠ q.1) → (∀ q ∈ src, q.1 ≠ I) → Fr h₀ env.locals h (fun y => if y = x then some v else m₁ y) → News h₀ env.locals h ((I, oI) :: (src ++ nx)) →
      wpAny (model prog w) A (execs body env) (TPost h₀ env.locals ((I, oI) :: src) (J (i + 1)) { s with heap := h, toks := tk } Q) E { s with heap := h, toks := tk })
    (done : ∀ h' tk m' nx, J items.size m' nx → Fr h₀ env.locals h' m' → News h₀ env.locals h' (src ++ nx) → (∀ p ∈ nx, ∀ q ∈ src, p.1 ≠ q.1) → Q .next { s with heap := h', toks := tk })
    (hE : PassesOwn (model prog w) A env E) :
    wpAny (model prog w) A (pyIter (.ref l)) (fun it s₂ => codeAny (model prog w) A (.forLoop (.Name x px) it body [] env) (fun r s' => match r with | .ok f => Q f s' | .error e => cameBackBy (model prog w) A env E e s') s₂) E s := by
  have hl : s.heap.IsList l items := hsrc.list F.keep fun p hp => N p (List.mem_append_left _ hp)
  have hlt : l < s.heap.objs.size := by obtain ⟨_, e, _⟩ := hl; exact Heap.lt_size e
  refine wpAny_pyIter_list hl ?_
  have up : ∀ b o, s.heap.get? b = some o → (s.heap.push { cls := .type "list_iterator", data := .fields #[.ref l, .int 0 0] }).get? b = some o := fun b o e => Heap.get?_push_of_some _ e
  refine loop_core (s := { s with heap := s.heap.push { cls := .type "list_iterator", data := .fields #[.ref l, .int 0 0] } }) (fun _ v m₁ m₂ => m₂ = fun y => if y = x then some v else m₁ y) J (Walks.list hh s.heap.objs.size l (Nat.ne_of_lt hlt) items)
    (fun i v h tk m₁ nx K E' _ _ _ F₁ _ _ k => bind_name hx hp F₁ k) (Ne.symm (Nat.ne_of_lt F.ns.lt)) (next_is_new F) ⟨⟨_, Heap.get?_push_size _ rfl, rfl, rfl⟩, hl.push _⟩
    (fun i h h' oI st e e' k N' => ⟨by obtain ⟨o, q, r⟩ := st.1; rw [e] at q; cases q; exact ⟨_, e', r⟩, hsrc.list k N'⟩) (fun i h st => by obtain ⟨o, e, _⟩ := st.1; exact ⟨o, e⟩)
    (F.keeps up) (fun p hp => ⟨up _ _ (N p hp).1, (N p hp).2⟩) (fun p hp => Nat.ne_of_lt (Heap.lt_size (N p (List.mem_append_left _ hp)).1)) (fun p hp => Nat.ne_of_lt (Heap.lt_size (N p (List.mem_append_right _ hp)).1)) hsn h0 ?_ ?_ hE
  · rintro i v m₁ m₂ nx h tk oI hi hP hJ rfl a b c F₁ N₁
    exact turn i v m₁ nx h tk _ oI hP hJ a b c F₁ N₁
  · intro h' tk m' nx hJ F' N' off
    exact done h' tk m' nx hJ F' N' off

/-- a for over a list of pairs, two names -/
theorem list_pairs {x y : PySem.Str} {px py pt : Pos} {k1 : Nat} {l : Addr} {items : Array Value} {m₀ : PySem.Str → Option Value} (src : List (Addr × Obj)) {nx₀ : List (Addr × Obj)} (J : Nat → (PySem.Str → Option Value) → List (Addr × Obj) → Prop)
    (P : Nat → Value → Value → Prop)
    (hh : A.handled = none) (hx : env.kindOf x = some .local) (hy : env.kindOf y = some .local) (hp : (env.scope.kind == .class || (env.scope.kind == .module && env.locals != env.globals)) = false)
    (hsrc : LCg.SrcAt h₀ l items src) (F : Fr h₀ env.locals s.heap m₀) (N : News h₀ env.locals s.heap (src ++ nx₀)) (hsn : ∀ p ∈ nx₀, ∀ q ∈ src, p.1 ≠ q.1) (h0 : J 0 m₀ nx₀)
    (htup : ∀ i v m₁ nx h, items[i]? = some v → J i m₁ nx → (∀ b o, h₀.get? b = some o → h.get? b = some o) → News h₀ env.locals h (src ++ nx) → ∃ T a b, v = .ref T ∧ P i a b ∧ h.IsTuple T #[a, b])
    (turn : ∀ i a b m₁ nx h tk I oI, i < items.size → P i a b → J i m₁ nx → (∀ p ∈ nx, p.1 ≠ I) → (∀ p ∈ nx, ∀ q ∈ src, p.1 ≠ q.1) → (∀ q ∈ src, q.1 ≠ I) → Fr h₀ env.locals h (fun z => if z = y then some b else if z = x then some a else m₁ z) → News h₀ env.locals h ((I, oI) :: (src ++ nx)) →
      wpAny (model prog w) A (execs body env) (TPost h₀ env.locals ((I, oI) :: src) (J (i + 1)) { s with heap := h, toks := tk } Q) E { s with heap := h, toks := tk })
    (done : ∀ h' tk m' nx, J items.size m' nx → Fr h₀ env.locals h' m' → News h₀ env.locals h' (src ++ nx) → (∀ p ∈ nx, ∀ q ∈ src, p.1 ≠ q.1) → Q .next { s with heap := h', toks := tk })
    (hE : PassesOwn (model prog w) A env E) :
    wpAny (model prog w) A (pyIter (.ref l)) (fun it s₂ => codeAny (model prog w) A (.forLoop (.Tuple [.Name x px, .Name y py] k1 pt) it body [] env) (fun r s' => match r with | .ok f => Q f s' | .error e => cameBackBy (model prog w) A env E e s') s₂) E s := by
  have hl : s.heap.IsList l items := hsrc.list F.keep fun p hp => N p (List.mem_append_left _ hp)
  have hlt : l < s.heap.objs.size := by obtain ⟨_, e, _⟩ := hl; exact Heap.lt_size e
  refine wpAny_pyIter_list hl ?_
  have up : ∀ b o, s.heap.get? b = some o → (s.heap.push { cls := .type "list_iterator", data := .fields #[.ref l, .int 0 0] }).get? b = some o := fun b o e => Heap.get?_push_of_some _ e
  refine loop_core (s := { s with heap := s.heap.push { cls := .type "list_iterator", data := .fields #[.ref l, .int 0 0] } }) (fun i v m₁ m₂ => ∃ a b, P i a b ∧ m₂ = fun z => if z = y then some b else if z = x then some a else m₁ z) J (Walks.list hh s.heap.objs.size l (Nat.ne_of_lt hlt) items)
    (fun i v h tk m₁ nx K E' _ hP hst F₁ N₁ hJ k => ?_) (Ne.symm (Nat.ne_of_lt F.ns.lt)) (next_is_new F) ⟨⟨_, Heap.get?_push_size _ rfl, rfl, rfl⟩, hl.push _⟩
    (fun i h h' oI st e e' k N' => ⟨by obtain ⟨o, q, r⟩ := st.1; rw [e] at q; cases q; exact ⟨_, e', r⟩, hsrc.list k N'⟩) (fun i h st => by obtain ⟨o, e, _⟩ := st.1; exact ⟨o, e⟩)
    (F.keeps up) (fun p hp => ⟨up _ _ (N p hp).1, (N p hp).2⟩) (fun p hp => Nat.ne_of_lt (Heap.lt_size (N p (List.mem_append_left _ hp)).1)) (fun p hp => Nat.ne_of_lt (Heap.lt_size (N p (List.mem_append_right _ hp)).1)) hsn h0 ?_ ?_ hE
  · obtain ⟨T, a, b, rfl, hab, hT⟩ := htup i v m₁ nx h hP hJ F₁.keep N₁
    exact bind_pair hh hx hy hp (fun K' hK => go_listiter hst.1 hK) hT F₁ fun h' tk' m₂ e F' k' => k h' tk' m₂ ⟨a, b, hab, e⟩ F' k'
  · rintro i v m₁ m₂ nx h tk oI hi hP hJ ⟨a, b, hab, rfl⟩ e1 e2 e3 F₁ N₁
    exact turn i a b m₁ nx h tk _ oI hi hab hJ e1 e2 e3 F₁ N₁
  · intro h' tk m' nx hJ F' N' off
    exact done h' tk m' nx hJ F' N' off

/-- a for over a tuple of pairs, two names -/
theorem tuple_pairs {x y : PySem.Str} {px py pt : Pos} {k1 : Nat} {l : Addr} {items : Array Value} {m₀ : PySem.Str → Option Value} (src : List (Addr × Obj)) {nx₀ : List (Addr × Obj)} (J : Nat → (PySem.Str → Option Value) → List (Addr × Obj) → Prop)
    (P : Nat → Value → Value → Prop)
    (hh : A.handled = none) (hx : env.kindOf x = some .local) (hy : env.kindOf y = some .local) (hp : (env.scope.kind == .class || (env.scope.kind == .module && env.locals != env.globals)) = false)
    (hsrc : SrcT h₀ l items src) (F : Fr h₀ env.locals s.heap m₀) (N : News h₀ env.locals s.heap (src ++ nx₀)) (hsn : ∀ p ∈ nx₀, ∀ q ∈ src, p.1 ≠ q.1) (h0 : J 0 m₀ nx₀)
    (htup : ∀ i v m₁ nx h, items[i]? = some v → J i m₁ nx → (∀ b o, h₀.get? b = some o → h.get? b = some o) → News h₀ env.locals h (src ++ nx) → ∃ T a b, v = .ref T ∧ P i a b ∧ h.IsTuple T #[a, b])
    (turn : ∀ i a b m₁ nx h tk I oI, i < items.size → P i a b → J i m₁ nx → (∀ p ∈ nx, p.1 ≠ I) → (∀ p ∈ nx, ∀ q ∈ src, p.1 ≠ q.1) → (∀ q ∈ src, q.1 ≠ I) → Fr h₀ env.locals h (fun z => if z = y then some b else if z = x then some a else m₁ z) → News h₀ env.locals h ((I, oI) :: (src ++ nx)) →
      wpAny (model prog w) A (execs body env) (TPost h₀ env.locals ((I, oI) :: src) (J (i + 1)) { s with heap := h, toks := tk } Q) E { s with heap := h, toks := tk })
    (done : ∀ h' tk m' nx, J items.size m' nx → Fr h₀ env.locals h' m' → News h₀ env.locals h' (src ++ nx) → (∀ p ∈ nx, ∀ q ∈ src, p.1 ≠ q.1) → Q .next { s with heap := h', toks := tk })
    (hE : PassesOwn (model prog w) A env E) :
    wpAny (model prog w) A (pyIter (.ref l)) (fun it s₂ => codeAny (model prog w) A (.forLoop (.Tuple [.Name x px, .Name y py] k1 pt) it body [] env) (fun r s' => match r with | .ok f => Q f s' | .error e => cameBackBy (model prog w) A env E e s') s₂) E s := by
  have hl : s.heap.IsTuple l items := hsrc.tuple F.keep fun p hp => N p (List.mem_append_left _ hp)
  have hlt : l < s.heap.objs.size := by obtain ⟨_, e, _⟩ := hl; exact Heap.lt_size e
  refine wpAny_pyIter_tuple hl ?_
  have up : ∀ b o, s.heap.get? b = some o → (s.heap.push { cls := .type "tuple_iterator", data := .fields #[.ref l, .int 0 0] }).get? b = some o := fun b o e => Heap.get?_push_of_some _ e
  refine loop_core (s := { s with heap := s.heap.push { cls := .type "tuple_iterator", data := .fields #[.ref l, .int 0 0] } }) (fun i v m₁ m₂ => ∃ a b, P i a b ∧ m₂ = fun z => if z = y then some b else if z = x then some a else m₁ z) J (Walks.tuple hh s.heap.objs.size l (Nat.ne_of_lt hlt) items)
    (fun i v h tk m₁ nx K E' _ hP hst F₁ N₁ hJ k => ?_) (Ne.symm (Nat.ne_of_lt F.ns.lt)) (next_is_new F) ⟨⟨_, Heap.get?_push_size _ rfl, rfl, rfl⟩, hl.at fun o e => up _ _ e⟩
    (fun i h h' oI st e e' k N' => ⟨by obtain ⟨o, q, r⟩ := st.1; rw [e] at q; cases q; exact ⟨_, e', r⟩, hsrc.tuple k N'⟩) (fun i h st => by obtain ⟨o, e, _⟩ := st.1; exact ⟨o, e⟩)
    (F.keeps up) (fun p hp => ⟨up _ _ (N p hp).1, (N p hp).2⟩) (fun p hp => Nat.ne_of_lt (Heap.lt_size (N p (List.mem_append_left _ hp)).1)) (fun p hp => Nat.ne_of_lt (Heap.lt_size (N p (List.mem_append_right _ hp)).1)) hsn h0 ?_ ?_ hE
  · obtain ⟨T, a, b, rfl, hab, hT⟩ := htup i v m₁ nx h hP hJ F₁.keep N₁
    exact bind_pair hh hx hy hp (fun K' hK => go_tupleiter hst.1 hK) hT F₁ fun h' tk' m₂ e F' k' => k h' tk' m₂ ⟨a, b, hab, e⟩ F' k'
  · rintro i v m₁ m₂ nx h tk oI hi hP hJ ⟨a, b, hab, rfl⟩ e1 e2 e3 F₁ N₁
    exact turn i a b m₁ nx h tk _ oI hi hab hJ e1 e2 e3 F₁ N₁
  · intro h' tk m' nx hJ F' N' off
    exact done h' tk m' nx hJ F' N' off

/-- a for over a range by ones, one name -/
theorem range_loop {x : PySem.Str} {px : Pos} {r : Addr} {a₀ b₀ : Int} {t₀ u₀ v₀ : Tok} {n : Nat} {m₀ : PySem.Str → Option Value} {nx₀ : List (Addr × Obj)} (J : Nat → (PySem.Str → Option Value) → List (Addr × Obj) → Prop)
    (hh : A.handled = none) (hx : env.kindOf x = some .local) (hp : (env.scope.kind == .class || (env.scope.kind == .module && env.locals != env.globals)) = false)
    (hr : IsRange s.heap r a₀ b₀ 1 t₀ u₀ v₀) (hsmall : Builtin.Range.small a₀ b₀ 1 = true) (hn : Builtin.Range.rangeSize a₀ b₀ 1 = (n : Int)) (F : Fr h₀ env.locals s.heap m₀) (N : News h₀ env.locals s.heap nx₀) (h0 : J 0 m₀ nx₀)
    (turn : ∀ i m₁ nx h tk t I oI, i < n → J i m₁ nx → (∀ p ∈ nx, p.1 ≠ I) → Fr h₀ env.locals h (fun y => if y = x then some (.int (a₀ + (i : Int)) t) else m₁ y) → News h₀ env.locals h ((I, oI) :: nx) →
      wpAny (model prog w) A (execs body env) (TPost h₀ env.locals [(I, oI)] (J (i + 1)) { s with heap := h, toks := tk } Q) E { s with heap := h, toks := tk })
    (done : ∀ h' tk m' nx, J n m' nx → Fr h₀ env.locals h' m' → News h₀ env.locals h' nx → Q .next { s with heap := h', toks := tk })
    (hE : PassesOwn (model prog w) A env E) :
    wpAny (model prog w) A (pyIter (.ref r)) (fun it s₂ => codeAny (model prog w) A (.forLoop (.Name x px) it body [] env) (fun r s' => match r with | .ok f => Q f s' | .error e => cameBackBy (model prog w) A env E e s') s₂) E s := by
  refine wpAny_pyIter_range hr hsmall ?_
  have up : ∀ b o, s.heap.get? b = some o → (s.heap.push { cls := .type "range_iterator", data := .fields #[rawInt a₀, rawInt (Builtin.Range.rangeSize a₀ b₀ 1), rawInt 1] }).get? b = some o := fun b o e => Heap.get?_push_of_some _ e
  refine loop_core (src := []) (s := { s with heap := s.heap.push { cls := .type "range_iterator", data := .fields #[rawInt a₀, rawInt (Builtin.Range.rangeSize a₀ b₀ 1), rawInt 1] } }) (fun _ v m₁ m₂ => m₂ = fun y => if y = x then some v else m₁ y) J (Walks.range hh s.heap.objs.size a₀ 1 n)
    (fun i v h tk m₁ nx K E' _ _ _ F₁ _ _ k => bind_name hx hp F₁ k) (Ne.symm (Nat.ne_of_lt F.ns.lt)) (next_is_new F) (by show IsRangeIter _ _ _ _ _; rw [hn]; simpa using Heap.get?_push_size _ rfl)
    (fun i h h' oI st e e' k N' => by have st' : h.get? _ = some _ := st; show h'.get? _ = some _; rw [e', ← e]; exact st') (fun i h st => ⟨_, st⟩)
    (F.keeps up) (fun p hp => ⟨up _ _ (N p hp).1, (N p hp).2⟩) (fun p hp => nomatch hp) (fun p hp => Nat.ne_of_lt (Heap.lt_size (N p hp).1)) (fun p _ q hq => nomatch hq) h0 ?_ ?_ hE
  · rintro i v m₁ m₂ nx h tk oI hi ⟨t, rfl⟩ hJ rfl a b c F₁ N₁
    rw [Int.mul_one] at F₁
    exact turn i m₁ nx h tk t _ oI hi hJ a F₁ N₁
  · intro h' tk m' nx hJ F' N' off
    exact done h' tk m' nx hJ F' N'
end

def WEnd (h₀ : Heap) (L : Addr) (news : List (Addr × Obj)) (n : Nat) (J : Nat → (PySem.Str → Option Value) → Prop) (s₁ s₂ : Shared) : Prop :=
  ∃ h' tk m' n', s₂ = { s₁ with heap := h', toks := tk } ∧ Fr h₀ L h' m' ∧ News h₀ L h' news ∧ n' < n ∧ J n' m'
def WPost (h₀ : Heap) (L : Addr) (news : List (Addr × Obj)) (n : Nat) (J : Nat → (PySem.Str → Option Value) → Prop) (s₁ : Shared) (Q : Flow → Shared → Prop) (f : Flow) (s₂ : Shared) : Prop :=
  match f with
  | .ret v => Q (.ret v) s₂
  | .brk => Q .next s₂
  | .next => WEnd h₀ L news n J s₁ s₂
  | .cont => WEnd h₀ L news n J s₁ s₂
theorem WEnd.intro {h₀ : Heap} {L : Addr} {news led : List (Addr × Obj)} {n : Nat} {J : Nat → (PySem.Str → Option Value) → Prop} {s₁ : Shared} {h' : Heap} {tk : Nat} {m' : PySem.Str → Option Value}
    (F : Fr h₀ L h' m') (N : News h₀ L h' led) (hn : ∀ p ∈ news, p ∈ led) (n' : Nat) (hlt : n' < n) (hj : J n' m') : WEnd h₀ L news n J s₁ { s₁ with heap := h', toks := tk } :=
  ⟨h', tk, m', n', rfl, F, fun p hp => N p (hn p hp), hlt, hj⟩
section
variable {prog : Program} {w : World} {A : Around} {E : Value → Shared → Prop} {s : Shared} {env : Env} {h₀ : Heap} {body : List Stmt} {Q : Flow → Shared → Prop} {test : PySem.Expr}
/-- a while by a word and a measure; the ledger stays -/
theorem while_loop {pos : Pos} {L : Addr} {m₀ : PySem.Str → Option Value} {news : List (Addr × Obj)} (J : (PySem.Str → Option Value) → Nat → (PySem.Str → Option Value) → Prop) (n₀ : Nat)
    (F : Fr h₀ L s.heap m₀) (N : News h₀ L s.heap news) (h0 : J m₀ n₀ m₀)
    (turn : ∀ n m₁ h tk, J m₀ n m₁ → Fr h₀ L h m₁ → News h₀ L h news →
      wpAny (model prog w) A (isTrue test env (eval test env)) (fun b s₂ => WhlIf b (wpAny (model prog w) A (execs body env) (WPost h₀ L news n (J m₀) { s with heap := h, toks := tk } Q) E s₂) (wpAny (model prog w) A (execs [] env) Q E s₂)) E { s with heap := h, toks := tk })
    (hE : PassesOwn (model prog w) A env E) :
    wpAny (model prog w) A (exec (.While test body [] pos) env) Q E s := by
  have key : ∀ N₀ : Nat, ∀ n, n < N₀ → ∀ m₁ h tk, J m₀ n m₁ → Fr h₀ L h m₁ → News h₀ L h news → WhlRest prog w A E env test body [] Q 0 { s with heap := h, toks := tk } := by
    intro N₀
    induction N₀ with
    | zero => intro n h; exact absurd h (Nat.not_lt_zero _)
    | succ N₀ ih =>
      intro n hn m₁ h tk hJ F₁ N₁
      refine whl_turn (k := 0) hE (wpAny_mono (turn n m₁ h tk hJ F₁ N₁) (fun b s₂ hb => ?_) fun _ _ e => e)
      cases b with
      | false => exact hb
      | true =>
        refine WhlIf.yes rfl (wpAny_mono (show wpAny (model prog w) A (execs body env) _ E s₂ from hb) (fun f s₃ hf => ?_) fun _ _ e => e)
        have back : WEnd h₀ L news n (J m₀) { s with heap := h, toks := tk } s₃ → WhlRest prog w A E env test body [] Q 0 s₃ := by
          rintro ⟨h', tk', m', n', rfl, F', N', hlt, hJ'⟩
          exact ih n' (by omega) m' h' tk' hJ' F' N'
        cases f with
        | ret v => exact hf
        | brk => exact hf
        | next => exact back hf
        | cont => exact back hf
  exact whl_start 0 (key (n₀ + 1) n₀ (Nat.lt_succ_self _) m₀ s.heap s.toks h0 F N)
end


theorem off_all {d : Addr} {l : List (Addr × Obj)} (h : AllLt d l) : ∀ p ∈ l, p.1 ≠ d := fun p hp => Nat.ne_of_lt (ktn_ltOf h p hp)
theorem off_lt {d : Addr} {l : List (Addr × Obj)} (h : ∀ p ∈ l, p.1 < d) : ∀ p ∈ l, p.1 ≠ d := fun p hp => Nat.ne_of_lt (h p hp)
theorem sum_toNat {a : Nat} {x : Int} (h : a ≤ 16000) (hx : x ≤ 300) : a + x.toNat ≤ 16384 := by omega
theorem rep_fold (v : Value) (n : Nat) : List.foldl (fun x1 x2 => x1 ++ x2) #[] (List.replicate n #[v]) = (List.replicate n v).toArray := by
  have key : ∀ (n : Nat) (a : Array Value), List.foldl (fun x1 x2 => x1 ++ x2) a (List.replicate n #[v]) = a ++ (List.replicate n v).toArray := by
    intro n
    induction n with
    | zero => intro a; simp
    | succ n ih =>
      intro a
      rw [List.replicate_succ, List.foldl_cons, ih, List.replicate_succ]
      apply Array.toList_inj.mp
      simp
  rw [key]; simp
section
variable {prog : Program} {w : World} {A : Around} {E : Value → Shared → Prop} {s : Shared} {h₀ : Heap} {L : Addr} {m : PySem.Str → Option Value} {news : List (Addr × Obj)} {Q : Value → Shared → Prop}
theorem my_mul_one {l : Addr} {v : Value} {k : Nat} {x : Int} {u : Tok} (F : Fr h₀ L s.heap m) (N : News h₀ L s.heap news) (hm : (l, W.listOf #[v] k) ∈ news) (hlo : 0 ≤ x) (hhi : x ≤ 16384)
    (h : ∀ l' h', Fr h₀ L h' m → News h₀ L h' ((l', W.listOf (List.replicate x.toNat v).toArray 0) :: news) → (∀ p ∈ news, p.1 < l') → Q (.ref l') { s with heap := h' }) :
    wpAny (model prog w) A (binaryOp .Mult (.ref l) (.int x u)) Q E s := by
  refine mul_list F N (N _ hm).1 (by omega) (by omega) (by simp; omega) fun h' F' N' => ?_
  have e : List.foldl (fun x1 x2 => x1 ++ x2) #[] (List.replicate (if (#[v] : Array Value).isEmpty = true then 0 else x.toNat) #[v]) = (List.replicate x.toNat v).toArray := by
    rw [if_neg (by simp)]; exact rep_fold v _
  rw [e] at N'
  exact h _ h' F' N' fun p hp => Heap.lt_size (N p hp).1
theorem my_extend {D b : Addr} {ys bv : List Value} {n n2 : Nat} {g : Obj → List (Addr × Obj)} (F : Fr h₀ L s.heap m) (N : News h₀ L s.heap news) (hb : (b, W.listOf bv.toArray n2) ∈ news) (U : UpdF D (W.listOf ys.toArray n) news g) (hsz : ys.length + bv.length ≤ 16384)
    (h : ∀ h' n', Fr h₀ L h' m → News h₀ L h' (g (W.listOf (ys ++ bv).toArray n')) → Q .none { s with heap := h' }) : wpAny (model prog w) A (call (.builtin "list.extend") [.ref D, .ref b]) Q E s := by
  obtain ⟨pre, post, rfl, hg, a, c⟩ := U.split
  refine extend_in F N a c (N _ hb).1 (fun h' n' F' N' => ?_) (by rw [sizeLine_eq]; simp; omega)
  refine h h' n' F' ?_
  rw [hg]
  simpa using N'
end
theorem my_len {prog : Program} {w : World} {A : Around} {E : Value → Shared → Prop} {s : Shared} {l : Addr} {vs : List Value} {ns : List Int} {Q : Value → Shared → Prop} (hl : s.heap.IsList l vs.toArray) (hI : IntsAre vs ns) (hz : ns.length ≤ 16384)
    (h : Q (.int (ns.length : Int) (s.toks + 1)) { s with toks := s.toks + 1 + 1 }) : wpAny (model prog w) A (call (.builtin "len") [.ref l]) Q E s :=
  kun_lenL hl (by rw [List.size_toArray, hI.length]) (by omega) h
theorem map_two {m m₀ : PySem.Str → Option Value} {x y : PySem.Str} (h : ∀ z, z ≠ x → z ≠ y → m z = m₀ z) : m = fun z => if z = x then m x else if z = y then m y else m₀ z := by
  funext z
  by_cases h1 : z = x
  · rw [if_pos h1, h1]
  · by_cases h2 : z = y
    · rw [if_neg h1, if_pos h2, h2]
    · rw [if_neg h1, if_neg h2, h z h1 h2]
section
variable {prog : Program} {w : World} {A : Around} {E : Value → Shared → Prop} {s : Shared} {env : Env} {h₀ : Heap} {body : List Stmt} {Q : Flow → Shared → Prop}
theorem range_loopM {x : PySem.Str} {px : Pos} {r : Addr} {a₀ b₀ : Int} {t₀ u₀ v₀ : Tok} {n : Nat} {m₀ : PySem.Str → Option Value} {nx₀ : List (Addr × Obj)} (J : Nat → (PySem.Str → Option Value) → List (Addr × Obj) → (PySem.Str → Option Value) → List (Addr × Obj) → Prop)
    (hh : A.handled = none) (hx : env.kindOf x = some .local) (hp : (env.scope.kind == .class || (env.scope.kind == .module && env.locals != env.globals)) = false)
    (hr : IsRange s.heap r a₀ b₀ 1 t₀ u₀ v₀) (hsmall : Builtin.Range.small a₀ b₀ 1 = true) (hn : Builtin.Range.rangeSize a₀ b₀ 1 = (n : Int)) (F : Fr h₀ env.locals s.heap m₀) (N : News h₀ env.locals s.heap nx₀) (h0 : J 0 m₀ nx₀ m₀ nx₀)
    (turn : ∀ i m₁ nx h tk t I oI, i < n → J i m₀ nx₀ m₁ nx → (∀ p ∈ nx, p.1 ≠ I) → Fr h₀ env.locals h (fun y => if y = x then some (.int (a₀ + (i : Int)) t) else m₁ y) → News h₀ env.locals h ((I, oI) :: nx) →
      wpAny (model prog w) A (execs body env) (TPost h₀ env.locals [(I, oI)] (J (i + 1) m₀ nx₀) { s with heap := h, toks := tk } Q) E { s with heap := h, toks := tk })
    (done : ∀ h' tk m' nx, J n m₀ nx₀ m' nx → Fr h₀ env.locals h' m' → News h₀ env.locals h' nx → Q .next { s with heap := h', toks := tk })
    (hE : PassesOwn (model prog w) A env E) :
    wpAny (model prog w) A (pyIter (.ref r)) (fun it s₂ => codeAny (model prog w) A (.forLoop (.Name x px) it body [] env) (fun r s' => match r with | .ok f => Q f s' | .error e => cameBackBy (model prog w) A env E e s') s₂) E s :=
  range_loop (fun i m nx => J i m₀ nx₀ m nx) hh hx hp hr hsmall hn F N h0 turn done hE
end

theorem pop_zero {prog : Program} {w : World} {A : Around} {E : Value → Shared → Prop} {s : Shared} {h₀ : Heap} {L D : Addr} {m : PySem.Str → Option Value} {news news' : List (Addr × Obj)} {n : Nat}
    {u : Tok} {q : List Value} {y : Value} {Q : Value → Shared → Prop} (F : Fr h₀ L s.heap m) (N : News h₀ L s.heap news)
    (U : Upd D (W.listOf (y :: q).toArray n) (W.listOf q.toArray (n + 1)) news news') (hz : q.length + 1 ≤ 64)
    (h : ∀ h', Fr h₀ L h' m → News h₀ L h' news' → Q y { s with heap := h' }) : wpAny (model prog w) A (call (.builtin "list.pop") [.ref D, .int 0 u]) Q E s :=
  kl_popAt (p := []) (q := q) (k := 0) F N rfl (by simp [seqIndex?]) rfl U (by rw [sizeLine_eq]; simp; omega) h

theorem off1 {D I : Addr} {o : Obj} {l : List (Addr × Obj)} (h : ∀ p ∈ (D, o) :: l, p.1 ≠ I) : (@Ne Nat D I) ∧ ∀ p ∈ l, p.1 ≠ I := ⟨h _ (List.mem_cons_self ..), fun p hp => h p (List.mem_cons_of_mem _ hp)⟩
theorem off_one {I : Addr} {oI : Obj} {nx : List (Addr × Obj)} (h : ∀ p ∈ nx, p.1 ≠ I) : ∀ p ∈ nx, ∀ q ∈ [(I, oI)], p.1 ≠ q.1 := fun p hp q hq => by rw [List.mem_singleton.mp hq]; exact h p hp
theorem off_cons {D I : Addr} {o : Obj} {nx : List (Addr × Obj)} (h1 : @Ne Nat D I) (h : ∀ p ∈ nx, p.1 ≠ I) : ∀ p ∈ (D, o) :: nx, p.1 ≠ I := fun p hp => by
  rcases List.mem_cons.mp hp with rfl | hp
  · exact h1
  · exact h p hp
theorem ints_rep (k : Int) (t : Tok) : ∀ n : Nat, IntsAre (List.replicate n (.int k t)) (List.replicate n k)
  | 0 => .nil
  | n + 1 => by rw [List.replicate_succ, List.replicate_succ]; exact .cons k t (ints_rep k t n)
theorem rs_nat (n : Nat) : Builtin.Range.rangeSize 0 (n : Int) 1 = (n : Int) := by rw [rangeSize_one]; split <;> omega
theorem fits_long {i : Int} (h0 : -1000000 ≤ i) (h1 : i ≤ 1000000) : Builtin.Range.rangeFitsLong i = true := by
  unfold Builtin.Range.rangeFitsLong
  rw [Bool.and_eq_true]
  exact ⟨decide_eq_true (by omega), decide_eq_true (by omega)⟩
theorem rs_small {n : Nat} (h : n ≤ 16384) : Builtin.Range.small 0 (n : Int) 1 = true := by
  unfold Builtin.Range.small
  rw [rs_nat, fits_long (by omega) (by omega), fits_long (by omega) (by omega), fits_long (by omega) (by omega), if_pos (by decide), fits_long (by omega) (by omega)]
  simp
def Stop (P : Prop) : Prop := P
theorem Stop.out {P : Prop} (h : Stop P) : P := h
theorem map_three {m m₀ : PySem.Str → Option Value} {x y v : PySem.Str} (h : ∀ z, z ≠ x → z ≠ y → z ≠ v → m z = m₀ z) : m = fun z => if z = x then m x else if z = y then m y else if z = v then m v else m₀ z := by
  funext z
  by_cases h1 : z = x
  · rw [if_pos h1, h1]
  · by_cases h2 : z = y
    · rw [if_neg h1, if_pos h2, h2]
    · by_cases h3 : z = v
      · rw [if_neg h1, if_neg h2, if_pos h3, h3]
      · rw [if_neg h1, if_neg h2, if_neg h3, h z h1 h2 h3]
theorem weight_small : ∀ {ns : List Int}, (∀ k ∈ ns, 0 ≤ k ∧ k < 1024) → PyData.weightAll (ns.map PyData.int) ≤ 12 * ns.length
  | [], _ => by simp [PyData.weightAll]
  | n :: r, h => by
    have ih := weight_small (ns := r) fun k hk => h k (List.mem_cons_of_mem _ hk)
    have h1 := h n (List.mem_cons_self ..)
    have h2 : PyData.weight (.int n) ≤ 11 := by
      simp only [PyData.weight]
      split
      · omega
      · have : n.natAbs.log2 < 10 := (Nat.log2_lt (by intro e; simp_all)).mpr (by omega)
        omega
    simp only [List.map_cons, PyData.weightAll, List.length_cons]
    omega
theorem lay_small {ns : List Int} (hl : ns.length ≤ 1000) (hb : ∀ k ∈ ns, 0 ≤ k ∧ k < 1024) : PyData.layable0 (.list (ns.map PyData.int)) = true := by
  have h1 := weight_small hb
  have h2 := W.shaped_ints ns
  unfold PyData.layable0
  unfold SeqAt.shaped at h2
  rw [h2, Bool.true_and]
  exact decide_eq_true (by simp only [PyData.weight]; omega)
theorem my_index {prog : Program} {w : World} {A : Around} {E : Value → Shared → Prop} {s : Shared} {l : Addr} {vs : List Value} {ns : List Int} {k : Int} {t : Tok} {Q : Value → Shared → Prop} (hl : s.heap.IsList l vs.toArray) (hI : IntsAre vs ns)
    (hz : ns.length ≤ 1000) (hb : ∀ k ∈ ns, 0 ≤ k ∧ k < 1024) (hk : k ∈ ns) (h : ∀ t', Q (.int (ns.idxOf k : Nat) t') { s with toks := s.toks + 1 }) : wpAny (model prog w) A (call (.builtin "list.index") [.ref l, .int k t]) Q E s :=
  index_list_ints hl hI (lay_small hz hb) hk (h _)
section
variable {prog : Program} {w : World} {A : Around} {E : Value → Shared → Prop} {s : Shared} {h₀ : Heap} {L : Addr} {m : PySem.Str → Option Value} {news : List (Addr × Obj)} {Q : Value → Shared → Prop}
theorem my_append {D : Addr} {ys : List Value} {v : Value} {n : Nat} {g : Obj → List (Addr × Obj)} (F : Fr h₀ L s.heap m) (N : News h₀ L s.heap news) (U : UpdF D (W.listOf ys.toArray n) news g) (hsz : ys.length ≤ 16384)
    (h : ∀ h' n', Fr h₀ L h' m → News h₀ L h' (g (W.listOf (ys ++ [v]).toArray n')) → Q .none { s with heap := h' }) : wpAny (model prog w) A (call (.builtin "list.append") [.ref D, v]) Q E s := by
  obtain ⟨pre, post, rfl, hg, a, b⟩ := U.split
  have z := N (D, W.listOf ys.toArray n) (List.mem_append.mpr (.inr (.head _)))
  refine append_at (hsz := by rw [List.size_toArray, sizeLine_eq]; omega) z.1 fun h' hs ho' => h h' (n + 1) (F.change hs z.2.1 z.2.2) ?_
  rw [hg]
  rw [List.push_toArray] at ho'
  exact news_set N a b hs ho'
end

/-- what holds of a Classes object's data -/
structure ClsOk (bs ns : List Int) (cnt : Int) : Prop where
  len : bs.length ≤ 64
  pos : 0 < bs.length
  eql : ns.length = bs.length
  zero : bs.getD 0 0 = 0
  b0 : ∀ j : Int, 0 ≤ j → j < bs.length → 0 ≤ bs.getD j.toNat 0 ∧ bs.getD j.toNat 0 ≤ 127
  b1 : ∀ j : Int, 0 ≤ j → j + 1 < bs.length → bs.getD j.toNat 0 < bs.getD (j + 1).toNat 0
  n0 : ∀ j : Int, 0 ≤ j → j < ns.length → 0 ≤ ns.getD j.toNat 0 ∧ ns.getD j.toNat 0 < cnt
  cov : ∀ k : Int, 0 ≤ k → k < cnt → ∃ j : Nat, j < ns.length ∧ ns.getD j 0 = k
  cpos : 0 < cnt
  c64 : cnt ≤ 64
def endOf (bs : List Int) (i : Nat) : Int := if i + 1 < bs.length then bs.getD (i + 1) 0 else 128
def tabUp (bs ns : List Int) : Nat → List Int
  | 0 => []
  | i + 1 => tabUp bs ns i ++ List.replicate (endOf bs i - bs.getD i 0).toNat (ns.getD i 0)
theorem tab_step1 {bs ns : List Int} {i : Nat} {ys : List Value} {t : Tok} (h : (i : Int) + 1 < bs.length) (hys : IntsAre ys (tabUp bs ns i)) :
    IntsAre (ys ++ List.replicate (bs.getD ((i : Int) + 1).toNat 0 - bs.getD (i : Int).toNat 0).toNat (.int (ns.getD (i : Int).toNat 0) t)) (tabUp bs ns (i + 1)) := by
  have e : ((i : Int) + 1).toNat = i + 1 := by omega
  rw [e, Int.toNat_natCast]
  show IntsAre _ (tabUp bs ns i ++ List.replicate (endOf bs i - bs.getD i 0).toNat (ns.getD i 0))
  unfold endOf
  rw [if_pos (by omega)]
  exact hys.append (ints_rep _ t _)
theorem tab_step2 {bs ns : List Int} {i : Nat} {ys : List Value} {t : Tok} (h : ¬ (i : Int) + 1 < bs.length) (hys : IntsAre ys (tabUp bs ns i)) :
    IntsAre (ys ++ List.replicate (127 + 1 - bs.getD (i : Int).toNat 0).toNat (.int (ns.getD (i : Int).toNat 0) t)) (tabUp bs ns (i + 1)) := by
  rw [Int.toNat_natCast]
  show IntsAre _ (tabUp bs ns i ++ List.replicate (endOf bs i - bs.getD i 0).toNat (ns.getD i 0))
  unfold endOf
  rw [if_neg (by omega)]
  exact hys.append (ints_rep _ t _)

section
variable {bs ns : List Int} {cnt : Int}
theorem ClsOk.lt (h : ClsOk bs ns cnt) {j : Nat} (hj : j + 1 < bs.length) : bs.getD j 0 < bs.getD (j + 1) 0 := by
  have := h.b1 j (by omega) (by omega)
  have e : ((j : Int) + 1).toNat = j + 1 := by omega
  rwa [Int.toNat_natCast, e] at this
theorem ClsOk.at (h : ClsOk bs ns cnt) {j : Nat} (hj : j < bs.length) : 0 ≤ bs.getD j 0 ∧ bs.getD j 0 ≤ 127 := by
  have := h.b0 j (by omega) (by omega)
  rwa [Int.toNat_natCast] at this
theorem ClsOk.end_gt (h : ClsOk bs ns cnt) {j : Nat} (hj : j < bs.length) : bs.getD j 0 < endOf bs j := by
  unfold endOf
  split
  · exact h.lt (by omega)
  · have := h.at hj; omega
theorem tabUp_len (h : ClsOk bs ns cnt) : ∀ i, i ≤ bs.length → (tabUp bs ns i).length = if i < bs.length then (bs.getD i 0).toNat else 128
  | 0, _ => by
    have := h.pos
    rw [if_pos h.pos, h.zero]; rfl
  | i + 1, hi => by
    have ih := tabUp_len h i (by omega)
    rw [if_pos (by omega)] at ih
    have h1 := h.at (j := i) (by omega)
    have h2 := h.end_gt (j := i) (by omega)
    show (tabUp bs ns i ++ List.replicate (endOf bs i - bs.getD i 0).toNat (ns.getD i 0)).length = _
    rw [List.length_append, ih, List.length_replicate]
    unfold endOf at h2 ⊢
    split
    · rename_i h3
      rw [if_pos h3] at h2
      omega
    · omega
theorem tabUp_len_le (h : ClsOk bs ns cnt) (i : Nat) (hi : i ≤ bs.length) : (tabUp bs ns i).length ≤ 128 := by
  rw [tabUp_len h i hi]
  split
  · have := h.at (j := i) (by omega); omega
  · omega
theorem tabUp_pre (i : Nat) : ∀ d, ∃ r, tabUp bs ns (i + d) = tabUp bs ns i ++ r
  | 0 => ⟨[], by simp⟩
  | d + 1 => by
    obtain ⟨r, hr⟩ := tabUp_pre i d
    exact ⟨r ++ List.replicate (endOf bs (i + d) - bs.getD (i + d) 0).toNat (ns.getD (i + d) 0), by
      show tabUp bs ns (i + d) ++ _ = _
      rw [hr, List.append_assoc]
      rfl⟩
theorem tab_at (h : ClsOk bs ns cnt) {j : Nat} (hj : j < bs.length) {c : Nat} (h1 : bs.getD j 0 ≤ c) (h2 : (c : Int) < endOf bs j) : (tabUp bs ns bs.length).getD c 0 = ns.getD j 0 := by
  obtain ⟨d, hd⟩ : ∃ d, bs.length = (j + 1) + d := ⟨bs.length - (j + 1), by omega⟩
  obtain ⟨r, hr⟩ := tabUp_pre (bs := bs) (ns := ns) (j + 1) d
  rw [hd, hr]
  have hl := tabUp_len h j (by omega)
  rw [if_pos hj] at hl
  have h0 := h.at hj
  show ((tabUp bs ns j ++ List.replicate (endOf bs j - bs.getD j 0).toNat (ns.getD j 0)) ++ r).getD c 0 = _
  rw [List.append_assoc, List.getD_eq_getElem?_getD, List.getElem?_append_right (by omega), List.getElem?_append_left (by rw [List.length_replicate]; omega), List.getElem?_replicate, if_pos (by omega)]
  rfl
end
def ofVal (bs ns : List Int) (code : Int) : Int := if code < 0 ∨ 127 < code then -1 else (tabUp bs ns bs.length).getD code.toNat 0
theorem ofVal_mid {bs ns : List Int} {cnt code l r : Int} (h : ClsOk bs ns cnt) (hc : 0 ≤ code) (hc2 : code ≤ 127) (hl : 0 ≤ l) (hlr : r - l ≤ 1) (hlt : l < r) (hr : r ≤ bs.length) (h1 : bs.getD l.toNat 0 ≤ code) (h2 : r < bs.length → code < bs.getD r.toNat 0) :
    ns.getD l.toNat 0 = ofVal bs ns code := by
  unfold ofVal
  rw [if_neg (by omega)]
  have e : r = l + 1 := by omega
  subst e
  refine (tab_at h (j := l.toNat) (by omega) (by omega) ?_).symm
  unfold endOf
  split
  · have e2 : (l + 1).toNat = l.toNat + 1 := by omega
    have := h2 (by omega)
    rw [e2] at this
    omega
  · omega
theorem getD_mem {ns : List Int} {j : Nat} (h : j < ns.length) : ns.getD j 0 ∈ ns := by
  rw [List.getD_eq_getElem?_getD, List.getElem?_eq_getElem h]; simp
theorem mem_getD {ns : List Int} {k : Int} (h : k ∈ ns) : ∃ j, j < ns.length ∧ ns.getD j 0 = k := by
  obtain ⟨j, hj, e⟩ := List.getElem_of_mem h
  exact ⟨j, hj, by rw [List.getD_eq_getElem?_getD, List.getElem?_eq_getElem hj]; simpa using e⟩
theorem ClsOk.nmem {bs ns : List Int} {cnt : Int} (h : ClsOk bs ns cnt) : ∀ k ∈ ns, 0 ≤ k ∧ k < 1024 := by
  intro k hk
  obtain ⟨j, hj, rfl⟩ := mem_getD hk
  have := h.n0 j (by omega) (by omega)
  rw [Int.toNat_natCast] at this
  have := h.c64
  omega
theorem ClsOk.mem {bs ns : List Int} {cnt k : Int} (h : ClsOk bs ns cnt) (h0 : 0 ≤ k) (h1 : k < cnt) : k ∈ ns := by
  obtain ⟨j, hj, rfl⟩ := h.cov k h0 h1
  exact getD_mem hj

section
variable {prog : Program} {w : World} {A : Around} {E : Value → Shared → Prop} {s : Shared} {h₀ : Heap} {L : Addr} {m : PySem.Str → Option Value} {env : Env}
theorem compRest_inv {elt : PySem.Expr} {x : PySem.Str} {scope : Scope} {cl : List (PySem.Str × Addr)} {S : List (Addr × Obj) → Prop} {P : Nat → Value → Prop} {Fin : List Value → List (Addr × Obj) → Prop} {n : Nat}
    (J : Nat → List Value → List (Addr × Obj) → Prop)
    (turn : ∀ i v ys nx I oI C oC D m₂ h tk (E' : Value → Shared → Prop), i < n → P i v → J i ys nx → LCg.NsObj oC m₂ → m₂ x = some v → Fr h₀ L h m → News h₀ L h ((I, oI) :: (C, oC) :: (D, LCg.lst ys) :: nx) → LCg.Off3 I C D nx → ((@Ne Nat I C) ∧ (@Ne Nat I D) ∧ (@Ne Nat C D)) →
      wpAny (model prog w) A (eval elt (compEnvC scope cl C env)) (LCg.CompEnd h₀ L m { s with heap := h, toks := tk } I oI C oC D (LCg.lst ys) S (fun y news' => J (i + 1) (ys ++ [y]) news')) E' { s with heap := h, toks := tk })
    (fin : ∀ ys nx, J n ys nx → Fin ys nx) : ∀ (d i : Nat) (ys : List Value) (nx : List (Addr × Obj)), i + d = n → J i ys nx → LCg.CompRest prog w A h₀ L m env elt x scope cl s S P Fin d i ys nx := by
  intro d
  induction d with
  | zero =>
    intro i ys nx hi hJ
    have e : i = n := by omega
    subst e
    exact LCg.CompRest.zero (fin ys nx hJ)
  | succ d ih =>
    intro i ys nx hi hJ
    refine LCg.CompRest.succ ?_
    intro v I oI C oC D m₂ h tk E' hP hC hx F N off ne
    refine wpAny_mono (turn i v ys nx I oI C oC D m₂ h tk E' (by omega) hP hJ hC hx F N off ne) (fun y s₂ hy => ?_) fun _ _ e => e
    obtain ⟨h', tk', nx', e, F', N', off', hS, hJ'⟩ := hy
    exact ⟨h', tk', nx', e, F', N', off', hS, ih (i + 1) _ nx' (by omega) hJ'⟩

def StrSrc (prog : Program) (w : World) (A : Around) (h₀ : Heap) (L : Addr) (m : PySem.Str → Option Value) (env : Env) (elt : PySem.Expr) (x : PySem.Str) (scope : Scope) (cl : List (PySem.Str × Addr)) (Q : Value → Shared → Prop) (xv : Value) (s₁ : Shared) : Prop :=
  ∃ tx t news, xv = .str tx t ∧ A.handled = none ∧ Fr h₀ L s₁.heap m ∧ News h₀ L s₁.heap news ∧ tx.cps.size ≤ sizeLine ∧
      ∀ s₂ : Shared, (∃ h, s₂ = { s₁ with heap := h }) → LCg.CompRest prog w A h₀ L m env elt x scope cl s₂ (fun _ => True) (SignAt tx) (LCg.FinE h₀ L m s₂ Q) tx.cps.size 0 [] news
theorem str_comp {elt iter : PySem.Expr} {x : PySem.Str} {px : Pos} {scope : Scope} {cl : List (PySem.Str × Addr)} {pos : Pos} {Q : Value → Shared → Prop} (_F₀ : Fr h₀ L s.heap m)
    (hclos : closureFor scope env = pure cl) (hcell : ∀ y ∈ scope.names, y.2 ≠ .cell) (hkind : scope.kind = .function)
    (hnames : ∀ y ∈ scope.names, y.2 = .local → scope.names.lookup y.1 = some .local) (hx : scope.names.lookup x = some .local)
    (h : wpAny (model prog w) A (eval iter env) (StrSrc prog w A h₀ L m env elt x scope cl Q) E s)
    (hs : ∀ x, foldedSetIterable iter env x = pure x := by intro _; rfl) :
    wpAny (model prog w) A (eval (.ListComp elt [⟨.Name x px, iter, [], 0⟩] scope pos) env) Q E s := by
  rw [eval_ListComp]
  refine wpAny_comprehension_free (use := none) rfl hs hclos hkind hnames (wpAny_mono h (fun xv s₁ h₁ => ?_) fun _ _ e => e)
  obtain ⟨tx, t, news, rfl, hh, F, N, hsz, R⟩ := h₁
  have go : ∀ (kind : String) (W : Walks prog w A s₁.heap.objs.size [s₁.heap.objs.size] [s₁.heap.objs.size] tx.cps.size (SignAt tx) (fun i h => h.IsStrIter s₁.heap.objs.size kind tx t i)) (o : Obj) ,
      (s₁.heap.push o).IsStrIter s₁.heap.objs.size kind tx t 0 →
      wpAny (model prog w) A (newList []) (fun acc s₃ => wpAny (model prog w) A (newFunctionEnv scope env.globals cl [] env.qual none .none (some env)) (fun cenv s₄ =>
        codeAny (model prog w) A (.compStart (.ListComp elt [⟨.Name x px, iter, [], 0⟩] scope pos) 0 (.ref s₁.heap.objs.size) acc { cenv with scope := relabel scope env }) (compPost (model prog w) A E none Q acc cenv.locals) s₄) E s₃) E { s₁ with heap := s₁.heap.push o } := by
    intro kind W o hst
    refine LCg.block_U W hsz (fun i h st => by obtain ⟨o, e, _⟩ := st; exact ⟨o, e⟩) (fun i h h' oI nw st e e' _ _ _ => by obtain ⟨o', q, r⟩ := st; rw [e] at q; cases q; exact ⟨_, e', r⟩) hcell hkind hx hst (fun b hb => ?_)
      (F.keeps fun _ _ e => Heap.get?_push_of_some _ e) (N.grown fun _ _ e => Heap.get?_push_of_some _ e) (Nat.ne_of_lt F.ns.lt) (next_is_new F) (fun p hp => Nat.ne_of_lt (Heap.lt_size (N p hp).1)) trivial (R _ ⟨_, rfl⟩) ?_
    · rw [List.mem_singleton.mp hb]
      show s₁.heap.objs.size < (s₁.heap.push o).objs.size
      rw [Heap.size_push]; exact Nat.lt_succ_self _
    · intro D C h tk m' ys news' F' N' o1 hn hC₀ hD₀ hCL hDL hCD offC fin
      refine ⟨m', hn, fun h'' hs'' => fin D h'' tk (F'.change hs'' hCL hC₀) (fun p hp => ?_) o1⟩
      refine ⟨hs''.extBut _ _ ?_ (N' p hp).1, (N' p hp).2⟩
      rcases List.mem_cons.mp hp with rfl | hp
      · exact Ne.symm hCD
      · exact offC p hp
  cases ha : tx.cps.all (· < 128)
  · exact wpAny_pyIter_wide ha (go "str_iterator" (Walks.strWide hh _ tx t) _ ⟨_, Heap.get?_push_size _ rfl, rfl, rfl⟩)
  · exact wpAny_pyIter_ascii ha (go "str_ascii_iterator" (Walks.strAscii hh _ tx t) _ ⟨_, Heap.get?_push_size _ rfl, rfl, rfl⟩)
end
theorem off_of1 {D : Addr} : ∀ {l : List (Addr × Obj)}, LCg.Off1 D l → ∀ p ∈ l, p.1 ≠ D
  | [], _, _, h => nomatch h
  | q :: r, x, p, h => by
    rcases List.mem_cons.mp h with rfl | h
    · exact x.1
    · exact off_of1 x.2 p h
theorem off_of3 {I C D : Addr} : ∀ {l : List (Addr × Obj)}, LCg.Off3 I C D l → ∀ p ∈ l, p.1 ≠ I ∧ p.1 ≠ C ∧ p.1 ≠ D := fun x => LCg.Off3.mem x
theorem take_snoc {α : Type} {a : Array α} {i : Nat} {c : α} (h : a[i]? = some c) : a.toList.take (i + 1) = a.toList.take i ++ [c] := by
  rw [List.take_add_one]
  have : a.toList[i]? = some c := by simpa using h
  rw [this]; rfl
theorem take_all {α : Type} (a : Array α) : a.toList.take a.size = a.toList := List.take_of_length_le (by simp)


theorem join_ones_eq : ∀ cs : List Nat, Txt.join (Str.ofString "") (cs.map fun c => (⟨#[c]⟩ : PySem.Str)) = ⟨cs.toArray⟩ := by
  have go : ∀ (cs : List Nat) (c : Nat), Str.join (Str.ofString "") ((c :: cs).map fun c => (⟨#[c]⟩ : PySem.Str)) = ⟨(c :: cs).toArray⟩ := by
    intro cs
    induction cs with
    | nil => intro c; rfl
    | cons d r ih =>
      intro c
      show (⟨#[c]⟩ : PySem.Str) ++ Str.ofString "" ++ Str.join (Str.ofString "") ((d :: r).map fun c => (⟨#[c]⟩ : PySem.Str)) = _
      rw [ih d]
      apply Str.ext'
      rw [Str.cps_append, Str.cps_append]
      show (#[c] ++ (Str.ofString "").cps) ++ (d :: r).toArray = _
      have e : (Str.ofString "").cps = #[] := by decide
      rw [e]
      simp
  intro cs
  show Builtin.Str.glued _ _ = _
  rw [StrLaws.glued_eq_join]
  cases cs with
  | nil => rfl
  | cons c r => exact go r c
theorem sum_ones : ∀ cs : List Nat, ((cs.map fun c => (⟨#[c]⟩ : PySem.Str)).map (·.length)).sum = cs.length := by
  intro cs
  induction cs with
  | nil => rfl
  | cons c r ih => simp only [List.map_cons, List.sum_cons, ih, List.length_cons]; show 1 + _ = _; omega
section
variable {prog : Program} {w : World} {A : Around} {E : Value → Shared → Prop} {s : Shared} {Q : Value → Shared → Prop}
theorem my_join {t : Tok} {D : Addr} {items : Array Value} {α : Type} {ms : List α} {f : α → Nat} (hl : s.heap.IsList D items) (hi : StrsAre items.toList (ms.map fun a => (⟨#[f a]⟩ : PySem.Str))) (hn : ms.length ≤ 64)
    (h : ∀ t' k tx, tx = (⟨(ms.map f).toArray⟩ : PySem.Str) → Q (.str tx t') { s with toks := k }) : wpAny (model prog w) A (call (.builtin "str.join") [.str (Str.ofString "") t, .ref D]) Q E s := by
  have e : (ms.map fun a => (⟨#[f a]⟩ : PySem.Str)) = (ms.map f).map fun c => (⟨#[c]⟩ : PySem.Str) := by rw [List.map_map]; rfl
  rw [e] at hi
  refine join_listC hl hi (by decide) (by rw [sum_ones]; simp only [List.length_map]; omega) ?_
  intro t' k
  exact h t' k _ (join_ones_eq _)
end


-- making an exception whose class is derived from an own exception class that has its own init
section
variable {prog : Program} {w : World} {A : Around} {E : Value → Shared → Prop} {h : Heap} {g : Array GenState} {d : Drawn} {t : Nat} {os : OsState}
variable {nm q : PySem.Str} {C N : Addr} {bs bm : List Value} {hdct : Bool} {sn : List PySem.Str} {sub : List Value} {ab : Bool} {col : Option Bool} {dd : Option Addr} {k0 k1 k2 k3 k5 : Option Value} {B newId initId : String}
variable {nm' q' : PySem.Str} {C2 N2 : Addr} {bs' bm' : List Value} {hdct' : Bool} {sn' : List PySem.Str} {sub' : List Value} {ab' : Bool} {col' : Option Bool} {dd' : Option Addr} {j0 j1 j2 j3 j5 : Option Value} {newId' : String}
theorem exc2_check_new {M : Model} (F : ExcBaseFacts B newId initId bm) {rest : List Value} {Q : Unit → Shared → Prop} (hC : h.get? C = some (excClassObj nm q C N bs (.ref C2 :: bm) hdct sn sub ab col dd k0 k1 k2 k3 k5 newId))
    (hq : Q () ⟨h, g, d, t, os⟩) : wpAny M A (checkBuiltinCall newId ⟨.ref C :: rest, []⟩) Q E ⟨h, g, d, t, os⟩ := by
  have hcont : (Value.ref C :: .ref C2 :: bm).contains (.type B) = true := by rw [List.contains_cons, List.contains_cons, F.hasB, Bool.or_true, Bool.or_true]
  have hstar := F.noStar
  simp only [checkBuiltinCall, F.newKind, F.newSplit, F.newRow]
  repeat (first | refine wpAny_loadPart_at hC ?_ | (refine wpAny_isSubtype_exc hC ?_; rw [hcont]) | refine wpAny_staticBase_exc hC ?_ | refine wpAny_madeBy_exc hC ?_ | simp only [bne_self_eq_false, Bool.false_eq_true, if_false] | wp_step)
  exact hq
theorem exc2_new {R : Result → Shared → Prop} (F : ExcBaseFacts B newId initId bm) {rest : List Value} (hC : h.get? C = some (excClassObj nm q C N bs (.ref C2 :: bm) hdct sn sub ab col dd k0 k1 k2 k3 k5 newId))
    (hq : R (.ok (.ret (.ref (h.objs.size + 1)))) ⟨(h.push { cls := .type "tuple", data := .seq rest.toArray }).push
      { cls := .ref C, data := .fields #[.ref h.objs.size, .none, .none, .none, .bool false, .none] }, g, d, t, os⟩) (hrest : rest.length ≤ sizeLine) :
    codeAny (model prog w) A (.builtin newId ⟨.ref C :: rest, []⟩) R ⟨h, g, d, t, os⟩ := by
  have hends := F.ends
  have hcB : (Value.ref C :: .ref C2 :: bm).contains (.type B) = true := by rw [List.contains_cons, List.contains_cons, F.hasB, Bool.or_true, Bool.or_true]
  have hcA : (Value.ref C :: .ref C2 :: bm).contains (.type "AttributeError") = false := by rw [List.contains_cons, List.contains_cons, F.noAttr]; rfl
  have hcN : (Value.ref C :: .ref C2 :: bm).contains (.type "NameError") = false := by rw [List.contains_cons, List.contains_cons, F.noName]; rfl
  refine codeAny_builtinAt F.entry ?_
  unfold Builtin.«BaseException.__new__»
  refine PySem.wpAt_bind ?_
  show PySem.wpAt _ _ _ (stack >>= _) _ _ _
  refine PySem.wpAt_bind (PySem.wpAt_stack fun p below => PySem.wpAt_of_wpAny ?_)
  wp_walk
  refine PySem.wpAt_of_wpAny ?_
  rw [F.owner]
  repeat (first | with_reducible refine wpAny_madeHere_exc F.canon hC ?_ | with_reducible refine wpAny_loadPart_at hC ?_ | (with_reducible refine wpAny_isSubtype_exc hC ?_; first | rw [hcB] | rw [hcA] | rw [hcN]) | wp_step)
  show R _ _
  rw [Heap.size_push]
  exact hq
theorem exc2_lookup {M : Model} {name : PySem.Str} {mN mN2 : PySem.Str → Option Value} {v : Value} {Q : Option Value → Shared → Prop}
    (hC : h.get? C = some (excClassObj nm q C N bs (.ref C2 :: bm) hdct sn sub ab col dd k0 k1 k2 k3 k5 newId)) (hn : h.Ns N mN) (hni : mN name = none)
    (hC2 : h.get? C2 = some (excClassObj nm' q' C2 N2 bs' bm' hdct' sn' sub' ab' col' dd' j0 j1 j2 j3 j5 newId')) (hn2 : h.Ns N2 mN2) (hv : mN2 name = some v)
    (hq : Q (some v) ⟨h, g, d, t, os⟩) : wpAny M A (typeLookup (.ref C) name) Q E ⟨h, g, d, t, os⟩ := by
  rw [typeLookup_eq]
  refine wpAny_bind (wpAny_mroOf_exc hC ?_)
  rw [lookupAlong_cons]
  refine wpAny_bind (wpAny_classOwn_exc hC hn ?_)
  rw [hni]
  show wpAny _ _ (lookupAlong (.ref C2 :: bm) name) _ _ _
  rw [lookupAlong_cons]
  refine wpAny_bind (wpAny_classOwn_exc hC2 hn2 ?_)
  rw [hv]
  exact wpAny_pure hq
theorem exc2_type_call (F : ExcBaseFacts B newId initId bm) {mN mN2 : PySem.Str → Option Value} {rest : List Value} {fI : Addr} {oI : Obj} {Q : Fin → Shared → Prop}
    (hC : h.get? C = some (excClassObj nm q C N bs (.ref C2 :: bm) hdct sn sub ab col dd k0 k1 k2 k3 k5 newId)) (hn : h.Ns N mN) (hni : mN "__init__" = none)
    (hC2 : h.get? C2 = some (excClassObj nm' q' C2 N2 bs' bm' hdct' sn' sub' ab' col' dd' j0 j1 j2 j3 j5 newId')) (hn2 : h.Ns N2 mN2) (hi : mN2 "__init__" = some (.ref fI))
    (hfI : h.get? fI = some oI) (hfc : oI.cls = .type "function")
    (hq : ∀ h' e, Heap.MadeExcOf h h' e (.ref C) rest →
      wpAny (model prog w) A (call (.ref fI) (.ref e :: rest)) (fun r s' => r = .none ∧ Q (.done (.ret (.ref e))) s') E ⟨h', g, d, t, os⟩) (hrest : rest.length ≤ sizeLine) :
    wpAny (model prog w) A (Builtin.«type.__call__» ⟨.ref C :: rest, []⟩) Q E ⟨h, g, d, t, os⟩ := by
  repeat (first | with_reducible refine wpAny_loadPart_at hC ?_ | with_reducible refine wpAny_madeBy_exc hC ?_ | wp_step)
  refine codeAny_call_builtin_code (Code.quiet_builtin _ F.quiet) (exc2_check_new F hC ?_)
  refine exc2_new F hC ?_ hrest
  show wpAny _ _ _ _ _ _
  have up : ∀ b o, h.get? b = some o → ((h.push { cls := .type "tuple", data := .seq rest.toArray }).push { cls := .ref C, data := .fields #[.ref h.objs.size, .none, .none, .none, .bool false, .none] }).get? b = some o :=
    fun b o e => Heap.get?_push_of_some _ (Heap.get?_push_of_some _ e)
  have upN : ∀ N m, h.Ns N m → ((h.push { cls := .type "tuple", data := .seq rest.toArray }).push { cls := .ref C, data := .fields #[.ref h.objs.size, .none, .none, .none, .bool false, .none] }).Ns N m :=
    fun N m hn => let ⟨o, es, ep, e, r⟩ := hn; ⟨o, es, ep, up _ _ e, r⟩
  have hget : ((h.push { cls := .type "tuple", data := .seq rest.toArray }).push
      { cls := .ref C, data := .fields #[.ref h.objs.size, .none, .none, .none, .bool false, .none] }).get? (h.objs.size + 1) = some
      { cls := .ref C, data := .fields #[.ref h.objs.size, .none, .none, .none, .bool false, .none] } := by heap_get
  have hcC : (Value.ref C :: .ref C2 :: bm).contains (.ref C) = true := by simp
  have hC₁ := up _ _ hC
  have hfI₁ := up _ _ hfI
  unfold isInstance
  repeat (first | with_reducible refine wpAny_loadPart_at hget ?_ | (with_reducible refine wpAny_isSubtype_exc hC₁ ?_; rw [hcC]) | wp_step)
  show wpAny _ _ (typeLookup (.ref C) _) _ _ _
  refine exc2_lookup hC₁ (upN _ _ hn) hni (up _ _ hC2) (upN _ _ hn2) hi ?_
  refine wpAny_holding (wpAny_bind ?_)
  unfold bindSpecial
  refine wpAny_bind (wpAny_typeOf (T := "function") ⟨_, hfI₁, hfc⟩ ?_)
  rw [if_pos (by decide)]
  refine wpAny_pure (wpAny_bind (wpAny_mono (hq _ (h.objs.size + 1) ⟨fun b o hb => Heap.get?_push_of_some _ (Heap.get?_push_of_some _ hb), Heap.get?_none_of_le (Nat.le_succ _), h.objs.size, hget, Heap.get?_none_of_le (Nat.le_refl _), ?_⟩) (fun r s' hr => ?_) fun _ _ x => x))
  · exact Heap.get?_push_of_some _ (Heap.get?_push_at rfl rfl)
  · obtain ⟨rfl, hQ⟩ := hr
    wp_walk
    exact hQ
theorem exc2_call (F : ExcBaseFacts B newId initId bm) {mN mN2 : PySem.Str → Option Value} {rest : List Value} {fI : Addr} {oI : Obj} {Q : Value → Shared → Prop}
    (hC : h.get? C = some (excClassObj nm q C N bs (.ref C2 :: bm) hdct sn sub ab col dd k0 k1 k2 k3 k5 newId)) (hn : h.Ns N mN) (hni : mN "__init__" = none)
    (hC2 : h.get? C2 = some (excClassObj nm' q' C2 N2 bs' bm' hdct' sn' sub' ab' col' dd' j0 j1 j2 j3 j5 newId')) (hn2 : h.Ns N2 mN2) (hi : mN2 "__init__" = some (.ref fI))
    (hfI : h.get? fI = some oI) (hfc : oI.cls = .type "function")
    (hq : ∀ h' e, Heap.MadeExcOf h h' e (.ref C) rest →
      wpAny (model prog w) (A.under (.builtin "type.__call__" ⟨.ref C :: rest, []⟩)) (call (.ref fI) (.ref e :: rest)) (fun r s' => r = .none ∧ Q (.ref e) s') E ⟨h', g, d, t, os⟩) (hrest : rest.length ≤ sizeLine) :
    wpAny (model prog w) A (call (.ref C) rest) Q E ⟨h, g, d, t, os⟩ := by
  have f1 := tc_lookup
  have f2 := tc_bind (.ref C)
  have hT : (⟨h, g, d, t, os⟩ : Shared).TypeIs (.ref C) "type" := ⟨_, hC, rfl⟩
  refine wpAny_call (codeAny_of_tree ?_)
  show wpAny _ _ (callAny (.ref C) _) _ _ _
  repeat (any_goals (first | assumption | with_reducible refine wpAny_loadPart_at hC ?_ | wp_step))
  refine ⟨rfl, ?_⟩
  refine codeAny_call_builtin_at (Code.quiet_builtin _ (by decide +kernel)) entry_typeCall (wpAny_check_type_call_sub hC (exc2_type_call (hrest := hrest) F hC hn hni hC2 hn2 hi hfI hfc fun h' e hm => ?_))
  exact hq h' e hm
end

section
variable {prog : Program} {w : World} {A : Around} {E : Value → Shared → Prop} {h : Heap} {g : Array GenState} {d : Drawn} {t : Nat} {os : OsState}
variable {nm q : PySem.Str} {C N : Addr} {bs bm : List Value} {hdct : Bool} {sn : List PySem.Str} {sub : List Value} {ab : Bool} {col : Option Bool} {dd : Option Addr} {k0 k1 k2 k3 k5 : Option Value} {B newId initId : String} {C2 : Addr}
abbrev excObj (C : Addr) (te : Addr) (dx : Option Addr) : Obj := { cls := .ref C, dict := dx, data := .fields #[.ref te, .none, .none, .none, .bool false, .none] }
theorem exc2_check_init {M : Model} (F : ExcBaseFacts B newId initId bm) {e : Addr} {oe : Obj} {rest : List Value} {Q : Unit → Shared → Prop}
    (hC : h.get? C = some (excClassObj nm q C N bs (.ref C2 :: bm) hdct sn sub ab col dd k0 k1 k2 k3 k5 newId)) (he : h.get? e = some oe) (hcls : oe.cls = .ref C) (hq : Q () ⟨h, g, d, t, os⟩) :
    wpAny M A (checkBuiltinCall initId ⟨.ref e :: rest, []⟩) Q E ⟨h, g, d, t, os⟩ := by
  have hcB : (Value.ref C :: .ref C2 :: bm).contains (.type B) = true := by rw [List.contains_cons, List.contains_cons, F.hasB, Bool.or_true, Bool.or_true]
  have hshort := F.noStar
  simp only [checkBuiltinCall, F.initKind, F.initSplit, F.initRow]
  repeat (first | (with_reducible refine wpAny_loadPart_at he ?_; rw [hcls]) | with_reducible refine wpAny_loadPart_at hC ?_ | (with_reducible refine wpAny_isSubtype_exc hC ?_; rw [hcB]) | wp_step)
  refine wpAny_onRaise ?_
  rw [show ∀ (a b : String) (n : Nat), Bind.check ⟨.positional, "*", B, .self, [⟨"args", .varPos, false⟩]⟩ a b n (List.map (fun x => x.fst) ({ pos := Value.ref e :: rest } : Args).kw) = pure () from
    fun a b n => check_star_args _ _ _ _ _ _]
  exact wpAny_pure hq
theorem exc2_init (F : ExcBaseFacts B newId initId bm) {e te : Addr} {rest : List Value} {Q : Value → Shared → Prop}
    (hC : h.get? C = some (excClassObj nm q C N bs (.ref C2 :: bm) hdct sn sub ab col dd k0 k1 k2 k3 k5 newId)) (he : h.get? e = some (excObj C te none))
    (hq : ∀ T h', (∀ b o, b ≠ e → h.get? b = some o → h'.get? b = some o) → h'.get? e = some (excObj C T none) → h'.get? T = some { cls := .type "tuple", data := .seq rest.toArray } → T = h.objs.size → Q .none ⟨h', g, d, t, os⟩)
    (hrest : rest.length ≤ sizeLine) :
    wpAny (model prog w) A (call (.builtin initId) (.ref e :: rest)) Q E ⟨h, g, d, t, os⟩ := by
  refine wpAny_call (codeAny_call_builtin F.init.plain F.initEntry (exc2_check_init F hC he rfl ?_))
  wp_walk
  have hle := Heap.lt_size he
  refine hq h.objs.size _ (fun b o hb e1 => ?_) ?_ ?_ rfl
  · rw [Heap.get?_update_other _ _ (Ne.symm hb)]
    exact Heap.get?_push_of_some _ e1
  · rw [Heap.get?_update_self _ (Heap.get?_push_of_some _ he) rfl]
    rfl
  · rw [Heap.get?_update_other _ _ (Nat.ne_of_lt hle)]
    exact Heap.get?_push_size _ rfl
end

-- storing into an object of such a class
section
variable {prog : Program} {w : World} {A : Around} {E : Value → Shared → Prop} {h : Heap} {g : Array GenState} {d : Drawn} {t : Nat} {os : OsState}
variable {nm q : PySem.Str} {C N x : Addr} {bs bm : List Value} {sn : List PySem.Str} {sub : List Value} {ab : Bool} {col : Option Bool} {dd : Option Addr} {k0 k1 k2 k3 k5 : Option Value} {B newId sa owner : String}
variable {nm' q' : PySem.Str} {C2 N2 : Addr} {bs' bm' : List Value} {hdct' : Bool} {sn' : List PySem.Str} {sub' : List Value} {ab' : Bool} {col' : Option Bool} {dd' : Option Addr} {j0 j1 j2 j3 j5 : Option Value} {newId' : String}
  {mN mN2 mA : PySem.Str → Option Value} {name : PySem.Str} {v : Value}
theorem exc2_look0 {M : Model} {hdct : Bool} {y : Option Value} {Q : Option Value → Shared → Prop}
    (hC : h.get? C = some (excClassObj nm q C N bs (.ref C2 :: bm) hdct sn sub ab col dd k0 k1 k2 k3 k5 newId)) (hn : h.Ns N mN) (hni : mN name = none)
    (hC2 : h.get? C2 = some (excClassObj nm' q' C2 N2 bs' bm' hdct' sn' sub' ab' col' dd' j0 j1 j2 j3 j5 newId')) (hn2 : h.Ns N2 mN2) (hni2 : mN2 name = none)
    (hbm : mroOf (.type B) = pure bm) (hB : typeLookup (.type B) name = pure y)
    (hq : Q y ⟨h, g, d, t, os⟩) : wpAny M A (typeLookup (.ref C) name) Q E ⟨h, g, d, t, os⟩ := by
  have hrest : lookupAlong bm name = pure y := by rw [typeLookup_eq, hbm] at hB; exact hB
  rw [typeLookup_eq]
  refine wpAny_bind (wpAny_mroOf_exc hC ?_)
  rw [lookupAlong_cons]
  refine wpAny_bind (wpAny_classOwn_exc hC hn ?_)
  rw [hni]
  show wpAny _ _ (lookupAlong (.ref C2 :: bm) name) _ _ _
  rw [lookupAlong_cons]
  refine wpAny_bind (wpAny_classOwn_exc hC2 hn2 ?_)
  rw [hni2]
  show wpAny _ _ (lookupAlong bm name) _ _ _
  rw [hrest]
  exact wpAny_pure hq
theorem store2_check {M : Model} {o : Obj} {nameV : Value} {Q : Unit → Shared → Prop} (SF : StoreFacts B bm sa owner)
    (hC : h.get? C = some (excClassObj nm q C N bs (.ref C2 :: bm) true sn sub ab col dd k0 k1 k2 k3 k5 newId)) (hx : h.get? x = some o) (hc : o.cls = .ref C) (hq : Q () ⟨h, g, d, t, os⟩) :
    wpAny M A (checkBuiltinCall sa ⟨[.ref x, nameV, v], []⟩) Q E ⟨h, g, d, t, os⟩ := by
  have hcB : (Value.ref C :: .ref C2 :: bm).contains (.type owner) = true := by rw [List.contains_cons, List.contains_cons, SF.hasOwner, Bool.or_true, Bool.or_true]
  have ha := SF.args (.ref x) nameV v
  simp only [checkBuiltinCall, SF.kind, SF.split]
  refine wpAny_bind ?_
  · unfold isInstance
    repeat (first | (with_reducible refine wpAny_loadPart_at hx ?_; rw [hc]) | (with_reducible refine wpAny_isSubtype_exc hC ?_; rw [hcB]) | wp_step)
    cases hsig : Manifest.signature? sa with
    | none => exact wpAny_pure hq
    | some sig =>
      simp only [argsOk, hsig] at ha
      have h2 : Bind.checkArgs sa sig ⟨[.ref x, nameV, v], []⟩ = pure () := ha
      show wpAny M A (Bind.checkArgs sa sig ⟨[.ref x, nameV, v], []⟩) Q E _
      rw [h2]; exact wpAny_pure hq
open Builtin Builtin.ObjectAttr in
theorem store2_entry {tk : Tok} {Q : Fin → Shared → Prop} {ns : List PySem.Str} (SF : StoreFacts B bm sa owner)
    (hC : h.get? C = some (excClassObj nm q C N bs (.ref C2 :: bm) true sn sub ab col dd k0 k1 k2 k3 k5 newId)) (hn : h.Ns N mN) (hna : mN name = none)
    (hC2 : h.get? C2 = some (excClassObj nm' q' C2 N2 bs' bm' hdct' sn' sub' ab' col' dd' j0 j1 j2 j3 j5 newId')) (hn2 : h.Ns N2 mN2) (hna2 : mN2 name = none)
    (hB : typeLookup (.type B) name = pure none) (I : h.Inst x C mA)
    (hq : ∀ h' tk', h'.Inst x C (fun y => if y = name then some v else mA y) →
      (∀ b o, b ≠ x → (∀ o₀ dx, h.get? x = some o₀ → o₀.dict = some dx → b ≠ dx) → h.get? b = some o → h'.get? b = some o) →
      (∀ o₀, h.get? x = some o₀ → ∃ o₁, h'.get? x = some o₁ ∧ o₁.cls = o₀.cls ∧ o₁.data = o₀.data ∧ o₁.slots = o₀.slots ∧ (∀ dx, o₀.dict = some dx → o₁.dict = some dx) ∧ (o₀.dict = none → o₁.dict = some h.objs.size)) → Q (.done (.ret .none)) ⟨h', g, d, tk', os⟩) (hw : Within mA ns) (hsz : ns.length ≤ sizeLine := by size_fits) :
    wpAny (model prog w) A (Builtin.«object.__setattr__» ⟨[.ref x, .str name tk, v], []⟩) Q E ⟨h, g, d, t, os⟩ := by
  obtain ⟨o, hx, hc, hnc, hd⟩ := I
  have hpass := SF.passes (.ref x)
  unfold Builtin.«object.__setattr__»
  repeat (first | rw [refuse_eq] | (rw [refuseLoop_ref, refuseLoop_ref, hpass]) | (with_reducible refine wpAny_loadPart_at hx ?_; rw [hc]) | with_reducible refine wpAny_mroOf_exc hC ?_ | (with_reducible refine exc2_look0 hC hn hna hC2 hn2 hna2 SF.mro hB ?_) | wp_step)
  rcases hd with ⟨hdn, hmA⟩ | ⟨dx, hdx, hne, hns⟩
  ·
    rw [hdn, if_neg (by simp [typeHasDict])]
    split
    · rename_i hcd
      cases hcd
    split
    · rename_i c hcd
      exact absurd hcd (hnc c)
    · have hx₁ : (h.push { cls := .type "dict", data := .dict #[] }).get? x = some o := Heap.get?_push_of_some _ hx
      have hxs : x ≠ h.objs.size := Nat.ne_of_lt (Heap.lt_size hx)
      refine wpAny_bind (wpAny_alloc' ?_)
      refine wpAny_bind (wpAny_update' hx₁ ?_)
      refine wpAny_pure ?_
      have hgd : ((h.push { cls := .type "dict", data := .dict #[] }).update x fun o => { cls := o.cls, dict := some h.objs.size, data := o.data, slots := o.slots }).get? h.objs.size
          = some { cls := .type "dict", data := .dict #[] } :=
        (Heap.get?_update_ne _ _ _ _ hxs.symm).trans (Heap.get?_push_at rfl rfl)
      have hnd : ((h.push { cls := .type "dict", data := .dict #[] }).update x fun o => { cls := o.cls, dict := some h.objs.size, data := o.data, slots := o.slots }).Ns h.objs.size (fun _ => none) :=
        ⟨_, #[], _, hgd, rfl, fun e he => absurd he (by simp), fun _ => rfl⟩
      show wpAny _ _ (storeInDict h.objs.size (.str name tk) name v) _ _ _
      unfold storeInDict newKeyGuard
      refine wpAny_bind (wpAny_pure (wpAny_bind (wpAny_nsSet1 (Heap.Ns1.of_empty hnd) fun h' hn' hs => ?_)))
      obtain ⟨oD, esD, epD, hoD, hdD, hcD⟩ := hn'.count (Within.cons name v Within.nil)
      refine wpAny_bind (wpAny_lookBehind hoD (by rw [hdD]; exact pastItsLine_dict (Nat.le_trans hcD (by rw [List.length_cons, List.length_nil, sizeLine_eq]; omega))) ?_)
      wp_walk
      have hx' : h'.get? x = some { cls := o.cls, dict := some h.objs.size, data := o.data, slots := o.slots } := ?_
      refine hq h' _ ⟨{ cls := o.cls, dict := some h.objs.size, data := o.data, slots := o.slots }, hx', hc, hnc, .inr ⟨h.objs.size, rfl, hxs.symm, ?_⟩⟩ (fun b ob hbx _ hb => ?_)
        (fun o₀ h₀ => by obtain rfl : o = o₀ := Option.some.inj (hx.symm.trans h₀); exact ⟨_, hx', rfl, rfl, rfl, (fun dx e => by rw [hdn] at e; cases e), fun _ => rfl⟩)
      · obtain ⟨o', es, ep, e1, e2, e3, eu, e4⟩ := hn'
        exact ⟨o', es, ep, e1, e2, e3, eu, fun y => by rw [e4 y]; by_cases hy : y = name <;> simp [hy, hmA]⟩
      · exact (hs.2 b (Nat.ne_of_lt (Heap.lt_size hb))).trans ((Heap.get?_update_ne _ _ _ _ hbx).trans (Heap.get?_push_of_some _ hb))
      · refine (hs.2 x hxs).trans (Heap.get?_update_self _ hx₁ ?_)
        have hfr := (Heap.get?_some_iff.mp hx).2
        obtain ⟨oc, od, odt, osl⟩ := o
        cases odt <;> first | rfl | exact hfr
  ·
    rw [hdx]
    refine wpAny_pure ?_
    show wpAny _ _ (storeInDict dx (.str name tk) name v) _ _ _
    unfold storeInDict newKeyGuard
    refine wpAny_bind (wpAny_pure (wpAny_bind (wpAny_nsSet1 hns fun h' hn' hs => ?_)))
    obtain ⟨oD, esD, epD, hoD, hdD, hcD⟩ := hn'.count (Within.cons name v hw)
    refine wpAny_bind (wpAny_lookBehind hoD (by rw [hdD]; exact pastItsLine_dict (Nat.le_trans hcD (by rw [List.length_cons]; omega))) ?_)
    wp_walk
    refine hq h' _ ⟨o, (hs.2 x hne.symm).trans hx, hc, hnc, .inr ⟨dx, hdx, hne, hn'⟩⟩ (fun b ob _ hbd hb => ?_)
      (fun o₀ h₀ => ⟨o₀, (hs.2 x hne.symm).trans h₀, rfl, rfl, rfl, (fun _ e => e), fun e => by obtain rfl : o = o₀ := Option.some.inj (hx.symm.trans h₀); rw [hdx] at e; cases e⟩)
    exact (hs.2 b (hbd o dx hx hdx)).trans hb
theorem store2_attr {Q : Unit → Shared → Prop} {ns : List PySem.Str} (SF : StoreFacts B bm sa owner)
    (hC : h.get? C = some (excClassObj nm q C N bs (.ref C2 :: bm) true sn sub ab col dd k0 k1 k2 k3 k5 newId)) (hn : h.Ns N mN) (hns : mN "__setattr__" = none) (hna : mN name = none)
    (hC2 : h.get? C2 = some (excClassObj nm' q' C2 N2 bs' bm' hdct' sn' sub' ab' col' dd' j0 j1 j2 j3 j5 newId')) (hn2 : h.Ns N2 mN2) (hns2 : mN2 "__setattr__" = none) (hna2 : mN2 name = none)
    (hB : typeLookup (.type B) name = pure none) (I : h.Inst x C mA)
    (hq : ∀ h' tk', h'.Inst x C (fun y => if y = name then some v else mA y) →
      (∀ b o, b ≠ x → (∀ o₀ dx, h.get? x = some o₀ → o₀.dict = some dx → b ≠ dx) → h.get? b = some o → h'.get? b = some o) →
      (∀ o₀, h.get? x = some o₀ → ∃ o₁, h'.get? x = some o₁ ∧ o₁.cls = o₀.cls ∧ o₁.data = o₀.data ∧ o₁.slots = o₀.slots ∧ (∀ dx, o₀.dict = some dx → o₁.dict = some dx) ∧ (o₀.dict = none → o₁.dict = some h.objs.size)) → Q () ⟨h', g, d, tk', os⟩) (hw : Within mA ns) (hsz : ns.length ≤ sizeLine := by size_fits) :
    wpAny (model prog w) A (setAttr (.ref x) name v) Q E ⟨h, g, d, t, os⟩ := by
  obtain ⟨o, hx, hc, _⟩ := id I
  have f3 := SF.slot.bind (.ref x)
  unfold setAttr callSpecial? specialOf
  repeat (any_goals (first | assumption | (with_reducible refine wpAny_loadPart_at hx ?_; rw [hc]) | (with_reducible refine exc2_look0 hC hn hns hC2 hn2 hns2 SF.mro SF.slot.lookup ?_) | wp_step))
  refine codeAny_call_builtin SF.slot.plain SF.entry (store2_check SF hC hx hc (store2_entry SF hC hn hna hC2 hn2 hna2 hB I (fun h' tk' I' hk hsame => ?_) hw hsz))
  repeat (any_goals (first | assumption | wp_step))
  exact hq h' tk' I' hk hsame
end

-- raising it
section
variable {prog : Program} {w : World} {A : Around} {E : Value → Shared → Prop} {s : Shared} {env : Env}
def ExcCls (h : Heap) (C C2 : Addr) : Prop := ∃ nm q N bs bm hdct sn sub ab col dd k0 k1 k2 k3 k5 newId, h.get? C = some (excClassObj nm q C N bs (.ref C2 :: bm) hdct sn sub ab col dd k0 k1 k2 k3 k5 newId) ∧ bm.contains (.type "BaseException") = true
def RaisesE (C C2 : Addr) (E : Value → Shared → Prop) (v : Value) (s₁ : Shared) : Prop := ∃ e T dx, v = .ref e ∧ ExcCls s₁.heap C C2 ∧ s₁.heap.get? e = some (excObj C T dx) ∧ E (.ref e) s₁
theorem raise2 {C C2 : Addr} {x : PySem.Expr} {pos : Pos} {Q : Flow → Shared → Prop} (hh : A.handled = none)
    (h : wpAny (model prog w) A (eval x env) (RaisesE C C2 E) E s) : wpAny (model prog w) A (exec (.Raise (some x) none pos) env) Q E s := by
  rw [arm_exec_Raise]
  refine wpAny_bind (wpAny_standAt ?_)
  simp only [evalOpt, Option.map]
  unfold raiseStmt
  refine wpAny_bind (wpAny_bind (wpAny_mono h (fun v s₁ h₁ => wpAny_bind (wpAny_standAt (wpAny_pure ?_))) fun _ _ x => x))
  obtain ⟨e, t, dx, rfl, ⟨nm, q, N, bs, bm, hdct, sn, sub, ab, col, dd, k0, k1, k2, k3, k5, newId, hC, hb⟩, he, hE⟩ := h₁
  have hcB : (Value.ref C :: .ref C2 :: bm).contains (.type "BaseException") = true := by rw [List.contains_cons, List.contains_cons, hb, Bool.or_true, Bool.or_true]
  obtain ⟨hp, g, d, tk, os⟩ := s₁
  repeat (first | with_reducible refine wpAny_loadPart_at he ?_ | with_reducible refine wpAny_loadPart_at hC ?_ | (with_reducible refine wpAny_isSubtype_exc hC ?_; rw [hcB]) | wp_step)
  exact wpAny_raiseNew_none hh hE
end


section
variable {M : Model} {A : Around} {E : Value → Shared → Prop} {s' : Shared} {base g g₂ : Heap} {outer : List Env} {L e t : Addr} {m : PySem.Str → Option Value} {env : Env} {Q : Unit → Shared → Prop} {news : List (Addr × Obj)}
theorem mem_frames {env : Env} {L b : Addr} {outer : List Env} (hf : env.frame = some L) (hm : b ∈ (env :: outer).filterMap (·.frame)) : b = L ∨ b ∈ outer.filterMap (·.frame) := by
  obtain ⟨env', he, hf'⟩ := List.mem_filterMap.mp hm
  rcases List.mem_cons.mp he with rfl | he
  · rw [hf] at hf'; exact .inl (Option.some.inj hf').symm
  · exact .inr (List.mem_filterMap.mpr ⟨env', he, hf'⟩)
theorem hide_cons_none {h : Heap} {as : List Addr} {b : Addr} (hb : b ∈ as) : (hideAll h as).get? b = none := hideAll_none _ hb
theorem leave_raise59 {C T : Addr} {od : Option Addr} {args : List Value} (K : Below A base outer g) (F : Fr g L s'.heap m) (hf : env.frame = some L) (hk : env.scope.kind = .function)
    (N : News g L s'.heap ((e, excObj C T od) :: (T, ({ cls := .type "tuple", data := .seq args.toArray } : Obj)) :: news)) (off : ∀ p ∈ news, @Ne Nat p.1 e ∧ @Ne Nat p.1 T)
    (hQ : ∀ h', RaisedS base g outer e (.ref C) T args news h' → g.UpToSlots h' → Q () { s' with heap := h' }) :
    wpAny M (A.deeper env) (leaving env (.ref e)) Q E s' := by
  have K' := pushX K F hf hk
  have he := N _ (List.mem_cons_self ..)
  have hT := N _ (List.mem_cons_of_mem _ (List.mem_cons_self ..))
  have up0 : ∀ b, g.get? b = none → base.get? b = none := fun b hb => fresh_of_stays K.stays hb
  generalize hfs : (e :: T :: (env :: outer).filterMap (·.frame)) = fs
  have hin : ∀ env' ∈ (env :: outer), ∀ b, env'.frame = some b → b ∈ fs := fun env' he' b hb => by
    rw [← hfs]; exact List.mem_cons_of_mem _ (List.mem_cons_of_mem _ (List.mem_filterMap.mpr ⟨env', he', hb⟩))
  have split : ∀ b, b ∈ fs → b = e ∨ b = T ∨ b ∈ (env :: outer).filterMap (·.frame) := fun b hb => by
    rw [← hfs] at hb
    rcases List.mem_cons.mp hb with q | hb
    · exact .inl q
    rcases List.mem_cons.mp hb with q | hb
    · exact .inr (.inl q)
    · exact .inr (.inr hb)
  have st : base.StaysIn (hideAll s'.heap fs) := fun b o q => hideAll_get _ (K'.stays b o q) fun hm => by
    rcases split b hm with z | z | z
    · rw [z, up0 _ he.2.2] at q; cases q
    · rw [z, up0 _ hT.2.2] at q; cases q
    · rw [(K'.frames.mem z).1] at q; cases q
  have sg : ∀ b o, g.get? b = some o → b ∉ outer.filterMap (·.frame) → (hideAll s'.heap fs).get? b = some o := fun b o q nm => hideAll_get _ (F.keep b o q) fun hm => by
    rcases split b hm with z | z | z
    · rw [z, he.2.2] at q; cases q
    · rw [z, hT.2.2] at q; cases q
    · rcases mem_frames hf z with z | z
      · rw [z, kts_self F] at q; cases q
      · exact nm z
  have hl : ∀ q ∈ news, (hideAll s'.heap fs).get? q.1 = some q.2 ∧ g.get? q.1 = none ∧ base.get? q.1 = none := fun q hq => by
    have Nq := N q (List.mem_cons_of_mem _ (List.mem_cons_of_mem _ hq))
    refine ⟨hideAll_get _ Nq.1 fun hm => ?_, Nq.2.2, up0 _ Nq.2.2⟩
    rcases split q.1 hm with z | z | z
    · exact (off q hq).1 z
    · exact (off q hq).2 z
    · rcases mem_frames hf z with z | z
      · exact Nq.2.1 z
      · obtain ⟨o, ho, _⟩ := (K.frames.mem z).2
        rw [Nq.2.2] at ho; cases ho
  have he0 : (hideAll s'.heap fs).get? e = none := hideAll_none _ (by rw [← hfs]; exact List.mem_cons_self ..)
  have hT0 : (hideAll s'.heap fs).get? T = none := hideAll_none _ (by rw [← hfs]; exact List.mem_cons_of_mem _ (List.mem_cons_self ..))
  refine wpAny_leaving_firstW (base := hideAll s'.heap fs) (a0 := .ref T) K'.stack (funFrames_hide K'.frames hin) hf he.1 (fun b o q => of_hideAll _ q) he0 rfl rfl rfl fun h' hL => ?_
  obtain ⟨k1, ⟨_, _, k2⟩, k3, k4⟩ := hL
  have hup : g.UpToSlots h' := (Heap.UpToSlots.of_keeps F.keep).trans k4
  exact hQ h' ⟨⟨_, st, sg, hl, ⟨k1, he0, k2, k3⟩, hT0⟩, Heap.TupAt.of_slots ⟨_, _, hT.1, rfl, rfl⟩ k4⟩ hup
theorem leave_onSX {cls : Value} {vs : List Value} (K : Below A base outer g) (F : Fr g L g₂ m) (hf : env.frame = some L) (R : RaisedS base g₂ (env :: outer) e cls t vs news s'.heap) (hsm : g₂.UpToSlots s'.heap)
    (hQ : ∀ h', RaisedS base g outer e cls t vs news h' → g.UpToSlots h' → Q () { s' with heap := h' }) :
    wpAny M (A.deeper env) (leaving env (.ref e)) Q E s' := by
  obtain ⟨⟨B, hB, hBG, hl, hfl, hnew⟩, htup⟩ := R
  exact wpAny_leaves_onW (Around.frames_deeper K.stack) hf hfl fun h' x1 x2 =>
    hQ h' ⟨⟨B, hB, fun b o q nm => hBG b o (F.keep b o q) (fun hm => by
      rcases mem_frames hf hm with z | z
      · rw [z, kts_self F] at q
        cases q
      · exact nm z), fun q hq => ⟨(hl q hq).1, kts_none F.keep (hl q hq).2.1, (hl q hq).2.2⟩, x1, hnew⟩, htup.of_slots x2⟩ ((Heap.UpToSlots.of_keeps F.keep).trans (hsm.trans x2))
end

-- an exception that passes on within a frame: whatever its note says of the frame in flight
def AnyW (base : Heap) (l : List Env) (e : Addr) (cls a0 : Value) (h : Heap) : Prop := base.StaysIn h ∧ base.get? e = none ∧ h.FunFrames base l ∧ ∃ fl, h.TracedAtW base e cls a0 fl
theorem AnyW.held {base : Heap} {l : List Env} {e L : Addr} {cls a0 : Value} {h : Heap} (x : Heap.HeldW base l e cls a0 L h) : AnyW base l e cls a0 h := ⟨x.1, x.2.1, x.2.2.1, _, x.2.2.2⟩
theorem AnyW.fly {base : Heap} {l : List Env} {e : Addr} {cls a0 : Value} {h : Heap} (x : Heap.FlyingW base l e cls a0 h) : AnyW base l e cls a0 h := ⟨x.1, x.2.1, x.2.2.1, _, x.2.2.2⟩
theorem noteFrame_congr {x : Value} {env₁ env₂ : Env} (h : env₁.frame = env₂.frame) : noteFrame x env₁ = noteFrame x env₂ := by
  unfold noteFrame PySem.frameOf
  rw [h]
section
variable {M : Model} {A : Around} {E : Value → Shared → Prop} {s : Shared}
theorem noteFrame_anyW {base : Heap} {env : Env} {outer : List Env} {L e : Addr} {cls a0 : Value} {Q : Unit → Shared → Prop}
    (hfr : A.frames = some (env :: outer)) (hf : env.frame = some L) (hfl : AnyW base (env :: outer) e cls a0 s.heap)
    (hQ : ∀ h', Heap.HeldW base (env :: outer) e cls a0 L h' → s.heap.UpToSlots h' → Q () { s with heap := h' }) : wpAny M A (noteFrame (.ref e) env) Q E s := by
  obtain ⟨hkb, hen, hl, fl, ht⟩ := hfl
  by_cases q : fl = rawInt L
  · subst q
    exact wpAny_noteFrame_againW hf ht (hQ _ ⟨hkb, hen, hl, ht⟩ (Heap.UpToSlots.refl _))
  have ht0 := ht
  obtain ⟨oe, vs, T, oT, ts, he, ⟨hcls, h0⟩, hd, h1, hnT, hTe, hT, hdT, h3⟩ := ht
  subst hcls
  unfold noteFrame
  simp only [hf]
  refine wpAny_bind (wpAny_field he hd h1 ?_)
  rw [if_pos (show (Value.ref T != Value.none) = true from by simp)]
  refine wpAny_bind (wpAny_field hT hdT h3 ?_)
  rw [if_neg (show ¬ ((fl == rawInt L) = true) from fun z => q (by simpa using z))]
  refine wpAny_bind (wpAny_setField hT hdT (Array.getElem?_eq_some_iff.mp h3).1 ?_)
  have other : ∀ b, b ≠ T → (s.heap.update T (Obj.mapFields (·.setIfInBounds 3 Value.none))).get? b = s.heap.get? b := fun b hb => Heap.get?_update_other _ _ (Ne.symm hb)
  have noRecord : ∀ b o, s.heap.get? b = some o → (∀ vs, o.data ≠ .fields vs) → b ≠ T := fun b o hb hnf q => by
    rw [q, hT] at hb; injection hb with hb; subst hb; exact hnf ts hdT
  refine wpAny_entryW hfr (hl.of_keeps fun b o hb hnf => ⟨o, (other b (noRecord b o hb hnf)).trans hb, rfl⟩) hf ((other e (Ne.symm hTe)).trans he)
    (fun b o hbo => (other b fun q => by rw [q, hnT] at hbo; cases hbo).trans (hkb b o hbo)) hen hd (Array.getElem?_eq_some_iff.mp h1).1 h0
    fun h' ⟨x1, x2, x3, x4⟩ => hQ h' ⟨x1, hen, x2, x3⟩ (fun b o hb hnf => x4 b o ((other b (noRecord b o hb hnf)).trans hb) hnf)
theorem setFlight_anyW {base : Heap} {l : List Env} {e : Addr} {cls a0 : Value} {f : Option Addr} {Q : Unit → Shared → Prop} (hh : AnyW base l e cls a0 s.heap)
    (hQ : ∀ h', AnyW base l e cls a0 h' → s.heap.UpToSlots h' → Q () { s with heap := h' }) : wpAny M A (setFlight (.ref e) f) Q E s := by
  obtain ⟨hkb, hen, hl, fl, oe, vs, T, oT, ts, he, hcls, hd, h1, hnT, hTe, hT, hdT, h3⟩ := hh
  have hsz3 : 3 < ts.size := (Array.getElem?_eq_some_iff.mp h3).1
  have other : ∀ b, b ≠ T → (s.heap.update T (Obj.mapFields (·.setIfInBounds 3 (f.elim Value.none fun f => rawInt f)))).get? b = s.heap.get? b :=
    fun b hb => Heap.get?_update_other _ _ (Ne.symm hb)
  have noRecord : ∀ b o, s.heap.get? b = some o → (∀ vs, o.data ≠ .fields vs) → b ≠ T := fun b o hb hnf q => by
    rw [q, hT] at hb; injection hb with hb; subst hb; exact hnf ts hdT
  unfold setFlight
  refine wpAny_bind (wpAny_field he hd h1 ?_)
  rw [if_pos (show (Value.ref T != Value.none) = true from by simp)]
  refine wpAny_setField hT hdT hsz3 (hQ _ ⟨(fun b o hbo => (other b fun q => by rw [q, hnT] at hbo; cases hbo).trans (hkb b o hbo)), hen,
    (hl.of_keeps fun b o hb hnf => ⟨o, (other b (noRecord b o hb hnf)).trans hb, rfl⟩), ?_⟩ fun b o hb hnf => ⟨o.slots, (other b (noRecord b o hb hnf)).trans hb⟩)
  exact ⟨_, oe, vs, T, _, _, (other e (Ne.symm hTe)).trans he, hcls, hd, h1, hnT, hTe, Heap.get?_update_self _ hT (Obj.isFreed_of_fields (Obj.data_mapFields hdT _)), Obj.data_mapFields hdT _, by simp [hsz3]; rfl⟩
theorem setFlight_none_anyW {base : Heap} {l : List Env} {e : Addr} {cls a0 : Value} {Q : Unit → Shared → Prop} (hh : AnyW base l e cls a0 s.heap)
    (hQ : ∀ h', Heap.FlyingW base l e cls a0 h' → s.heap.UpToSlots h' → Q () { s with heap := h' }) : wpAny M A (setFlight (.ref e) none) Q E s := by
  obtain ⟨hkb, hen, hl, fl, ht⟩ := hh
  exact wpAny_setFlight_noneW hkb hl ht fun h' k1 k2 k3 k4 => hQ h' ⟨k1, hen, k2, k3⟩ fun b o hb hn => ⟨o.slots, k4 b o hb hn⟩
theorem passOn_anyW {α : Type} {base : Heap} {l : List Env} {e : Addr} {cls a0 : Value} {what : String} {cenv : Env} {Q : α → Shared → Prop} (hh : AnyW base l e cls a0 s.heap)
    (hE : ∀ h', AnyW base l e cls a0 h' → s.heap.UpToSlots h' → E (.ref e) { s with heap := h' }) : wpAny M A (PySem.passOn what (.ref e) cenv : Sem α) Q E s := by
  obtain ⟨hkb, hen, hl, fl, oe, vs, T, oT, ts, he, hcls, hd, h1, hr⟩ := id hh
  unfold PySem.passOn
  refine wpAny_bind (wpAny_field he hd h1 ?_)
  rw [if_neg (show ¬ ((Value.ref T == Value.none) = true) from by simp)]
  refine wpAny_bind (setFlight_anyW hh fun h' x1 x2 => ?_)
  exact wpAny_throw (hE h' x1 x2)
theorem leaves_anyW {base : Heap} {env : Env} {outer : List Env} {L e : Addr} {cls a0 : Value} {Q : Unit → Shared → Prop}
    (hfr : A.frames = some (env :: outer)) (hf : env.frame = some L) (hh : AnyW base (env :: outer) e cls a0 s.heap)
    (hQ : ∀ h', Heap.FlyingW base outer e cls a0 h' → s.heap.UpToSlots h' → Q () { s with heap := h' }) : wpAny M A (leaving env (.ref e)) Q E s := by
  unfold leaving
  refine wpAny_bind (noteFrame_anyW hfr hf hh fun h' x1 x2 => ?_)
  refine wpAny_landsW x1 fun h'' hfl x3 => ?_
  obtain ⟨k1, k2, ⟨_, _, k3⟩, k4⟩ := hfl
  exact hQ h'' ⟨k1, k2, k3, k4⟩ (x2.trans x3)
end
/-- an exception of class `cls` passes on in the frame at the head of `l`; what stood in `G` and in `news` stands -/
def PassesS (base G : Heap) (l : List Env) (e : Addr) (cls : Value) (t : Addr) (vs : List Value) (news : List (Addr × Obj)) (h : Heap) : Prop :=
  (∃ B, base.StaysIn B ∧ (∀ b o, G.get? b = some o → b ∉ l.filterMap (·.frame) → B.get? b = some o) ∧ (∀ q ∈ news, B.get? q.1 = some q.2 ∧ G.get? q.1 = none ∧ base.get? q.1 = none) ∧ AnyW B l e cls (.ref t) h ∧ B.get? t = none) ∧ h.TupAt t vs
theorem RaisedS.passes {base G : Heap} {l : List Env} {e t : Addr} {cls : Value} {vs : List Value} {news : List (Addr × Obj)} {h : Heap} (x : RaisedS base G l e cls t vs news h) : PassesS base G l e cls t vs news h :=
  let ⟨⟨B, h1, h2, h3, h4, h5⟩, h6⟩ := x; ⟨⟨B, h1, h2, h3, .fly h4, h5⟩, h6⟩
section
variable {M : Model} {A : Around} {E : Value → Shared → Prop} {s' : Shared} {base g g₂ : Heap} {outer : List Env} {L e t : Addr} {m : PySem.Str → Option Value} {env : Env} {Q : Unit → Shared → Prop} {news : List (Addr × Obj)}
theorem leave_passes {cls : Value} {vs : List Value} (K : Below A base outer g) (F : Fr g L g₂ m) (hf : env.frame = some L) (R : PassesS base g₂ (env :: outer) e cls t vs news s'.heap) (hsm : g₂.UpToSlots s'.heap)
    (hQ : ∀ h', RaisedS base g outer e cls t vs news h' → g.UpToSlots h' → Q () { s' with heap := h' }) :
    wpAny M (A.deeper env) (leaving env (.ref e)) Q E s' := by
  obtain ⟨⟨B, hB, hBG, hl, hfl, hnew⟩, htup⟩ := R
  exact leaves_anyW (Around.frames_deeper K.stack) hf hfl fun h' x1 x2 =>
    hQ h' ⟨⟨B, hB, fun b o q nm => hBG b o (F.keep b o q) (fun hm => by
      rcases mem_frames hf hm with z | z
      · rw [z, kts_self F] at q
        cases q
      · exact nm z), fun q hq => ⟨(hl q hq).1, kts_none F.keep (hl q hq).2.1, (hl q hq).2.2⟩, x1, hnew⟩, htup.of_slots x2⟩ ((Heap.UpToSlots.of_keeps F.keep).trans (hsm.trans x2))
end
theorem RaisedS.sub {base G : Heap} {l : List Env} {e t : Addr} {cls : Value} {vs : List Value} {news news' : List (Addr × Obj)} {h : Heap} (x : RaisedS base G l e cls t vs news h) (hs : ∀ q ∈ news', q ∈ news) : RaisedS base G l e cls t vs news' h :=
  let ⟨⟨B, h1, h2, h3, h4, h5⟩, h6⟩ := x; ⟨⟨B, h1, h2, fun q hq => h3 q (hs q hq), h4, h5⟩, h6⟩


section
variable {prog : Program} {w : World} {A₀ A : Around} {s : Shared} {base h₀ : Heap} {outer : List Env} {L : Addr} {m : PySem.Str → Option Value} {env : Env} {news : List (Addr × Obj)} {K : Frag} {p : Program} {loose : List PySem.Str} {mean : ExcName → Option Value} {mg mb : PySem.Str → Option Value}
    {R : Result → Shared → Prop} {name qual : PySem.Str} {params : Arguments} {body : List PySem.Stmt} {scope : Scope} {dV kV doc pm cdv ct oc : Value} {an od : Option Addr} {osl : Array (Option Value)} {f : Addr} {args : Args} {binds : List (PySem.Str × Value)}
theorem enterX (B : Below A₀ base outer h₀) (F : Fr h₀ L s.heap m) (N : News h₀ L s.heap news) (hA : A.frames = some (env :: outer)) (hf : env.frame = some L) (hck : env.scope.kind = .function) :
    ∃ oL es ep, (hideAll s.heap (news.map (·.1))).get? L = some oL ∧ oL.data = .dict es ep ∧ (∀ h', h'.get? L = some oL → Heap.Ns h' L m) ∧ (∀ (sl : Array (Option Value)) h', h'.get? L = some { oL with slots := sl } → Heap.Ns h' L m) ∧
      h₀.StaysIn (hideAll s.heap (news.map (·.1))) ∧ Below A base (env :: outer) (hideAll s.heap (news.map (·.1))) := by
  have nm : ∀ b o, h₀.get? b = some o → b ∉ news.map (·.1) := fun b o e q => by
    obtain ⟨p, hp, rfl⟩ := List.mem_map.mp q
    rw [(N p hp).2.2] at e; cases e
  have st : h₀.StaysIn (hideAll s.heap (news.map (·.1))) := fun b o e => hideAll_get _ (F.keep b o e) (nm b o e)
  obtain ⟨oL, es, ep, hL, hLd, hLk, hLf⟩ := F.ns
  have nL : L ∉ news.map (·.1) := fun q => by
    obtain ⟨p, hp, e⟩ := List.mem_map.mp q
    exact (N p hp).2.1 e
  have hLg := hideAll_get (news.map (·.1)) hL nL
  have B₁ := pushX B F hf hck
  exact ⟨oL, es, ep, hLg, hLd, fun h' e => ⟨oL, es, ep, e, hLd, hLk, hLf⟩, fun sl h' e => ⟨_, es, ep, e, hLd, hLk, hLf⟩, st, ⟨hA, fun b o e => st b o (B.stays b o e), funFrames_hideAll B₁.frames fun env' he b hb hf' => by
    cases he with
    | head => rw [hf] at hf'; exact nL ((Option.some.inj hf' : L = b) ▸ hb)
    | tail _ he =>
      obtain ⟨L₁, o₁, hf₁, ho₁⟩ := funFrames_in B.frames env' he
      rw [hf₁] at hf'
      exact nm L₁ o₁ ho₁ ((Option.some.inj hf' : L₁ = b) ▸ hb)⟩⟩
theorem code_defT (B : Below A₀ base [] h₀) (F : Fr h₀ L s.heap m) (X₀ : K.In h₀) (N : News h₀ L s.heap news) (T : Top p loose mean mg mb h₀) (hA : A.frames = some [env]) (hf : env.frame = some L) (hck : env.scope.kind = .function)
    (ho : K.lookup f = some ⟨oc, od, .func (fnOf name qual params body scope dV kV doc pm an cdv ct), osl⟩) (hcd : codeIn K cdv qual = true) (hroom : A.depth < recursionLimit)
    (hbind : BindsTo s (fnOf name qual params body scope dV kV doc pm an cdv ct) args binds) (hloc : ∀ y ∈ binds, scope.names.lookup y.1 = some .local)
    (h : ∀ g L' h₁, Fr h₀ L g m → Fr g L' h₁ (fun y => binds.reverse.lookup y) → News g L' h₁ news → Below A base [env] g → K.In g → Top p loose mean mg mb g → KtsDicts ([env].filterMap (·.frame)) g →
      wpAny (model prog w) (A.deeper (envOf qual scope L' f cdv)) (execs body (envOf qual scope L' f cdv))
        (fun fl s' => LeaveS0 ([env].filterMap (·.frame)) h₀ L m g R (match fl with | .ret v => v | _ => .none) s')
        (fun e s' => wpAny (model prog w) (A.deeper (envOf qual scope L' f cdv)) (leaving (envOf qual scope L' f cdv) e) (fun _ s'' => R (.error e) s'') (fun e' s'' => R (.error e') s'') s')
        { s with heap := h₁, toks := s.toks + binds.length })
    (hco : scope.isCoroutine = false) (hgen : scope.isGenerator = false) (hk : scope.kind = .function)
    (hcell : ∀ x ∈ scope.names, x.2 ≠ .cell) : codeAny (model prog w) A (.call (.ref f) args) R s := by
  have X := X₀.keeps F.keep
  refine codeAny_call_def (fd := fnOf name qual params body scope dV kV doc pm an cdv ct) (body := body) (binds := binds) hroom (X _ _ ho) rfl (T.nolimit.keeps F.keep) (codeRec_of X hcd) rfl hbind hcell hloc (fun h₁ hns hk₁ => ?_) hco hgen hk
  obtain ⟨oL, es, ep, hLg, hLd, hN, hNs, st, B₂⟩ := enterX B F N hA hf hck
  have mem1 : ∀ b, b ∈ [env].filterMap (·.frame) → b = L := fun b hb => by
    rcases mem_frames hf hb with z | z
    · exact z
    · simp at z
  refine wpAny_mono (h _ s.heap.objs.size h₁ ⟨hN _ hLg, st, F.above⟩ ⟨hns, fun b o e => hk₁ b o (of_hideAll _ e), Nat.le_of_eq (hideAll_size _ _)⟩
    (fun p hp => ⟨hk₁ _ _ (N p hp).1, Nat.ne_of_lt (Heap.lt_size (N p hp).1), hideAll_none _ (List.mem_map_of_mem hp)⟩) B₂ (X₀.keeps st) (T.keeps st) (fun b hb => by
      rw [mem1 b hb]
      exact ⟨oL, es, ep, hLg, hLd⟩)) (fun fl s' hl => ?_) fun _ _ y => y
  obtain ⟨g', L', m', news', T', F', N', k⟩ := hl
  have nL₀ : h₀.get? L = none := kts_self F
  obtain ⟨sl, hs⟩ := T'.up hLg
  refine k ⟨hNs sl _ (F'.keep _ _ hs), fun b o e => F'.keep b o (T'.other b o (st b o e) (fun q => by
    rw [mem1 b q, nL₀] at e
    cases e)), F.above⟩ fun p hp => ⟨(N' p hp).1, fun q => ?_, ?_⟩
  · have := (N' p hp).2.2; rw [q, hs] at this; cases this
  · cases q : h₀.get? p.1 with
    | none => rfl
    | some o =>
      obtain ⟨sl', hs'⟩ := T'.up (st _ _ q)
      have := (N' p hp).2.2
      rw [hs'] at this
      cases this
end


theorem PassesS.but {base G : Heap} {l : List Env} {e t C : Addr} {cls : Value} {vs : List Value} {news news' : List (Addr × Obj)} {h h' : Heap} {oC : Obj} (x : PassesS base G l e cls t vs news h) (hC : (C, oC) ∈ news) (hs : Heap.SameBut C h h')
    (hsub : ∀ q ∈ news', q ∈ news ∧ q.1 ≠ C) : PassesS base (hideAll G [C]) l e cls t vs news' h' := by
  obtain ⟨⟨B, hB, hBG, hl, ⟨hkb, hen, hff, fl, oe, ws, T, oT, ts, he, hcls, hd, h1, hnT, hTe, hT, hdT, h3⟩, hnt⟩, ot, nt, hot, hotc, hotd⟩ := x
  have hBC := (hl _ hC).1
  have ne : ∀ b, B.get? b = none → b ≠ C := fun b hb q => by rw [q, hBC] at hb; cases hb
  have same : ∀ b, B.get? b = none → h'.get? b = h.get? b := fun b hb => hs.2 b (ne b hb)
  have hB' : (hideAll B [C]).StaysIn B := fun b o q => of_hideAll _ q
  have neC : ∀ b o, (hideAll B [C]).get? b = some o → b ≠ C := fun b o q z => by rw [z, hideAll_none _ (List.mem_singleton.mpr rfl)] at q; cases q
  have none' : ∀ b, B.get? b = none → (hideAll B [C]).get? b = none := fun b hb => fresh_of_stays hB' hb
  have ff : ∀ l : List Env, h.FunFrames B l → h'.FunFrames (hideAll B [C]) l := by
    intro l
    induction l with
    | nil => intro _; trivial
    | cons env r ih =>
      rintro ⟨k1, ⟨L, o, f1, f2, f3, f4⟩, k3⟩
      exact ⟨k1, ⟨L, o, f1, none' L f2, (same L f2).trans f3, f4⟩, ih k3⟩
  have hGC := (hl _ hC).2
  refine ⟨⟨hideAll B [C], fun b o q => ?_, fun b o q nm => ?_, fun q hq => ?_, ⟨fun b o q => ?_, none' _ hen, ff l hff, fl, oe, ws, T, oT, ts, (same _ hen).trans he, hcls, hd, h1, none' _ hnT, hTe, (same _ hnT).trans hT, hdT, h3⟩, none' _ hnt⟩, ot, nt, (same _ hnt).trans hot, hotc, hotd⟩
  · refine hideAll_get _ (hB b o q) fun z => ?_
    rw [List.mem_singleton.mp z, hGC.2] at q; cases q
  · have q' := of_hideAll [C] q
    refine hideAll_get _ (hBG b o q' nm) fun z => ?_
    rw [List.mem_singleton.mp z, hGC.1] at q'; cases q'
  · obtain ⟨h1, h2⟩ := hsub q hq
    refine ⟨hideAll_get _ (hl q h1).1 fun z => h2 (List.mem_singleton.mp z), ?_, (hl q h1).2.2⟩
    cases z : (hideAll G [C]).get? q.1 with
    | none => rfl
    | some o => have := of_hideAll [C] z; rw [(hl q h1).2.1] at this; cases this
  · rw [hs.2 b (neC b o q)]
    exact hkb b o (hB' b o q)
theorem PassesS.anyOf {base G : Heap} {l : List Env} {e t : Addr} {cls : Value} {vs : List Value} {news : List (Addr × Obj)} {h : Heap} (x : PassesS base G l e cls t vs news h) :
    ∃ B, AnyW B l e cls (.ref t) h ∧ ∀ h', AnyW B l e cls (.ref t) h' → h.UpToSlots h' → PassesS base G l e cls t vs news h' := by
  obtain ⟨⟨B, hB, hBG, hl, hfl, hnew⟩, htup⟩ := x
  exact ⟨B, hfl, fun h' x1 x2 => ⟨⟨B, hB, hBG, hl, x1, hnew⟩, htup.of_slots x2⟩⟩
section
variable {prog : Program} {w : World} {A : Around} {E : Value → Shared → Prop} {s : Shared} {base h₀ : Heap} {L : Addr} {m : PySem.Str → Option Value} {env : Env} {outer : List Env}
def RaiseSrc (prog : Program) (w : World) (A : Around) (base h₀ : Heap) (L : Addr) (m : PySem.Str → Option Value) (env : Env) (outer : List Env) (cls : Value) (elt : PySem.Expr) (x : PySem.Str) (scope : Scope) (cl : List (PySem.Str × Addr)) (k : Nat) (J : Nat → List Value → List (Addr × Obj) → Prop) (E : Value → Shared → Prop) (xv : Value) (s₁ : Shared) : Prop :=
  ∃ ax its news, xv = .ref ax ∧ A.handled = none ∧ Fr h₀ L s₁.heap m ∧ News h₀ L s₁.heap news ∧ LCg.SrcAt h₀ ax its news ∧ its.size ≤ sizeLine ∧ k < its.size ∧ J 0 [] news ∧
    (∀ s₂ : Shared, (∃ h, s₂ = { s₁ with heap := h }) →
      (∀ i v ys nx I oI C oC D m₂ h tk (E' : Value → Shared → Prop), i < k → its[i]? = some v → J i ys nx → LCg.NsObj oC m₂ → m₂ x = some v → Fr h₀ L h m → News h₀ L h ((I, oI) :: (C, oC) :: (D, LCg.lst ys) :: nx) → LCg.Off3 I C D nx → ((@Ne Nat I C) ∧ (@Ne Nat I D) ∧ (@Ne Nat C D)) →
        wpAny (model prog w) A (eval elt (compEnvC scope cl C env)) (LCg.CompEnd h₀ L m { s₂ with heap := h, toks := tk } I oI C oC D (LCg.lst ys) (LCg.SrcAt h₀ ax its) (fun y news' => J (i + 1) (ys ++ [y]) news')) E' { s₂ with heap := h, toks := tk }) ∧
      (∀ v ys nx I oI C oC D m₂ h tk (E' : Value → Shared → Prop), its[k]? = some v → J k ys nx → LCg.NsObj oC m₂ → m₂ x = some v → Fr h₀ L h m → News h₀ L h ((I, oI) :: (C, oC) :: (D, LCg.lst ys) :: nx) → LCg.Off3 I C D nx → ((@Ne Nat I C) ∧ (@Ne Nat I D) ∧ (@Ne Nat C D)) →
        (∀ g' e t vs h' tk', Fr h₀ L g' m → RaisedS base g' (env :: outer) e cls t vs ((I, oI) :: (C, oC) :: (D, LCg.lst ys) :: nx) h' → g'.UpToSlots h' → E' (.ref e) { s₂ with heap := h', toks := tk' }) →
        wpAny (model prog w) A (eval elt (compEnvC scope cl C env)) (fun _ _ => False) E' { s₂ with heap := h, toks := tk })) ∧
    (∀ g' e t vs ys nx h' tk', J k ys nx → Fr h₀ L g' m → PassesS base g' (env :: outer) e cls t vs nx h' → g'.UpToSlots h' → E (.ref e) { s₁ with heap := h', toks := tk' })
theorem block_E {cls : Value} {elt iter : PySem.Expr} {x : PySem.Str} {px : Pos} {scope : Scope} {cl : List (PySem.Str × Addr)} {pos : Pos} {s₂ : Shared} {I ax : Addr} {its : Array Value} {k : Nat} {J : Nat → List Value → List (Addr × Obj) → Prop} {news : List (Addr × Obj)} {Q : Value → Shared → Prop}
    (hfr : A.frames = some (env :: outer)) (hf : env.frame = some L)
    (W : Walks prog w A I [I, ax] [I] its.size (fun i v => its[i]? = some v) (fun i h => h.IsListIter I ax i ∧ h.IsList ax its)) (hsz : its.size ≤ sizeLine) (hkn : k < its.size)
    (hcell : ∀ y ∈ scope.names, y.2 ≠ .cell) (hkind : scope.kind = .function) (hx : scope.names.lookup x = some .local) (hst : s₂.heap.IsListIter I ax 0 ∧ s₂.heap.IsList ax its)
    (F : Fr h₀ L s₂.heap m) (N : News h₀ L s₂.heap news) (hIL : L ≠ I) (hI₀ : h₀.get? I = none) (off : ∀ p ∈ news, p.1 ≠ I) (hS : LCg.SrcAt h₀ ax its news) (J0 : J 0 [] news)
    (turn : ∀ i v ys nx I oI C oC D m₂ h tk (E' : Value → Shared → Prop), i < k → its[i]? = some v → J i ys nx → LCg.NsObj oC m₂ → m₂ x = some v → Fr h₀ L h m → News h₀ L h ((I, oI) :: (C, oC) :: (D, LCg.lst ys) :: nx) → LCg.Off3 I C D nx → ((@Ne Nat I C) ∧ (@Ne Nat I D) ∧ (@Ne Nat C D)) →
        wpAny (model prog w) A (eval elt (compEnvC scope cl C env)) (LCg.CompEnd h₀ L m { s₂ with heap := h, toks := tk } I oI C oC D (LCg.lst ys) (LCg.SrcAt h₀ ax its) (fun y news' => J (i + 1) (ys ++ [y]) news')) E' { s₂ with heap := h, toks := tk })
    (bad : ∀ v ys nx I oI C oC D m₂ h tk (E' : Value → Shared → Prop), its[k]? = some v → J k ys nx → LCg.NsObj oC m₂ → m₂ x = some v → Fr h₀ L h m → News h₀ L h ((I, oI) :: (C, oC) :: (D, LCg.lst ys) :: nx) → LCg.Off3 I C D nx → ((@Ne Nat I C) ∧ (@Ne Nat I D) ∧ (@Ne Nat C D)) →
        (∀ g' e t vs h' tk', Fr h₀ L g' m → RaisedS base g' (env :: outer) e cls t vs ((I, oI) :: (C, oC) :: (D, LCg.lst ys) :: nx) h' → g'.UpToSlots h' → E' (.ref e) { s₂ with heap := h', toks := tk' }) →
        wpAny (model prog w) A (eval elt (compEnvC scope cl C env)) (fun _ _ => False) E' { s₂ with heap := h, toks := tk })
    (OUT : ∀ g' e t vs ys nx h' tk', J k ys nx → Fr h₀ L g' m → PassesS base g' (env :: outer) e cls t vs nx h' → g'.UpToSlots h' → E (.ref e) { s₂ with heap := h', toks := tk' }) :
    wpAny (model prog w) A (newList []) (fun acc s₃ => wpAny (model prog w) A (newFunctionEnv scope env.globals cl [] env.qual none .none (some env)) (fun cenv s₄ =>
      codeAny (model prog w) A (.compStart (.ListComp elt [⟨.Name x px, iter, [], 0⟩] scope pos) 0 (.ref I) acc { cenv with scope := relabel scope env }) (compPost (model prog w) A E none Q acc cenv.locals) s₄) E s₃) E s₂ := by
  refine wpAny_newObj_type (wpAny_newFunctionEnv hcell (by intro y hy; simp at hy) (fun h₁ hns₁ hsb₁ => ?_) hkind)
  dsimp only at hns₁ hsb₁ ⊢
  generalize hH2 : s₂.heap.push { cls := .type "list", dict := none, data := .seq ([] : List Value).toArray } = H2 at hns₁ hsb₁ ⊢
  have hC : H2.objs.size = s₂.heap.objs.size + 1 := by rw [← hH2, Heap.size_push]
  have hDC : s₂.heap.objs.size ≠ H2.objs.size := by rw [hC]; exact Nat.ne_of_lt (Nat.lt_succ_self _)
  have below : ∀ b, b < s₂.heap.objs.size → b ≠ H2.objs.size ∧ b ≠ s₂.heap.objs.size := fun b hb => ⟨by rw [hC]; exact Nat.ne_of_lt (Nat.lt_succ_of_lt hb), Nat.ne_of_lt hb⟩
  have hIlt : I < s₂.heap.objs.size := by obtain ⟨o, e, _⟩ := hst.1; exact Heap.lt_size e
  have haxlt : ax < s₂.heap.objs.size := by obtain ⟨o, e, _⟩ := hst.2; exact Heap.lt_size e
  have hfp : ∀ b ∈ [I, ax], b < s₂.heap.objs.size := fun b hb => by
    rcases List.mem_cons.mp hb with rfl | hb
    · exact hIlt
    · rw [List.mem_singleton.mp hb]; exact haxlt
  have hDf : s₂.heap.objs.size ∉ [I, ax] := fun hm => Nat.lt_irrefl _ (hfp _ hm)
  have hCf : H2.objs.size ∉ [I, ax] := fun hm => by have := hfp _ hm; rw [hC] at this; exact Nat.lt_irrefl _ (Nat.lt_of_succ_lt this)
  have old : ∀ b o, s₂.heap.get? b = some o → h₁.get? b = some o := fun b o e => hsb₁.extBut b o (below b (Heap.lt_size e)).1 (Heap.get?_push_of_some _ (hH2 ▸ Heap.get?_push_of_some _ e))
  have hacc : h₁.get? s₂.heap.objs.size = some (LCg.lst []) := hsb₁.extBut _ _ hDC (Heap.get?_push_of_some _ (hH2 ▸ Heap.get?_push_size _ rfl))
  have hst₁ := W.frame 0 _ h₁ hst fun b _ o e => old b o e
  have fresh : ∀ a, s₂.heap.objs.size ≤ a → s₂.heap.get? a = none := fun a ha => by
    cases e : s₂.heap.get? a with
    | none => rfl
    | some o' => exact absurd (Heap.lt_size e) (Nat.not_lt.mpr ha)
  have fresh₀ : ∀ a, s₂.heap.objs.size ≤ a → h₀.get? a = none := fun a ha => by
    cases e : h₀.get? a with
    | none => rfl
    | some o' => have := F.keep a o' e; rw [fresh a ha] at this; cases this
  have hD₀ : h₀.get? s₂.heap.objs.size = none := fresh₀ _ (Nat.le_refl _)
  have hC₀ : h₀.get? H2.objs.size = none := fresh₀ _ (by rw [hC]; exact Nat.le_succ _)
  have hLlt : L < s₂.heap.objs.size := F.ns.lt
  have hDL : s₂.heap.objs.size ≠ L := Ne.symm (below L hLlt).2
  have hCL : H2.objs.size ≠ L := Ne.symm (below L hLlt).1
  have hCI : I ≠ H2.objs.size := (below I hIlt).1
  have hDI : I ≠ s₂.heap.objs.size := (below I hIlt).2
  have off₀ : LCg.Off3 I H2.objs.size s₂.heap.objs.size news := LCg.Off3.of fun p hp => ⟨off p hp, (below _ (Heap.lt_size (N p hp).1)).1, (below _ (Heap.lt_size (N p hp).1)).2⟩
  have loop : ∀ s₃ : Shared, s₃ = { s₂ with heap := h₁, toks := s₂.toks + ([] : List (PySem.Str × Value)).length } →
      codeAny (model prog w) A (.compLoop (.ListComp elt [⟨.Name x px, iter, [], 0⟩] scope pos) 0 (.ref I) (.ref s₂.heap.objs.size) (compEnvC scope cl H2.objs.size env))
        (compPost (model prog w) A E none Q (.ref s₂.heap.objs.size) H2.objs.size) s₃ := by
    rintro s₃ rfl
    refine codeAny_compLoop_tests
      (fun n s' => ∃ h' tk i ys m' news', s' = { s₂ with heap := h', toks := tk } ∧ i ≤ k ∧ n = k + 1 - i ∧ ys.length = i ∧ (h'.IsListIter I ax i ∧ h'.IsList ax its) ∧ Fr h₀ L h' m ∧ h'.Ns H2.objs.size m' ∧ News h₀ L h' ((s₂.heap.objs.size, LCg.lst ys) :: news') ∧
        LCg.Off3 I H2.objs.size s₂.heap.objs.size news' ∧ LCg.SrcAt h₀ ax its news' ∧ J i ys news') ?_ (k + 1)
      ⟨h₁, _, 0, [], _, news, rfl, Nat.zero_le _, rfl, rfl, hst₁, F.keeps old, hns₁, fun p hp => ?_, off₀, hS, J0⟩
    · rintro n s' ⟨h', tk, i, ys, m', news', rfl, hi, rfl, hyl, hst', F', hn', N', off', hS', J'⟩
      refine W.item i _ _ _ (Nat.lt_of_le_of_lt hi hkn) hst' fun v h₂ tk₂ hPv hst₂ hk₂ => ?_
      refine wpAny_assign_Name (wpAny_storeName_local (lookup_relabel_local hx) (hn'.at' fun o e => hk₂ _ o (by simpa using Ne.symm hCI) e) (fun h₃ hn₃ hs₃ => ?_) (by simp [compEnvC, relabel, hkind]))
      refine wpAny_tests_nil ?_
      simp only [if_true]
      have hst₃ := W.frame (i + 1) h₂ h₃ hst₂ fun b hb o e => hs₃.extBut b o (fun q => hCf (by have q' : b = H2.objs.size := q; rw [← q']; exact hb)) e
      obtain ⟨oI, heI, _⟩ := id hst₃.1
      obtain ⟨oC, heC, hoC⟩ := LCg.ns_obj hn₃
      have F₃ : Fr h₀ L h₃ m := (LCg.fr_but F' hk₂ hIL hI₀).change hs₃ hCL hC₀
      have off3 := off'.mem
      have N₂ : News h₀ L h₂ ((s₂.heap.objs.size, LCg.lst ys) :: news') := LCg.news_but N' hk₂ fun p hp => by
        rcases List.mem_cons.mp hp with rfl | hp
        · exact Ne.symm hDI
        · exact (off3 p hp).1
      have N₃ : News h₀ L h₃ ((I, oI) :: (H2.objs.size, oC) :: (s₂.heap.objs.size, LCg.lst ys) :: news') := fun p hp => by
        rcases List.mem_cons.mp hp with rfl | hp
        · exact ⟨heI, Ne.symm hIL, hI₀⟩
        · rcases List.mem_cons.mp hp with rfl | hp
          · exact ⟨heC, hCL, hC₀⟩
          · have z := N₂ p hp
            refine ⟨hs₃.extBut _ _ ?_ z.1, z.2⟩
            rcases List.mem_cons.mp hp with rfl | hp
            · exact hDC
            · exact (off3 p hp).2.1
      by_cases hlt : i < k
      · refine wpAny_mono (turn i v ys news' I oI H2.objs.size oC s₂.heap.objs.size _ h₃ _ _ hlt hPv J' hoC (by simp) F₃ N₃ off' ⟨hCI, hDI, Ne.symm hDC⟩) (fun y s₄ h₄ => ?_) fun _ _ e => e
        obtain ⟨h₄, tk₄, news₄, rfl, F₄, N₄, off₄, hS₄, R₄⟩ := h₄
        have zI := (N₄ (I, oI) List.mem_cons_self).1
        have zC := (N₄ (H2.objs.size, oC) (List.mem_cons_of_mem _ List.mem_cons_self)).1
        have zD := (N₄ (s₂.heap.objs.size, LCg.lst ys) (List.mem_cons_of_mem _ (List.mem_cons_of_mem _ List.mem_cons_self))).1
        have N₄' : News h₀ L h₄ news₄ := fun p hp => N₄ p (List.mem_cons_of_mem _ (List.mem_cons_of_mem _ (List.mem_cons_of_mem _ hp)))
        have hst₄ : h₄.IsListIter I ax (i + 1) ∧ h₄.IsList ax its := LCg.list_st _ _ _ _ _ hst₃ heI zI F₄.keep N₄' hS₄
        refine append_at (hsz := by show ys.toArray.size ≤ sizeLine; rw [List.size_toArray, hyl]; omega) zD fun h₅ hs₅ hD₅ => ?_
        have off4 := off₄.mem
        refine ⟨k + 1 - (i + 1), by omega, h₅, tk₄, i + 1, ys ++ [y], _, news₄, rfl, hlt, rfl, by rw [List.length_append, List.length_singleton, hyl], W.frame (i + 1) h₄ h₅ hst₄ fun b hb o e => hs₅.extBut b o (fun q => hDf (q ▸ hb)) e, F₄.change hs₅ hDL hD₀,
          (hoC.ns zC).sameBut hs₅ (Ne.symm hDC), fun p hp => ?_, off₄, hS₄, R₄⟩
        rcases List.mem_cons.mp hp with rfl | hp
        · exact ⟨hD₅.trans (congrArg some (LCg.lst_snoc ys y)), hDL, hD₀⟩
        · exact ⟨hs₅.extBut _ _ (off4 p hp).2.2 (N₄' p hp).1, (N₄' p hp).2⟩
      · obtain rfl : i = k := Nat.le_antisymm hi (Nat.not_lt.mp hlt)
        refine wpAny_mono (bad v ys news' I oI H2.objs.size oC s₂.heap.objs.size _ h₃ _ _ hPv J' hoC (by simp) F₃ N₃ off' ⟨hCI, hDI, Ne.symm hDC⟩ ?_) (fun y s₄ h₄ => h₄.elim) fun _ _ e => e
        intro g' e t vs h₆ tk₆ FG R U
        show wpAny (model prog w) A (noteFrame (.ref e) (compEnvC scope cl H2.objs.size env)) _ _ _
        rw [noteFrame_congr (env₁ := compEnvC scope cl H2.objs.size env) (env₂ := env) rfl]
        obtain ⟨B, hany, hback⟩ := (RaisedS.passes R).anyOf
        refine noteFrame_anyW hfr hf hany fun h₇ x1 x2 => ?_
        have P₇ := hback h₇ (.held x1) x2
        have U₇ := U.trans x2
        obtain ⟨⟨B7, -, -, hl7, hany7, -⟩, -⟩ := id P₇
        have hC7 := hany7.1 _ _ (hl7 (H2.objs.size, oC) (List.mem_cons_of_mem _ (List.mem_cons_self ..))).1
        refine ⟨_, hoC.ns hC7, fun h₈ hs₈ cenv _ => ?_⟩
        · have P₈ := P₇.but (news' := news') (List.mem_cons_of_mem _ (List.mem_cons_self ..)) hs₈ (fun q hq => ⟨List.mem_cons_of_mem _ (List.mem_cons_of_mem _ (List.mem_cons_of_mem _ hq)), (off3 q hq).2.1⟩)
          obtain ⟨B8, hany8, hback8⟩ := P₈.anyOf
          refine passOn_anyW hany8 fun h₉ y1 y2 => ?_
          have P₉ := hback8 h₉ y1 y2
          have neC : ∀ b o, (hideAll g' [H2.objs.size]).get? b = some o → b ≠ H2.objs.size := fun b o q z => by rw [z, hideAll_none _ (List.mem_singleton.mpr rfl)] at q; cases q
          refine OUT (hideAll g' [H2.objs.size]) e t vs ys news' h₉ tk₆ J' ⟨FG.ns.at' fun o q => hideAll_get _ q fun z => hCL (List.mem_singleton.mp z).symm, fun b o q => hideAll_get _ (FG.keep b o q) fun z => ?_, FG.above⟩ P₉ fun b o q hnf => ?_
          · rw [List.mem_singleton.mp z, hC₀] at q; cases q
          · obtain ⟨sl, h7⟩ := U₇ b o (of_hideAll _ q) hnf
            have h8 := (hs₈.2 b (neC b o q)).trans h7
            obtain ⟨sl', h9⟩ := y2 b _ h8 hnf
            exact ⟨sl', h9⟩
    · rcases List.mem_cons.mp hp with rfl | hp
      · exact ⟨hacc, hDL, hD₀⟩
      · exact ⟨old _ _ (N p hp).1, (N p hp).2⟩
  exact codeAny_compStart_list (loop _ rfl) (W.self 0 _ _ _ hst₁ (loop _ rfl))
theorem list_comp_raise {cls : Value} {elt iter : PySem.Expr} {x : PySem.Str} {px : Pos} {scope : Scope} {cl : List (PySem.Str × Addr)} {pos : Pos} {Q : Value → Shared → Prop} {k : Nat} {J : Nat → List Value → List (Addr × Obj) → Prop}
    (hfr : A.frames = some (env :: outer)) (hf : env.frame = some L)
    (hclos : closureFor scope env = pure cl) (hcell : ∀ y ∈ scope.names, y.2 ≠ .cell) (hkind : scope.kind = .function)
    (hnames : ∀ y ∈ scope.names, y.2 = .local → scope.names.lookup y.1 = some .local) (hx : scope.names.lookup x = some .local)
    (h : wpAny (model prog w) A (eval iter env) (RaiseSrc prog w A base h₀ L m env outer cls elt x scope cl k J E) E s)
    (hs : ∀ x, foldedSetIterable iter env x = pure x := by intro _; rfl) :
    wpAny (model prog w) A (eval (.ListComp elt [⟨.Name x px, iter, [], 0⟩] scope pos) env) Q E s := by
  rw [eval_ListComp]
  refine wpAny_comprehension_free (use := none) rfl hs hclos hkind hnames (wpAny_mono h (fun xv s₁ h₁ => ?_) fun _ _ e => e)
  obtain ⟨ax, its, news, rfl, hh, F₁, N₁, hS₁, hsz, hkn, J0, R, OUT⟩ := h₁
  have hl := hS₁.list F₁.keep N₁
  have hlt : ax < s₁.heap.objs.size := by obtain ⟨_, e, _⟩ := hl; exact Heap.lt_size e
  refine wpAny_pyIter_list hl ?_
  have up : ∀ b o, s₁.heap.get? b = some o → (s₁.heap.push { cls := .type "list_iterator", data := .fields #[.ref ax, .int 0 0] }).get? b = some o := fun b o e => Heap.get?_push_of_some _ e
  have W := Walks.list (prog := prog) (w := w) (A := A) hh s₁.heap.objs.size ax (Nat.ne_of_lt hlt) its
  generalize hI : s₁.heap.objs.size = I at W
  have hIL : L ≠ I := by rw [← hI]; exact Nat.ne_of_lt F₁.ns.lt
  have hI₀ : h₀.get? I = none := by rw [← hI]; exact next_is_new F₁
  have off : ∀ p ∈ news, p.1 ≠ I := fun p hp => by rw [← hI]; exact Nat.ne_of_lt (Heap.lt_size (N₁ p hp).1)
  generalize hs2 : ({ s₁ with heap := s₁.heap.push { cls := .type "list_iterator", data := .fields #[.ref ax, .int 0 0] } } : Shared) = s₂
  have hst : s₂.heap.IsListIter I ax 0 ∧ s₂.heap.IsList ax its := by
    subst hs2; rw [← hI]; exact ⟨⟨_, Heap.get?_push_size _ rfl, rfl, rfl⟩, hl.push _⟩
  obtain ⟨turn, bad⟩ := R s₂ ⟨_, hs2.symm⟩
  refine block_E hfr hf W hsz hkn hcell hkind hx hst (by subst hs2; exact F₁.keeps up) (by subst hs2; exact N₁.grown up) hIL hI₀ off hS₁ J0 turn bad ?_
  subst hs2
  exact OUT
end
section
variable {prog : Program} {w : World} {A : Around} {E : Value → Shared → Prop} {s : Shared} {base h₀ : Heap} {L : Addr} {m : PySem.Str → Option Value} {env : Env} {outer : List Env}
theorem list_comp_raise0 {cls : Value} {elt iter : PySem.Expr} {x : PySem.Str} {px : Pos} {scope : Scope} {cl : List (PySem.Str × Addr)} {pos : Pos} {Q : Value → Shared → Prop} {k : Nat} {news₀ : List (Addr × Obj)} (_F₀ : Fr h₀ L s.heap m) (_N₀ : News h₀ L s.heap news₀)
    (hfr : A.frames = some (env :: outer)) (hf : env.frame = some L)
    (hclos : closureFor scope env = pure cl) (hcell : ∀ y ∈ scope.names, y.2 ≠ .cell) (hkind : scope.kind = .function)
    (hnames : ∀ y ∈ scope.names, y.2 = .local → scope.names.lookup y.1 = some .local) (hx : scope.names.lookup x = some .local)
    (h : wpAny (model prog w) A (eval iter env) (RaiseSrc prog w A base h₀ L m env outer cls elt x scope cl k (fun _ _ nx => nx = news₀) E) E s)
    (hs : ∀ x, foldedSetIterable iter env x = pure x := by intro _; rfl) :
    wpAny (model prog w) A (eval (.ListComp elt [⟨.Name x px, iter, [], 0⟩] scope pos) env) Q E s :=
  list_comp_raise hfr hf hclos hcell hkind hnames hx h hs
end


def tup2 (p : Int × Int) (t u : Tok) : Obj := { cls := .type "tuple", data := .seq #[.int p.1 t, .int p.2 u] }
def PairAt (news : List (Addr × Obj)) (v : Value) (p : Int × Int) : Prop := ∃ a t u, v = .ref a ∧ (a, tup2 p t u) ∈ news
inductive PairsAt (news : List (Addr × Obj)) : List Value → List (Int × Int) → Prop
  | nil : PairsAt news [] []
  | cons {v p vs ps} : PairAt news v p → PairsAt news vs ps → PairsAt news (v :: vs) (p :: ps)
theorem PairAt.mono {news news' : List (Addr × Obj)} {v : Value} {p : Int × Int} (h : PairAt news v p) (hs : ∀ q ∈ news, q ∈ news') : PairAt news' v p :=
  let ⟨a, t, u, e, hm⟩ := h; ⟨a, t, u, e, hs _ hm⟩
theorem PairsAt.mono {news news' : List (Addr × Obj)} {vs : List Value} {ps : List (Int × Int)} (h : PairsAt news vs ps) (hs : ∀ q ∈ news, q ∈ news') : PairsAt news' vs ps := by
  induction h with
  | nil => exact .nil
  | cons h1 _ ih => exact .cons (h1.mono hs) ih
theorem PairsAt.length {news : List (Addr × Obj)} {vs : List Value} {ps : List (Int × Int)} (h : PairsAt news vs ps) : vs.length = ps.length := by
  induction h with
  | nil => rfl
  | cons _ _ ih => simp [ih]
theorem PairsAt.append {news : List (Addr × Obj)} {vs ws : List Value} {ps qs : List (Int × Int)} (h : PairsAt news vs ps) (h' : PairsAt news ws qs) : PairsAt news (vs ++ ws) (ps ++ qs) := by
  induction h with
  | nil => exact h'
  | cons h1 _ ih => exact .cons h1 ih
theorem PairsAt.at {news : List (Addr × Obj)} {vs : List Value} {ps : List (Int × Int)} (h : PairsAt news vs ps) : ∀ (i : Nat) (v : Value), vs[i]? = some v → ∃ p, ps[i]? = some p ∧ PairAt news v p := by
  induction h with
  | nil => intro i v e; simp at e
  | cons h1 _ ih =>
    intro i v e
    cases i with
    | zero => simp at e; subst e; exact ⟨_, by simp, h1⟩
    | succ i => simpa using ih i v (by simpa using e)
theorem PairsAt.get {news : List (Addr × Obj)} {vs : List Value} {ps : List (Int × Int)} (h : PairsAt news vs ps) : ∀ i, i < ps.length → PairAt news (vs.getD i .none) (ps.getD i (0, 0)) := by
  induction h with
  | nil => intro i e; simp at e
  | cons h1 _ ih =>
    intro i e
    cases i with
    | zero => simpa using h1
    | succ i => simpa using ih i (by simpa using e)
def lexlt (p q : Int × Int) : Bool := if p.1 = q.1 then (if p.2 = q.2 then false else decide (p.2 < q.2)) else decide (p.1 < q.1)
section
variable {prog : Program} {w : World} {A : Around} {E : Value → Shared → Prop} {s : Shared}
theorem pair_lt {x y : Addr} {p q : Int × Int} {t u t' u' : Tok} {Q : Bool → Shared → Prop} (hx : s.heap.get? x = some (tup2 p t u)) (hy : s.heap.get? y = some (tup2 q t' u')) (h : Q (lexlt p q) s) :
    wpAny (model prog w) A (keyLt' (tuples' true) (.ref x) (.ref y)) Q (fun _ _ => False) s := by
  refine kat_lt hx rfl hy rfl ?_
  show KatLex prog w A true false Q [(.int p.1 t, .int q.1 t'), (.int p.2 u, .int q.2 u')] 0 s
  refine kat_cons (wpAny_eqBool_int ?_)
  unfold lexlt at h
  by_cases e1 : p.1 = q.1
  · rw [if_pos e1] at h
    rw [show (p.1 == q.1) = true from beq_iff_eq.mpr e1]
    refine kat_yes (kat_cons (wpAny_eqBool_int ?_))
    by_cases e2 : p.2 = q.2
    · rw [if_pos e2] at h
      rw [show (p.2 == q.2) = true from beq_iff_eq.mpr e2]
      exact kat_yes (kat_nil h)
    · rw [if_neg e2] at h
      rw [show (p.2 == q.2) = false from beq_eq_false_iff_ne.mpr e2]
      refine kat_no ?_
      show wpAny _ _ (oneLt' false _ _) _ _ _
      exact kat_one _ _ (P.lt_int h)
  · rw [if_neg e1] at h
    rw [show (p.1 == q.1) = false from beq_eq_false_iff_ne.mpr e1]
    refine kat_no ?_
    show wpAny _ _ (oneLt' true _ _) _ _ _
    exact oneLt_int h
end
def KOk {α : Type} (n : Nat) (P : α → Prop) : KasT α → Prop
  | .ret a => P a
  | .ask i j k => i < n ∧ j < n ∧ ∀ b, KOk n P (k b)
theorem KOk.bind {α β : Type} {n : Nat} {P : α → Prop} {P' : β → Prop} {f : α → KasT β} (hf : ∀ a, P a → KOk n P' (f a)) : ∀ {t : KasT α}, KOk n P t → KOk n P' (t.bind f)
  | .ret a, h => hf a h
  | .ask i j k, h => ⟨h.1, h.2.1, fun b => KOk.bind hf (h.2.2 b)⟩
theorem KOk.wp {α : Type} {n : Nat} {P : α → Prop} {s : Shared} {cmp : Nat → Nat → (Bool → Shared → Prop) → Shared → Prop} {Q : α → Shared → Prop} (hc : ∀ i j (C : Bool → Shared → Prop), i < n → j < n → (∀ b, C b s) → cmp i j C s)
    (hQ : ∀ a, P a → Q a s) : ∀ {t : KasT α}, KOk n P t → t.kasWp cmp Q s
  | .ret a, h => hQ a h
  | .ask i j k, h => hc i j _ h.1 h.2.1 fun b => KOk.wp hc hQ (h.2.2 b)
def IdxOk (n : Nat) (p : Array Nat) : Prop := p.Perm (List.toArray (List.range n))
theorem IdxOk.get {n : Nat} {p : Array Nat} (h : IdxOk n p) (hn : 0 < n) (i : Nat) : p.getD i 0 < n := by
  by_cases q : i < p.size
  · have e : p.getD i 0 = p[i] := by simp [Array.getD, q]
    rw [e]
    have hm : p[i] ∈ List.toArray (List.range n) := (Array.Perm.mem_iff h).mp (Array.getElem_mem q)
    simpa using hm
  · have e : p.getD i 0 = 0 := by simp [Array.getD, q]
    rw [e]; exact hn
theorem IdxOk.rev {n : Nat} {p : Array Nat} (h : IdxOk n p) (i j : Nat) : IdxOk n (kas_rev p i j) := (mirror_perm p i j _).trans h
theorem IdxOk.bub {n : Nat} {p : Array Nat} (h : IdxOk n p) (i j : Nat) : IdxOk n (bubble p i j) := (bubble_perm p i j).trans h
section
variable {n : Nat}
theorem ok_asc {p : Array Nat} (h : IdxOk n p) (hn : 0 < n) : ∀ f k, KOk n (fun _ => True) (kas_asc p f k)
  | 0, _ => trivial
  | f + 1, k => ⟨h.get hn _, h.get hn _, fun b => by
    dsimp only
    split
    · trivial
    · exact ok_asc h hn f (k + 1)⟩
theorem ok_desc (hn : 0 < n) : ∀ f (p : Array Nat) k q, IdxOk n p → KOk n (fun r => IdxOk n r.1) (kas_desc f p k q)
  | 0, p, _, _, h => h
  | f + 1, p, k, q, h => ⟨h.get hn _, h.get hn _, fun b => by
    dsimp only
    split
    · split
      · exact ok_desc hn f _ _ _ (h.rev _ _)
      · exact ok_desc hn f _ _ _ h
    · refine ⟨h.get hn _, h.get hn _, fun c => ?_⟩
      dsimp only
      split
      · exact h
      · exact ok_desc hn f _ _ _ h⟩
theorem ok_tail3 (hn : 0 < n) (a b : Nat) {p : Array Nat} (h : IdxOk n p) : KOk n (fun r => IdxOk n r.2) (kas_tail3 a b p) := by
  unfold kas_tail3
  refine KOk.bind (P := fun _ => True) (fun m _ => ?_) (ok_asc (h.rev _ _) hn _ _)
  exact h.rev 0 a
theorem ok_descPart (hn : 0 < n) (a b : Nat) {p : Array Nat} (h : IdxOk n p) : KOk n (fun r => IdxOk n r.2) (kas_descPart a b p) := by
  unfold kas_descPart
  refine KOk.bind (P := fun r => IdxOk n r.1) (fun r hr => ?_) (ok_desc hn _ _ _ _ h)
  split
  · exact ok_tail3 hn _ _ (IdxOk.rev hr _ _)
  · exact ok_tail3 hn _ _ hr
theorem ok_count (hn : 0 < n) (b : Nat) {p : Array Nat} (h : IdxOk n p) : KOk n (fun r => IdxOk n r.2) (kas_count b p) := by
  unfold kas_count
  refine KOk.bind (P := fun _ => True) (fun m _ => ?_) (ok_asc h hn _ _)
  split
  · exact h
  · split
    · refine ⟨h.get hn _, h.get hn _, fun c => ?_⟩
      cases c with
      | true => exact h
      | false => exact ok_descPart hn _ _ (h.rev _ _)
    · exact ok_descPart hn _ _ h
theorem ok_place (hn : 0 < n) {p : Array Nat} (h : IdxOk n p) (k : Nat) : ∀ f l r, KOk n (fun _ => True) (kas_place p k f l r)
  | 0, _, _ => trivial
  | f + 1, l, r => by
    unfold kas_place
    split
    · trivial
    · refine ⟨h.get hn _, h.get hn _, fun b => ?_⟩
      dsimp only
      split
      · exact ok_place hn h k f _ _
      · exact ok_place hn h k f _ _
theorem ok_bin (hn : 0 < n) : ∀ f (p : Array Nat) k, IdxOk n p → KOk n (IdxOk n) (kas_bin f p k)
  | 0, _, _, h => h
  | f + 1, p, k, h => KOk.bind (fun l _ => ok_bin hn f _ _ (h.bub _ _)) (ok_place hn h k _ _ _)
theorem ok_sort (hn : 0 < n) : KOk n (IdxOk n) (kas_sort n) := by
  unfold kas_sort
  refine KOk.bind (P := fun r => IdxOk n r.2) (fun r hr => ?_) (ok_count hn _ (Array.Perm.refl _))
  split
  · exact ok_bin hn _ _ _ hr
  · exact hr
end
theorem pairs_tups {h₀ h : Heap} {L : Addr} {news : List (Addr × Obj)} {vs : List Value} {ps : List (Int × Int)} (N : News h₀ L h news) (hp : PairsAt news vs ps) : ∃ fs, KatTups h vs fs ∧ fs.length = ps.length ∧ ∀ v ∈ fs, ∃ x t, v = Value.int x t := by
  induction hp with
  | nil => exact ⟨[], .nil, rfl, fun v h => nomatch h⟩
  | cons h1 _ ih =>
    obtain ⟨fs, h2, h3, h4⟩ := ih
    obtain ⟨a, t, u, rfl, hm⟩ := h1
    refine ⟨_ :: fs, KatTups.cons (N _ hm).1 rfl rfl rfl h2, by simp [h3], fun v hv => ?_⟩
    rcases List.mem_cons.mp hv with rfl | hv
    · exact ⟨_, _, rfl⟩
    · exact h4 v hv
section
variable {prog : Program} {w : World} {A : Around} {E : Value → Shared → Prop} {s : Shared} {h₀ : Heap} {L : Addr} {m : PySem.Str → Option Value} {news : List (Addr × Obj)} {vs : List Value} {ps : List (Int × Int)}
theorem pairs_kind {M : Model} {Q : SortKind → Shared → Prop} (N : News h₀ L s.heap news) (hp : PairsAt news vs ps) (hne : 0 < ps.length) (h : Q (tuples' true) s) : wpAny M A (keyKind' vs.toArray) Q E s := by
  obtain ⟨fs, h1, h2, h3⟩ := pairs_tups N hp
  refine kat_kind (T := .type "int") h1 (by omega) (fun v hv => ?_) (by decide) h
  obtain ⟨x, t, rfl⟩ := h3 v hv
  exact Looks.of_pure rfl
theorem PairsAt.mem {news : List (Addr × Obj)} {vs : List Value} {ps : List (Int × Int)} (h : PairsAt news vs ps) : ∀ is : List Nat, (∀ i ∈ is, i < ps.length) → PairsAt news (is.map fun i => vs.getD i .none) (is.map fun i => ps.getD i (0, 0))
  | [], _ => .nil
  | i :: r, hi => .cons (h.get i (hi i (List.mem_cons_self ..))) (h.mem r fun j hj => hi j (List.mem_cons_of_mem _ hj))
theorem sorted_ge2 {l : Addr} {Q : Value → Shared → Prop} (F : Fr h₀ L s.heap m) (N : News h₀ L s.heap news) (hl : s.heap.IsList l vs.toArray) (hp : PairsAt news vs ps) (h2 : 2 ≤ ps.length) (h64 : ps.length < 64)
    (h : ∀ D c h' vs' ps', Fr h₀ L h' m → News h₀ L h' ((D, listOf vs'.toArray c) :: news) → (∀ q ∈ news, q.1 < D) → PairsAt news vs' ps' → (∀ p ∈ ps', p ∈ ps) → ps'.length = ps.length → Q (.ref D) { s with heap := h' }) :
    wpAny (model prog w) A (call (.builtin "sorted") [.ref l]) Q E s := by
  have hlen := hp.length
  refine kat_sorted F N hl (by omega) (by omega) fun D e1 h' F' N' lt => ?_
  have hp' : PairsAt ((D, seqObj "list" #[] e1) :: news) vs ps := hp.mono fun q hq => List.mem_cons_of_mem _ hq
  refine pairs_kind N' hp' (by omega) ?_
  refine KOk.wp (n := vs.length) (P := IdxOk vs.length) (s := { s with heap := h' }) (fun i j C hi hj hC => ?_) (fun p hP => ?_) (ok_sort (by omega))
  · obtain ⟨a, t, u, e1, m1⟩ := hp'.get i (by omega)
    obtain ⟨b, t', u', e2, m2⟩ := hp'.get j (by omega)
    unfold kas_ask
    rw [e1, e2]
    exact pair_lt (N' _ m1).1 (N' _ m2).1 (hC _)
  · have hlt : ∀ i ∈ p.toList, i < ps.length := fun i hi => by
      have := (Array.Perm.mem_iff hP).mp (Array.mem_toList_iff.mp hi)
      rw [← hlen]; simpa using this
    have hsz : p.toList.length = ps.length := by
      have := Array.Perm.size_eq hP
      rw [Array.length_toList, this]; simp [hlen]
    exact KasFin.intro (news := (D, seqObj "list" #[] e1) :: news) (g := fun o => (D, o) :: news) F' N' (UpdF.head fun q hq => Nat.ne_of_lt (lt q hq)) fun h'' c F'' N'' =>
      h D c h'' _ _ F'' N'' lt (hp.mem p.toList hlt) (fun q hq => by
        obtain ⟨i, hi, rfl⟩ := List.mem_map.mp hq
        have := hlt i hi
        rw [List.getD_eq_getElem?_getD, List.getElem?_eq_getElem this]
        exact List.getElem_mem _) (by rw [List.length_map, hsz])
theorem list_sort_one {a : Addr} {v : Value} {n : Nat} {P : PySem.Fin → Shared → Prop} (F : Fr h₀ L s.heap m) (N : News h₀ L s.heap news) (ho : s.heap.get? a = some (seqObj "list" #[v] n)) (haL : a ≠ L) (ha0 : h₀.get? a = none) (hna : ∀ p ∈ news, p.1 ≠ a)
    (h : ∀ c h', Fr h₀ L h' m → News h₀ L h' ((a, listOf #[v] c) :: news) → P (.done (.ret .none)) { s with heap := h' }) :
    wpAny (model prog w) A (Builtin.«list.sort» ⟨[.ref a], []⟩) P E s := by
  have s1 := Heap.SameBut.update s.heap a (Obj.mapSeq fun _ => (#[] : Array Value))
  obtain ⟨e1, ho1⟩ : ∃ e1, (s.heap.update a (Obj.mapSeq fun _ => (#[] : Array Value))).get? a = some (seqObj "list" #[] e1) := ⟨_, get?_update_seq ho fun _ => #[]⟩
  have F3 : Fr h₀ L (((s.heap.update a (Obj.mapSeq fun _ => (#[] : Array Value))).push (seqObj "tuple" #[v] 0)).push (seqObj "list" #[] 0)) m := ((kas_fr F s1 haL ha0).push _).push _
  have N2 : News h₀ L (((s.heap.update a (Obj.mapSeq fun _ => (#[] : Array Value))).push (seqObj "tuple" #[v] 0)).push (seqObj "list" #[] 0)) news :=
    (kas_news N s1 hna).grown fun b x e => Heap.get?_push_of_some _ (Heap.get?_push_of_some _ e)
  have ho3 : (((s.heap.update a (Obj.mapSeq fun _ => (#[] : Array Value))).push (seqObj "tuple" #[v] 0)).push (seqObj "list" #[] 0)).get? a = some (seqObj "list" #[] e1) := Heap.get?_push_of_some _ (Heap.get?_push_of_some _ ho1)
  rw [list_sort_plain]
  refine wpAny_bind (listItems_at ho rfl ?_)
  refine wpAny_bind (listUpdate_at ho rfl ?_ (by rw [sizeLine_eq]; simp) (Nat.zero_le _))
  refine wpAny_bind (seqEpoch_at ho1 rfl ?_)
  refine wpAny_bind (wpAny_newTuple ?_ (by rw [sizeLine_eq]; simp))
  refine wpAny_bind (wpAny_newList ?_ (Nat.zero_le _))
  refine wpAny_holding ?_
  show wpAny (model prog w) A _ P E { s with heap := ((s.heap.update a (Obj.mapSeq fun _ => (#[] : Array Value))).push (seqObj "tuple" #[v] 0)).push (seqObj "list" #[] 0) }
  dsimp only
  have hn2 : (#[v] : Array Value).size < 2 := by simp
  rw [if_pos hn2, if_pos hn2]
  refine wpAny_bind (wpAny_pure ?_)
  refine wpAny_bind ?_
  show wpAny (model prog w) A (pure (PUnit.unit, _)) _ _ _
  refine wpAny_pure ?_
  dsimp only
  have harr : (arrOf (SortSt.mk' general' ((#[v] : Array Value).zip #[v]) #[] 7 none)).map (·.2) = #[v] := by
    show (((#[v] : Array Value).zip #[v])).map (·.2) = #[v]
    simp
  rw [harr]
  have s2 := Heap.SameBut.update (((s.heap.update a (Obj.mapSeq fun _ => (#[] : Array Value))).push (seqObj "tuple" #[v] 0)).push (seqObj "list" #[] 0)) a (Obj.mapSeq fun _ => (#[v] : Array Value))
  obtain ⟨c2, hc2⟩ : ∃ c2, ((((s.heap.update a (Obj.mapSeq fun _ => (#[] : Array Value))).push (seqObj "tuple" #[v] 0)).push (seqObj "list" #[] 0)).update a (Obj.mapSeq fun _ => (#[v] : Array Value))).get? a = some (seqObj "list" #[v] c2) := ⟨_, get?_update_seq ho3 fun _ => #[v]⟩
  refine wpAny_bind (seqEpoch_at ho3 rfl ?_)
  refine wpAny_bind (listUpdate_at ho3 rfl ?_ (Nat.zero_le _) (by rw [sizeLine_eq]; simp))
  have hf : failedOf (SortSt.mk' general' ((#[v] : Array Value).zip #[v]) #[] 7 none) = none := rfl
  simp only [hf, bne_self_eq_false, Bool.false_eq_true, if_false]
  refine wpAny_pure (h c2 _ (kas_fr F3 s2 haL ha0) fun p hp => ?_)
  rcases List.mem_cons.mp hp with rfl | hp
  · exact ⟨hc2, haL, ha0⟩
  · exact kas_news N2 s2 hna p hp
theorem sorted_one {l : Addr} {v : Value} {Q : Value → Shared → Prop} (F : Fr h₀ L s.heap m) (N : News h₀ L s.heap news) (hl : s.heap.IsList l #[v])
    (h : ∀ D c h', Fr h₀ L h' m → News h₀ L h' ((D, listOf #[v] c) :: news) → (∀ q ∈ news, q.1 < D) → Q (.ref D) { s with heap := h' }) :
    wpAny (model prog w) A (call (.builtin "sorted") [.ref l]) Q E s := by
  refine Calls.call_function_entry kind_sorted plain_sorted entry_sorted (args_sorted1 _) ?_
  unfold Builtin.«sorted»
  refine wpAny_bind (m := checkCount "sorted" 1 1 _) (wpAny_pure ?_)
  refine wpAny_bind (collect_list hl ?_ (by rw [sizeLine_eq]; simp))
  refine wpAny_bind (wpAny_newList ?_ (by rw [sizeLine_eq]; simp))
  have hsz : ((s.heap.push (seqObj "list" #[] 0)).update s.heap.objs.size (Obj.mapSeq (· ++ #[v]))).objs.size = s.heap.objs.size + 1 := by
    rw [Heap.size_update, size_push']
  have hoL : (((s.heap.push (seqObj "list" #[] 0)).update s.heap.objs.size (Obj.mapSeq (· ++ #[v]))).push (seqObj "list" #[v] 0)).get? (s.heap.objs.size + 1) = some (seqObj "list" #[v] 0) := by
    rw [← hsz]; exact Heap.get?_push_size _ rfl
  have keep : ∀ b o, s.heap.get? b = some o → (((s.heap.push (seqObj "list" #[] 0)).update s.heap.objs.size (Obj.mapSeq (· ++ #[v]))).push (seqObj "list" #[v] 0)).get? b = some o := fun b o q => by
    have hlt : b < s.heap.objs.size := Heap.lt_size q
    rw [Heap.get?_push_ne _ _ _ (by rw [hsz]; exact Nat.ne_of_lt (Nat.lt_succ_of_lt hlt)), Heap.get?_update_ne _ _ _ _ (Nat.ne_of_lt hlt), Heap.get?_push_ne _ _ _ (Nat.ne_of_lt hlt)]
    exact q
  have hL : L < s.heap.objs.size := F.ns.lt
  show wpAny _ _ _ _ _ { s with heap := ((s.heap.push (seqObj "list" #[] 0)).update s.heap.objs.size (Obj.mapSeq (· ++ #[v]))).push (seqObj "list" #[v] 0) }
  rw [hsz]
  refine wpAny_bind (wpAny_holding (wpAny_call_entry slot_list_sort ⟨_, hoL, rfl⟩ entry_list_sort ?body (args_list_sort _)))
  case body =>
    refine list_sort_one (s := { s with heap := ((s.heap.push (seqObj "list" #[] 0)).update s.heap.objs.size (Obj.mapSeq (· ++ #[v]))).push (seqObj "list" #[v] 0) })
      (F.kept keep) (N.grown keep) hoL (Nat.ne_of_gt (Nat.lt_succ_of_lt hL)) (Heap.get?_none_of_le (Nat.le_trans F.above (Nat.le_succ_of_le (Nat.le_of_lt hL))))
      (fun p hp => Nat.ne_of_lt (Nat.lt_succ_of_lt (Heap.lt_size (N p hp).1))) fun c h' F' N' => ?_
    exact ⟨_, rfl, wpAny_pure ⟨_, rfl, h _ c h' F' N' fun q hq => Nat.lt_succ_of_lt (Heap.lt_size (N q hq).1)⟩⟩
theorem sorted_pairs {l : Addr} {Q : Value → Shared → Prop} (F : Fr h₀ L s.heap m) (N : News h₀ L s.heap news) (hl : s.heap.IsList l vs.toArray) (hp : PairsAt news vs ps) (h1 : 1 ≤ ps.length) (h64 : ps.length < 64)
    (h : ∀ D c h' vs' ps', Fr h₀ L h' m → News h₀ L h' ((D, listOf vs'.toArray c) :: news) → (∀ q ∈ news, q.1 < D) → PairsAt news vs' ps' → (∀ p ∈ ps', p ∈ ps) → ps'.length = ps.length → Q (.ref D) { s with heap := h' }) :
    wpAny (model prog w) A (call (.builtin "sorted") [.ref l]) Q E s := by
  by_cases h2 : 2 ≤ ps.length
  · exact sorted_ge2 F N hl hp h2 h64 h
  · have hlen := hp.length
    have e1 : vs.length = 1 := by omega
    obtain ⟨v, rfl⟩ : ∃ v, vs = [v] := by
      match vs, e1 with
      | [a], _ => exact ⟨a, rfl⟩
    exact sorted_one F N hl fun D c h' F' N' lt => h D c h' [v] ps F' N' lt hp (fun p h => h) rfl
end


/-- the spans of a CharSet -/
structure SpansOk (sps : List (Int × Int)) : Prop where
  rng : ∀ p ∈ sps, 0 ≤ p.1 ∧ p.1 ≤ p.2 ∧ p.2 ≤ 127
  sep : ∀ i, i + 1 < sps.length → (sps.getD i (0, 0)).2 + 1 < (sps.getD (i + 1) (0, 0)).1
def CsAt (news : List (Addr × Obj)) (x : Addr) (sps : List (Int × Int)) : Prop :=
  ∃ dx q t nd tp k svs, (x, instObj 227 dx) ∈ news ∧ (dx, dictOf [⟨q, .str (Str.ofString "spans") t, .ref tp⟩] nd) ∈ news ∧ (tp, ({ cls := .type "tuple", data := .seq svs k } : Obj)) ∈ news ∧ PairsAt news svs.toList sps ∧ SpansOk sps ∧ sps.length ≤ 64
theorem CsAt.mono {news news' : List (Addr × Obj)} {x : Addr} {sps : List (Int × Int)} (h : CsAt news x sps) (hs : ∀ q ∈ news, q ∈ news') : CsAt news' x sps :=
  let ⟨dx, q, t, nd, tp, k, svs, h1, h2, h3, h4, h5⟩ := h; ⟨dx, q, t, nd, tp, k, svs, hs _ h1, hs _ h2, hs _ h3, h4.mono hs, h5⟩
section
variable {prog : Program} {w : World} {A : Around} {E : Value → Shared → Prop} {s : Shared} {env : Env} {h₀ : Heap} {body : List Stmt} {Q : Flow → Shared → Prop}
theorem news_swap {h₀ h : Heap} {L : Addr} {a b : List (Addr × Obj)} (N : News h₀ L h (a ++ b)) : News h₀ L h (b ++ a) := fun p hp => N p ((List.mem_append.mp hp).elim (fun q => List.mem_append_right _ q) fun q => List.mem_append_left _ q)
def PairI (ps : List (Int × Int)) (i : Nat) (a b : Value) : Prop := ∃ p ta tb, ps[i]? = some p ∧ a = .int p.1 ta ∧ b = .int p.2 tb
theorem pairs_at {h₀ h : Heap} {L : Addr} {src : List (Addr × Obj)} {vs : Array Value} {ps : List (Int × Int)} (hps : PairsAt src vs.toList ps) (N : News h₀ L h src) {i : Nat} {v : Value} (hv : vs[i]? = some v) : ∃ T a b, v = .ref T ∧ PairI ps i a b ∧ h.IsTuple T #[a, b] := by
  obtain ⟨p, hp, a, t, u, rfl, hm⟩ := hps.at i v (by simpa using hv)
  exact ⟨a, .int p.1 t, .int p.2 u, rfl, ⟨p, t, u, hp, rfl, rfl⟩, _, (N _ hm).1, rfl, _, rfl⟩
theorem pairs_loop {x y : PySem.Str} {px py pt : Pos} {k1 : Nat} {l : Addr} {vs : List Value} {ps : List (Int × Int)} {kl : Nat} {m₀ : PySem.Str → Option Value} (src : List (Addr × Obj)) {nx₀ : List (Addr × Obj)} (J : Nat → (PySem.Str → Option Value) → List (Addr × Obj) → Prop)
    (hh : A.handled = none) (hx : env.kindOf x = some .local) (hy : env.kindOf y = some .local) (hp : (env.scope.kind == .class || (env.scope.kind == .module && env.locals != env.globals)) = false)
    (hl : (l, W.listOf vs.toArray kl) ∈ src) (hps : PairsAt src vs ps) (F : Fr h₀ env.locals s.heap m₀) (N : News h₀ env.locals s.heap (nx₀ ++ src)) (hsn : ∀ p ∈ nx₀, ∀ q ∈ src, p.1 ≠ q.1) (h0 : J 0 m₀ nx₀)
    (turn : ∀ i a b ta tb m₁ nx h tk I oI, ps[i]? = some (a, b) → J i m₁ nx → (∀ p ∈ nx, p.1 ≠ I) → (∀ p ∈ nx, ∀ q ∈ src, p.1 ≠ q.1) → (∀ q ∈ src, q.1 ≠ I) → Fr h₀ env.locals h (fun z => if z = y then some (.int b tb) else if z = x then some (.int a ta) else m₁ z) → News h₀ env.locals h ((I, oI) :: (nx ++ src)) →
      wpAny (model prog w) A (execs body env) (TPost h₀ env.locals ((I, oI) :: src) (J (i + 1)) { s with heap := h, toks := tk } Q) E { s with heap := h, toks := tk })
    (done : ∀ h' tk m' nx, J ps.length m' nx → Fr h₀ env.locals h' m' → News h₀ env.locals h' (nx ++ src) → (∀ p ∈ nx, ∀ q ∈ src, p.1 ≠ q.1) → Q .next { s with heap := h', toks := tk })
    (hE : PassesOwn (model prog w) A env E) :
    wpAny (model prog w) A (pyIter (.ref l)) (fun it s₂ => codeAny (model prog w) A (.forLoop (.Tuple [.Name x px, .Name y py] k1 pt) it body [] env) (fun r s' => match r with | .ok f => Q f s' | .error e => cameBackBy (model prog w) A env E e s') s₂) E s := by
  have hlen := hps.length
  refine list_pairs src J (PairI ps) hh hx hy hp (Or.inr ⟨_, hl, rfl, _, rfl⟩ : LCg.SrcAt h₀ l vs.toArray src) F (news_swap N) hsn h0 (fun i v m₁ nx h hv _ _ N' => pairs_at (by simpa using hps) (fun p hp => N' p (List.mem_append_left _ hp)) hv) ?_ ?_ hE
  · rintro i a b m₁ nx h tk I oI hi ⟨p, ta, tb, hp, rfl, rfl⟩ hJ o1 o2 o3 F1 N1
    exact turn i p.1 p.2 ta tb m₁ nx h tk I oI hp hJ o1 o2 o3 F1 fun q hq => N1 q ((List.mem_cons.mp hq).elim (fun e => e ▸ List.mem_cons_self ..) fun z => List.mem_cons_of_mem _ ((List.mem_append.mp z).elim (fun q => List.mem_append_right _ q) fun q => List.mem_append_left _ q))
  · intro h' tk m' nx hJ F1 N1 off
    rw [List.size_toArray, hlen] at hJ
    exact done h' tk m' nx hJ F1 (news_swap N1) off
theorem pairs_loopT {x y : PySem.Str} {px py pt : Pos} {k1 : Nat} {l : Addr} {vs : Array Value} {ps : List (Int × Int)} {kl : Nat} {m₀ : PySem.Str → Option Value} (src : List (Addr × Obj)) {nx₀ : List (Addr × Obj)} (J : Nat → (PySem.Str → Option Value) → List (Addr × Obj) → Prop)
    (hh : A.handled = none) (hx : env.kindOf x = some .local) (hy : env.kindOf y = some .local) (hp : (env.scope.kind == .class || (env.scope.kind == .module && env.locals != env.globals)) = false)
    (hl : (l, ({ cls := .type "tuple", data := .seq vs kl } : Obj)) ∈ src) (hps : PairsAt src vs.toList ps) (F : Fr h₀ env.locals s.heap m₀) (N : News h₀ env.locals s.heap (nx₀ ++ src)) (hsn : ∀ p ∈ nx₀, ∀ q ∈ src, p.1 ≠ q.1) (h0 : J 0 m₀ nx₀)
    (turn : ∀ i a b ta tb m₁ nx h tk I oI, ps[i]? = some (a, b) → J i m₁ nx → (∀ p ∈ nx, p.1 ≠ I) → (∀ p ∈ nx, ∀ q ∈ src, p.1 ≠ q.1) → (∀ q ∈ src, q.1 ≠ I) → Fr h₀ env.locals h (fun z => if z = y then some (.int b tb) else if z = x then some (.int a ta) else m₁ z) → News h₀ env.locals h ((I, oI) :: (nx ++ src)) →
      wpAny (model prog w) A (execs body env) (TPost h₀ env.locals ((I, oI) :: src) (J (i + 1)) { s with heap := h, toks := tk } Q) E { s with heap := h, toks := tk })
    (done : ∀ h' tk m' nx, J ps.length m' nx → Fr h₀ env.locals h' m' → News h₀ env.locals h' (nx ++ src) → (∀ p ∈ nx, ∀ q ∈ src, p.1 ≠ q.1) → Q .next { s with heap := h', toks := tk })
    (hE : PassesOwn (model prog w) A env E) :
    wpAny (model prog w) A (pyIter (.ref l)) (fun it s₂ => codeAny (model prog w) A (.forLoop (.Tuple [.Name x px, .Name y py] k1 pt) it body [] env) (fun r s' => match r with | .ok f => Q f s' | .error e => cameBackBy (model prog w) A env E e s') s₂) E s := by
  have hlen := hps.length
  refine tuple_pairs src J (PairI ps) hh hx hy hp (Or.inr ⟨_, hl, rfl, _, rfl⟩ : SrcT h₀ l vs src) F (news_swap N) hsn h0 (fun i v m₁ nx h hv _ _ N' => pairs_at hps (fun p hp => N' p (List.mem_append_left _ hp)) hv) ?_ ?_ hE
  · rintro i a b m₁ nx h tk I oI hi ⟨p, ta, tb, hp, rfl, rfl⟩ hJ o1 o2 o3 F1 N1
    exact turn i p.1 p.2 ta tb m₁ nx h tk I oI hp hJ o1 o2 o3 F1 fun q hq => N1 q ((List.mem_cons.mp hq).elim (fun e => e ▸ List.mem_cons_self ..) fun z => List.mem_cons_of_mem _ ((List.mem_append.mp z).elim (fun q => List.mem_append_right _ q) fun q => List.mem_append_left _ q))
  · intro h' tk m' nx hJ F1 N1 off
    rw [show vs.size = ps.length by rw [← hlen, Array.length_toList]] at hJ
    exact done h' tk m' nx hJ F1 (news_swap N1) off
theorem pairs_loopM {x y : PySem.Str} {px py pt : Pos} {k1 : Nat} {l : Addr} {vs : List Value} {ps : List (Int × Int)} {kl : Nat} {m₀ : PySem.Str → Option Value} (src : List (Addr × Obj)) {nx₀ : List (Addr × Obj)} (J : Nat → (PySem.Str → Option Value) → List (Addr × Obj) → (PySem.Str → Option Value) → List (Addr × Obj) → Prop)
    (hh : A.handled = none) (hx : env.kindOf x = some .local) (hy : env.kindOf y = some .local) (hp : (env.scope.kind == .class || (env.scope.kind == .module && env.locals != env.globals)) = false)
    (hl : (l, W.listOf vs.toArray kl) ∈ src) (hps : PairsAt src vs ps) (F : Fr h₀ env.locals s.heap m₀) (N : News h₀ env.locals s.heap (nx₀ ++ src)) (hsn : ∀ p ∈ nx₀, ∀ q ∈ src, p.1 ≠ q.1) (h0 : J 0 m₀ nx₀ m₀ nx₀)
    (turn : ∀ i a b ta tb m₁ nx h tk I oI, ps[i]? = some (a, b) → J i m₀ nx₀ m₁ nx → (∀ p ∈ nx, p.1 ≠ I) → (∀ p ∈ nx, ∀ q ∈ src, p.1 ≠ q.1) → (∀ q ∈ src, q.1 ≠ I) → Fr h₀ env.locals h (fun z => if z = y then some (.int b tb) else if z = x then some (.int a ta) else m₁ z) → News h₀ env.locals h ((I, oI) :: (nx ++ src)) →
      wpAny (model prog w) A (execs body env) (TPost h₀ env.locals ((I, oI) :: src) (J (i + 1) m₀ nx₀) { s with heap := h, toks := tk } Q) E { s with heap := h, toks := tk })
    (done : ∀ h' tk m' nx, J ps.length m₀ nx₀ m' nx → Fr h₀ env.locals h' m' → News h₀ env.locals h' (nx ++ src) → (∀ p ∈ nx, ∀ q ∈ src, p.1 ≠ q.1) → Q .next { s with heap := h', toks := tk })
    (hE : PassesOwn (model prog w) A env E) :
    wpAny (model prog w) A (pyIter (.ref l)) (fun it s₂ => codeAny (model prog w) A (.forLoop (.Tuple [.Name x px, .Name y py] k1 pt) it body [] env) (fun r s' => match r with | .ok f => Q f s' | .error e => cameBackBy (model prog w) A env E e s') s₂) E s :=
  pairs_loop src (fun i m nx => J i m₀ nx₀ m nx) hh hx hy hp hl hps F N hsn h0 turn done hE
theorem pairs_loopTM {x y : PySem.Str} {px py pt : Pos} {k1 : Nat} {l : Addr} {vs : Array Value} {ps : List (Int × Int)} {kl : Nat} {m₀ : PySem.Str → Option Value} (src : List (Addr × Obj)) {nx₀ : List (Addr × Obj)} (J : Nat → (PySem.Str → Option Value) → List (Addr × Obj) → (PySem.Str → Option Value) → List (Addr × Obj) → Prop)
    (hh : A.handled = none) (hx : env.kindOf x = some .local) (hy : env.kindOf y = some .local) (hp : (env.scope.kind == .class || (env.scope.kind == .module && env.locals != env.globals)) = false)
    (hl : (l, ({ cls := .type "tuple", data := .seq vs kl } : Obj)) ∈ src) (hps : PairsAt src vs.toList ps) (F : Fr h₀ env.locals s.heap m₀) (N : News h₀ env.locals s.heap (nx₀ ++ src)) (hsn : ∀ p ∈ nx₀, ∀ q ∈ src, p.1 ≠ q.1) (h0 : J 0 m₀ nx₀ m₀ nx₀)
    (turn : ∀ i a b ta tb m₁ nx h tk I oI, ps[i]? = some (a, b) → J i m₀ nx₀ m₁ nx → (∀ p ∈ nx, p.1 ≠ I) → (∀ p ∈ nx, ∀ q ∈ src, p.1 ≠ q.1) → (∀ q ∈ src, q.1 ≠ I) → Fr h₀ env.locals h (fun z => if z = y then some (.int b tb) else if z = x then some (.int a ta) else m₁ z) → News h₀ env.locals h ((I, oI) :: (nx ++ src)) →
      wpAny (model prog w) A (execs body env) (TPost h₀ env.locals ((I, oI) :: src) (J (i + 1) m₀ nx₀) { s with heap := h, toks := tk } Q) E { s with heap := h, toks := tk })
    (done : ∀ h' tk m' nx, J ps.length m₀ nx₀ m' nx → Fr h₀ env.locals h' m' → News h₀ env.locals h' (nx ++ src) → (∀ p ∈ nx, ∀ q ∈ src, p.1 ≠ q.1) → Q .next { s with heap := h', toks := tk })
    (hE : PassesOwn (model prog w) A env E) :
    wpAny (model prog w) A (pyIter (.ref l)) (fun it s₂ => codeAny (model prog w) A (.forLoop (.Tuple [.Name x px, .Name y py] k1 pt) it body [] env) (fun r s' => match r with | .ok f => Q f s' | .error e => cameBackBy (model prog w) A env E e s') s₂) E s :=
  pairs_loopT src (fun i m nx => J i m₀ nx₀ m nx) hh hx hy hp hl hps F N hsn h0 turn done hE
end
theorem map_four {m₀ m₁ : PySem.Str → Option Value} {a b c d : PySem.Str} (h : ∀ z, z ≠ a → z ≠ b → z ≠ c → z ≠ d → m₁ z = m₀ z) : m₁ = fun z => if z = a then m₁ a else if z = b then m₁ b else if z = c then m₁ c else if z = d then m₁ d else m₀ z := by
  funext z
  split
  · next q => rw [q]
  · next q1 =>
    split
    · next q => rw [q]
    · next q2 =>
      split
      · next q => rw [q]
      · next q3 =>
        split
        · next q => rw [q]
        · next q4 => exact h z q1 q2 q3 q4
theorem TEnd.made {h₀ : Heap} {L : Addr} {news : List (Addr × Obj)} {J : (PySem.Str → Option Value) → List (Addr × Obj) → Prop} {s₁ : Shared} {h' : Heap} {tk : Nat} {m' : PySem.Str → Option Value} {D K I : Addr} {oD oI : Obj} {kvs : List Value} {n : Nat} {big tl : List (Addr × Obj)}
    (F : Fr h₀ L h' m') (N : News h₀ L h' ((D, oD) :: (I, oI) :: (K, W.listOf (kvs ++ [Value.ref D]).toArray n) :: big)) (hb : ∀ q ∈ news, q ∈ big) (ht : ∀ q ∈ tl, q ∈ big)
    (hlt : I < D ∧ K < D ∧ AllLt D big) (hI : ∀ q ∈ big, q.1 ≠ I) (hKI : @Ne Nat K I) (hK : ∀ q ∈ big, @Ne Nat q.1 K) (htn : ∀ p ∈ tl, ∀ q ∈ news, p.1 ≠ q.1)
    (hj : J m' ((K, W.listOf (kvs ++ [Value.ref D]).toArray n) :: (D, oD) :: tl)) : TEnd h₀ L ((I, oI) :: news) J s₁ { s₁ with heap := h', toks := tk } := by
  have hlt' := ktn_ltOf hlt.2.2
  refine TEnd.intro F N _ (fun p hp => ?_) (fun p hp => ?_) (fun p hp q hq => ?_) hj
  · rcases List.mem_cons.mp hp with rfl | hp
    · exact List.mem_cons_of_mem _ (List.mem_cons_self ..)
    · exact List.mem_cons_of_mem _ (List.mem_cons_of_mem _ (List.mem_cons_of_mem _ (hb p hp)))
  · rcases List.mem_cons.mp hp with rfl | hp
    · exact List.mem_cons_of_mem _ (List.mem_cons_of_mem _ (List.mem_cons_self ..))
    · rcases List.mem_cons.mp hp with rfl | hp
      · exact List.mem_cons_self ..
      · exact List.mem_cons_of_mem _ (List.mem_cons_of_mem _ (List.mem_cons_of_mem _ (ht p hp)))
  · rcases List.mem_cons.mp hp with rfl | hp
    · rcases List.mem_cons.mp hq with rfl | hq
      · exact hKI
      · exact Ne.symm (hK q (hb q hq))
    · rcases List.mem_cons.mp hp with rfl | hp
      · rcases List.mem_cons.mp hq with rfl | hq
        · exact Ne.symm (Nat.ne_of_lt hlt.1)
        · exact Ne.symm (Nat.ne_of_lt (hlt' q (hb q hq)))
      · rcases List.mem_cons.mp hq with rfl | hq
        · exact hI p (ht p hp)
        · exact htn p hp q hq
theorem PairsAt.drop {S : Addr} {o : Obj} {r : List (Addr × Obj)} {vs : List Value} {ps : List (Int × Int)} (ho : (o.cls == .type "tuple") = false) (h : PairsAt ((S, o) :: r) vs ps) : PairsAt r vs ps := by
  induction h with
  | nil => exact .nil
  | cons h1 _ ih =>
    obtain ⟨a, t, u, rfl, hm⟩ := h1
    refine .cons ⟨a, t, u, rfl, ?_⟩ ih
    rcases List.mem_cons.mp hm with q | q
    · injection q with q1 q2
      subst q2
      simp [tup2] at ho
    · exact q
theorem news_swap2 {h₀ h : Heap} {L : Addr} {a b : Addr × Obj} {r : List (Addr × Obj)} (N : News h₀ L h (a :: b :: r)) : News h₀ L h (b :: a :: r) := fun p hp => N p (by
  rcases List.mem_cons.mp hp with rfl | hp
  · exact List.mem_cons_of_mem _ (List.mem_cons_self ..)
  · rcases List.mem_cons.mp hp with rfl | hp
    · exact List.mem_cons_self ..
    · exact List.mem_cons_of_mem _ (List.mem_cons_of_mem _ hp))
theorem PairsAt.snoc {news : List (Addr × Obj)} {vs : List Value} {ps : List (Int × Int)} (h : PairsAt news vs ps) : (vs = [] ∧ ps = []) ∨ ∃ vi v pi p, vs = vi ++ [v] ∧ ps = pi ++ [p] ∧ PairsAt news vi pi ∧ PairAt news v p := by
  induction h with
  | nil => exact .inl ⟨rfl, rfl⟩
  | cons h1 h2 ih =>
    right
    rcases ih with ⟨rfl, rfl⟩ | ⟨vi, v, pi, p, rfl, rfl, h3, h4⟩
    · exact ⟨[], _, [], _, rfl, rfl, .nil, h1⟩
    · exact ⟨_ :: vi, v, _ :: pi, p, rfl, rfl, .cons h1 h3, h4⟩
theorem turn_facts {g h : Heap} {L K I : Addr} {oK oI : Obj} {tl src : List (Addr × Obj)} (hs0 : ∀ q ∈ tl, @Ne Nat q.1 K) (o1 : ∀ p ∈ (K, oK) :: tl, p.1 ≠ I) (o2 : ∀ p ∈ (K, oK) :: tl, ∀ q ∈ src, p.1 ≠ q.1) (o3 : ∀ q ∈ src, q.1 ≠ I) (N1 : News g L h ((I, oI) :: ((K, oK) :: tl ++ src))) :
    ∃ big, News g L h ((I, oI) :: (K, oK) :: big) ∧ (∀ q ∈ big, @Ne Nat q.1 K) ∧ @Ne Nat K I ∧ (∀ q ∈ big, q.1 ≠ I) ∧ (∀ q ∈ src, q ∈ big) ∧ (∀ q ∈ tl, q ∈ big) ∧ (∀ p ∈ tl, ∀ q ∈ src, p.1 ≠ q.1) :=
  ⟨tl ++ src, N1, fun q hq => (List.mem_append.mp hq).elim (hs0 q) (fun h => Ne.symm (o2 _ (List.mem_cons_self ..) q h)), o1 _ (List.mem_cons_self ..), fun q hq => (List.mem_append.mp hq).elim (fun h => o1 q (List.mem_cons_of_mem _ h)) (fun h => o3 q h),
    fun q hq => List.mem_append_right tl hq, fun q hq => List.mem_append_left src hq, fun p hp q hq => o2 p (List.mem_cons_of_mem _ hp) q hq⟩
theorem TEnd.same {h₀ : Heap} {L : Addr} {news : List (Addr × Obj)} {J : (PySem.Str → Option Value) → List (Addr × Obj) → Prop} {s₁ : Shared} {h' : Heap} {tk : Nat} {m' : PySem.Str → Option Value} {K I : Addr} {oK oI : Obj} {big tl : List (Addr × Obj)}
    (F : Fr h₀ L h' m') (N : News h₀ L h' ((I, oI) :: (K, oK) :: big)) (hb : ∀ q ∈ news, q ∈ big) (ht : ∀ q ∈ tl, q ∈ big)
    (hI : ∀ q ∈ big, q.1 ≠ I) (hKI : @Ne Nat K I) (hK : ∀ q ∈ big, @Ne Nat q.1 K) (htn : ∀ p ∈ tl, ∀ q ∈ news, p.1 ≠ q.1)
    (hj : J m' ((K, oK) :: tl)) : TEnd h₀ L ((I, oI) :: news) J s₁ { s₁ with heap := h', toks := tk } := by
  refine TEnd.intro F N _ (fun p hp => ?_) (fun p hp => ?_) (fun p hp q hq => ?_) hj
  · rcases List.mem_cons.mp hp with rfl | hp
    · exact List.mem_cons_self ..
    · exact List.mem_cons_of_mem _ (List.mem_cons_of_mem _ (hb p hp))
  · rcases List.mem_cons.mp hp with rfl | hp
    · exact List.mem_cons_of_mem _ (List.mem_cons_self ..)
    · exact List.mem_cons_of_mem _ (List.mem_cons_of_mem _ (ht p hp))
  · rcases List.mem_cons.mp hp with rfl | hp
    · rcases List.mem_cons.mp hq with rfl | hq
      · exact hKI
      · exact Ne.symm (hK q (hb q hq))
    · rcases List.mem_cons.mp hq with rfl | hq
      · exact hI p (ht p hp)
      · exact htn p hp q hq
theorem SpansOk.one {a b : Int} (h0 : 0 ≤ a) (h1 : a ≤ b) (h2 : b ≤ 127) : SpansOk [(a, b)] :=
  ⟨fun p hp => by rw [List.mem_singleton.mp hp]; exact ⟨h0, h1, h2⟩, fun i h => absurd h (by simp)⟩
theorem getD_snoc {pi : List (Int × Int)} {p : Int × Int} {i : Nat} : (pi ++ [p]).getD i (0, 0) = if i < pi.length then pi.getD i (0, 0) else if i = pi.length then p else (0, 0) := by
  simp only [List.getD_eq_getElem?_getD]
  split
  · next h => rw [List.getElem?_append_left h]
  · next h =>
    split
    · next e => subst e; rw [List.getElem?_append_right (Nat.le_refl _)]; simp
    · next e => rw [List.getElem?_append_right (by omega), List.getElem?_eq_none (by simp; omega)]; rfl
theorem SpansOk.push {sps : List (Int × Int)} {a b : Int} (h : SpansOk sps) (h0 : 0 ≤ a) (h1 : a ≤ b) (h2 : b ≤ 127) (hlast : ∀ pi p, sps = pi ++ [p] → p.2 + 1 < a) : SpansOk (sps ++ [(a, b)]) := by
  refine ⟨fun p hp => ?_, fun i hi => ?_⟩
  · rcases List.mem_append.mp hp with hp | hp
    · exact h.rng p hp
    · rw [List.mem_singleton.mp hp]; exact ⟨h0, h1, h2⟩
  · rw [getD_snoc, getD_snoc]
    rw [List.length_append, List.length_singleton] at hi
    by_cases q : i + 1 < sps.length
    · rw [if_pos q, if_pos (by omega)]
      exact h.sep i q
    · rw [if_neg q, if_pos (by omega), if_pos (by omega)]
      have hne : sps ≠ [] := by intro z; subst z; simp at hi
      obtain ⟨pi, p, rfl⟩ : ∃ pi p, sps = pi ++ [p] := ⟨_, _, (List.dropLast_concat_getLast hne).symm⟩
      rw [getD_snoc, if_neg (by simp at hi q; omega), if_pos (by simp at hi q; omega)]
      exact hlast pi p rfl
theorem SpansOk.setLast {pi : List (Int × Int)} {p : Int × Int} {b : Int} (h : SpansOk (pi ++ [p])) (h1 : p.2 ≤ b) (h2 : b ≤ 127) : SpansOk (pi ++ [(p.1, b)]) := by
  have hp := h.rng p (by simp)
  refine ⟨fun q hq => ?_, fun i hi => ?_⟩
  · rcases List.mem_append.mp hq with hq | hq
    · exact h.rng q (List.mem_append_left _ hq)
    · rw [List.mem_singleton.mp hq]; exact ⟨hp.1, by dsimp only; omega, h2⟩
  · have := h.sep i (by simpa using hi)
    rw [getD_snoc, getD_snoc] at this ⊢
    rw [List.length_append, List.length_singleton] at hi
    by_cases q : i + 1 < pi.length
    · rw [if_pos q, if_pos (show i < pi.length by omega)] at this ⊢; exact this
    · rw [if_neg q, if_pos (show i < pi.length by omega), if_pos (show i + 1 = pi.length by omega)] at this ⊢; exact this
section
variable {prog : Program} {w : World} {A : Around} {E : Value → Shared → Prop} {s : Shared} {h₀ : Heap} {L : Addr} {m : PySem.Str → Option Value} {news : List (Addr × Obj)}
theorem my_truthy {l : Addr} {vi : List Value} {v : Value} {Q : Bool → Shared → Prop} (hl : s.heap.IsList l (vi ++ [v]).toArray) (hz : vi.length ≤ 16384) (h : Q true { s with toks := s.toks + 1 + 1 }) : wpAny (model prog w) A (truthy (.ref l)) Q E s := by
  refine wpAny_truthy_list hl (by rw [List.size_toArray, List.length_append, List.length_singleton]; omega) ?_
  rw [show (vi ++ [v]).toArray.isEmpty = false by simp]
  exact h
theorem my_last {value slice : PySem.Expr} {l : Addr} {vi : List Value} {v : Value} {u : Tok} {Q : Value → Shared → Prop} (hl : s.heap.IsList l (vi ++ [v]).toArray) (hz : vi.length ≤ 16384) (h : Q v s)
    (hs : subscripted slice false (.ref l) (.int (-1) u) = operate [.ref l, .int (-1) u] (getItem (.ref l) (.int (-1) u)) := by with_unfolding_all rfl) :
    wpAny (model prog w) A (subscriptTail value slice (.ref l) (.int (-1) u)) Q E s := by
  have hsz : (vi ++ [v]).toArray.size = vi.length + 1 := by simp
  refine tail_any hl.typeIs slot_list_getitem.lookup (wpAny_getItem_list_neg hl (by decide) (by rw [hsz]; omega) (by decide) (x := v) ?_ h) hs
  rw [hsz, show ((-1 : Int) + ((vi.length + 1 : Nat) : Int)).toNat = vi.length by omega]
  simp
theorem my_setlast {D : Addr} {vi : List Value} {v x : Value} {n : Nat} {u : Tok} {g : Obj → List (Addr × Obj)} {Q : Unit → Shared → Prop} (F : Fr h₀ L s.heap m) (N : News h₀ L s.heap news) (U : UpdF D (W.listOf (vi ++ [v]).toArray n) news g) (hz : vi.length ≤ 16384)
    (h : ∀ h' n', Fr h₀ L h' m → News h₀ L h' (g (W.listOf (vi ++ [x]).toArray n')) → Q () { s with heap := h' }) : wpAny (model prog w) A (setItem (.ref D) (.int (-1) u) x) Q E s := by
  obtain ⟨pre, post, rfl, hg, a, b⟩ := U.split
  have z := N (D, W.listOf (vi ++ [v]).toArray n) (List.mem_append.mpr (.inr (.head _)))
  have hsz : (vi ++ [v]).toArray.size = vi.length + 1 := by simp
  refine ki_setBack z.1 (by decide) (by rw [hsz]; omega) (by decide) (h _ n (F.change (Heap.SameBut.update ..) z.2.1 z.2.2) ?_)
  rw [hg]
  refine ki_turn _ N a b ?_ ?_
  · rw [hsz, show ((-1 : Int) + ((vi.length + 1 : Nat) : Int)).toNat = vi.length by omega]
    apply Array.toList_inj.mp
    simp
  · simp
end
theorem done_facts {g h : Heap} {L K : Addr} {oK : Obj} {tl src : List (Addr × Obj)} (N1 : News g L h ((K, oK) :: tl ++ src)) :
    ∃ big, News g L h ((K, oK) :: big) ∧ (∀ q ∈ src, q ∈ big) ∧ (∀ q ∈ tl, q ∈ big) :=
  ⟨tl ++ src, N1, fun q hq => List.mem_append_right tl hq, fun q hq => List.mem_append_left src hq⟩
inductive SetsAt (news : List (Addr × Obj)) : List Value → List (List (Int × Int)) → Prop
  | nil : SetsAt news [] []
  | cons {x sps vs ss} : CsAt news x sps → SetsAt news vs ss → SetsAt news (.ref x :: vs) (sps :: ss)
theorem SetsAt.mono {news news' : List (Addr × Obj)} {vs : List Value} {ss : List (List (Int × Int))} (h : SetsAt news vs ss) (hs : ∀ q ∈ news, q ∈ news') : SetsAt news' vs ss := by
  induction h with
  | nil => exact .nil
  | cons h1 _ ih => exact .cons (h1.mono hs) ih
theorem SetsAt.length {news : List (Addr × Obj)} {vs : List Value} {ss : List (List (Int × Int))} (h : SetsAt news vs ss) : vs.length = ss.length := by
  induction h with
  | nil => rfl
  | cons _ _ ih => simp [ih]
theorem SetsAt.append {news : List (Addr × Obj)} {vs ws : List Value} {ss ts : List (List (Int × Int))} (h : SetsAt news vs ss) (h' : SetsAt news ws ts) : SetsAt news (vs ++ ws) (ss ++ ts) := by
  induction h with
  | nil => exact h'
  | cons h1 _ ih => exact .cons h1 ih
theorem SetsAt.at {news : List (Addr × Obj)} {vs : List Value} {ss : List (List (Int × Int))} (h : SetsAt news vs ss) : ∀ (i : Nat) (v : Value), vs[i]? = some v → ∃ x sps, v = .ref x ∧ ss[i]? = some sps ∧ CsAt news x sps := by
  induction h with
  | nil => intro i v e; simp at e
  | cons h1 _ ih =>
    intro i v e
    cases i with
    | zero => simp at e; subst e; exact ⟨_, _, rfl, by simp, h1⟩
    | succ i => simpa using ih i v (by simpa using e)
section
variable {prog : Program} {w : World} {A : Around} {E : Value → Shared → Prop} {s : Shared} {h₀ : Heap} {L : Addr} {m : PySem.Str → Option Value} {news : List (Addr × Obj)}
theorem my_tuple {l : Addr} {items : Array Value} {Q : Value → Shared → Prop} (F : Fr h₀ L s.heap m) (N : News h₀ L s.heap news) (hl : s.heap.IsList l items) (hz : items.size ≤ 16384)
    (h : ∀ D h', Fr h₀ L h' m → News h₀ L h' ((D, ({ cls := .type "tuple", data := .seq items } : Obj)) :: news) → (∀ q ∈ news, q.1 < D) → Q (.ref D) { s with heap := h' }) :
    wpAny (model prog w) A (call (.type "tuple") [.ref l]) Q E s := by
  refine call_tuple_list hl (fun h' hk => ?_) (by rw [sizeLine_eq]; omega)
  have F' : Fr h₀ L h' m := F.keeps hk
  refine h _ _ (F'.push _) (fun p hp => ?_) fun q hq => Heap.lt_size (hk _ _ (N q hq).1)
  rcases List.mem_cons.mp hp with rfl | hp
  · exact ⟨Heap.get?_push_size _ rfl, Ne.symm (Nat.ne_of_lt F'.ns.lt), next_is_new F'⟩
  · exact ⟨Heap.get?_push_of_some _ (hk _ _ (N p hp).1), (N p hp).2⟩
end
theorem made_fin {h₀ h : Heap} {L x dx tp l : Addr} {q : Int} {t : Tok} {nd k : Nat} {svs : Array Value} {ol : Obj} {big tl news : List (Addr × Obj)} {sps : List (Int × Int)}
    (N : News h₀ L h ((x, instObj 227 dx) :: (dx, dictOf [⟨q, .str (Str.ofString "spans") t, .ref tp⟩] nd) :: (tp, ({ cls := .type "tuple", data := .seq svs k } : Obj)) :: (l, ol) :: big))
    (hd2 : ∀ q ∈ tl, q ∈ big) (hd3 : ∀ q ∈ news, q ∈ big) (hd4 : ∀ p ∈ tl, ∀ q ∈ news, p.1 ≠ q.1) (la : l < tp ∧ AllLt tp big) (lb : tp < dx ∧ l < dx ∧ AllLt dx big) (lc : dx < x)
    (hsv : PairsAt tl svs.toList sps) (hso : SpansOk sps) (hz : sps.length ≤ 64) :
    ∃ ex, News h₀ L h (ex ++ news) ∧ (∀ p ∈ ex, ∀ q ∈ news, @Ne Nat p.1 q.1) ∧ CsAt ex x sps := by
  refine ⟨(x, instObj 227 dx) :: (dx, dictOf [⟨q, .str (Str.ofString "spans") t, .ref tp⟩] nd) :: (tp, ({ cls := .type "tuple", data := .seq svs k } : Obj)) :: tl, fun p hp => N p ?_, fun p hp q hq => ?_,
    ⟨dx, _, _, _, tp, _, svs, List.mem_cons_self .., List.mem_cons_of_mem _ (List.mem_cons_self ..), List.mem_cons_of_mem _ (List.mem_cons_of_mem _ (List.mem_cons_self ..)), hsv.mono fun q hq => List.mem_cons_of_mem _ (List.mem_cons_of_mem _ (List.mem_cons_of_mem _ hq)), hso, hz⟩⟩
  · rcases List.mem_append.mp hp with hp | hp
    · rcases List.mem_cons.mp hp with rfl | hp
      · exact List.mem_cons_self ..
      rcases List.mem_cons.mp hp with rfl | hp
      · exact List.mem_cons_of_mem _ (List.mem_cons_self ..)
      rcases List.mem_cons.mp hp with rfl | hp
      · exact List.mem_cons_of_mem _ (List.mem_cons_of_mem _ (List.mem_cons_self ..))
      · exact List.mem_cons_of_mem _ (List.mem_cons_of_mem _ (List.mem_cons_of_mem _ (List.mem_cons_of_mem _ (hd2 p hp))))
    · exact List.mem_cons_of_mem _ (List.mem_cons_of_mem _ (List.mem_cons_of_mem _ (List.mem_cons_of_mem _ (hd3 p hp))))
  · have q1 : @LT.lt Nat _ q.1 dx := ktn_ltOf lb.2.2 q (hd3 q hq)
    have q2 : @LT.lt Nat _ q.1 tp := ktn_ltOf la.2 q (hd3 q hq)
    rcases List.mem_cons.mp hp with rfl | hp
    · exact Ne.symm (Nat.ne_of_lt (Nat.lt_trans q1 lc))
    rcases List.mem_cons.mp hp with rfl | hp
    · exact Ne.symm (Nat.ne_of_lt q1)
    rcases List.mem_cons.mp hp with rfl | hp
    · exact Ne.symm (Nat.ne_of_lt q2)
    · exact hd4 p hp q hq
theorem off_three {I K d c : Addr} {oK od oc : Obj} {tl : List (Addr × Obj)} (h : ∀ p ∈ (K, oK) :: (d, od) :: (c, oc) :: tl, p.1 ≠ I) : @Ne Nat K I ∧ @Ne Nat d I ∧ @Ne Nat c I ∧ ∀ q ∈ tl, @Ne Nat q.1 I :=
  ⟨h _ (List.mem_cons_self ..), h _ (List.mem_cons_of_mem _ (List.mem_cons_self ..)), h _ (List.mem_cons_of_mem _ (List.mem_cons_of_mem _ (List.mem_cons_self ..))), fun q hq => h q (List.mem_cons_of_mem _ (List.mem_cons_of_mem _ (List.mem_cons_of_mem _ hq)))⟩
theorem off_five {J P I K d c : Addr} {oP oI oK od oc : Obj} {tl : List (Addr × Obj)} (h : ∀ p ∈ (P, oP) :: (I, oI) :: (K, oK) :: (d, od) :: (c, oc) :: tl, p.1 ≠ J) : @Ne Nat P J ∧ @Ne Nat I J ∧ @Ne Nat K J ∧ @Ne Nat d J ∧ @Ne Nat c J ∧ ∀ q ∈ tl, @Ne Nat q.1 J :=
  ⟨h _ (List.mem_cons_self ..), h _ (List.mem_cons_of_mem _ (List.mem_cons_self ..)), off_three fun p hp => h p (List.mem_cons_of_mem _ (List.mem_cons_of_mem _ hp))⟩

theorem TEnd.sets1 {h₀ : Heap} {L : Addr} {J : (PySem.Str → Option Value) → List (Addr × Obj) → Prop} {s₁ : Shared} {h' : Heap} {tk : Nat} {m' : PySem.Str → Option Value} {D I2 P I K d c : Addr} {oD oI2 oP oI oK od oc : Obj} {tl : List (Addr × Obj)}
    (F : Fr h₀ L h' m') (N : News h₀ L h' ((D, oD) :: (I2, oI2) :: (P, oP) :: (I, oI) :: (K, oK) :: (d, od) :: (c, oc) :: tl)) (hlt : I2 < D) (w1 : @Ne Nat P I2) (w2 : @Ne Nat I I2) (w3 : @Ne Nat K I2) (w4 : @Ne Nat d I2) (w5 : @Ne Nat c I2) (w6 : ∀ q ∈ tl, @Ne Nat q.1 I2)
    (hj : J m' ((P, oP) :: (I, oI) :: (K, oK) :: (d, od) :: (c, oc) :: (D, oD) :: tl)) : TEnd h₀ L [(I2, oI2)] J s₁ { s₁ with heap := h', toks := tk } := by
  refine TEnd.intro F N _ (fun p hp => ?_) (fun p hp => ?_) (fun p hp q hq => ?_) hj
  · rw [List.mem_singleton.mp hp]; exact List.mem_cons_of_mem _ (List.mem_cons_self ..)
  · simp only [List.mem_cons] at hp ⊢
    rcases hp with rfl | rfl | rfl | rfl | rfl | rfl | hp
    · exact .inr (.inr (.inl rfl))
    · exact .inr (.inr (.inr (.inl rfl)))
    · exact .inr (.inr (.inr (.inr (.inl rfl))))
    · exact .inr (.inr (.inr (.inr (.inr (.inl rfl)))))
    · exact .inr (.inr (.inr (.inr (.inr (.inr (.inl rfl))))))
    · exact .inl rfl
    · exact .inr (.inr (.inr (.inr (.inr (.inr (.inr hp))))))
  · rw [List.mem_singleton.mp hq]
    simp only [List.mem_cons] at hp
    rcases hp with rfl | rfl | rfl | rfl | rfl | rfl | hp
    · exact w1
    · exact w2
    · exact w3
    · exact w4
    · exact w5
    · exact Ne.symm (Nat.ne_of_lt hlt)
    · exact w6 p hp
theorem CompEnd.sets {h₀ : Heap} {L : Addr} {m : PySem.Str → Option Value} {s₁ : Shared} {J C D : Addr} {oJ oC oD : Obj} {S : List (Addr × Obj) → Prop} {rest : Value → List (Addr × Obj) → Prop} {y : Value} {h' : Heap} {tk : Nat} {X P I K d c : Addr} {oX oP oI oK od oc : Obj} {tl : List (Addr × Obj)}
    (F : Fr h₀ L h' m) (N : News h₀ L h' ((X, oX) :: (J, oJ) :: (C, oC) :: (D, oD) :: (P, oP) :: (I, oI) :: (K, oK) :: (d, od) :: (c, oc) :: tl)) (hoff : LCg.Off3 J C D ((P, oP) :: (I, oI) :: (K, oK) :: (d, od) :: (c, oc) :: tl)) (hlt : J < X ∧ C < X ∧ D < X)
    (hS : S ((P, oP) :: (I, oI) :: (K, oK) :: (d, od) :: (c, oc) :: (X, oX) :: tl)) (r : rest y ((P, oP) :: (I, oI) :: (K, oK) :: (d, od) :: (c, oc) :: (X, oX) :: tl)) :
    LCg.CompEnd h₀ L m s₁ J oJ C oC D oD S rest y { s₁ with heap := h', toks := tk } := by
  obtain ⟨a1, a2, a3, a4, a5, a6⟩ := hoff
  refine LCg.CompEnd.intro F N ((P, oP) :: (I, oI) :: (K, oK) :: (d, od) :: (c, oc) :: (X, oX) :: tl) (fun p hp => ?_) ⟨a1, a2, a3, a4, a5, ⟨Ne.symm (Nat.ne_of_lt hlt.1), Ne.symm (Nat.ne_of_lt hlt.2.1), Ne.symm (Nat.ne_of_lt hlt.2.2)⟩, a6⟩ hS r
  simp only [List.mem_cons] at hp ⊢
  rcases hp with rfl | rfl | rfl | rfl | rfl | rfl | rfl | rfl | rfl | hp
  · exact .inr (.inl rfl)
  · exact .inr (.inr (.inl rfl))
  · exact .inr (.inr (.inr (.inl rfl)))
  · exact .inr (.inr (.inr (.inr (.inl rfl))))
  · exact .inr (.inr (.inr (.inr (.inr (.inl rfl)))))
  · exact .inr (.inr (.inr (.inr (.inr (.inr (.inl rfl))))))
  · exact .inr (.inr (.inr (.inr (.inr (.inr (.inr (.inl rfl)))))))
  · exact .inr (.inr (.inr (.inr (.inr (.inr (.inr (.inr (.inl rfl))))))))
  · exact .inl rfl
  · exact .inr (.inr (.inr (.inr (.inr (.inr (.inr (.inr (.inr hp))))))))
theorem sets_canon {h₀ h : Heap} {L D P I K d c : Addr} {oD oP oI oK od oc : Obj} {tl ex : List (Addr × Obj)} (N : News h₀ L h (ex ++ ((D, oD) :: (P, oP) :: (I, oI) :: (K, oK) :: (d, od) :: (c, oc) :: tl)))
    (fr : ∀ p ∈ ex, ∀ q ∈ (D, oD) :: (P, oP) :: (I, oI) :: (K, oK) :: (d, od) :: (c, oc) :: tl, @Ne Nat p.1 q.1) (ho : ∀ q ∈ tl, @Ne Nat q.1 P ∧ @Ne Nat q.1 I ∧ @Ne Nat q.1 K ∧ @Ne Nat q.1 d ∧ @Ne Nat q.1 c) :
    ∃ tl4, News h₀ L h ((I, oI) :: (K, oK) :: (d, od) :: (c, oc) :: tl4) ∧ (∀ q ∈ tl, q ∈ tl4) ∧ (∀ q ∈ ex, q ∈ tl4) ∧ (∀ q ∈ tl4, @Ne Nat q.1 I) ∧ (∀ q ∈ tl4, @Ne Nat q.1 K) ∧ (∀ q ∈ tl4, @Ne Nat q.1 d) ∧ (∀ q ∈ tl4, @Ne Nat q.1 c) := by
  have mI : (I, oI) ∈ (D, oD) :: (P, oP) :: (I, oI) :: (K, oK) :: (d, od) :: (c, oc) :: tl := List.mem_cons_of_mem _ (List.mem_cons_of_mem _ (List.mem_cons_self ..))
  have mK : (K, oK) ∈ (D, oD) :: (P, oP) :: (I, oI) :: (K, oK) :: (d, od) :: (c, oc) :: tl := List.mem_cons_of_mem _ (List.mem_cons_of_mem _ (List.mem_cons_of_mem _ (List.mem_cons_self ..)))
  have md : (d, od) ∈ (D, oD) :: (P, oP) :: (I, oI) :: (K, oK) :: (d, od) :: (c, oc) :: tl := List.mem_cons_of_mem _ (List.mem_cons_of_mem _ (List.mem_cons_of_mem _ (List.mem_cons_of_mem _ (List.mem_cons_self ..))))
  have mc : (c, oc) ∈ (D, oD) :: (P, oP) :: (I, oI) :: (K, oK) :: (d, od) :: (c, oc) :: tl := List.mem_cons_of_mem _ (List.mem_cons_of_mem _ (List.mem_cons_of_mem _ (List.mem_cons_of_mem _ (List.mem_cons_of_mem _ (List.mem_cons_self ..)))))
  have mt : ∀ q ∈ tl, q ∈ (D, oD) :: (P, oP) :: (I, oI) :: (K, oK) :: (d, od) :: (c, oc) :: tl := fun q hq => List.mem_cons_of_mem _ (List.mem_cons_of_mem _ (List.mem_cons_of_mem _ (List.mem_cons_of_mem _ (List.mem_cons_of_mem _ (List.mem_cons_of_mem _ hq)))))
  refine ⟨ex ++ tl, fun p hp => N p ?_, fun q hq => List.mem_append_right _ hq, fun q hq => List.mem_append_left _ hq, fun q hq => ?_, fun q hq => ?_, fun q hq => ?_, fun q hq => ?_⟩
  · rcases List.mem_cons.mp hp with rfl | hp
    · exact List.mem_append_right _ mI
    rcases List.mem_cons.mp hp with rfl | hp
    · exact List.mem_append_right _ mK
    rcases List.mem_cons.mp hp with rfl | hp
    · exact List.mem_append_right _ md
    rcases List.mem_cons.mp hp with rfl | hp
    · exact List.mem_append_right _ mc
    rcases List.mem_append.mp hp with hp | hp
    · exact List.mem_append_left _ hp
    · exact List.mem_append_right _ (mt p hp)
  · exact (List.mem_append.mp hq).elim (fun h => fr q h _ mI) fun h => (ho q h).2.1
  · exact (List.mem_append.mp hq).elim (fun h => fr q h _ mK) fun h => (ho q h).2.2.1
  · exact (List.mem_append.mp hq).elim (fun h => fr q h _ md) fun h => (ho q h).2.2.2.1
  · exact (List.mem_append.mp hq).elim (fun h => fr q h _ mc) fun h => (ho q h).2.2.2.2
theorem TEnd.sets2 {h₀ : Heap} {L : Addr} {J : (PySem.Str → Option Value) → List (Addr × Obj) → Prop} {s₁ : Shared} {h' : Heap} {tk : Nat} {m' : PySem.Str → Option Value} {I K d c : Addr} {oI oK od oc : Obj} {tl : List (Addr × Obj)}
    (F : Fr h₀ L h' m') (N : News h₀ L h' ((I, oI) :: (K, oK) :: (d, od) :: (c, oc) :: tl)) (w3 : @Ne Nat K I) (w4 : @Ne Nat d I) (w5 : @Ne Nat c I) (w6 : ∀ q ∈ tl, @Ne Nat q.1 I)
    (hj : J m' ((K, oK) :: (d, od) :: (c, oc) :: tl)) : TEnd h₀ L [(I, oI)] J s₁ { s₁ with heap := h', toks := tk } := by
  refine TEnd.intro F N _ (fun p hp => ?_) (fun p hp => List.mem_cons_of_mem _ hp) (fun p hp q hq => ?_) hj
  · rw [List.mem_singleton.mp hp]; exact List.mem_cons_self ..
  · rw [List.mem_singleton.mp hq]
    simp only [List.mem_cons] at hp
    rcases hp with rfl | rfl | rfl | hp
    · exact w3
    · exact w4
    · exact w5
    · exact w6 p hp
theorem news_rot3 {h₀ h : Heap} {L : Addr} {a b c : Addr × Obj} {r : List (Addr × Obj)} (N : News h₀ L h (a :: b :: c :: r)) : News h₀ L h (b :: c :: a :: r) := fun p hp => N p (by
  simp only [List.mem_cons] at hp ⊢
  rcases hp with rfl | rfl | rfl | hp
  · exact .inr (.inl rfl)
  · exact .inr (.inr (.inl rfl))
  · exact .inl rfl
  · exact .inr (.inr (.inr hp)))

section
variable {prog : Program} {w : World} {A : Around} {E : Value → Shared → Prop} {s : Shared} {h₀ : Heap} {L : Addr} {m : PySem.Str → Option Value} {env : Env}
theorem compRestP_inv {elt : PySem.Expr} {x x₂ : PySem.Str} {scope : Scope} {cl : List (PySem.Str × Addr)} {S : List (Addr × Obj) → Prop} {Fin : List Value → List (Addr × Obj) → Prop} {its : Array Value} {ps : List (Int × Int)}
    (J : Nat → List Value → List (Addr × Obj) → Prop) (hJ : ∀ i ys nx, J i ys nx → PairsAt nx its.toList ps)
    (turn : ∀ i a b ta tb ys nx I oI C oC D m₂ h tk (E' : Value → Shared → Prop), ps[i]? = some (a, b) → J i ys nx → LCg.NsObj oC m₂ → m₂ x = some (.int a ta) → m₂ x₂ = some (.int b tb) → Fr h₀ L h m → News h₀ L h ((I, oI) :: (C, oC) :: (D, LCg.lst ys) :: nx) → LCg.Off3 I C D nx → ((@Ne Nat I C) ∧ (@Ne Nat I D) ∧ (@Ne Nat C D)) →
      wpAny (model prog w) A (eval elt (compEnvC scope cl C env)) (LCg.CompEnd h₀ L m { s with heap := h, toks := tk } I oI C oC D (LCg.lst ys) S (fun y news' => J (i + 1) (ys ++ [y]) news')) E' { s with heap := h, toks := tk })
    (fin : ∀ ys nx, J its.size ys nx → Fin ys nx) : ∀ (d i : Nat) (ys : List Value) (nx : List (Addr × Obj)), i + d = its.size → J i ys nx → LCp.CompRestP prog w A h₀ L m env elt x x₂ scope cl s S (fun i v => its[i]? = some v) Fin d i ys nx := by
  intro d
  induction d with
  | zero =>
    intro i ys nx hi hj
    have e : i = its.size := by omega
    subst e
    exact LCp.CompRestP.zero (fin ys nx hj)
  | succ d ih =>
    intro i ys nx hi hj
    refine LCp.CompRestP.succ ?_
    intro v hv
    obtain ⟨⟨a, b⟩, hp, t, ta, tb, rfl, hm⟩ := (hJ i ys nx hj).at i v (by simpa using hv)
    refine ⟨t, _, .int a ta, .int b tb, _, rfl, hm, rfl, rfl, ?_⟩
    intro I oI C oC D m₂ h tk E' hC h1 h2 F N off ne
    refine wpAny_mono (turn i a b ta tb ys nx I oI C oC D m₂ h tk E' hp hj hC h1 h2 F N off ne) (fun y s₂ hy => ?_) fun _ _ e => e
    obtain ⟨h', tk', nx', e, F', N', off', hS, hJ'⟩ := hy
    exact ⟨h', tk', nx', e, F', N', off', hS, ih (i + 1) _ nx' (by omega) hJ'⟩
end

theorem bitXor_pow {v : Int} {P : Nat} (h0 : 0 ≤ v) (h : v < 2 ^ P) : Builtin.bitXor v (2 ^ P) = v + 2 ^ P := by
  have hp : (0 : Int) < 2 ^ P := Int.pow_pos (by decide)
  obtain ⟨n, rfl⟩ := Int.eq_ofNat_of_zero_le h0
  have hn : n < 2 ^ P := by
    have : ((n : Int)) < ((2 ^ P : Nat) : Int) := by push_cast; exact h
    exact Int.ofNat_lt.mp this
  have e2 : ((2 : Int) ^ P) = ((2 ^ P : Nat) : Int) := by push_cast; rfl
  have hand : n &&& 2 ^ P = 0 := by
    apply Nat.eq_of_testBit_eq
    intro i
    rw [Nat.testBit_and, Nat.testBit_two_pow, Nat.zero_testBit]
    by_cases q : P = i
    · subst q; rw [Nat.testBit_lt_two_pow hn]; rfl
    · simp [q]
  rw [bitXor_and, bitAnd_pp h0 (Int.le_of_lt hp), e2]
  simp only [Int.toNat_natCast]
  rw [hand]
  simp
def storedI (tv : List (Int × Int)) (k v : Int) : List (Int × Int) := if tv.any (fun p => p.1 = k) then tv.map (fun p => if p.1 = k then (p.1, v) else p) else tv ++ [(k, v)]
def lookI (tv : List (Int × Int)) (k : Int) : Option Int := (tv.find? fun p => p.1 = k).map (·.2)
inductive KvI : List (Int × Value) → List (Int × Int) → Prop
  | nil : KvI [] []
  | cons {k n : Int} {t : Tok} {kvs tv} : KvI kvs tv → KvI ((k, .int n t) :: kvs) ((k, n) :: tv)
theorem KvI.length {kvs : List (Int × Value)} {tv : List (Int × Int)} (h : KvI kvs tv) : kvs.length = tv.length := by
  induction h with
  | nil => rfl
  | cons _ ih => simp [ih]
theorem KvI.keys {kvs : List (Int × Value)} {tv : List (Int × Int)} (h : KvI kvs tv) : kvs.map (·.1) = tv.map (·.1) := by
  induction h with
  | nil => rfl
  | cons _ ih => simp [ih]
theorem KvI.look {kvs : List (Int × Value)} {tv : List (Int × Int)} (h : KvI kvs tv) (k : Int) : (lookI tv k = none ∧ valueAt kvs k = none) ∨ ∃ n t, lookI tv k = some n ∧ valueAt kvs k = some (.int n t) := by
  induction h with
  | nil => exact .inl ⟨rfl, rfl⟩
  | @cons k' n t kvs tv h ih =>
    by_cases q : k' = k
    · exact .inr ⟨n, t, by simp [lookI, q], by simp [valueAt, q]⟩
    · rcases ih with ⟨a, b⟩ | ⟨n', t', a, b⟩
      · exact .inl ⟨by simpa [lookI, q] using a, by simpa [valueAt, q] using b⟩
      · exact .inr ⟨n', t', by simpa [lookI, q] using a, by simpa [valueAt, q] using b⟩
theorem KvI.any {kvs : List (Int × Value)} {tv : List (Int × Int)} (h : KvI kvs tv) (k : Int) : kvs.any (fun p => p.1 = k) = tv.any (fun p => p.1 = k) := by
  induction h with
  | nil => rfl
  | cons _ ih => simp only [List.any_cons, ih]
theorem KvI.append {kvs kvs' : List (Int × Value)} {tv tv' : List (Int × Int)} (h : KvI kvs tv) (h' : KvI kvs' tv') : KvI (kvs ++ kvs') (tv ++ tv') := by
  induction h with
  | nil => exact h'
  | cons _ ih => exact .cons ih
theorem KvI.put {kvs : List (Int × Value)} {tv : List (Int × Int)} (h : KvI kvs tv) (k n : Int) (t : Tok) : KvI (kvs.map fun kv => if kv.1 = k then (kv.1, .int n t) else kv) (tv.map fun p => if p.1 = k then (p.1, n) else p) := by
  induction h with
  | nil => exact .nil
  | @cons k' n' t' kvs tv h ih =>
    by_cases q : k' = k
    · simp only [List.map_cons, q, if_true]
      exact .cons ih
    · simp only [List.map_cons, q, if_false]
      exact .cons ih
theorem KvI.stored {kvs : List (Int × Value)} {tv : List (Int × Int)} (h : KvI kvs tv) (k n : Int) (t : Tok) : KvI (PySem.stored kvs k (.int n t)) (storedI tv k n) := by
  unfold PySem.stored storedI
  rw [h.any k]
  split
  · exact h.put k n t
  · exact h.append (.cons .nil)
theorem storedI_mem {tv : List (Int × Int)} {k v : Int} {p : Int × Int} (h : p ∈ storedI tv k v) : p = (k, v) ∨ (p ∈ tv ∧ p.1 ≠ k) := by
  unfold storedI at h
  split at h
  · obtain ⟨q, hq, rfl⟩ := List.mem_map.mp h
    by_cases e : q.1 = k
    · left; simp [e]
    · right; simp [e, hq]
  · next hn =>
    rcases List.mem_append.mp h with h | h
    · right
      refine ⟨h, fun e => hn ?_⟩
      exact List.any_eq_true.mpr ⟨p, h, by simp [e]⟩
    · left; exact List.mem_singleton.mp h
theorem storedI_old {tv : List (Int × Int)} {k v : Int} {p : Int × Int} (h : p ∈ tv) (hk : p.1 ≠ k) : p ∈ storedI tv k v := by
  unfold storedI
  split
  · exact List.mem_map.mpr ⟨p, h, by simp [hk]⟩
  · exact List.mem_append_left _ h
theorem storedI_new (tv : List (Int × Int)) (k v : Int) : (k, v) ∈ storedI tv k v := by
  unfold storedI
  split
  · next h =>
    obtain ⟨p, hp, e⟩ := List.any_eq_true.mp h
    have e : p.1 = k := by simpa using e
    exact List.mem_map.mpr ⟨p, hp, by simp [e]⟩
  · simp
theorem storedI_len (tv : List (Int × Int)) (k v : Int) : (storedI tv k v).length ≤ tv.length + 1 := by
  unfold storedI
  split <;> simp
theorem lookI_mem {tv : List (Int × Int)} {k n : Int} (h : lookI tv k = some n) : (k, n) ∈ tv := by
  unfold lookI at h
  obtain ⟨p, hp, e⟩ := Option.map_eq_some_iff.mp h
  have h1 := List.find?_some hp
  have h2 := List.mem_of_find?_eq_some hp
  have h1 : p.1 = k := by simpa using h1
  have : p = (k, n) := by cases p; simp at h1 e; simp [h1, e]
  rw [← this]; exact h2
theorem lookI_none {tv : List (Int × Int)} {k : Int} (h : lookI tv k = none) : ∀ p ∈ tv, p.1 ≠ k := by
  unfold lookI at h
  have := Option.map_eq_none_iff.mp h
  intro p hp e
  have := List.find?_eq_none.mp this p hp
  simp [e] at this
/-- the turns, while a set is laid in: `P` sets before it, its spans below `f` laid -/
structure TInv (tv : List (Int × Int)) (P : Nat) (f : Int) : Prop where
  keys : ∀ p ∈ tv, 0 ≤ p.1 ∧ p.1 ≤ 127
  vals : ∀ p ∈ tv, 0 ≤ p.2 ∧ p.2 < 2 ^ (P + 1)
  nz : ∀ p ∈ tv, p.1 ≠ 0 → p.2 ≠ 0
  low : ∀ p ∈ tv, f ≤ p.1 → p.2 < 2 ^ P
  zero : ∃ v, (0, v) ∈ tv
theorem TInv.start {tv : List (Int × Int)} {P : Nat} (h : TInv tv P 0) : ∀ p ∈ tv, p.2 < 2 ^ P := fun p hp => h.low p hp (h.keys p hp).1
theorem TInv.toggle {tv : List (Int × Int)} {P : Nat} {f c v : Int} (h : TInv tv P f) (hc : f ≤ c) (h0 : 0 ≤ c) (h1 : c ≤ 127) (hv : v = (lookI tv c).getD 0) : TInv (storedI tv c (Builtin.bitXor v (2 ^ P))) P (c + 1) := by
  have hp : (0 : Int) < 2 ^ P := Int.pow_pos (by decide)
  have hpp : (2 : Int) ^ (P + 1) = 2 ^ P + 2 ^ P := by rw [Int.pow_succ]; omega
  have hvb : 0 ≤ v ∧ v < 2 ^ P := by
    cases q : lookI tv c with
    | none => rw [q] at hv; subst hv; exact ⟨Int.le_refl _, hp⟩
    | some n =>
      rw [q] at hv
      have hm := lookI_mem q
      subst hv
      exact ⟨(h.vals _ hm).1, h.low _ hm hc⟩
  rw [bitXor_pow hvb.1 hvb.2]
  refine ⟨fun p hq => ?_, fun p hq => ?_, fun p hq hk => ?_, fun p hq hk => ?_, ?_⟩
  · rcases storedI_mem hq with rfl | ⟨hq, -⟩
    · exact ⟨h0, h1⟩
    · exact h.keys p hq
  · rcases storedI_mem hq with rfl | ⟨hq, -⟩
    · dsimp only; omega
    · exact h.vals p hq
  · rcases storedI_mem hq with rfl | ⟨hq, -⟩
    · dsimp only; omega
    · exact h.nz p hq hk
  · rcases storedI_mem hq with rfl | ⟨hq, -⟩
    · dsimp only at hk; omega
    · exact h.low p hq (by omega)
  · obtain ⟨z, hz⟩ := h.zero
    by_cases e : c = 0
    · subst e; exact ⟨_, storedI_new _ _ _⟩
    · exact ⟨z, storedI_old hz (by dsimp only; omega)⟩
theorem TInv.mono {tv : List (Int × Int)} {P : Nat} {f f' : Int} (h : TInv tv P f) (hf : f ≤ f') : TInv tv P f' := ⟨h.keys, h.vals, h.nz, fun p hp hk => h.low p hp (by omega), h.zero⟩
theorem TInv.next {tv : List (Int × Int)} {P : Nat} {f : Int} (h : TInv tv P f) : TInv tv (P + 1) 0 := by
  have hp : (0 : Int) < 2 ^ P := Int.pow_pos (by decide)
  have hpp : (2 : Int) ^ (P + 1 + 1) = 2 ^ (P + 1) + 2 ^ (P + 1) := by rw [Int.pow_succ]; omega
  refine ⟨h.keys, fun p hq => ?_, h.nz, fun p hq _ => (h.vals p hq).2, h.zero⟩
  have := h.vals p hq
  omega
theorem TInv.init : TInv [(0, 0)] 0 0 :=
  ⟨fun p hp => by rw [List.mem_singleton.mp hp]; decide, fun p hp => by rw [List.mem_singleton.mp hp]; decide, fun p hp hk => by rw [List.mem_singleton.mp hp] at hk; exact absurd rfl hk, fun p hp _ => by rw [List.mem_singleton.mp hp]; decide, 0, List.mem_singleton.mpr rfl⟩

theorem bitXor_nat (a b : Nat) : Builtin.bitXor (a : Int) (b : Int) = ((a ^^^ b : Nat) : Int) := by
  rw [bitXor_and, bitAnd_pp (Int.natCast_nonneg a) (Int.natCast_nonneg b)]
  simp only [Int.toNat_natCast]
  have h1 := nat_or_add_and (a ^^^ b) (a &&& b)
  have h2 : (a ^^^ b) ||| (a &&& b) = a ||| b := by
    apply Nat.eq_of_testBit_eq
    intro i
    simp only [Nat.testBit_or, Nat.testBit_xor, Nat.testBit_and]
    cases a.testBit i <;> cases b.testBit i <;> rfl
  have h3 : (a ^^^ b) &&& (a &&& b) = 0 := by
    apply Nat.eq_of_testBit_eq
    intro i
    simp only [Nat.testBit_and, Nat.testBit_xor, Nat.zero_testBit]
    cases a.testBit i <;> cases b.testBit i <;> rfl
  have h4 := nat_or_add_and a b
  rw [h2, h3] at h1
  omega
theorem bitXor_nn {a b : Int} (ha : 0 ≤ a) (hb : 0 ≤ b) : 0 ≤ Builtin.bitXor a b := by
  obtain ⟨n, rfl⟩ := Int.eq_ofNat_of_zero_le ha
  obtain ⟨k, rfl⟩ := Int.eq_ofNat_of_zero_le hb
  rw [bitXor_nat]; exact Int.natCast_nonneg _
theorem bitXor_ne {a b : Int} (ha : 0 ≤ a) (hb : 0 ≤ b) (h : b ≠ 0) : Builtin.bitXor a b ≠ a := by
  obtain ⟨n, rfl⟩ := Int.eq_ofNat_of_zero_le ha
  obtain ⟨k, rfl⟩ := Int.eq_ofNat_of_zero_le hb
  rw [bitXor_nat]
  intro e
  have e : n ^^^ k = n := Int.ofNat_inj.mp e
  apply h
  have : n ^^^ (n ^^^ k) = n ^^^ n := by rw [e]
  rw [← Nat.xor_assoc, Nat.xor_self, Nat.zero_xor] at this
  rw [this]; rfl
/-- how many classes stand before place `j` -/
def seenUp (ns : List Int) : Nat → Int
  | 0 => 0
  | j + 1 => max (seenUp ns j) (ns.getD j 0 + 1)
theorem getD_app {ns : List Int} {n : Int} {j : Nat} : (ns ++ [n]).getD j 0 = if j < ns.length then ns.getD j 0 else if j = ns.length then n else 0 := by
  simp only [List.getD_eq_getElem?_getD]
  split
  · next h => rw [List.getElem?_append_left h]
  · next h =>
    split
    · next e => subst e; rw [List.getElem?_append_right (Nat.le_refl _)]; simp
    · next e => rw [List.getElem?_append_right (by omega), List.getElem?_eq_none (by simp; omega)]; rfl
theorem seenUp_app (ns : List Int) (n : Int) : ∀ j, j ≤ ns.length → seenUp (ns ++ [n]) j = seenUp ns j
  | 0, _ => rfl
  | j + 1, h => by
    show max (seenUp (ns ++ [n]) j) ((ns ++ [n]).getD j 0 + 1) = max (seenUp ns j) (ns.getD j 0 + 1)
    rw [seenUp_app ns n j (by omega), getD_app, if_pos (by omega)]
structure NInv (ns : List Int) (kn : List (Int × Int)) (hd : Int) : Prop where
  ix : ∀ (i : Nat) (p : Int × Int), kn[i]? = some p → p.2 = i
  rng : ∀ n ∈ ns, 0 ≤ n ∧ n < kn.length
  cov : ∀ k : Nat, k < kn.length → (k : Int) ∈ ns
  seen : (kn.length : Int) = seenUp ns ns.length
  ord : ∀ j, j < ns.length → ns.getD j 0 ≤ seenUp ns j
  dif : ∀ j, j + 1 < ns.length → ns.getD j 0 ≠ ns.getD (j + 1) 0
  last : ∀ j, j + 1 = ns.length → lookI kn hd = some (ns.getD j 0)
  hd0 : 0 ≤ hd
theorem NInv.init : NInv [] [] 0 := ⟨fun i p h => by simp at h, fun _ h => (nomatch h), fun k h => absurd h (by simp), rfl, fun j h => absurd h (by simp), fun j h => absurd h (by simp), fun j h => absurd h (by simp), Int.le_refl _⟩
theorem lookI_app {kn : List (Int × Int)} {a v : Int} (h : lookI kn a = none) : lookI (kn ++ [(a, v)]) a = some v := by
  unfold lookI at h ⊢
  rw [List.find?_append, Option.map_eq_none_iff.mp h]
  simp
theorem NInv.fresh {ns : List Int} {kn : List (Int × Int)} {hd hd' : Int} (h : NInv ns kn hd) (h0 : 0 ≤ hd') (hn : lookI kn hd' = none) : NInv (ns ++ [(kn.length : Int)]) (kn ++ [(hd', (kn.length : Int))]) hd' := by
  have hs := h.seen
  refine ⟨fun i p hp => ?_, fun n hn => ?_, fun k hk => ?_, ?_, fun j hj => ?_, fun j hj => ?_, fun j hj => ?_, h0⟩
  · by_cases q : i < kn.length
    · rw [List.getElem?_append_left q] at hp; exact h.ix i p hp
    · rw [List.getElem?_append_right (by omega)] at hp
      have : i - kn.length = 0 := by
        by_cases z : i - kn.length = 0
        · exact z
        · rw [List.getElem?_eq_none (by simp; omega)] at hp; cases hp
      rw [this] at hp
      simp at hp
      subst hp
      show (kn.length : Int) = i
      omega
  · rw [List.length_append, List.length_singleton]
    rcases List.mem_append.mp hn with hn | hn
    · have := h.rng n hn; omega
    · rw [List.mem_singleton.mp hn]; omega
  · rw [List.length_append, List.length_singleton] at hk
    by_cases q : k < kn.length
    · exact List.mem_append_left _ (h.cov k q)
    · have : k = kn.length := by omega
      subst this; simp
  · rw [List.length_append, List.length_singleton, List.length_append, List.length_singleton]
    show _ = max (seenUp (ns ++ _) ns.length) ((ns ++ _).getD ns.length 0 + 1)
    rw [seenUp_app _ _ _ (Nat.le_refl _), getD_app, if_neg (Nat.lt_irrefl _), if_pos rfl, ← hs]
    push_cast
    omega
  · rw [List.length_append, List.length_singleton] at hj
    rw [getD_app, seenUp_app _ _ _ (by omega)]
    by_cases q : j < ns.length
    · rw [if_pos q]; exact h.ord j q
    · have : j = ns.length := by omega
      subst this
      rw [if_neg (Nat.lt_irrefl _), if_pos rfl, ← hs]
      exact Int.le_refl _
  · rw [List.length_append, List.length_singleton] at hj
    rw [getD_app, getD_app]
    by_cases q : j + 1 < ns.length
    · rw [if_pos (by omega), if_pos q]; exact h.dif j q
    · rw [if_pos (by omega), if_neg q, if_pos (by omega)]
      have := h.rng (ns.getD j 0) (getD_mem (by omega))
      omega
  · rw [List.length_append, List.length_singleton] at hj
    rw [getD_app, if_neg (by omega), if_pos (by omega)]
    exact lookI_app hn
theorem NInv.known {ns : List Int} {kn : List (Int × Int)} {hd hd' n : Int} (h : NInv ns kn hd) (h0 : 0 ≤ hd') (hne : ns ≠ [] → hd' ≠ hd) (hn : lookI kn hd' = some n) : NInv (ns ++ [n]) kn hd' := by
  have hs := h.seen
  have hm := lookI_mem hn
  obtain ⟨i, hi, hie⟩ := List.getElem_of_mem hm
  have hni := h.ix i (hd', n) (by rw [List.getElem?_eq_getElem hi, hie])
  dsimp only at hni
  refine ⟨h.ix, fun k hk => ?_, fun k hk => List.mem_append_left _ (h.cov k hk), ?_, fun j hj => ?_, fun j hj => ?_, fun j hj => ?_, h0⟩
  · rcases List.mem_append.mp hk with hk | hk
    · exact h.rng k hk
    · rw [List.mem_singleton.mp hk]; omega
  · rw [List.length_append, List.length_singleton]
    show _ = max (seenUp (ns ++ _) ns.length) ((ns ++ _).getD ns.length 0 + 1)
    rw [seenUp_app _ _ _ (Nat.le_refl _), getD_app, if_neg (Nat.lt_irrefl _), if_pos rfl, ← hs]
    omega
  · rw [List.length_append, List.length_singleton] at hj
    rw [getD_app, seenUp_app _ _ _ (by omega)]
    by_cases q : j < ns.length
    · rw [if_pos q]; exact h.ord j q
    · have : j = ns.length := by omega
      subst this
      rw [if_neg (Nat.lt_irrefl _), if_pos rfl, ← hs]
      omega
  · rw [List.length_append, List.length_singleton] at hj
    rw [getD_app, getD_app]
    by_cases q : j + 1 < ns.length
    · rw [if_pos (by omega), if_pos q]; exact h.dif j q
    · rw [if_pos (by omega), if_neg q, if_pos (by omega)]
      intro e
      have hl := h.last j (by omega)
      rw [e] at hl
      have hm2 := lookI_mem hl
      obtain ⟨i2, hi2, hie2⟩ := List.getElem_of_mem hm2
      have hni2 := h.ix i2 (hd, n) (by rw [List.getElem?_eq_getElem hi2, hie2])
      dsimp only at hni2
      have : i = i2 := by omega
      subst this
      rw [hie] at hie2
      have : hd' = hd := congrArg Prod.fst hie2
      refine hne ?_ this
      intro z; rw [z] at hj; simp at hj
  · rw [List.length_append, List.length_singleton] at hj
    rw [getD_app, if_neg (by omega), if_pos (by omega)]
    exact hn
theorem seenUp_le {ns : List Int} (h : ∀ j, j < ns.length → ns.getD j 0 ≤ seenUp ns j) : ∀ j, j ≤ ns.length → seenUp ns j ≤ j
  | 0, _ => Int.le_refl _
  | j + 1, hj => by
    have h1 := seenUp_le h j (by omega)
    have h2 := h j (by omega)
    show max (seenUp ns j) (ns.getD j 0 + 1) ≤ _
    push_cast
    omega
theorem pair_getD {bs : List Int} (hs : bs.Pairwise (· ≤ ·)) (hnd : bs.Nodup) {i j : Nat} (hij : i < j) (hj : j < bs.length) : bs.getD i 0 < bs.getD j 0 := by
  have h1 := List.pairwise_iff_getElem.mp hs i j (by omega) hj hij
  have h2 := List.pairwise_iff_getElem.mp hnd i j (by omega) hj hij
  have e1 : bs.getD i 0 = bs[i] := by rw [List.getD_eq_getElem?_getD, List.getElem?_eq_getElem (by omega)]; rfl
  have e2 : bs.getD j 0 = bs[j] := by rw [List.getD_eq_getElem?_getD, List.getElem?_eq_getElem hj]; rfl
  rw [e1, e2]
  exact Int.lt_iff_le_and_ne.mpr ⟨h1, h2⟩
theorem ClsOk.make {bs ns : List Int} {kn : List (Int × Int)} {hd : Int} (hs : bs.Pairwise (· ≤ ·)) (hnd : bs.Nodup) (hr : ∀ b ∈ bs, 0 ≤ b ∧ b ≤ 127) (h0 : (0 : Int) ∈ bs) (hl : bs.length ≤ 63) (hn : NInv ns kn hd) (he : ns.length = bs.length) : ClsOk bs ns (kn.length : Int) := by
  have hpos : 0 < bs.length := List.length_pos_of_mem h0
  have hle := seenUp_le hn.ord ns.length (Nat.le_refl _)
  have hs1 := hn.seen
  refine ⟨by omega, hpos, he, ?_, fun j h1 h2 => hr _ (getD_mem (by omega)), fun j h1 h2 => ?_, fun j h1 h2 => hn.rng _ (getD_mem (by omega)), fun k h1 h2 => ?_, ?_, by omega⟩
  · have hm := hr _ (getD_mem hpos)
    obtain ⟨j, hj, e⟩ := mem_getD h0
    by_cases q : j = 0
    · subst q; exact e
    · have := pair_getD hs hnd (i := 0) (j := j) (by omega) hj
      omega
  · have e : (j + 1).toNat = j.toNat + 1 := by omega
    rw [e]
    exact pair_getD hs hnd (by omega) (by omega)
  · obtain ⟨n, rfl⟩ := Int.eq_ofNat_of_zero_le h1
    exact mem_getD (hn.cov n (by omega))
  · have := hn.rng _ (getD_mem (j := 0) (by omega))
    omega
/-- what holds of the data of a Classes object that its __init__ made -/
structure ClsX (bs ns : List Int) (cnt : Int) : Prop where
  ok : ClsOk bs ns cnt
  ord : ∀ j, j < ns.length → ns.getD j 0 ≤ seenUp ns j
  dif : ∀ j, j + 1 < ns.length → ns.getD j 0 ≠ ns.getD (j + 1) 0
  cnt : cnt = seenUp ns ns.length
  l63 : bs.length ≤ 63

section
variable {prog : Program} {w : World} {A : Around} {E : Value → Shared → Prop} {s : Shared} {h₀ : Heap} {L d : Addr} {m : PySem.Str → Option Value} {news : List (Addr × Obj)} {o : Obj} {kvs : List (Int × Value)} {tv : List (Int × Int)} {k v : Int}
/-- a dict of ints by ints -/
def DictI (prog : Program) (w : World) (o : Obj) (tv : List (Int × Int)) : Prop := ∃ kvs, o.IsDictOf (PySem.intKind prog w) kvs ∧ KvI kvs tv
theorem DictI.nodup (h : DictI prog w o tv) : (tv.map (·.1)).Nodup := by
  obtain ⟨kvs, hd, hk⟩ := h
  obtain ⟨es, ep, -, -, -, -, hn⟩ := hd
  rw [← hk.keys]; exact hn
theorem my_getm {pl : Sem Bool} {Q : Value × List Value → Shared → Prop} (N : News h₀ L s.heap news) (hp : (d, o) ∈ news) (hd : DictI prog w o tv) (h : Q (.builtin "dict.get", [.ref d]) s) : wpAny (model prog w) A (getMethod (.ref d) (Str.ofString "get") pl) Q E s := by
  obtain ⟨kvs, hd, hk⟩ := hd
  exact kdg_method (knd := PySem.intKind _ _) N hp hd h
theorem my_get {t u : Tok} {Q : Value → Shared → Prop} (N : News h₀ L s.heap news) (hp : (d, o) ∈ news) (hd : DictI prog w o tv) (lo : (d == sysModules) = false) (h : ∀ t, Q (.int ((lookI tv k).getD 0) t) { s with toks := s.toks + 1 }) :
    wpAny (model prog w) A (call (.builtin "dict.get") [.ref d, .int k t, .int 0 u]) Q E s := by
  obtain ⟨kvs, hd, hk⟩ := hd
  rcases hk.look k with ⟨a, b⟩ | ⟨n, t', a, b⟩
  · refine kdg_get2 (knd := PySem.intKind _ _) N hp hd lo (intKind_is _ _ _ _) none b ?_
    rw [a] at h
    exact h u
  · refine kdg_get2 (knd := PySem.intKind _ _) N hp hd lo (intKind_is _ _ _ _) (some _) b ?_
    rw [a] at h
    exact h t'
theorem my_item {value slice : PySem.Expr} {t : Tok} {n : Int} {Q : Value → Shared → Prop} (N : News h₀ L s.heap news) (hp : (d, o) ∈ news) (hd : DictI prog w o tv) (hl : lookI tv k = some n) (h : ∀ t, Q (.int n t) { s with toks := s.toks + 1 })
    (hs : subscripted slice false (.ref d) (.int k t) = operate [.ref d, .int k t] (getItem (.ref d) (.int k t)) := by with_unfolding_all rfl) (hg : ∀ r, letTemporaryGo value (.ref d) r = pure () := by intro _; with_unfolding_all rfl) :
    wpAny (model prog w) A (subscriptTail value slice (.ref d) (.int k t)) Q E s := by
  obtain ⟨kvs, hd, hk⟩ := hd
  rcases hk.look k with ⟨a, b⟩ | ⟨n', t', a, b⟩
  · rw [a] at hl; cases hl
  · rw [a] at hl; cases hl
    exact kda_item (knd := PySem.intKind _ _) N hp hd (intKind_is _ _ _ _) b (h t') hs hg
theorem my_set {t u : Tok} {g : Obj → List (Addr × Obj)} {Q : Unit → Shared → Prop} (F : Fr h₀ L s.heap m) (N : News h₀ L s.heap news) (U : UpdF d o news g) (hd : DictI prog w o tv) (hz : tv.length ≤ 10000)
    (h : ∀ h' o', Fr h₀ L h' m → News h₀ L h' (g o') → DictI prog w o' (storedI tv k v) → Q () { s with heap := h', toks := s.toks + 1 }) : wpAny (model prog w) A (setItem (.ref d) (.int k t) (.int v u)) Q E s := by
  obtain ⟨kvs, hd, hk⟩ := hd
  exact kda_set (knd := PySem.intKind _ _) F N U hd (intKind_is _ _ _ _) (by rw [sizeLine_eq, hk.length]; omega) fun h' o' F' N' hd' => h h' o' F' N' ⟨_, hd', hk.stored k v u⟩
theorem my_notin {t : Tok} {Q : Value → Shared → Prop} (N : News h₀ L s.heap news) (hp : (d, o) ∈ news) (hd : DictI prog w o tv) (lo : (d == sysModules) = false) (h1 : lookI tv k = none → Q (.bool true) { s with toks := s.toks + 1 }) (h2 : ∀ n, lookI tv k = some n → Q (.bool false) { s with toks := s.toks + 1 }) :
    wpAny (model prog w) A (compareOp .NotIn (.int k t) (.ref d)) Q E s := by
  obtain ⟨kvs, hd, hk⟩ := hd
  rcases hk.look k with ⟨a, b⟩ | ⟨n, t', a, b⟩
  · exact kdg_notin (knd := PySem.intKind _ _) N hp hd lo (intKind_is _ _ _ _) false (by rw [b]; rfl) (h1 a)
  · exact kdg_notin (knd := PySem.intKind _ _) N hp hd lo (intKind_is _ _ _ _) true (by rw [b]; rfl) (h2 n a)
theorem my_lenD {Q : Value → Shared → Prop} (N : News h₀ L s.heap news) (hp : (d, o) ∈ news) (hd : DictI prog w o tv) (lo : (d == sysModules) = false) (hz : tv.length ≤ 10000) (h : ∀ t, Q (.int (tv.length : Int) t) { s with toks := s.toks + 1 + 1 }) :
    wpAny (model prog w) A (call (.builtin "len") [.ref d]) Q E s := by
  obtain ⟨kvs, hd, hk⟩ := hd
  have hl := hk.length
  refine kda_len (knd := PySem.intKind _ _) N hp hd lo (by omega) ?_
  rw [hl]
  exact h _
theorem my_shl {i : Nat} {t u : Tok} {Q : Value → Shared → Prop} (hi : i ≤ 64) (h : ∀ t, Q (.int (2 ^ i) t) { s with toks := s.toks + 1 }) : wpAny (model prog w) A (binaryOp .LShift (.int 1 t) (.int (0 + (i : Int)) u)) Q E s := by
  refine lshift_int (by omega) ?_ ?_
  · have : Builtin.Int.intBits 1 = 1 := by decide
    rw [this]; omega
  · have e : (1 : Int) * 2 ^ (0 + (i : Int)).toNat = 2 ^ i := by rw [Int.one_mul]; congr 1; omega
    rw [e]
    exact h _
theorem my_lenV {l : Addr} {vs : List Value} {kl : Nat} {Q : Value → Shared → Prop} (N : News h₀ L s.heap news) (hl : (l, W.listOf vs.toArray kl) ∈ news) (hz : vs.length ≤ 16384)
    (h : Q (.int (vs.length : Int) (s.toks + 1)) { s with toks := s.toks + 1 + 1 }) : wpAny (model prog w) A (call (.builtin "len") [.ref l]) Q E s :=
  kun_lenL (N.isList hl) (by rw [List.size_toArray]) (by omega) h
theorem my_pick {value slice : PySem.Expr} {l : Addr} {vs : List Value} {kl i : Nat} {u : Tok} {x : Value} {Q : Value → Shared → Prop} (N : News h₀ L s.heap news) (hl : (l, W.listOf vs.toArray kl) ∈ news) (hx : vs[i]? = some x) (hz : i ≤ 16384) (h : Q x s)
    (hs : subscripted slice false (.ref l) (.int (0 + (i : Int)) u) = operate [.ref l, .int (0 + (i : Int)) u] (getItem (.ref l) (.int (0 + (i : Int)) u)) := by with_unfolding_all rfl) :
    wpAny (model prog w) A (subscriptTail value slice (.ref l) (.int (0 + (i : Int)) u)) Q E s := by
  have hL := N.isList hl
  refine tail_any hL.typeIs slot_list_getitem.lookup (wpAny_getItem_list hL (by omega) (by omega) (x := x) ?_ h) hs
  rw [show (0 + (i : Int)).toNat = i by omega]
  simpa using hx
end
def lensUp (sss : List (List (Int × Int))) (i : Nat) : Nat := ((sss.take i).map (·.length)).sum
theorem lensUp_succ {sss : List (List (Int × Int))} {i : Nat} {sps : List (Int × Int)} (h : sss[i]? = some sps) : lensUp sss (i + 1) = lensUp sss i + sps.length := by
  unfold lensUp
  rw [List.take_add_one, h]
  simp
theorem lensUp_le (sss : List (List (Int × Int))) (i : Nat) : lensUp sss i ≤ (sss.map (·.length)).sum := by
  unfold lensUp
  have e : sss.map (·.length) = (sss.take i).map (·.length) ++ (sss.drop i).map (·.length) := by rw [← List.map_append, List.take_append_drop]
  rw [e, List.sum_append]
  omega
theorem news_mid {h₀ h : Heap} {L : Addr} {a b : Addr × Obj} {r : List (Addr × Obj)} (N : News h₀ L h (a :: b :: r)) : News h₀ L h ([b] ++ (a :: r)) := news_swap2 N
theorem off_T {T I x d I2 : Addr} {oT oI ox od : Obj} {news : List (Addr × Obj)} (o1 : ∀ p ∈ [(T, oT)], p.1 ≠ I2) (o2 : ∀ p ∈ [(T, oT)], ∀ q ∈ (I, oI) :: (x, ox) :: (d, od) :: news, p.1 ≠ q.1) :
    @Ne Nat T I2 ∧ @Ne Nat T I ∧ @Ne Nat T x ∧ @Ne Nat T d ∧ ∀ q ∈ news, @Ne Nat q.1 T :=
  ⟨o1 _ (List.mem_singleton.mpr rfl), o2 _ (List.mem_singleton.mpr rfl) _ (List.mem_cons_self ..), o2 _ (List.mem_singleton.mpr rfl) _ (List.mem_cons_of_mem _ (List.mem_cons_self ..)), o2 _ (List.mem_singleton.mpr rfl) _ (List.mem_cons_of_mem _ (List.mem_cons_of_mem _ (List.mem_cons_self ..))),
    fun q hq => Ne.symm (o2 _ (List.mem_singleton.mpr rfl) q (List.mem_cons_of_mem _ (List.mem_cons_of_mem _ (List.mem_cons_of_mem _ hq))))⟩
theorem SpansOk.next {sps : List (Int × Int)} (h : SpansOk sps) {j : Nat} {a b : Int} {p : Int × Int} (hj : sps[j]? = some (a, b)) (hp : sps[j + 1]? = some p) : b + 1 < p.1 := by
  obtain ⟨hl, -⟩ := List.getElem?_eq_some_iff.mp hp
  have := h.sep j hl
  rw [List.getD_eq_getElem?_getD, List.getD_eq_getElem?_getD, hj, hp] at this
  exact this
theorem TEnd.turn {h₀ : Heap} {L : Addr} {J : (PySem.Str → Option Value) → List (Addr × Obj) → Prop} {s₁ : Shared} {h' : Heap} {tk : Nat} {m' : PySem.Str → Option Value} {T I2 : Addr} {oT oI2 : Obj} {rest : List (Addr × Obj)}
    (F : Fr h₀ L h' m') (N : News h₀ L h' ((I2, oI2) :: (T, oT) :: rest)) (h1 : @Ne Nat T I2) (h2 : ∀ q ∈ rest, @Ne Nat T q.1) (hj : J m' [(T, oT)]) : TEnd h₀ L ((I2, oI2) :: rest) J s₁ { s₁ with heap := h', toks := tk } := by
  refine TEnd.intro F N _ (fun p hp => ?_) (fun p hp => ?_) (fun p hp q hq => ?_) hj
  · rcases List.mem_cons.mp hp with rfl | hp
    · exact List.mem_cons_self ..
    · exact List.mem_cons_of_mem _ (List.mem_cons_of_mem _ hp)
  · rw [List.mem_singleton.mp hp]; exact List.mem_cons_of_mem _ (List.mem_cons_self ..)
  · rw [List.mem_singleton.mp hp]
    rcases List.mem_cons.mp hq with rfl | hq
    · exact h1
    · exact h2 q hq

theorem sortedHeap_old {h : Heap} {a b : Addr} {vs : List Value} {out : Array Value} {o : Obj} (hb : b ≠ a) (e : h.get? b = some o) : (sortedHeap h a vs out).get? b = some o := by
  unfold sortedHeap
  rw [Heap.get?_update_other _ _ (Ne.symm hb)]
  refine Heap.get?_push_of_some _ (Heap.get?_push_of_some _ ?_)
  rw [Heap.get?_update_other _ _ (Ne.symm hb)]
  exact e
theorem sortedHeap_at {h : Heap} {a : Addr} {vs : List Value} {xs out : Array Value} {n : Nat} (ho : h.get? a = some (seqObj "list" xs n)) : ∃ c, (sortedHeap h a vs out).get? a = some (seqObj "list" out c) := by
  have h1 := get?_update_seq ho fun _ => (#[] : Array Value)
  have h2 := Heap.get?_push_of_some (seqObj "list" #[] 0) (Heap.get?_push_of_some (seqObj "tuple" vs.toArray 0) h1)
  exact ⟨_, get?_update_seq h2 fun _ => out⟩
section
variable {prog : Program} {w : World} {A : Around} {E : Value → Shared → Prop} {s : Shared} {h₀ : Heap} {L d : Addr} {m : PySem.Str → Option Value} {news : List (Addr × Obj)} {o : Obj} {tv : List (Int × Int)}
theorem my_lsort {B : Addr} {vs : List Value} {ns : List Int} {n : Nat} {Q : Value → Shared → Prop} (F : Fr h₀ L s.heap m) (N : News h₀ L s.heap ((B, W.listOf vs.toArray n) :: news)) (hoff : ∀ q ∈ news, q.1 ≠ B) (hi : IntsAre vs ns) (h64 : ns.length < 64)
    (h : ∀ h' vs' ns' c, Fr h₀ L h' m → News h₀ L h' ((B, W.listOf vs'.toArray c) :: news) → IntsAre vs' ns' → ns'.Perm ns → ns'.Pairwise (· ≤ ·) → Q .none { s with heap := h' }) :
    wpAny (model prog w) A (call (.builtin "list.sort") [.ref B]) Q E s := by
  have hB := N _ (List.mem_cons_self ..)
  refine wpAny_call_entry slot_list_sort ⟨_, hB.1, rfl⟩ entry_list_sort ?_ (args_list_sort _)
  refine list_sort_tree hB.1 hi (by rw [hi.length]; exact h64) fun out ns' a1 a2 a3 => ?_
  obtain ⟨c, hc⟩ := sortedHeap_at (vs := vs) (out := out) hB.1
  have keep : ∀ b o, b ≠ B → s.heap.get? b = some o → (sortedHeap s.heap B vs out).get? b = some o := fun b o q e => sortedHeap_old q e
  refine ⟨.none, rfl, ?_⟩
  refine (h _ out.toList ns' c ⟨F.ns.at' fun o e => keep _ _ (Ne.symm hB.2.1) e, fun b o e => keep b o (fun q => by rw [q, hB.2.2] at e; cases e) (F.keep b o e), F.above⟩ (fun p hp => ?_) a1 a2 a3)
  rcases List.mem_cons.mp hp with rfl | hp
  · exact ⟨hc, hB.2⟩
  · have z := N p (List.mem_cons_of_mem _ hp)
    exact ⟨keep _ _ (hoff p hp) z.1, z.2⟩
theorem my_keysm {pl : Sem Bool} {Q : Value × List Value → Shared → Prop} (N : News h₀ L s.heap news) (hp : (d, o) ∈ news) (hd : DictI prog w o tv) (h : Q (.builtin "dict.keys", [.ref d]) s) : wpAny (model prog w) A (getMethod (.ref d) (Str.ofString "keys") pl) Q E s := by
  obtain ⟨kvs, hd, hk⟩ := hd
  exact kdl_method (knd := PySem.intKind _ _) PySem.F.slot_dict_keys PySem.F.type_dict_keys N hp hd h
theorem my_keys {Q : Value → Shared → Prop} (F : Fr h₀ L s.heap m) (N : News h₀ L s.heap news) (hp : (d, o) ∈ news) (hd : DictI prog w o tv) (lo : (d == sysModules) = false)
    (h : ∀ (D : Addr) h', Fr h₀ L h' m → News h₀ L h' ((D, { cls := .type "dict_keys", data := .fields #[.ref d] }) :: news) → (∀ q ∈ news, q.1 < D) → Q (.ref D) { s with heap := h' }) :
    wpAny (model prog w) A (call (.builtin "dict.keys") [.ref d]) Q E s := by
  obtain ⟨kvs, hd, hk⟩ := hd
  exact kdl_view_keys (knd := PySem.intKind _ _) F N hp hd lo h
theorem ints_of : ∀ {vs : List Value} {ks : List Int}, vs.length = ks.length → (∀ (j : Nat) (v : Value), vs[j]? = some v → ∃ k t, ks[j]? = some k ∧ v = .int k t) → IntsAre vs ks
  | [], [], _, _ => .nil
  | [], _ :: _, e, _ => by cases e
  | _ :: _, [], e, _ => by cases e
  | v :: vs, k :: ks, e, h => by
    obtain ⟨k', t, h1, rfl⟩ := h 0 v rfl
    simp at h1
    subst h1
    exact .cons _ _ (ints_of (by simpa using e) fun j v hv => by simpa using h (j + 1) v (by simpa using hv))
theorem my_sortk {vw : Addr} {Q : Value → Shared → Prop} (hh : A.handled = none) (F : Fr h₀ L s.heap m) (N : News h₀ L s.heap news) (hv : (vw, { cls := .type "dict_keys", data := .fields #[.ref d] }) ∈ news) (hp : (d, o) ∈ news) (hd : DictI prog w o tv) (h64 : tv.length < 64)
    (h : ∀ B h' tk vs' ns' c, Fr h₀ L h' m → News h₀ L h' ((B, W.listOf vs'.toArray c) :: news) → (∀ q ∈ news, q.1 < B) → IntsAre vs' ns' → ns'.Perm (tv.map (·.1)) → ns'.Pairwise (· ≤ ·) → Q (.ref B) { s with heap := h', toks := tk }) :
    wpAny (model prog w) A (call (.builtin "sorted") [.ref vw]) Q E s := by
  obtain ⟨kvs, hd, hk⟩ := hd
  have hlen := hk.length
  have hD := kda_dict N hp hd
  obtain ⟨ep, hat⟩ := hD.dictAt
  refine kdu_sorted (kdl_keys (knd := PySem.intKind _ _) (kvs := kvs) (ep := ep)) hh F N ⟨⟨_, (N _ hv).1, rfl, rfl⟩, hat⟩ (by rw [sizeLine_eq]; omega) fun B h' tk vs F' N' l1 hl hvs => ?_
  have hI : IntsAre vs (tv.map (·.1)) := ints_of (by rw [hl, List.length_map, hlen]) fun j v hj => by
    obtain ⟨k, x, h1, h2⟩ := hvs j v hj
    obtain ⟨t, rfl⟩ := Value.isInt_shape h2
    refine ⟨k, t, ?_, rfl⟩
    rw [← hk.keys, List.getElem?_map, h1]; rfl
  exact my_lsort F' N' (fun q hq => Nat.ne_of_lt (l1 q hq)) hI (by rw [List.length_map]; exact h64) fun h2 vs' ns' c F2 N2 a1 a2 a3 => h B h2 tk vs' ns' c F2 N2 l1 a1 a2 a3
end
theorem storedI_none {tv : List (Int × Int)} {k v : Int} (h : lookI tv k = none) : storedI tv k v = tv ++ [(k, v)] := by
  unfold storedI
  rw [if_neg]
  intro z
  obtain ⟨p, hp, e⟩ := List.any_eq_true.mp z
  exact lookI_none h p hp (by simpa using e)
theorem lookI_stored {tv : List (Int × Int)} {k v : Int} (h : lookI tv k = none) : lookI (storedI tv k v) k = some v := by
  rw [storedI_none h]
  exact lookI_app h
theorem lookI_of {tv : List (Int × Int)} {k : Int} (h : k ∈ tv.map (·.1)) : ∃ n, lookI tv k = some n := by
  cases e : lookI tv k with
  | some n => exact ⟨n, rfl⟩
  | none =>
    obtain ⟨p, hp, q⟩ := List.mem_map.mp h
    exact absurd q (lookI_none e p hp)
section
variable {prog : Program} {w : World} {A : Around} {E : Value → Shared → Prop} {s : Shared} {env : Env} {h₀ : Heap} {body : List Stmt} {Q : Flow → Shared → Prop}
theorem list_loopM {x : PySem.Str} {px : Pos} {l : Addr} {items : Array Value} {m₀ : PySem.Str → Option Value} (src : List (Addr × Obj)) {nx₀ : List (Addr × Obj)} (J : Nat → (PySem.Str → Option Value) → List (Addr × Obj) → (PySem.Str → Option Value) → List (Addr × Obj) → Prop)
    (hh : A.handled = none) (hx : env.kindOf x = some .local) (hp : (env.scope.kind == .class || (env.scope.kind == .module && env.locals != env.globals)) = false)
    (hsrc : LCg.SrcAt h₀ l items src) (F : Fr h₀ env.locals s.heap m₀) (N : News h₀ env.locals s.heap (src ++ nx₀)) (hsn : ∀ p ∈ nx₀, ∀ q ∈ src, p.1 ≠ q.1) (h0 : J 0 m₀ nx₀ m₀ nx₀)
    (turn : ∀ i v m₁ nx h tk I oI, items[i]? = some v → J i m₀ nx₀ m₁ nx → (∀ p ∈ nx, p.1 ≠ I) → (∀ p ∈ nx, ∀ q ∈ src, p.1 ≠ q.1) → (∀ q ∈ src, q.1 ≠ I) → Fr h₀ env.locals h (fun y => if y = x then some v else m₁ y) → News h₀ env.locals h ((I, oI) :: (src ++ nx)) →
      wpAny (model prog w) A (execs body env) (TPost h₀ env.locals ((I, oI) :: src) (J (i + 1) m₀ nx₀) { s with heap := h, toks := tk } Q) E { s with heap := h, toks := tk })
    (done : ∀ h' tk m' nx, J items.size m₀ nx₀ m' nx → Fr h₀ env.locals h' m' → News h₀ env.locals h' (src ++ nx) → (∀ p ∈ nx, ∀ q ∈ src, p.1 ≠ q.1) → Q .next { s with heap := h', toks := tk })
    (hE : PassesOwn (model prog w) A env E) :
    wpAny (model prog w) A (pyIter (.ref l)) (fun it s₂ => codeAny (model prog w) A (.forLoop (.Name x px) it body [] env) (fun r s' => match r with | .ok f => Q f s' | .error e => cameBackBy (model prog w) A env E e s') s₂) E s :=
  list_loop src (fun i m nx => J i m₀ nx₀ m nx) hh hx hp hsrc F N hsn h0 turn done hE
end


-- the rows of pairs that from_bounds lays out
inductive RowsAt (tl : List (Addr × Obj)) : List (Addr × Obj) → List Value → List (List (Int × Int)) → Prop
  | nil : RowsAt tl [] [] []
  | cons {P k pv ps rl vs pss} : PairsAt tl pv ps → (1 ≤ ps.length) → (∀ p ∈ ps, 0 ≤ p.1 ∧ p.1 ≤ p.2 ∧ p.2 ≤ 127) → RowsAt tl rl vs pss → RowsAt tl ((P, W.listOf pv.toArray k) :: rl) (.ref P :: vs) (ps :: pss)
theorem RowsAt.mono {tl tl' rl : List (Addr × Obj)} {vs : List Value} {pss : List (List (Int × Int))} (h : RowsAt tl rl vs pss) (hs : ∀ q ∈ tl, q ∈ tl') : RowsAt tl' rl vs pss := by
  induction h with
  | nil => exact .nil
  | cons h1 h2 h3 _ ih => exact .cons (h1.mono hs) h2 h3 ih
theorem RowsAt.length {tl rl : List (Addr × Obj)} {vs : List Value} {pss : List (List (Int × Int))} (h : RowsAt tl rl vs pss) : vs.length = pss.length := by
  induction h with
  | nil => rfl
  | cons _ _ _ _ ih => simp [ih]
theorem RowsAt.append {tl rl rl' : List (Addr × Obj)} {vs vs' : List Value} {pss pss' : List (List (Int × Int))} (h : RowsAt tl rl vs pss) (h' : RowsAt tl rl' vs' pss') : RowsAt tl (rl ++ rl') (vs ++ vs') (pss ++ pss') := by
  induction h with
  | nil => exact h'
  | cons h1 h2 h3 _ ih => exact .cons h1 h2 h3 ih
def lens (pss : List (List (Int × Int))) : Nat := (pss.map (·.length)).sum
theorem lens_append (a b : List (List (Int × Int))) : lens (a ++ b) = lens a + lens b := by unfold lens; rw [List.map_append, List.sum_append]
theorem lens_cons (a : List (Int × Int)) (b : List (List (Int × Int))) : lens (a :: b) = a.length + lens b := by unfold lens; simp
/-- a row is picked: what its place says -/
theorem RowsAt.split {tl rl : List (Addr × Obj)} {vs : List Value} {pss : List (List (Int × Int))} (h : RowsAt tl rl vs pss) : ∀ i, i < vs.length →
    ∃ P k pv ps ra rb, vs[i]? = some (.ref P) ∧ rl = ra ++ (P, W.listOf pv.toArray k) :: rb ∧ PairsAt tl pv ps ∧ ps.length ≤ lens pss ∧
      ∀ (tl' : List (Addr × Obj)) (pv' : List Value) (k' : Nat) (p : Int × Int), (∀ q ∈ tl, q ∈ tl') → PairsAt tl' pv' (ps ++ [p]) → (0 ≤ p.1 ∧ p.1 ≤ p.2 ∧ p.2 ≤ 127) →
        ∃ pss', RowsAt tl' (ra ++ (P, W.listOf pv'.toArray k') :: rb) vs pss' ∧ pss'.length = pss.length ∧ lens pss' = lens pss + 1 := by
  induction h with
  | nil => intro i h; exact absurd h (by simp)
  | @cons P k pv ps rl vs pss h1 h2 h3 h4 ih =>
    intro i hi
    cases i with
    | zero =>
      refine ⟨P, k, pv, ps, [], rl, rfl, rfl, h1, by rw [lens_cons]; omega, fun tl' pv' k' p hs hp hr => ⟨(ps ++ [p]) :: pss, .cons hp (by simp) (fun q hq => ?_) (h4.mono hs), by simp, by rw [lens_cons, lens_cons, List.length_append, List.length_singleton]; omega⟩⟩
      rcases List.mem_append.mp hq with hq | hq
      · exact h3 q hq
      · rw [List.mem_singleton.mp hq]; exact hr
    | succ i =>
      obtain ⟨P', k2, pv2, ps2, ra, rb, e1, e2, e3, e4, e5⟩ := ih i (by simpa using hi)
      refine ⟨P', k2, pv2, ps2, (P, W.listOf pv.toArray k) :: ra, rb, by simpa using e1, by rw [e2]; rfl, e3, by rw [lens_cons]; omega, fun tl' pv' k' p hs hp hr => ?_⟩
      obtain ⟨pss', f1, f2, f3⟩ := e5 tl' pv' k' p hs hp hr
      exact ⟨ps :: pss', .cons (h1.mono hs) h2 h3 f1, by simp [f2], by rw [lens_cons, lens_cons]; omega⟩
theorem RowsAt.at {tl rl : List (Addr × Obj)} {vs : List Value} {pss : List (List (Int × Int))} (h : RowsAt tl rl vs pss) : ∀ i v, vs[i]? = some v →
    ∃ P k pv ps, v = .ref P ∧ (P, W.listOf pv.toArray k) ∈ rl ∧ PairsAt tl pv ps ∧ 1 ≤ ps.length ∧ (∀ p ∈ ps, 0 ≤ p.1 ∧ p.1 ≤ p.2 ∧ p.2 ≤ 127) ∧ lens (pss.take (i + 1)) = lens (pss.take i) + ps.length ∧ ps.length ≤ lens pss := by
  induction h with
  | nil => intro i v e; simp at e
  | @cons P k pv ps rl vs pss h1 h2 h3 h4 ih =>
    intro i v e
    cases i with
    | zero => simp at e; subst e; exact ⟨P, k, pv, ps, rfl, List.mem_cons_self .., h1, h2, h3, by simp [lens], by rw [lens_cons]; omega⟩
    | succ i =>
      obtain ⟨P', k', pv', ps', e1, e2, e3, e4, e5, e6, e7⟩ := ih i v (by simpa using e)
      refine ⟨P', k', pv', ps', e1, List.mem_cons_of_mem _ e2, e3, e4, e5, ?_, by rw [lens_cons]; omega⟩
      rw [List.take_succ_cons, List.take_succ_cons, lens_cons, lens_cons, e6]
      omega
structure RowsOff (R : Addr) (rl tl : List (Addr × Obj)) : Prop where
  r1 : ∀ q ∈ rl, @Ne Nat q.1 R
  r2 : ∀ q ∈ tl, @Ne Nat q.1 R
  pw : rl.Pairwise fun a b => @Ne Nat a.1 b.1
  rt : ∀ r ∈ rl, ∀ q ∈ tl, @Ne Nat r.1 q.1
theorem RowsOff.big {R P : Addr} {o : Obj} {ra rb tl : List (Addr × Obj)} (h : RowsOff R (ra ++ (P, o) :: rb) tl) : ∀ q ∈ ra ++ rb ++ tl, @Ne Nat q.1 P := by
  intro q hq
  have hp := List.pairwise_append.mp h.pw
  have hc := List.pairwise_cons.mp hp.2.1
  rcases List.mem_append.mp hq with hq | hq
  · rcases List.mem_append.mp hq with hq | hq
    · exact hp.2.2 q hq _ (List.mem_cons_self ..)
    · exact Ne.symm (hc.1 q hq)
  · exact Ne.symm (h.rt (P, o) (List.mem_append_right _ (List.mem_cons_self ..)) q hq)
theorem RowsOff.set {R P T : Addr} {o o' oT : Obj} {ra rb tl : List (Addr × Obj)} (h : RowsOff R (ra ++ (P, o) :: rb) tl) (hT : @LT.lt Nat _ R T) (hT2 : ∀ q ∈ ra ++ rb ++ tl, @LT.lt Nat _ q.1 T) (hT3 : @LT.lt Nat _ P T) : RowsOff R (ra ++ (P, o') :: rb) ((T, oT) :: tl) := by
  have mem : ∀ q ∈ ra ++ (P, o') :: rb, ∃ o'', (q.1, o'') ∈ ra ++ (P, o) :: rb := fun q hq => by
    rcases List.mem_append.mp hq with hq | hq
    · exact ⟨q.2, List.mem_append_left _ hq⟩
    · rcases List.mem_cons.mp hq with rfl | hq
      · exact ⟨o, List.mem_append_right _ (List.mem_cons_self ..)⟩
      · exact ⟨q.2, List.mem_append_right _ (List.mem_cons_of_mem _ hq)⟩
  have lt : ∀ q ∈ ra ++ (P, o') :: rb, @LT.lt Nat _ q.1 T := fun q hq => by
    rcases List.mem_append.mp hq with hq | hq
    · exact hT2 q (List.mem_append_left _ (List.mem_append_left _ hq))
    · rcases List.mem_cons.mp hq with rfl | hq
      · exact hT3
      · exact hT2 q (List.mem_append_left _ (List.mem_append_right _ hq))
  refine ⟨fun q hq => ?_, fun q hq => ?_, ?_, fun r hr q hq => ?_⟩
  · obtain ⟨o'', hm⟩ := mem q hq; exact h.r1 (q.1, o'') hm
  · rcases List.mem_cons.mp hq with rfl | hq
    · exact Ne.symm (Nat.ne_of_lt hT)
    · exact h.r2 q hq
  · have hp := List.pairwise_append.mp h.pw
    have hc := List.pairwise_cons.mp hp.2.1
    refine List.pairwise_append.mpr ⟨hp.1, List.pairwise_cons.mpr ⟨fun q hq => hc.1 q hq, hc.2⟩, fun a ha b hb => ?_⟩
    rcases List.mem_cons.mp hb with rfl | hb
    · exact hp.2.2 a ha (P, o) (List.mem_cons_self ..)
    · exact hp.2.2 a ha b (List.mem_cons_of_mem _ hb)
  · rcases List.mem_cons.mp hq with rfl | hq
    · exact Nat.ne_of_lt (lt r hr)
    · obtain ⟨o'', hm⟩ := mem r hr; exact h.rt (r.1, o'') hm q hq
theorem RowsOff.push {R D T : Addr} {oD oT : Obj} {rl tl : List (Addr × Obj)} (h : RowsOff R rl tl) (hD : @LT.lt Nat _ R D) (hD2 : ∀ q ∈ rl ++ tl, @LT.lt Nat _ q.1 D) (hDT : @LT.lt Nat _ D T) : RowsOff R (rl ++ [(D, oD)]) ((T, oT) :: tl) := by
  refine ⟨fun q hq => ?_, fun q hq => ?_, ?_, fun r hr q hq => ?_⟩
  · rcases List.mem_append.mp hq with hq | hq
    · exact h.r1 q hq
    · rw [List.mem_singleton.mp hq]; exact Ne.symm (Nat.ne_of_lt hD)
  · rcases List.mem_cons.mp hq with rfl | hq
    · exact Ne.symm (Nat.ne_of_lt (Nat.lt_trans hD hDT))
    · exact h.r2 q hq
  · refine List.pairwise_append.mpr ⟨h.pw, List.pairwise_singleton .., fun a ha b hb => ?_⟩
    rw [List.mem_singleton.mp hb]
    exact Nat.ne_of_lt (hD2 a (List.mem_append_left _ ha))
  · have lt : @LT.lt Nat _ r.1 T := by
      rcases List.mem_append.mp hr with hr | hr
      · exact Nat.lt_trans (hD2 r (List.mem_append_left _ hr)) hDT
      · rw [List.mem_singleton.mp hr]; exact hDT
    rcases List.mem_cons.mp hq with rfl | hq
    · exact Nat.ne_of_lt lt
    · rcases List.mem_append.mp hr with hr | hr
      · exact h.rt r hr q hq
      · rw [List.mem_singleton.mp hr]; exact Ne.symm (Nat.ne_of_lt (hD2 q (List.mem_append_right _ hq)))
section
variable {prog : Program} {w : World} {A : Around} {E : Value → Shared → Prop} {s : Shared} {h₀ : Heap} {L : Addr} {m : PySem.Str → Option Value} {news : List (Addr × Obj)}
theorem my_pickZ {value slice : PySem.Expr} {l : Addr} {vs : List Value} {kl : Nat} {i : Int} {u : Tok} {x : Value} {Q : Value → Shared → Prop} (N : News h₀ L s.heap news) (hl : (l, W.listOf vs.toArray kl) ∈ news) (hx : vs[i.toNat]? = some x) (h0 : 0 ≤ i) (hz : i ≤ 16384) (h : Q x s)
    (hs : subscripted slice false (.ref l) (.int i u) = operate [.ref l, .int i u] (getItem (.ref l) (.int i u)) := by with_unfolding_all rfl) :
    wpAny (model prog w) A (subscriptTail value slice (.ref l) (.int i u)) Q E s := by
  have hL := N.isList hl
  refine tail_any hL.typeIs slot_list_getitem.lookup (wpAny_getItem_list hL h0 (by omega) (x := x) ?_ h) hs
  simpa using hx
theorem my_truthyI {l : Addr} {vs : List Value} {ns : List Int} {Q : Bool → Shared → Prop} (hl : s.heap.IsList l vs.toArray) (hI : IntsAre vs ns) (hp : 0 < ns.length) (hz : ns.length ≤ 16384) (h : Q true { s with toks := s.toks + 1 + 1 }) : wpAny (model prog w) A (truthy (.ref l)) Q E s := by
  have hlen := hI.length
  refine wpAny_truthy_list hl (by rw [List.size_toArray]; omega) ?_
  have e : (!vs.toArray.isEmpty) = true := by
    cases vs with
    | nil => simp at hlen; omega
    | cons => rfl
  rw [e]
  exact h
end
theorem row_last {pvs : List Value} {v : Value} {i : Int} (h : i = (pvs.length : Int)) : (pvs ++ [v])[i.toNat]? = some v := by
  subst h
  rw [Int.toNat_natCast]
  simp
theorem TEnd.rowOld {h₀ : Heap} {L : Addr} {J : (PySem.Str → Option Value) → List (Addr × Obj) → Prop} {s₁ : Shared} {h' : Heap} {tk : Nat} {m' : PySem.Str → Option Value} {T I R P : Addr} {oT oI oR o : Obj} {ra rb tl : List (Addr × Obj)}
    (F : Fr h₀ L h' m') (N : News h₀ L h' ((T, oT) :: (I, oI) :: (R, oR) :: (P, o) :: (ra ++ rb ++ tl))) (hI : @LT.lt Nat _ I T) (hRI : @Ne Nat R I) (hPI : @Ne Nat P I) (hb : ∀ q ∈ ra ++ rb ++ tl, @Ne Nat q.1 I)
    (hj : J m' ((R, oR) :: ((ra ++ (P, o) :: rb) ++ ((T, oT) :: tl)))) : TEnd h₀ L [(I, oI)] J s₁ { s₁ with heap := h', toks := tk } := by
  have mem : ∀ p, p ∈ (R, oR) :: ((ra ++ (P, o) :: rb) ++ ((T, oT) :: tl)) → p = (T, oT) ∨ p = (R, oR) ∨ p = (P, o) ∨ p ∈ ra ++ rb ++ tl := by
    intro p hp
    simp only [List.mem_cons, List.mem_append] at hp ⊢
    rcases hp with h | (h | h | h) | h | h
    · exact .inr (.inl h)
    · exact .inr (.inr (.inr (.inl (.inl h))))
    · exact .inr (.inr (.inl h))
    · exact .inr (.inr (.inr (.inl (.inr h))))
    · exact .inl h
    · exact .inr (.inr (.inr (.inr h)))
  refine TEnd.intro F N _ (fun p hp => ?_) (fun p hp => ?_) (fun p hp q hq => ?_) hj
  · rw [List.mem_singleton.mp hp]; exact List.mem_cons_of_mem _ (List.mem_cons_self ..)
  · rcases mem p hp with rfl | rfl | rfl | h
    · exact List.mem_cons_self ..
    · exact List.mem_cons_of_mem _ (List.mem_cons_of_mem _ (List.mem_cons_self ..))
    · exact List.mem_cons_of_mem _ (List.mem_cons_of_mem _ (List.mem_cons_of_mem _ (List.mem_cons_self ..)))
    · exact List.mem_cons_of_mem _ (List.mem_cons_of_mem _ (List.mem_cons_of_mem _ (List.mem_cons_of_mem _ h)))
  · rw [List.mem_singleton.mp hq]
    rcases mem p hp with rfl | rfl | rfl | h
    · exact Ne.symm (Nat.ne_of_lt hI)
    · exact hRI
    · exact hPI
    · exact hb p h
theorem TEnd.rowNew {h₀ : Heap} {L : Addr} {J : (PySem.Str → Option Value) → List (Addr × Obj) → Prop} {s₁ : Shared} {h' : Heap} {tk : Nat} {m' : PySem.Str → Option Value} {T D I R : Addr} {oT oD oI oR : Obj} {rl tl : List (Addr × Obj)}
    (F : Fr h₀ L h' m') (N : News h₀ L h' ((T, oT) :: (D, oD) :: (I, oI) :: (R, oR) :: (rl ++ tl))) (hI : @LT.lt Nat _ I T) (hID : @LT.lt Nat _ I D) (hRI : @Ne Nat R I) (hb : ∀ q ∈ rl ++ tl, @Ne Nat q.1 I)
    (hj : J m' ((R, oR) :: ((rl ++ [(D, oD)]) ++ ((T, oT) :: tl)))) : TEnd h₀ L [(I, oI)] J s₁ { s₁ with heap := h', toks := tk } := by
  have mem : ∀ p, p ∈ (R, oR) :: ((rl ++ [(D, oD)]) ++ ((T, oT) :: tl)) → p = (T, oT) ∨ p = (D, oD) ∨ p = (R, oR) ∨ p ∈ rl ++ tl := by
    intro p hp
    simp only [List.mem_cons, List.mem_append, List.not_mem_nil, or_false] at hp ⊢
    rcases hp with h | (h | h) | h | h
    · exact .inr (.inr (.inl h))
    · exact .inr (.inr (.inr (.inl h)))
    · exact .inr (.inl h)
    · exact .inl h
    · exact .inr (.inr (.inr (.inr h)))
  refine TEnd.intro F N _ (fun p hp => ?_) (fun p hp => ?_) (fun p hp q hq => ?_) hj
  · rw [List.mem_singleton.mp hp]; exact List.mem_cons_of_mem _ (List.mem_cons_of_mem _ (List.mem_cons_self ..))
  · rcases mem p hp with rfl | rfl | rfl | h
    · exact List.mem_cons_self ..
    · exact List.mem_cons_of_mem _ (List.mem_cons_self ..)
    · exact List.mem_cons_of_mem _ (List.mem_cons_of_mem _ (List.mem_cons_of_mem _ (List.mem_cons_self ..)))
    · exact List.mem_cons_of_mem _ (List.mem_cons_of_mem _ (List.mem_cons_of_mem _ (List.mem_cons_of_mem _ h)))
  · rw [List.mem_singleton.mp hq]
    rcases mem p hp with rfl | rfl | rfl | h
    · exact Ne.symm (Nat.ne_of_lt hI)
    · exact Ne.symm (Nat.ne_of_lt hID)
    · exact hRI
    · exact hb p h
theorem news_row {h₀ h : Heap} {L I R P : Addr} {oI oR o : Obj} {ra rb tl : List (Addr × Obj)} (N : News h₀ L h ((I, oI) :: (R, oR) :: ((ra ++ (P, o) :: rb) ++ tl))) : News h₀ L h ((I, oI) :: (R, oR) :: (P, o) :: (ra ++ rb ++ tl)) := fun p hp => N p (by
  simp only [List.mem_append, List.mem_cons] at hp ⊢
  rcases hp with h | h | h | (h | h) | h
  · exact .inl h
  · exact .inr (.inl h)
  · exact .inr (.inr (.inl (.inr (.inl h))))
  · exact .inr (.inr (.inl (.inl h)))
  · exact .inr (.inr (.inl (.inr (.inr h))))
  · exact .inr (.inr (.inr h)))
theorem TEnd.rowNew2 {h₀ : Heap} {L : Addr} {J : (PySem.Str → Option Value) → List (Addr × Obj) → Prop} {s₁ : Shared} {h' : Heap} {tk : Nat} {m' : PySem.Str → Option Value} {T D I R : Addr} {a b : Int} {t u : Tok} {k : Nat} {oI oR : Obj} {rl tl : List (Addr × Obj)} {pvs : List Value} {pss : List (List (Int × Int))}
    (F : Fr h₀ L h' m') (N : News h₀ L h' ((T, ({ cls := .type "tuple", data := .seq #[.int a t, .int b u] } : Obj)) :: (D, W.listOf (#[].push (Value.ref T)) k) :: (I, oI) :: (R, oR) :: (rl ++ tl))) (hI : @LT.lt Nat _ I T) (hID : @LT.lt Nat _ I D) (hRI : @Ne Nat R I) (hb : ∀ q ∈ rl ++ tl, @Ne Nat q.1 I)
    (hrow : RowsAt tl rl pvs pss) (hr : 0 ≤ a ∧ a ≤ b ∧ b ≤ 127) (hro : RowsOff R rl tl) (hD : @LT.lt Nat _ R D) (hD2 : AllLt D (rl ++ tl)) (hDT : @LT.lt Nat _ D T)
    (hj : ∀ rl' tl' pss' , (∀ q ∈ tl, q ∈ tl') → RowsAt tl' rl' (pvs ++ [Value.ref D]) pss' → lens pss' = lens pss + 1 → RowsOff R rl' tl' → J m' ((R, oR) :: (rl' ++ tl'))) : TEnd h₀ L [(I, oI)] J s₁ { s₁ with heap := h', toks := tk } := by
  refine TEnd.rowNew F N hI hID hRI hb (hj (rl ++ [(D, _)]) ((T, tup2 (a, b) t u) :: tl) (pss ++ [[(a, b)]]) (fun q hq => List.mem_cons_of_mem _ hq) ((hrow.mono fun q hq => List.mem_cons_of_mem _ hq).append (.cons (pv := [.ref T]) (.cons ⟨_, _, _, rfl, List.mem_cons_self ..⟩ .nil) (by simp) (fun p hp => ?_) .nil)) ?_ (hro.push hD (fun q hq => ktn_ltOf hD2 q hq) hDT))
  · rw [List.mem_singleton.mp hp]; exact hr
  · rw [lens_append, lens_cons]; rfl
theorem TEnd.rowOld2 {h₀ : Heap} {L : Addr} {J : (PySem.Str → Option Value) → List (Addr × Obj) → Prop} {s₁ : Shared} {h' : Heap} {tk : Nat} {m' : PySem.Str → Option Value} {T I R P : Addr} {a b : Int} {t u : Tok} {k k' : Nat} {oI oR : Obj} {ra rb tl : List (Addr × Obj)} {pv pvs : List Value} {ps : List (Int × Int)} {pss : List (List (Int × Int))}
    (F : Fr h₀ L h' m') (N : News h₀ L h' ((T, ({ cls := .type "tuple", data := .seq #[.int a t, .int b u] } : Obj)) :: (I, oI) :: (R, oR) :: (P, W.listOf (pv ++ [Value.ref T]).toArray k') :: (ra ++ rb ++ tl))) (hI : @LT.lt Nat _ I T) (hRI : @Ne Nat R I) (hPI : @Ne Nat P I) (hb : ∀ q ∈ ra ++ rb ++ tl, @Ne Nat q.1 I)
    (hpv : PairsAt tl pv ps) (hr : 0 ≤ a ∧ a ≤ b ∧ b ≤ 127) (hro : RowsOff R (ra ++ (P, W.listOf pv.toArray k) :: rb) tl) (hR : @LT.lt Nat _ R T) (hT2 : AllLt T (ra ++ rb ++ tl)) (hP : @LT.lt Nat _ P T)
    (hset : ∀ (tl' : List (Addr × Obj)) (pv' : List Value) (k' : Nat) (p : Int × Int), (∀ q ∈ tl, q ∈ tl') → PairsAt tl' pv' (ps ++ [p]) → (0 ≤ p.1 ∧ p.1 ≤ p.2 ∧ p.2 ≤ 127) → ∃ pss', RowsAt tl' (ra ++ (P, W.listOf pv'.toArray k') :: rb) pvs pss' ∧ pss'.length = pss.length ∧ lens pss' = lens pss + 1)
    (hj : ∀ rl' tl' pss' , (∀ q ∈ tl, q ∈ tl') → RowsAt tl' rl' pvs pss' → lens pss' = lens pss + 1 → RowsOff R rl' tl' → J m' ((R, oR) :: (rl' ++ tl'))) : TEnd h₀ L [(I, oI)] J s₁ { s₁ with heap := h', toks := tk } := by
  obtain ⟨pss', f1, f2, f3⟩ := hset ((T, tup2 (a, b) t u) :: tl) (pv ++ [Value.ref T]) k' (a, b) (fun q hq => List.mem_cons_of_mem _ hq) ((hpv.mono fun q hq => List.mem_cons_of_mem _ hq).append (.cons ⟨_, _, _, rfl, List.mem_cons_self ..⟩ .nil)) hr
  exact TEnd.rowOld F N hI hRI hPI hb (hj _ _ pss' (fun q hq => List.mem_cons_of_mem _ hq) f1 f3 (hro.set hR (fun q hq => ktn_ltOf hT2 q hq) hP))
theorem row_memP {a b c r q : Addr × Obj} {ex rl tl : List (Addr × Obj)} (h : q ∈ rl) : q ∈ a :: b :: c :: (ex ++ r :: (rl ++ tl)) := List.mem_cons_of_mem _ (List.mem_cons_of_mem _ (List.mem_cons_of_mem _ (List.mem_append_right _ (List.mem_cons_of_mem _ (List.mem_append_left _ h)))))
theorem row_memT {a b c r q : Addr × Obj} {ex rl tl : List (Addr × Obj)} (h : q ∈ tl) : q ∈ a :: b :: c :: (ex ++ r :: (rl ++ tl)) := List.mem_cons_of_mem _ (List.mem_cons_of_mem _ (List.mem_cons_of_mem _ (List.mem_append_right _ (List.mem_cons_of_mem _ (List.mem_append_right _ h)))))
theorem row_memN {a r q : Addr × Obj} {ex rl tl : List (Addr × Obj)} (h : q ∈ tl) : q ∈ a :: (ex ++ r :: (rl ++ tl)) := List.mem_cons_of_mem _ (List.mem_append_right _ (List.mem_cons_of_mem _ (List.mem_append_right _ h)))
theorem endOf_le {bs ns : List Int} {cnt : Int} (h : ClsOk bs ns cnt) {j : Nat} (hj : j < bs.length) : endOf bs j ≤ 128 := by
  unfold endOf
  split
  · next h2 => have := h.at (j := j + 1) h2; omega
  · omega
-- the ways of one statement joined: one name set, or nothing changed
section
variable {M : Model} {A : Around} {E : Value → Shared → Prop} {s : Shared} {g : Heap} {L : Addr} {mB : PySem.Str → Option Value} {led : List (Addr × Obj)} {Q : Flow → Shared → Prop} {tree : Sem Flow}
def SetEnd (g : Heap) (L : Addr) (mB : PySem.Str → Option Value) (led : List (Addr × Obj)) (x : PySem.Str) (val : Tok → Value) (s : Shared) (f : Flow) (s' : Shared) : Prop :=
  f = .next ∧ ∃ h' tk m' t, s' = { s with heap := h', toks := tk } ∧ Fr g L h' m' ∧ News g L h' led ∧ (∀ z, z ≠ x → m' z = mB z) ∧ m' x = some (val t)
def SameEnd (g : Heap) (L : Addr) (mB : PySem.Str → Option Value) (led : List (Addr × Obj)) (s : Shared) (f : Flow) (s' : Shared) : Prop :=
  f = .next ∧ ∃ h' tk, s' = { s with heap := h', toks := tk } ∧ Fr g L h' mB ∧ News g L h' led
theorem cut_set (x : PySem.Str) (val : Tok → Value) (_F : Fr g L s.heap mB) (_N : News g L s.heap led) (h1 : wpAny M A tree (SetEnd g L mB led x val s) E s)
    (h2 : ∀ h' tk t, Fr g L h' (fun y => if y = x then some (val t) else mB y) → News g L h' led → Q .next { s with heap := h', toks := tk }) : wpAny M A tree Q E s :=
  wpAny_mono h1 (fun f s' hs => by
    obtain ⟨rfl, h', tk, m', t, rfl, F, N, hz, hx⟩ := hs
    have e : m' = fun y => if y = x then some (val t) else mB y := by
      funext y
      by_cases q : y = x
      · rw [if_pos q, q, hx]
      · rw [if_neg q, hz y q]
    exact h2 h' tk t (e ▸ F) N) fun _ _ e => e
theorem cut_same (_F : Fr g L s.heap mB) (_N : News g L s.heap led) (h1 : wpAny M A tree (SameEnd g L mB led s) E s)
    (h2 : ∀ h' tk, Fr g L h' mB → News g L h' led → Q .next { s with heap := h', toks := tk }) : wpAny M A tree Q E s :=
  wpAny_mono h1 (fun f s' hs => by
    obtain ⟨rfl, h', tk, rfl, F, N⟩ := hs
    exact h2 h' tk F N) fun _ _ e => e
end


-- the row of first codes
def firstsUp (tab : List Int) (n : Nat) : List Int := (List.range n).map fun (i : Nat) => ((tab.idxOf (i : Int) : Nat) : Int)
theorem firstsUp_succ (tab : List Int) (n : Nat) : firstsUp tab (n + 1) = firstsUp tab n ++ [((tab.idxOf (n : Int) : Nat) : Int)] := by
  unfold firstsUp
  rw [List.range_succ, List.map_append]; rfl
theorem firstsUp_len (tab : List Int) (n : Nat) : (firstsUp tab n).length = n := by unfold firstsUp; simp
theorem tab_mem {bs ns : List Int} {k : Int} : ∀ {i : Nat}, k ∈ tabUp bs ns i → ∃ j, j < i ∧ ns.getD j 0 = k
  | 0, h => by simp [tabUp] at h
  | i + 1, h => by
    rcases List.mem_append.mp (show k ∈ tabUp bs ns i ++ _ from h) with h | h
    · obtain ⟨j, hj, e⟩ := tab_mem h
      exact ⟨j, by omega, e⟩
    · exact ⟨i, Nat.lt_succ_self _, (List.eq_of_mem_replicate h).symm⟩
theorem tab_split {bs ns : List Int} {cnt : Int} (h : ClsOk bs ns cnt) {j : Nat} (hj : j < bs.length) : ∃ n r, tabUp bs ns bs.length = tabUp bs ns j ++ (List.replicate (n + 1) (ns.getD j 0) ++ r) := by
  obtain ⟨d, hd⟩ : ∃ d, bs.length = (j + 1) + d := ⟨bs.length - (j + 1), by omega⟩
  obtain ⟨r, hr⟩ := tabUp_pre (bs := bs) (ns := ns) (j + 1) d
  have h2 := h.end_gt hj
  refine ⟨(endOf bs j - bs.getD j 0).toNat - 1, r, ?_⟩
  rw [← hd] at hr
  rw [hr]
  show (tabUp bs ns j ++ List.replicate (endOf bs j - bs.getD j 0).toNat (ns.getD j 0)) ++ r = _
  rw [List.append_assoc, show (endOf bs j - bs.getD j 0).toNat = (endOf bs j - bs.getD j 0).toNat - 1 + 1 by omega]
  rfl
theorem tab_has {bs ns : List Int} {cnt k : Int} (h : ClsOk bs ns cnt) (h0 : 0 ≤ k) (h1 : k < cnt) : k ∈ tabUp bs ns bs.length := by
  obtain ⟨j, hj, e⟩ := h.cov k h0 h1
  obtain ⟨n, r, e2⟩ := tab_split h (j := j) (by have := h.eql; omega)
  rw [e2, e]
  exact List.mem_append_right _ (List.mem_append_left _ (by simp))
theorem tab_rng {bs ns : List Int} {cnt : Int} (h : ClsOk bs ns cnt) : ∀ k ∈ tabUp bs ns bs.length, 0 ≤ k ∧ k < cnt := by
  intro k hk
  obtain ⟨j, hj, e⟩ := tab_mem hk
  have := h.n0 j (by omega) (by have := h.eql; omega)
  rw [Int.toNat_natCast, e] at this
  exact this
theorem tab_idx {bs ns : List Int} {cnt k : Int} (h : ClsOk bs ns cnt) (h0 : 0 ≤ k) (h1 : k < cnt) : (((tabUp bs ns bs.length).idxOf k : Nat) : Int) = bs.getD (ns.idxOf k) 0 := by
  have hm := h.mem h0 h1
  have hj : ns.idxOf k < ns.length := List.idxOf_lt_length_iff.mpr hm
  have hj2 : ns.idxOf k < bs.length := by have := h.eql; omega
  have hk : ns.getD (ns.idxOf k) 0 = k := by
    rw [List.getD_eq_getElem?_getD, List.getElem?_eq_getElem hj]
    simp [List.getElem_idxOf]
  obtain ⟨n, r, e2⟩ := tab_split h hj2
  have hnot : k ∉ tabUp bs ns (ns.idxOf k) := by
    intro hh
    obtain ⟨i, hi, e⟩ := tab_mem hh
    have hi2 : i < ns.length := by omega
    have : ns[i] = k := by
      rw [List.getD_eq_getElem?_getD, List.getElem?_eq_getElem hi2] at e
      simpa using e
    have hle : ns.idxOf k ≤ i := by
      by_cases q : ns.idxOf k ≤ i
      · exact q
      · exact absurd this (by simpa using List.not_of_lt_findIdx (p := fun x => x == k) (xs := ns) (i := i) (by unfold List.idxOf at q; omega))
    omega
  rw [e2, hk, List.idxOf_append, if_neg hnot, List.replicate_succ, List.cons_append, List.idxOf_cons_self, Nat.zero_add, tabUp_len h _ (by omega), if_pos hj2]
  have := h.at hj2
  omega
theorem firsts_at {bs ns : List Int} {n : Nat} {k : Int} (h : ClsOk bs ns n) (h0 : 0 ≤ k) (h1 : k < n) : (firstsUp (tabUp bs ns bs.length) n).getD k.toNat 0 = bs.getD (ns.idxOf k) 0 := by
  rw [← tab_idx h h0 h1]
  unfold firstsUp
  have hk : k.toNat < n := by omega
  have e2 : ((k.toNat : Nat) : Int) = k := by omega
  rw [List.getD_eq_getElem?_getD, List.getElem?_map, List.getElem?_range hk]
  show ((List.idxOf ((k.toNat : Nat) : Int) (tabUp bs ns bs.length) : Nat) : Int) = _
  rw [e2]


-- a for over a list whose name is a cell
section
variable {prog : Program} {w : World} {A : Around} {E : Value → Shared → Prop} {s : Shared} {env : Env} {h₀ : Heap} {body : List Stmt} {Q : Flow → Shared → Prop}
theorem loop_core2 {target : PySem.Expr} {I : Addr} {fp : List Addr} {n : Nat} {P : Nat → Value → Prop} {St : Nat → Heap → Prop} {m₀ : PySem.Str → Option Value} {src nx₀ : List (Addr × Obj)}
    (upd : Nat → Value → List (Addr × Obj) → List (Addr × Obj) → Prop)
    (J : Nat → (PySem.Str → Option Value) → List (Addr × Obj) → Prop)
    (W : Walks prog w A I fp [I] n P St)
    (hbind : ∀ i v h tk m₁ nx (K : Unit → Shared → Prop) (E' : Value → Shared → Prop), i < n → P i v → St (i + 1) h → Fr h₀ env.locals h m₁ → News h₀ env.locals h (src ++ nx) → J i m₁ nx → (∀ p ∈ nx, p.1 ≠ I) → (∀ p ∈ nx, ∀ q ∈ src, p.1 ≠ q.1) →
      (∀ h' tk' nx₂, upd i v nx nx₂ → Fr h₀ env.locals h' m₁ → News h₀ env.locals h' (src ++ nx₂) → (∀ o, h.get? I = some o → h'.get? I = some o) → (∀ p ∈ nx₂, ∃ p' ∈ nx, p'.1 = p.1) → K () { s with heap := h', toks := tk' }) →
      wpAny (model prog w) A (letOwnedTupleGo target (.ref I) v) (fun _ s' => wpAny (model prog w) A (assign target env v) K E' s') E' { s with heap := h, toks := tk })
    (hIL : I ≠ env.locals) (hI0 : h₀.get? I = none) (hst : St 0 s.heap)
    (hkeep : ∀ i h h' oI, St i h → h.get? I = some oI → h'.get? I = some oI → (∀ b o, h₀.get? b = some o → h'.get? b = some o) → News h₀ env.locals h' src → St i h')
    (hlive : ∀ i h, St i h → ∃ o, h.get? I = some o)
    (F : Fr h₀ env.locals s.heap m₀) (N : News h₀ env.locals s.heap (src ++ nx₀)) (hsI : ∀ p ∈ src, p.1 ≠ I) (hnI : ∀ p ∈ nx₀, p.1 ≠ I) (hsn : ∀ p ∈ nx₀, ∀ q ∈ src, p.1 ≠ q.1)
    (h0 : J 0 m₀ nx₀)
    (turn : ∀ i v m₁ nx nx₂ h tk oI, i < n → P i v → J i m₁ nx → upd i v nx nx₂ → (∀ p ∈ nx₂, p.1 ≠ I) → (∀ p ∈ nx₂, ∀ q ∈ src, p.1 ≠ q.1) → (∀ q ∈ src, q.1 ≠ I) → Fr h₀ env.locals h m₁ → News h₀ env.locals h ((I, oI) :: (src ++ nx₂)) →
      wpAny (model prog w) A (execs body env) (TPost h₀ env.locals ((I, oI) :: src) (J (i + 1)) { s with heap := h, toks := tk } Q) E { s with heap := h, toks := tk })
    (done : ∀ h' tk m' nx, J n m' nx → Fr h₀ env.locals h' m' → News h₀ env.locals h' (src ++ nx) → (∀ p ∈ nx, ∀ q ∈ src, p.1 ≠ q.1) → Q .next { s with heap := h', toks := tk })
    (hE : PassesOwn (model prog w) A env E) :
    codeAny (model prog w) A (.forLoop target (.ref I) body [] env) (fun r s' => match r with | .ok f => Q f s' | .error e => cameBackBy (model prog w) A env E e s') s := by
  refine codeAny_forLoop_any
    (fun k s' => ∃ h' tk m' nx i, s' = { s with heap := h', toks := tk } ∧ St i h' ∧ Fr h₀ env.locals h' m' ∧ News h₀ env.locals h' (src ++ nx) ∧ (∀ p ∈ nx, p.1 ≠ I) ∧ (∀ p ∈ nx, ∀ q ∈ src, p.1 ≠ q.1) ∧ J i m' nx ∧ i ≤ n ∧ k = n + 1 - i) ?_ (n + 1)
    ⟨s.heap, s.toks, m₀, nx₀, 0, rfl, hst, F, N, hnI, hsn, h0, Nat.zero_le _, rfl⟩
  rintro k s' ⟨h', tk, m', nx, i, rfl, hst', F', N', hnI', hsn', hJ, hi, rfl⟩
  have offI : ∀ p ∈ src ++ nx, p.1 ≠ I := fun p hp => (List.mem_append.mp hp).elim (hsI p) (hnI' p)
  have next : ∀ h₁ : Heap, (∀ b o, b ∉ [I] → h'.get? b = some o → h₁.get? b = some o) → Fr h₀ env.locals h₁ m' ∧ News h₀ env.locals h₁ (src ++ nx) := fun h₁ hk₁ =>
    ⟨⟨F'.ns.at' fun o e => hk₁ _ o (by simpa using Ne.symm hIL) e, fun b o e => hk₁ b o (fun hm => by rw [List.mem_singleton.mp hm, hI0] at e; cases e) (F'.keep b o e), F'.above⟩,
      fun p hp => ⟨hk₁ _ _ (by simpa using offI p hp) (N' p hp).1, (N' p hp).2⟩⟩
  by_cases hlt : i < n
  · refine wpAny_passesOwn hE (W.item i _ _ _ hlt hst' fun v h₁ tk₁ hP hst₁ hk₁ => ?_)
    obtain ⟨F₁, N₁⟩ := next h₁ hk₁
    show wpAny (model prog w) A (letOwnedTupleGo target (.ref I) v) _ _ { s with heap := h₁, toks := tk₁ }
    refine hbind i v h₁ tk₁ m' nx _ _ hlt hP hst₁ F₁ N₁ hJ hnI' hsn' fun h₂ tk₂ nx₂ hu F₂ Na hI₂ hadr => ?_
    obtain ⟨oI, hoI⟩ := hlive _ _ hst₁
    have hoI₂ : h₂.get? I = some oI := hI₂ oI hoI
    have N₂ : News h₀ env.locals h₂ ((I, oI) :: (src ++ nx₂)) := fun p hp => by
      rcases List.mem_cons.mp hp with rfl | hp
      · exact ⟨hoI₂, hIL, hI0⟩
      · exact Na p hp
    have back : ∀ s₃ : Shared, TEnd h₀ env.locals ((I, oI) :: src) (J (i + 1)) { s with heap := h₂, toks := tk₂ } s₃ →
        ∃ m, m < n + 1 - i ∧ ∃ h' tk m' nx i, s₃ = { s with heap := h', toks := tk } ∧ St i h' ∧ Fr h₀ env.locals h' m' ∧ News h₀ env.locals h' (src ++ nx) ∧ (∀ p ∈ nx, p.1 ≠ I) ∧ (∀ p ∈ nx, ∀ q ∈ src, p.1 ≠ q.1) ∧ J i m' nx ∧ i ≤ n ∧ m = n + 1 - i := by
      rintro s₃ ⟨h₃, tk₃, m₃, nx₃, rfl, F₃, N₃, hoff₃, hJ₃⟩
      have N₃' : News h₀ env.locals h₃ (src ++ nx₃) := fun p hp => N₃ p (List.mem_cons_of_mem _ hp)
      exact ⟨n + 1 - (i + 1), by omega, h₃, tk₃, m₃, nx₃, i + 1, rfl, hkeep _ _ _ oI hst₁ hoI (N₃ (I, oI) (List.mem_cons_self ..)).1 F₃.keep (fun p hp => N₃' p (List.mem_append_left _ hp)), F₃, N₃',
        fun p hp => hoff₃ p hp (I, oI) (List.mem_cons_self ..), fun p hp q hq => hoff₃ p hp q (List.mem_cons_of_mem _ hq), hJ₃, hlt, rfl⟩
    have hnI₂ : ∀ p ∈ nx₂, p.1 ≠ I := fun p hp => by obtain ⟨p', hp', e⟩ := hadr p hp; rw [← e]; exact hnI' p' hp'
    have hsn₂ : ∀ p ∈ nx₂, ∀ q ∈ src, p.1 ≠ q.1 := fun p hp q hq => by obtain ⟨p', hp', e⟩ := hadr p hp; rw [← e]; exact hsn' p' hp' q hq
    refine wpAny_passesOwn hE (wpAny_mono (turn i v m' nx nx₂ h₂ tk₂ oI hlt hP hJ hu hnI₂ hsn₂ hsI F₂ N₂) (fun f s₃ h₃ => ?_) fun _ _ e => e)
    cases f with
    | ret v => exact h₃
    | brk => exact h₃
    | next => exact back s₃ h₃
    | cont => exact back s₃ h₃
  · have hin : i = n := by omega
    subst hin
    refine W.done _ _ _ hst' fun h₁ tk₁ hk₁ => wpAny_execs_nil ?_
    obtain ⟨F₁, N₁⟩ := next h₁ hk₁
    exact done h₁ tk₁ m' nx hJ F₁ N₁ hsn'

/-- the cell stands first in what turns -/
theorem list_loopC {x : PySem.Str} {px : Pos} {cN : Addr} {l : Addr} {items : Array Value} {m₀ : PySem.Str → Option Value} (src : List (Addr × Obj)) {oN₀ : Obj} {v₀ : Option Value} {nx₀ : List (Addr × Obj)} (J : Nat → (PySem.Str → Option Value) → List (Addr × Obj) → Prop)
    (hh : A.handled = none) (hk : env.scope.kind = .function) (hx : env.kindOf x = some .cell) (hc : env.cells.lookup x = some cN)
    (hsrc : LCg.SrcAt h₀ l items src) (F : Fr h₀ env.locals s.heap m₀) (N : News h₀ env.locals s.heap (src ++ (cN, oN₀) :: nx₀)) (hN₀ : oN₀.data = .cell v₀) (hsn : ∀ p ∈ (cN, oN₀) :: nx₀, ∀ q ∈ src, p.1 ≠ q.1) (h0 : J 0 m₀ nx₀)
    (hoffc : ∀ i m nx, J i m nx → ∀ p ∈ nx, p.1 ≠ cN)
    (turn : ∀ i v m₁ nx h tk I oI oN, items[i]? = some v → J i m₁ nx → oN.data = .cell (some v) → @Ne Nat cN I → (∀ p ∈ nx, @Ne Nat p.1 I) → (∀ q ∈ src, @Ne Nat cN q.1) → (∀ p ∈ nx, ∀ q ∈ src, p.1 ≠ q.1) → (∀ q ∈ src, q.1 ≠ I) → Fr h₀ env.locals h m₁ → News h₀ env.locals h ((I, oI) :: (src ++ (cN, oN) :: nx)) →
      wpAny (model prog w) A (execs body env) (TPost h₀ env.locals ((I, oI) :: src) (fun m nx => ∃ oN v nx', nx = (cN, oN) :: nx' ∧ oN.data = .cell v ∧ J (i + 1) m nx') { s with heap := h, toks := tk } Q) E { s with heap := h, toks := tk })
    (done : ∀ h' tk m' nx oN v, J items.size m' nx → oN.data = .cell v → Fr h₀ env.locals h' m' → News h₀ env.locals h' (src ++ (cN, oN) :: nx) → (∀ p ∈ (cN, oN) :: nx, ∀ q ∈ src, p.1 ≠ q.1) → Q .next { s with heap := h', toks := tk })
    (hE : PassesOwn (model prog w) A env E) :
    wpAny (model prog w) A (pyIter (.ref l)) (fun it s₂ => codeAny (model prog w) A (.forLoop (.Name x px) it body [] env) (fun r s' => match r with | .ok f => Q f s' | .error e => cameBackBy (model prog w) A env E e s') s₂) E s := by
  have hl : s.heap.IsList l items := hsrc.list F.keep fun p hp => N p (List.mem_append_left _ hp)
  have hlt : l < s.heap.objs.size := by obtain ⟨_, e, _⟩ := hl; exact Heap.lt_size e
  refine wpAny_pyIter_list hl ?_
  have up : ∀ b o, s.heap.get? b = some o → (s.heap.push { cls := .type "list_iterator", data := .fields #[.ref l, .int 0 0] }).get? b = some o := fun b o e => Heap.get?_push_of_some _ e
  refine loop_core2 (s := { s with heap := s.heap.push { cls := .type "list_iterator", data := .fields #[.ref l, .int 0 0] } })
    (fun _ v nx nx₂ => ∃ oN oN' nx', nx = (cN, oN) :: nx' ∧ nx₂ = (cN, oN') :: nx' ∧ oN'.data = .cell (some v)) (fun i m nx => ∃ oN v nx', nx = (cN, oN) :: nx' ∧ oN.data = .cell v ∧ J i m nx') (Walks.list hh s.heap.objs.size l (Nat.ne_of_lt hlt) items)
    (fun i v h tk m₁ nx K E' _ _ _ F₁ N₁ hJ hI hsn₁ k => ?_) (Ne.symm (Nat.ne_of_lt F.ns.lt)) (next_is_new F) ⟨⟨_, Heap.get?_push_size _ rfl, rfl, rfl⟩, hl.push _⟩
    (fun i h h' oI st e e' k N' => ⟨by obtain ⟨o, q, r⟩ := st.1; rw [e] at q; cases q; exact ⟨_, e', r⟩, hsrc.list k N'⟩) (fun i h st => by obtain ⟨o, e, _⟩ := st.1; exact ⟨o, e⟩)
    (F.keeps up) (fun p hp => ⟨up _ _ (N p hp).1, (N p hp).2⟩) (fun p hp => Nat.ne_of_lt (Heap.lt_size (N p (List.mem_append_left _ hp)).1)) (fun p hp => Nat.ne_of_lt (Heap.lt_size (N p (List.mem_append_right _ hp)).1)) hsn ⟨_, _, _, rfl, hN₀, h0⟩ ?_ ?_ hE
  · obtain ⟨oN, v1, nx', rfl, hd, hJ'⟩ := hJ
    have hm := N₁ (cN, oN) (List.mem_append_right _ (List.mem_cons_self ..))
    show wpAny (model prog w) A (pure ()) _ _ _
    refine wpAny_pure (wpAny_assign_Name (wpAny_storeName_cell hk hx hc ⟨oN, hm.1, hd⟩ fun h' hv hs => ?_))
    obtain ⟨o', ho', hd'⟩ := hv
    replace hs : Heap.SameBut cN h h' := hs
    refine k h' _ ((cN, o') :: nx') ⟨oN, o', nx', rfl, rfl, hd'⟩ ⟨F₁.ns.sameBut hs (Ne.symm hm.2.1), fun b ob e => (hs.2 b (fun q => ?_)).trans (F₁.keep b ob e), F₁.above⟩ (fun p hp => ?_) (fun o e => (hs.2 _ (Ne.symm (hI (cN, oN) (List.mem_cons_self ..)))).trans e) (fun p hp => ?_)
    · rw [q, hm.2.2] at e; cases e
    · rcases List.mem_append.mp hp with hp | hp
      · have z := N₁ p (List.mem_append_left _ hp)
        exact ⟨(hs.2 _ (fun q => hsn₁ (cN, oN) (List.mem_cons_self ..) p hp q.symm)).trans z.1, z.2⟩
      · rcases List.mem_cons.mp hp with rfl | hp
        · exact ⟨ho', hm.2⟩
        · have z := N₁ p (List.mem_append_right _ (List.mem_cons_of_mem _ hp))
          exact ⟨(hs.2 _ (hoffc i m₁ nx' hJ' p hp)).trans z.1, z.2⟩
    · rcases List.mem_cons.mp hp with rfl | hp
      · exact ⟨_, List.mem_cons_self .., rfl⟩
      · exact ⟨p, List.mem_cons_of_mem _ hp, rfl⟩
  · rintro i v m₁ nx nx₂ h tk oI hi hP ⟨oN, v1, nx', rfl, hd, hJ⟩ ⟨oN2, oN', nx2, e1, rfl, hd'⟩ a b c F₁ N₁
    cases e1
    exact turn i v m₁ nx' h tk _ oI oN' hP hJ hd' (a (cN, oN') (List.mem_cons_self ..)) (fun p hp => a p (List.mem_cons_of_mem _ hp)) (b (cN, oN') (List.mem_cons_self ..)) (fun p hp => b p (List.mem_cons_of_mem _ hp)) c F₁ N₁
  · rintro h' tk m' nx ⟨oN, v1, nx', rfl, hd, hJ⟩ F' N' off
    exact done h' tk m' nx' oN v1 hJ hd F' N' off
end


theorem first_bad {P : Int → Prop} [DecidablePred P] : ∀ {ms : List Int}, ¬ (∀ k ∈ ms, P k) → ∃ kb, kb < ms.length ∧ (∀ i k, i < kb → ms[i]? = some k → P k) ∧ ∀ k, ms[kb]? = some k → ¬ P k
  | [], h => absurd (fun _ hk => (nomatch hk)) h
  | a :: r, h => by
    by_cases ha : P a
    · obtain ⟨kb, h1, h2, h3⟩ := first_bad (ms := r) (P := P) (fun hr => h fun k hk => by
        rcases List.mem_cons.mp hk with rfl | hk
        · exact ha
        · exact hr k hk)
      refine ⟨kb + 1, by simp; omega, fun i k hi e => ?_, fun k e => h3 k (by simpa using e)⟩
      cases i with
      | zero => simp at e; rw [← e]; exact ha
      | succ i => exact h2 i k (by omega) (by simpa using e)
    · exact ⟨0, by simp, fun i k hi => absurd hi (by omega), fun k e => by simp at e; rw [← e]; exact ha⟩
theorem sgn_rng {a : Int} (h0 : 0 ≤ a) (h1 : a < 128) : ∀ j : Nat, 0 ≤ [a, 128, 233, 8364].getD j 0 ∧ [a, 128, 233, 8364].getD j 0 ≤ 8364
  | 0 => by show 0 ≤ a ∧ a ≤ 8364; omega
  | 1 => by show (0 : Int) ≤ 128 ∧ (128 : Int) ≤ 8364; omega
  | 2 => by show (0 : Int) ≤ 233 ∧ (233 : Int) ≤ 8364; omega
  | 3 => by show (0 : Int) ≤ 8364 ∧ (8364 : Int) ≤ 8364; omega
  | _ + 4 => by show (0 : Int) ≤ 0 ∧ (0 : Int) ≤ 8364; omega


-- a comprehension with a test, by an invariant
section
variable {prog : Program} {w : World} {A : Around} {E : Value → Shared → Prop} {s : Shared} {h₀ : Heap} {L : Addr} {m : PySem.Str → Option Value} {env : Env}
theorem compRestT_inv {ct elt : PySem.Expr} {x : PySem.Str} {scope : Scope} {cl : List (PySem.Str × Addr)} {S : List (Addr × Obj) → Prop} {P : Nat → Value → Prop} {Fin : List Value → List (Addr × Obj) → Prop} {n : Nat}
    (J : Nat → List Value → List (Addr × Obj) → Prop)
    (turn : ∀ i v ys nx I oI C oC D m₂ h tk (E' : Value → Shared → Prop), i < n → P i v → J i ys nx → LCg.NsObj oC m₂ → m₂ x = some v → Fr h₀ L h m → News h₀ L h ((I, oI) :: (C, oC) :: (D, LCg.lst ys) :: nx) → LCg.Off3 I C D nx → ((@Ne Nat I C) ∧ (@Ne Nat I D) ∧ (@Ne Nat C D)) →
      wpAny (model prog w) A (isTrue ct (compEnvC scope cl C env) (eval ct (compEnvC scope cl C env))) (fun ok s' => if ok = true then
        wpAny (model prog w) A (eval elt (compEnvC scope cl C env)) (LCg.CompEnd h₀ L m { s with heap := h, toks := tk } I oI C oC D (LCg.lst ys) S (fun y news' => J (i + 1) (ys ++ [y]) news')) E' s'
        else LCg.CompEnd h₀ L m { s with heap := h, toks := tk } I oI C oC D (LCg.lst ys) S (fun _ news' => J (i + 1) ys news') Value.none s') E' { s with heap := h, toks := tk })
    (fin : ∀ ys nx, J n ys nx → Fin ys nx) : ∀ (d i : Nat) (ys : List Value) (nx : List (Addr × Obj)), i + d = n → J i ys nx → LCt.CompRestT prog w A h₀ L m env ct elt x scope cl s S P Fin d i ys nx := by
  intro d
  induction d with
  | zero =>
    intro i ys nx hi hJ
    have e : i = n := by omega
    subst e
    exact LCt.CompRestT.zero (fin ys nx hJ)
  | succ d ih =>
    intro i ys nx hi hJ
    refine LCt.CompRestT.succ ?_
    intro v I oI C oC D m₂ h tk E' hP hC hx F N off ne
    refine wpAny_mono (turn i v ys nx I oI C oC D m₂ h tk E' (by omega) hP hJ hC hx F N off ne) (fun ok s₂ hok => ?_) fun _ _ e => e
    cases ok with
    | true =>
      rw [if_pos rfl] at hok ⊢
      refine wpAny_mono hok (fun y s₃ hy => ?_) fun _ _ e => e
      obtain ⟨h', tk', nx', e, F', N', off', hS, hJ'⟩ := hy
      exact ⟨h', tk', nx', e, F', N', off', hS, ih (i + 1) _ nx' (by omega) hJ'⟩
    | false =>
      rw [if_neg (by decide)] at hok ⊢
      obtain ⟨h', tk', nx', e, F', N', off', hS, hJ'⟩ := hok
      exact ⟨h', tk', nx', e, F', N', off', hS, ih (i + 1) _ nx' (by omega) hJ'⟩
end


-- the plain law's end
theorem ofVal_rng {bs ns : List Int} {cnt : Int} (h : ClsOk bs ns cnt) (k : Int) : ofVal bs ns k = -1 ∨ (0 ≤ ofVal bs ns k ∧ ofVal bs ns k < cnt) := by
  unfold ofVal
  split
  · exact .inl rfl
  · next hk =>
    right
    have hl := tabUp_len h bs.length (Nat.le_refl _)
    rw [if_neg (Nat.lt_irrefl _)] at hl
    have hlt : k.toNat < (tabUp bs ns bs.length).length := by omega
    exact tab_rng h _ (getD_mem hlt)
theorem ofVal_back {bs ns : List Int} {cnt k : Int} (h : ClsOk bs ns cnt) (h0 : 0 ≤ k) (h1 : k < cnt) : ofVal bs ns (((bs.getD (ns.idxOf k) 0).toNat : Nat) : Int) = k := by
  have hm := h.mem h0 h1
  have hj : ns.idxOf k < ns.length := List.idxOf_lt_length_iff.mpr hm
  have hj2 : ns.idxOf k < bs.length := by have := h.eql; omega
  have hk : ns.getD (ns.idxOf k) 0 = k := by
    rw [List.getD_eq_getElem?_getD, List.getElem?_eq_getElem hj]
    simp [List.getElem_idxOf]
  have hb := h.at hj2
  have he := h.end_gt hj2
  unfold ofVal
  rw [if_neg (by omega), Int.toNat_natCast]
  rw [tab_at h hj2 (c := (bs.getD (ns.idxOf k) 0).toNat) (by omega) (by omega)]
  exact hk
theorem word_back {bs ns : List Int} {cnt : Int} (h : ClsOk bs ns cnt) {ws : List Int} (hw : ∀ k ∈ ws, 0 ≤ k ∧ k < cnt) : List.map (fun (c : Nat) => ofVal bs ns (c : Int)) (⟨(ws.map fun k => (bs.getD (ns.idxOf k) 0).toNat).toArray⟩ : PySem.Str).cps.toList = ws := by
  rw [List.toList_toArray, List.map_map]
  have : ws.map (fun k => k) = ws := by simp
  refine Eq.trans (List.map_congr_left fun k hk => ?_) this
  exact ofVal_back h (hw k hk).1 (hw k hk).2
theorem any_minus_false {cnt : Int} {ws : List Int} (hw : ∀ k ∈ ws, 0 ≤ k ∧ k < cnt) : ws.any (· == (-1)) = false := by
  rw [List.any_eq_false]
  intro k hk
  have := hw k hk
  simp
  omega
theorem any_minus_true {cnt : Int} {ws : List Int} (hr : ∀ k ∈ ws, k = -1 ∨ (0 ≤ k ∧ k < cnt)) (hw : ¬ ∀ k ∈ ws, 0 ≤ k ∧ k < cnt) : ws.any (· == (-1)) = true := by
  rw [List.any_eq_true]
  refine Classical.byContradiction fun hn => hw fun k hk => ?_
  rcases hr k hk with e | e
  · exact absurd ⟨k, hk, by simp [e]⟩ hn
  · exact e


local macro_rules | `(tactic| units_room) => `(tactic| (simp only [units_in1, units_deeper, Around.mark_units, units_caller, cLine_is]; (try dsimp only [ktrTop]); omega))
local macro_rules | `(tactic| ktr_room) => `(tactic| (simp only [depth_in1, depth_deeper, depth_caller, recursionLimit]; (try dsimp only [ktrTop]); omega))
local macro_rules | `(tactic| k_ne) => `(tactic| (refine neN ?_; (try dsimp only); with_reducible first | assumption | exact Ne.symm (by assumption) | exact Nat.ne_of_lt (by assumption) | exact Nat.ne_of_gt (by assumption) | omega))
local macro_rules | `(tactic| k_all) => `(tactic| first | assumption | exact off_all (by assumption) | exact off_lt (by assumption))
local macro_rules | `(tactic| k_mem) => `(tactic| assumption)
local macro_rules | `(tactic| walk_at "exec For Name Call cons nil") => `(tactic| (k_here; k_dflt (refine wpAny_For ?_ (by intro _; rfl))))
local macro_rules | `(tactic| walk_at "call builtin:len") => `(tactic| (k_here; (with_reducible show wpAny _ _ (call (Value.builtin "len") [Value.ref _]) _ _ _); k_dflt (refine' my_len (by exact News.isList (by k_asm) (by k_mem)) (by with_reducible assumption) (by omega) ?_; k_whole)))
local macro_rules | `(tactic| walk_at "binaryOp Mult ref int") => `(tactic| (k_here; k_dflt (refine' my_mul_one (by k_asm) (by k_asm) (by k_mem) (by omega) (by omega) ?_; k_whole); intro l' h' F' N' l1; (try k_lt l1)))
local macro_rules | `(tactic| walk_at "call builtin:list.extend") => `(tactic| (k_here; k_dflt (refine' my_extend (by k_asm) (by k_asm) (by k_mem) (by k_updF) (by simp only [List.length_replicate]; first | omega | exact sum_toNat (by omega) (by omega)) ?_; k_whole); intro h' n' F' N'; (try dsimp only at N')))
local macro_rules | `(tactic| walk_at "call builtin:list.pop") => `(tactic| (k_here; k_dflt (refine' pop_zero (by k_asm) (by k_asm) (by k_upd) (by assumption) ?_); kl_rest))
local macro_rules | `(tactic| walk_at "exec While Compare cons nil") => `(tactic| (k_here; k_dflt (refine Stop.out ?_)))
local macro_rules | `(tactic| walk_at "call builtin:list.index") => `(tactic| (k_here; k_dflt (refine' my_index (by exact News.isList (by k_asm) (by k_mem)) (by with_reducible assumption) (by omega) (by assumption) (by assumption) ?_; k_whole); intro ti'))
local macro_rules | `(tactic| walk_at "call builtin:list.append") => `(tactic| (k_here; k_dflt (refine' my_append (by k_asm) (by k_asm) (by k_updF) (by first | omega | (simp only [List.length_append, List.length_singleton]; omega)) ?_; k_whole); intro h' n' F' N'; (try dsimp only at N')))
local macro_rules | `(tactic| k_room) => `(tactic| ((try simp only [depth_mark, depth_under_make, depth_under_kw, depth_in1, depth_deeper, depth_caller, recursionLimit]); (try dsimp only [ktrTop]); omega))

def tinKvs (c : Addr) (hv : Int) (ht : Tok) (tv : Int) (tt : Tok) : List (PySem.Str × Value) :=
  [(Str.ofString "cells", .ref c), (Str.ofString "held", .int hv ht), (Str.ofString "tail", .int tv tt)]
structure TinAt (prog : Program) (w : World) (c : Addr) (o oc : Obj) : Prop where
  ex : ∃ (vs : List Value) (ns : List Int) (n : Nat) (hv : Int) (ht : Tok) (tv : Int) (tt : Tok), oc = W.listOf vs.toArray n ∧ IntsAre vs ns ∧ vs.length ≤ 64 ∧ o.IsDictOf (strKind prog w) (tinKvs c hv ht tv tt)

set_option maxRecDepth 100000 in
set_option maxHeartbeats 8000000 in
theorem bit_base {prog : Program} {w : World} {p : Program} {loose : List PySem.Str} {mean : ExcName → Option Value} {mg mb : PySem.Str → Option Value}
  (dp un : Nat) (gd : Option (List Code)) (cn : PySem.Str) (cs : Scope) (a : Addr) (ccd : Value) (cl : List (PySem.Str × Addr)) (outer : List Env) (A₀ : Around) (base h₀ : Heap) (L : Addr) (m : PySem.Str → Option Value) (s : Shared) (Q E : Value → Shared → Prop)
  (B : Below A₀ base outer h₀) (F : Fr h₀ L s.heap m) (X : (Mine.hd.heap_39 w.params).In h₀) (T : Top p loose mean mg mb h₀) (hk : cs.kind = .function)
  (hdp : dp ≤ 900) (hun : un ≤ 8000)
  (d c : Addr) (o oc : Obj) (news : List (Addr × Obj))
  (N : News h₀ L s.heap ((d, o) :: (c, oc) :: news)) (ht : TinAt prog w c o oc) (lo : (d == sysModules) = false)
  (hdc : @Ne Nat d c) (hnd : ∀ q ∈ news, q.1 ≠ d) (hnc : ∀ q ∈ news, q.1 ≠ c)
  (most : Int) (tm : Tok) (h0 : 0 < most) (h1 : most < 1000)
  (hret : ∀ (digit : Int) (t : Tok) (h' : Heap) (tk' : Nat) (o' oc' : Obj), Fr h₀ L h' m → News h₀ L h' ((d, o') :: (c, oc') :: news) → TinAt prog w c o' oc' → 0 ≤ digit → digit < most → Q (.int digit t) { s with heap := h', toks := tk' })
  :
  wpAny (model prog w) (ktrTop dp un gd cn cs L a ccd cl outer) (call (.ref 317) [.ref d, .int most tm]) Q E s := by
  obtain ⟨vs, ns, n, hv, ht, tv, tt, rfl, hI, hlen, hdd⟩ := ht
  unfold tinKvs at hdd
  have key : ∀ (digit : Int) (t : Tok) (h' : Heap) (tk' : Nat) (o' : Obj) (vs : List Value) (ns : List Int) (n : Nat) (hv : Int) (ht : Tok) (tv : Int) (tt : Tok), Fr h₀ L h' m → News h₀ L h' ((d, o') :: (c, W.listOf vs.toArray n) :: news) → 
      IntsAre vs ns → vs.length ≤ 64 → o'.IsDictOf (strKind prog w) [(Str.ofString "cells", .ref c), (Str.ofString "held", .int hv ht), (Str.ofString "tail", .int tv tt)] → digit = digit.fmod most → Q (.int digit t) { s with heap := h', toks := tk' } := by
    intro digit t h' tk' o' vs ns n hv ht tv tt F N hI hl hd he
    refine hret digit t h' tk' o' _ F N ⟨vs, ns, n, hv, ht, tv, tt, rfl, hI, hl, hd⟩ ?_ ?_
    · rw [he]; exact Int.fmod_nonneg_of_pos _ h0
    · rw [he]; exact Int.fmod_lt_of_pos _ h0
  clear hret
  cases hI with
  | nil =>
    have hI : IntsAre [] [] := .nil
    refine wpAny_call ?_
    k_dflt ktr_enter
    k_steps
    all_goals (
      (rename Fr _ _ _ _ => kFn); (rename News _ _ _ _ => kNn)
      refine key _ _ _ _ _ _ _ _ _ _ _ _ kFn (by first | exact kNn | exact fun p hp => kNn p (List.mem_cons_of_mem _ hp)) (by assumption) ?_ (by assumption) ?_
      · first | assumption | (simp; done) | omega
      · first | exact (Int.fmod_fmod _ _).symm)
  | cons k t hr =>
    rename_i r ns'
    have hlen' : r.length + 1 ≤ 64 := hlen
    have hI : IntsAre (.int k t :: r) (k :: ns') := .cons k t hr
    refine wpAny_call ?_
    k_dflt ktr_enter
    k_steps
    all_goals (
      (rename Fr _ _ _ _ => kFn); (rename News _ _ _ _ => kNn)
      refine key _ _ _ _ _ _ _ _ _ _ _ _ kFn (by first | exact kNn | exact fun p hp => kNn p (List.mem_cons_of_mem _ hp)) (by assumption) ?_ (by assumption) ?_
      · first | assumption | (simp; done) | omega
      · first | exact (Int.fmod_fmod _ _).symm)

set_option maxRecDepth 100000 in
set_option maxHeartbeats 8000000 in
theorem table_base {prog : Program} {w : World} {p : Program} {loose : List PySem.Str} {mean : ExcName → Option Value} {mg mb : PySem.Str → Option Value}
  (dp un : Nat) (gd : Option (List Code)) (cn : PySem.Str) (cs : Scope) (a : Addr) (ccd : Value) (cl : List (PySem.Str × Addr)) (outer : List Env) (A₀ : Around) (base h₀ : Heap) (L : Addr) (m : PySem.Str → Option Value) (s : Shared) (Q E : Value → Shared → Prop)
  (B : Below A₀ base outer h₀) (F : Fr h₀ L s.heap m) (X : (Mine.hd.heap_39 w.params).In h₀) (T : Top p loose mean mg mb h₀) (hk : cs.kind = .function)
  (hdp : dp ≤ 900) (hun : un ≤ 8000)
  (news : List (Addr × Obj)) (x dx lb ln : Addr) (bvs nvs : List Value) (bs ns : List Int) (cnt : Int) (q1 q2 q3 : Int) (t1 t2 t3 t4 : Tok) (nd kb kn : Nat)
  (N : News h₀ L s.heap news) (hx : (x, instObj 301 dx) ∈ news) (hdx : (dx, dictOf [⟨q1, .str (Str.ofString "bounds") t1, .ref lb⟩, ⟨q2, .str (Str.ofString "numbers") t2, .ref ln⟩, ⟨q3, .str (Str.ofString "count") t3, .int cnt t4⟩] nd) ∈ news)
  (hlb : (lb, W.listOf bvs.toArray kb) ∈ news) (hln : (ln, W.listOf nvs.toArray kn) ∈ news) (hbI : IntsAre bvs bs) (hnI : IntsAre nvs ns) (hC : ClsOk bs ns cnt)
  (hret : ∀ l ys k h' tk', Fr h₀ L h' m → News h₀ L h' ((l, W.listOf ys.toArray k) :: news) → (∀ p ∈ news, p.1 < l) → IntsAre ys (tabUp bs ns bs.length) → Q (.ref l) { s with heap := h', toks := tk' })
  :
  wpAny (model prog w) (ktrTop dp un gd cn cs L a ccd cl outer) (call (.ref 281) [.ref x]) Q E s := by
  have hb0 := hC.b0
  have hb1 := hC.b1
  have hb64 := hC.len
  have hbn := hC.eql
  have hlen := tabUp_len_le hC
  refine wpAny_call ?_
  k_dflt ktr_enter
  k_steps
  (rename Fr _ _ _ _ => lF); (rename News _ _ _ _ => lN); (rename IsRange _ _ _ _ _ _ _ _ => lR)
  refine range_loopM (n := bs.length) (fun i m₀ nx₀ m₁ nx => (∀ z, z ≠ Str.ofString "end" → z ≠ Str.ofString "step" → m₁ z = m₀ z) ∧ match nx₀ with | (D, _) :: rest => ∃ ys k, nx = (D, W.listOf ys.toArray k) :: rest ∧ IntsAre ys (tabUp bs ns i) | [] => False) rfl rfl rfl lR ?hs ?hn lF lN ?h0 ?turn ?done (by passes_own)
  case hs => exact rs_small (by omega)
  case hn => exact rs_nat _
  case h0 => exact ⟨fun _ _ _ => rfl, [], 0, rfl, .nil⟩
  case turn =>
    clear lF lN lR
    rintro i m₁ nx h tk t I oI hi ⟨hm, ys, k, rfl, hys⟩ hoff F1 N1
    rw [map_two hm] at F1
    rw [Int.zero_add] at F1
    have hA := hb0 i (by omega) (by omega)
    have hA1 := fun h => hb0 (i + 1) (by omega) h
    have hA2 := hb1 i (by omega)
    have hz := hlen i (by omega)
    rw [← hys.length] at hz
    obtain ⟨hoff1, hoff2⟩ := off1 hoff
    (try k_unmd); k_fold
    k_steps
    all_goals (
      (rename Fr _ _ _ _ => lF); (rename News _ _ _ _ => lN)
      refine' TEnd.intro lF lN _ (by lcg_sub) ?hn ?ho ⟨?hj, _, _, rfl, ?hi⟩
      case hn => exact List.forall_mem_cons.mpr ⟨by k_mem, by intro p hp; k_mem⟩
      case ho => exact off_one (off_cons hoff1 hoff2)
      case hj => intro z h1 h2; simp [h1, h2]
      case hi => first
        | exact tab_step1 (by assumption) hys
        | exact tab_step2 (by assumption) hys)
  case done =>
    rintro h' tk' m' nx ⟨hm, ys, k, rfl, hys⟩ F1 N1
    rw [map_two hm] at F1
    dsimp only
    (try k_unmd)
    k_steps
    (rename Fr _ _ _ _ => lF); (rename News _ _ _ _ => lN)
    exact hret _ _ _ _ _ lF lN (by assumption) hys

set_option maxRecDepth 100000 in
set_option maxHeartbeats 8000000 in
theorem of_base {prog : Program} {w : World} {p : Program} {loose : List PySem.Str} {mean : ExcName → Option Value} {mg mb : PySem.Str → Option Value}
  (dp un : Nat) (gd : Option (List Code)) (cn : PySem.Str) (cs : Scope) (a : Addr) (ccd : Value) (cl : List (PySem.Str × Addr)) (outer : List Env) (A₀ : Around) (base h₀ : Heap) (L : Addr) (m : PySem.Str → Option Value) (s : Shared) (Q E : Value → Shared → Prop)
  (B : Below A₀ base outer h₀) (F : Fr h₀ L s.heap m) (X : (Mine.hd.heap_39 w.params).In h₀) (T : Top p loose mean mg mb h₀) (hk : cs.kind = .function)
  (hdp : dp ≤ 900) (hun : un ≤ 8000)
  (news : List (Addr × Obj)) (x dx lb ln : Addr) (bvs nvs : List Value) (bs ns : List Int) (cnt : Int) (q1 q2 q3 : Int) (t1 t2 t3 t4 : Tok) (nd kb kn : Nat)
  (N : News h₀ L s.heap news) (hx : (x, instObj 301 dx) ∈ news) (hdx : (dx, dictOf [⟨q1, .str (Str.ofString "bounds") t1, .ref lb⟩, ⟨q2, .str (Str.ofString "numbers") t2, .ref ln⟩, ⟨q3, .str (Str.ofString "count") t3, .int cnt t4⟩] nd) ∈ news)
  (hlb : (lb, W.listOf bvs.toArray kb) ∈ news) (hln : (ln, W.listOf nvs.toArray kn) ∈ news) (hbI : IntsAre bvs bs) (hnI : IntsAre nvs ns) (hC : ClsOk bs ns cnt)
  (code : Int) (tc : Tok)
  (hret : ∀ r t h' tk', Fr h₀ L h' m → News h₀ L h' news → r = ofVal bs ns code → Q (.int r t) { s with heap := h', toks := tk' })
  :
  wpAny (model prog w) (ktrTop dp un gd cn cs L a ccd cl outer) (call (.ref 260) [.ref x, .int code tc]) Q E s := by
  have hb0 := hC.b0
  have hb1 := hC.b1
  have hb64 := hC.len
  have hbn := hC.eql
  have hpos := hC.pos
  refine wpAny_call ?_
  k_dflt ktr_enter
  k_steps
  · (rename Fr _ _ _ _ => lF); (rename News _ _ _ _ => lN)
    exact hret _ _ _ _ lF lN (by unfold ofVal; rw [if_pos (by omega)])
  · (rename Fr _ _ _ _ => lF); (rename News _ _ _ _ => lN)
    exact hret _ _ _ _ lF lN (by unfold ofVal; rw [if_pos (by omega)])
  · unfold Stop
    (rename Fr _ _ _ _ => lF); (rename News _ _ _ _ => lN)
    refine while_loop (fun m₀ n m₁ => (∀ z, z ≠ Str.ofString "left" → z ≠ Str.ofString "right" → z ≠ Str.ofString "middle" → m₁ z = m₀ z) ∧ ∃ l r tl tr, m₁ (Str.ofString "left") = some (.int l tl) ∧ m₁ (Str.ofString "right") = some (.int r tr) ∧
      0 ≤ l ∧ l < r ∧ r ≤ bs.length ∧ bs.getD l.toNat 0 ≤ code ∧ (r < bs.length → code < bs.getD r.toNat 0) ∧ n = (r - l).toNat) bs.length lF lN ?h0 ?turn (by passes_own)
    case h0 =>
      refine ⟨fun _ _ _ _ => rfl, 0, bs.length, _, _, rfl, rfl, by omega, by omega, by omega, ?_, by omega, by omega⟩
      show bs.getD 0 0 ≤ code
      rw [hC.zero]; omega
    case turn =>
      clear lF lN
      rintro n m₁ h tk ⟨hm, l, r, tl, tr, hl, hr, h1, h2, h3, h4, h5, rfl⟩ F1 N1
      rw [map_three hm, hl, hr] at F1
      (try k_unmd)
      k_steps
      by_cases hw : 1 < r - l
      · refine WhlIf.yes (decide_eq_true hw) ?_
        have e2 : (l + r).fdiv 2 = (l + r) / 2 := Int.fdiv_eq_ediv_of_nonneg _ (by omega)
        have hm1 : l < (l + r).fdiv 2 := by omega
        have hm2 : (l + r).fdiv 2 < r := by omega
        clear e2
        (try k_unmd); k_fold
        k_steps
        all_goals (
          (rename Fr _ _ _ _ => lF); (rename News _ _ _ _ => lN)
          refine' WEnd.intro lF lN (fun p hp => hp) _ ?hlt ⟨?hj, _, _, _, _, rfl, rfl, ?ha, ?hb, ?hc, ?hd, ?he, rfl⟩
          case hj => intro z h1 h2 h3; simp [h1, h2, h3]
          case hlt => omega
          case ha => omega
          case hb => omega
          case hc => omega
          case hd => omega
          case he => first | assumption | (intro _; omega))
      · refine WhlIf.no (decide_eq_false hw) ?_
        (try k_unmd)
        k_steps
        (rename Fr _ _ _ _ => lF); (rename News _ _ _ _ => lN)
        refine hret _ _ _ _ lF lN (ofVal_mid (r := r) hC ?_ ?_ ?_ ?_ ?_ ?_ ?_ ?_)
        all_goals first | omega | assumption

set_option maxRecDepth 100000 in
set_option maxHeartbeats 8000000 in
theorem least_base {prog : Program} {w : World} {p : Program} {loose : List PySem.Str} {mean : ExcName → Option Value} {mg mb : PySem.Str → Option Value}
  (dp un : Nat) (gd : Option (List Code)) (cn : PySem.Str) (cs : Scope) (a : Addr) (ccd : Value) (cl : List (PySem.Str × Addr)) (outer : List Env) (A₀ : Around) (base h₀ : Heap) (L : Addr) (m : PySem.Str → Option Value) (s : Shared) (Q E : Value → Shared → Prop)
  (B : Below A₀ base outer h₀) (F : Fr h₀ L s.heap m) (X : (Mine.hd.heap_39 w.params).In h₀) (T : Top p loose mean mg mb h₀) (hk : cs.kind = .function)
  (hdp : dp ≤ 900) (hun : un ≤ 8000)
  (news : List (Addr × Obj)) (x dx lb ln : Addr) (bvs nvs : List Value) (bs ns : List Int) (cnt : Int) (q1 q2 q3 : Int) (t1 t2 t3 t4 : Tok) (nd kb kn : Nat)
  (N : News h₀ L s.heap news) (hx : (x, instObj 301 dx) ∈ news) (hdx : (dx, dictOf [⟨q1, .str (Str.ofString "bounds") t1, .ref lb⟩, ⟨q2, .str (Str.ofString "numbers") t2, .ref ln⟩, ⟨q3, .str (Str.ofString "count") t3, .int cnt t4⟩] nd) ∈ news)
  (hlb : (lb, W.listOf bvs.toArray kb) ∈ news) (hln : (ln, W.listOf nvs.toArray kn) ∈ news) (hbI : IntsAre bvs bs) (hnI : IntsAre nvs ns) (hC : ClsOk bs ns cnt)
  (number : Int) (tc : Tok) (hn0 : 0 ≤ number) (hn1 : number < cnt)
  (hret : ∀ r t h' tk', Fr h₀ L h' m → News h₀ L h' news → r = bs.getD (ns.idxOf number) 0 → Q (.int r t) { s with heap := h', toks := tk' })
  :
  wpAny (model prog w) (ktrTop dp un gd cn cs L a ccd cl outer) (call (.ref 288) [.ref x, .int number tc]) Q E s := by
  have hb0 := hC.b0
  have hb1 := hC.b1
  have hb64 := hC.len
  have hbn := hC.eql
  have hpos := hC.pos
  have hmem := hC.mem hn0 hn1
  have hnm := hC.nmem
  have hix : ns.idxOf number < ns.length := List.idxOf_lt_length_iff.mpr hmem
  refine wpAny_call ?_
  k_dflt ktr_enter
  k_steps
  (rename Fr _ _ _ _ => lF); (rename News _ _ _ _ => lN)
  exact hret _ _ _ _ lF lN (by rw [Int.toNat_natCast])

section
local macro_rules | `(tactic| walk_at "call ref") => `(tactic| (k_here; (with_reducible show wpAny _ _ (call (Value.ref 260) [Value.ref _, Value.int _ _]) _ _ _); k_dflt (apply of_base; (case B => k_asm); (case F => k_asm); (case X => k_asm); (case T => k_asm); (case hk => first | exact rfl | assumption); (case hdp => first | omega | ktr_room); (case hun => first | omega | units_room); (case N => k_asm); (case hx => k_mem); (case hdx => k_mem); (case hlb => k_mem); (case hln => k_mem); (case hbI => with_reducible assumption); (case hnI => with_reducible assumption); (case hC => assumption)); intro r9 t9 h9 tk9 F9 N9 e9))
local macro_rules | `(tactic| walk_at "eval ListComp") => `(tactic| (k_here; k_dflt (refine Stop.out ?_)))
set_option maxRecDepth 100000 in
set_option maxHeartbeats 8000000 in
theorem word_base {prog : Program} {w : World} {p : Program} {loose : List PySem.Str} {mean : ExcName → Option Value} {mg mb : PySem.Str → Option Value}
  (dp un : Nat) (gd : Option (List Code)) (cn : PySem.Str) (cs : Scope) (a : Addr) (ccd : Value) (cl : List (PySem.Str × Addr)) (outer : List Env) (A₀ : Around) (base h₀ : Heap) (L : Addr) (m : PySem.Str → Option Value) (s : Shared) (Q E : Value → Shared → Prop)
  (B : Below A₀ base outer h₀) (F : Fr h₀ L s.heap m) (X : (Mine.hd.heap_39 w.params).In h₀) (T : Top p loose mean mg mb h₀) (hk : cs.kind = .function)
  (hdp : dp ≤ 800) (hun : un ≤ 7000)
  (news : List (Addr × Obj)) (x dx lb ln : Addr) (bvs nvs : List Value) (bs ns : List Int) (cnt : Int) (q1 q2 q3 : Int) (t1 t2 t3 t4 : Tok) (nd kb kn : Nat)
  (N : News h₀ L s.heap news) (hx : (x, instObj 301 dx) ∈ news) (hdx : (dx, dictOf [⟨q1, .str (Str.ofString "bounds") t1, .ref lb⟩, ⟨q2, .str (Str.ofString "numbers") t2, .ref ln⟩, ⟨q3, .str (Str.ofString "count") t3, .int cnt t4⟩] nd) ∈ news)
  (hlb : (lb, W.listOf bvs.toArray kb) ∈ news) (hln : (ln, W.listOf nvs.toArray kn) ∈ news) (hbI : IntsAre bvs bs) (hnI : IntsAre nvs ns) (hC : ClsOk bs ns cnt)
  (tx : PySem.Str) (tt : Tok) (hlt : tx.cps.size ≤ 64)
  (hret : ∀ l ys k h' tk', Fr h₀ L h' m → News h₀ L h' ((l, W.listOf ys.toArray k) :: news) → (∀ p ∈ news, p.1 ≠ l) → IntsAre ys (tx.cps.toList.map fun (c : Nat) => ofVal bs ns (c : Int)) → Q (.ref l) { s with heap := h', toks := tk' })
  :
  wpAny (model prog w) (ktrTop dp un gd cn cs L a ccd cl outer) (call (.ref 293) [.ref x, .str tx tt]) Q E s := by
  have hb0 := hC.b0
  have hb1 := hC.b1
  have hb64 := hC.len
  have hbn := hC.eql
  have hpos := hC.pos
  refine wpAny_call ?_
  k_dflt (refine' code_defC ?k1 ?k2 ?k3 ?k4 ?k5 ?kA ?kF ?kK ?k6 ?k7 ?k8 ?k9 ?kB ?kD ?_ ?c2 ?c3 ?c4; (case kA => exact rfl); (case kF => exact rfl); (case kK => assumption); (case k1 => k_asm); (case k2 => k_asm); (case k3 => k_asm); (case k4 => k_asm); (case k5 => k_asm); (case k6 => k_is); (case k7 => k_is); (case k8 => ktr_room); (case k9 => exact BindsTo.of_eq rfl); (case kB => exact rfl); (case kD => decide +kernel); (case c2 => exact rfl); (case c3 => exact rfl); (case c4 => exact rfl); k_whole; intro g' L' h' tk' cells' FG' F' N' Y' B' X' T' l1; (try k_lt l1); k_cells Y'; (try simp only [List.cons_append, List.nil_append] at N'); (try dsimp only); (try k_fold))
  k_steps
  unfold Stop
  (rename Fr _ _ _ _ => lF0)
  refine str_comp lF0 (by rfl) (by decide) (by rfl) (by decide) (by rfl) ?_
  (try k_unmd)
  k_steps
  (rename Fr _ _ _ _ => lF); (rename News _ _ _ _ => lN)
  unfold StrSrc
  refine ⟨tx, _, _, rfl, rfl, lF, lN, by rw [sizeLine_eq]; omega, ?_⟩
  rintro s₂ ⟨hh, rfl⟩
  refine compRest_inv (n := tx.cps.size) (fun i ys nx => nx = _ ∧ IntsAre ys ((tx.cps.toList.take i).map fun (c : Nat) => ofVal bs ns (c : Int))) ?turn ?fin _ 0 [] _ (by omega) ⟨rfl, by simpa using IntsAre.nil⟩
  case turn =>
    rintro i v ys nx I oI C oC D m₂ h tk E' hi ⟨c, tc, hc, rfl⟩ ⟨rfl, hys⟩ hC2 hx2 F2 N2 hoff hne
    k_steps
    (rename Fr _ _ _ _ => lF); (rename News _ _ _ _ => lN); (rename _ = ofVal _ _ _ => e9)
    refine LCg.CompEnd.intro lF lN _ (fun p hp => hp) hoff trivial ⟨rfl, ?_⟩
    rw [take_snoc hc, List.map_append]
    subst e9
    exact hys.append (.cons _ _ .nil)
  case fin =>
    rintro ys nx ⟨rfl, hys⟩
    intro D h tk F2 N2 hoff
    dsimp only
    (try k_unmd)
    k_steps
    (rename Fr _ _ _ _ => lF); (rename News _ _ _ _ => lN)
    rw [take_all] at hys
    exact hret _ _ _ _ _ lF (fun p hp => lN p (by rcases List.mem_cons.mp hp with rfl | hp; exact List.mem_cons_self ..; exact List.mem_cons_of_mem _ (List.mem_cons_of_mem _ hp))) (off_of1 hoff.2) hys
end

section
local macro_rules | `(tactic| walk_at "call ref") => `(tactic| (k_here; (with_reducible show wpAny _ _ (call (Value.ref 288) [Value.ref _, Value.int _ _]) _ _ _); k_dflt (apply least_base; (case B => k_asm); (case F => k_asm); (case X => k_asm); (case T => k_asm); (case hk => first | exact rfl | assumption); (case hdp => first | omega | ktr_room); (case hun => first | omega | units_room); (case N => k_asm); (case hx => k_mem); (case hdx => k_mem); (case hlb => k_mem); (case hln => k_mem); (case hbI => with_reducible assumption); (case hnI => with_reducible assumption); (case hC => assumption); (case hn0 => assumption); (case hn1 => assumption)); intro r9 t9 h9 tk9 F9 N9 e9))
local macro_rules | `(tactic| walk_at $k:str) => if ["eval ListComp", "CompSrc"].contains k.getString then `(tactic| (k_here; k_dflt (refine Stop.out ?_))) else Lean.Macro.throwUnsupported
local macro_rules | `(tactic| walk_at "pad") => `(tactic| fail "pad")
set_option maxRecDepth 100000 in
set_option maxHeartbeats 8000000 in
theorem text_base {prog : Program} {w : World} {p : Program} {loose : List PySem.Str} {mean : ExcName → Option Value} {mg mb : PySem.Str → Option Value}
  (dp un : Nat) (gd : Option (List Code)) (cn : PySem.Str) (cs : Scope) (a : Addr) (ccd : Value) (cl : List (PySem.Str × Addr)) (outer : List Env) (A₀ : Around) (base h₀ : Heap) (L : Addr) (m : PySem.Str → Option Value) (s : Shared) (Q E : Value → Shared → Prop)
  (B : Below A₀ base outer h₀) (F : Fr h₀ L s.heap m) (X : (Mine.hd.heap_39 w.params).In h₀) (T : Top p loose mean mg mb h₀) (hk : cs.kind = .function)
  (hdp : dp ≤ 800) (hun : un ≤ 7000)
  (news : List (Addr × Obj)) (x dx lb ln : Addr) (bvs nvs : List Value) (bs ns : List Int) (cnt : Int) (q1 q2 q3 : Int) (t1 t2 t3 t4 : Tok) (nd kb kn : Nat)
  (N : News h₀ L s.heap news) (hx : (x, instObj 301 dx) ∈ news) (hdx : (dx, dictOf [⟨q1, .str (Str.ofString "bounds") t1, .ref lb⟩, ⟨q2, .str (Str.ofString "numbers") t2, .ref ln⟩, ⟨q3, .str (Str.ofString "count") t3, .int cnt t4⟩] nd) ∈ news)
  (hlb : (lb, W.listOf bvs.toArray kb) ∈ news) (hln : (ln, W.listOf nvs.toArray kn) ∈ news) (hbI : IntsAre bvs bs) (hnI : IntsAre nvs ns) (hC : ClsOk bs ns cnt)
  (lm : Addr) (mvs : List Value) (ms : List Int) (km : Nat) (hlm : (lm, W.listOf mvs.toArray km) ∈ news) (hmI : IntsAre mvs ms) (hm64 : ms.length ≤ 64) (hms : ∀ k ∈ ms, 0 ≤ k ∧ k < cnt)
  (hret : ∀ tx t h' tk', Fr h₀ L h' m → News h₀ L h' news → tx = (⟨(ms.map fun k => (bs.getD (ns.idxOf k) 0).toNat).toArray⟩ : PySem.Str) → Q (.str tx t) { s with heap := h', toks := tk' })
  :
  wpAny (model prog w) (ktrTop dp un gd cn cs L a ccd cl outer) (call (.ref 298) [.ref x, .ref lm]) Q E s := by
  have hb0 := hC.b0
  have hb1 := hC.b1
  have hb64 := hC.len
  have hbn := hC.eql
  have hpos := hC.pos
  refine wpAny_call ?_
  k_dflt (refine' code_defC ?k1 ?k2 ?k3 ?k4 ?k5 ?kA ?kF ?kK ?k6 ?k7 ?k8 ?k9 ?kB ?kD ?_ ?c2 ?c3 ?c4; (case kA => exact rfl); (case kF => exact rfl); (case kK => assumption); (case k1 => k_asm); (case k2 => k_asm); (case k3 => k_asm); (case k4 => k_asm); (case k5 => k_asm); (case k6 => k_is); (case k7 => k_is); (case k8 => ktr_room); (case k9 => exact BindsTo.of_eq rfl); (case kB => exact rfl); (case kD => decide +kernel); (case c2 => exact rfl); (case c3 => exact rfl); (case c4 => exact rfl); k_whole; intro g' L' h' tk' cells' FG' F' N' Y' B' X' T' l1; (try k_lt l1); k_cells Y'; (try simp only [List.cons_append, List.nil_append] at N'); (try dsimp only); (try k_fold))
  k_steps
  unfold Stop
  (rename Fr _ _ _ _ => lF0)
  refine LCg.ListComp_U (F₀ := lF0) (by rfl) (by decide) (by rfl) (by decide) (by rfl) ?_
  (try k_unmd)
  k_steps
  (rename Fr _ _ _ _ => lF); (rename News _ _ _ _ => lN)
  have hml := hmI.length
  unfold Stop
  refine LCg.CompSrc.ledger (by rfl) lF lN (by k_mem) (by rw [sizeLine_eq, List.size_toArray]; omega) ?_
  intro g
  refine compRest_inv (n := mvs.toArray.size) (fun i ys nx => nx = _ ∧ StrsAre ys ((ms.take i).map fun k => (⟨#[(bs.getD (ns.idxOf k) 0).toNat]⟩ : PySem.Str))) ?turn ?fin _ 0 [] _ (by omega) ⟨rfl, by simpa using StrsAre.nil⟩
  case turn =>
    rintro i v ys nx I oI C oC D m₂ h tk E' hi hv ⟨rfl, hys⟩ hC2 hx2 F2 N2 hoff hne
    obtain ⟨k, tk9, rfl, hk9⟩ := IntsAre.at hmI i v (by simpa using hv)
    have hkm := hms k (List.mem_of_getElem? hk9)
    obtain ⟨hk0, hk1⟩ := hkm
    have hix : ns.idxOf k < ns.length := List.idxOf_lt_length_iff.mpr (hC.mem hk0 hk1)
    have hbk := hC.at (j := ns.idxOf k) (by omega)
    k_steps
    (rename _ = bs.getD _ _ => e9)
    (rename Fr _ _ _ _ => lF); (rename News _ _ _ _ => lN)
    refine LCg.CompEnd.intro lF lN _ (fun p hp => hp) hoff (Or.inr ⟨_, List.mem_cons_of_mem _ hlm, rfl, _, rfl⟩) ⟨rfl, ?_⟩
    subst e9
    rw [List.take_add_one, hk9]
    rw [List.map_append]
    exact hys.append' (.cons _ _ .nil)
  case fin =>
    rintro ys nx ⟨rfl, hys⟩
    intro D h tk F2 N2 hoff
    dsimp only
    (try k_unmd)
    k_steps
    (rename Fr _ _ _ _ => lF2); (rename News _ _ _ _ => lN2)
    have e9 : ms.take mvs.toArray.size = ms := by rw [List.size_toArray, hml]; exact List.take_length
    rw [e9] at hys
    refine my_join (ms := ms) (f := fun k => (bs.getD (ns.idxOf k) 0).toNat) (News.isList lN2 (.head _)) hys hm64 ?_
    intro t' k' tx htx
    k_steps
    (rename Fr _ _ _ _ => lF3); (rename News _ _ _ _ => lN3)
    exact hret _ _ _ _ lF3 (fun p hp => lN3 p (List.mem_cons_of_mem _ (List.mem_cons_of_mem _ hp))) htx
end

theorem ns_of {K : Frag} {h : Heap} {N : Addr} {mg : PySem.Str → Option Value} {n : PySem.Str} {v : Value} (X : K.In h) (G : h.Ns N mg) (e : nsIn K N n = some (some v)) : mg n = some v := by
  obtain ⟨o, es, ep, ho, hd, _, hf⟩ := G
  unfold nsIn at e
  split at e
  · rename_i c d es' n' sl q
    have := X _ _ q
    rw [ho] at this
    cases this
    cases hd
    split at e
    · rename_i en he
      cases e
      rw [← hf]
      unfold nsFind findBy
      rw [← Array.find?_toList, he]
      rfl
    · split at e <;> cases e
  · cases e
theorem cls59 {w : World} {h : Heap} (X : (Mine.hd.heap_39 w.params).In h) : ∃ nm q bs sn sub ab col dd k0 k1 k2 k3 k5, h.get? 59 = some (excClassObj nm q 59 58 bs (.ref 46 :: [.type "Exception", .type "BaseException", .type "object"]) true sn sub ab col dd k0 k1 k2 k3 k5 "Exception.__new__") := by
  have key : ∀ {nm q bs sn sub ab col dd k0 k1 k2 k3 k5}, List.lookup 59 (Mine.hd.heap_39 w.params) = some (excClassObj nm q 59 58 bs (.ref 46 :: [.type "Exception", .type "BaseException", .type "object"]) true sn sub ab col dd k0 k1 k2 k3 k5 "Exception.__new__") → ∃ nm q bs sn sub ab col dd k0 k1 k2 k3 k5, h.get? 59 = some (excClassObj nm q 59 58 bs (.ref 46 :: [.type "Exception", .type "BaseException", .type "object"]) true sn sub ab col dd k0 k1 k2 k3 k5 "Exception.__new__") :=
    fun e => ⟨_, _, _, _, _, _, _, _, _, _, _, _, _, X _ _ e⟩
  refine' key ?k1
  case k1 => k_is
theorem cls46 {w : World} {h : Heap} (X : (Mine.hd.heap_39 w.params).In h) : ∃ nm q bs sn sub ab col dd k0 k1 k2 k3 k5, h.get? 46 = some (excClassObj nm q 46 45 bs [.type "Exception", .type "BaseException", .type "object"] true sn sub ab col dd k0 k1 k2 k3 k5 "Exception.__new__") := by
  have key : ∀ {nm q bs sn sub ab col dd k0 k1 k2 k3 k5}, List.lookup 46 (Mine.hd.heap_39 w.params) = some (excClassObj nm q 46 45 bs [.type "Exception", .type "BaseException", .type "object"] true sn sub ab col dd k0 k1 k2 k3 k5 "Exception.__new__") → ∃ nm q bs sn sub ab col dd k0 k1 k2 k3 k5, h.get? 46 = some (excClassObj nm q 46 45 bs [.type "Exception", .type "BaseException", .type "object"] true sn sub ab col dd k0 k1 k2 k3 k5 "Exception.__new__") :=
    fun e => ⟨_, _, _, _, _, _, _, _, _, _, _, _, _, X _ _ e⟩
  refine' key ?k1
  case k1 => k_is
theorem fn36 {w : World} {h : Heap} (X : (Mine.hd.heap_39 w.params).In h) : ∃ o, h.get? 36 = some o ∧ o.cls = .type "function" := by
  have key : ∀ {d dt sl}, List.lookup 36 (Mine.hd.heap_39 w.params) = some (⟨.type "function", d, dt, sl⟩ : Obj) → ∃ o, h.get? 36 = some o ∧ o.cls = .type "function" :=
    fun e => ⟨_, X _ _ e, rfl⟩
  refine' key ?k1
  case k1 => k_is
theorem nsok58 (w : World) : nsOkIn (Mine.hd.heap_39 w.params) 58 = true := by kernel_rfl
theorem nsok45 (w : World) : nsOkIn (Mine.hd.heap_39 w.params) 45 = true := by kernel_rfl
theorem none58 {w : World} {h : Heap} (X : (Mine.hd.heap_39 w.params).In h) : h.nsMap 58 "__init__" = none ∧ h.nsMap 58 "__setattr__" = none ∧ h.nsMap 58 "what" = none ∧ h.nsMap 58 "at" = none :=
  ⟨nsMap_none_of_in X (nsok58 w) (by k_is), nsMap_none_of_in X (nsok58 w) (by k_is), nsMap_none_of_in X (nsok58 w) (by k_is), nsMap_none_of_in X (nsok58 w) (by k_is)⟩
theorem none45 {w : World} {h : Heap} (X : (Mine.hd.heap_39 w.params).In h) : h.nsMap 45 "__init__" = some (.ref 36) ∧ h.nsMap 45 "__setattr__" = none ∧ h.nsMap 45 "what" = none ∧ h.nsMap 45 "at" = none :=
  ⟨ns_of X (.of_isNs (isNs_of_in X (nsok45 w))) (by k_is), nsMap_none_of_in X (nsok45 w) (by k_is), nsMap_none_of_in X (nsok45 w) (by k_is), nsMap_none_of_in X (nsok45 w) (by k_is)⟩
section
variable {prog : Program} {w : World} {A : Around} {E : Value → Shared → Prop} {s : Shared} {h₀ : Heap} {L : Addr} {m : PySem.Str → Option Value} {news : List (Addr × Obj)}
theorem exc_init_K {e te : Addr} {v : Value} {Q : Value → Shared → Prop} (F : Fr h₀ L s.heap m) (X₀ : (Mine.hd.heap_39 w.params).In h₀) (N : News h₀ L s.heap ((e, excObj 59 te none) :: news)) (off : ∀ p ∈ news, @Ne Nat p.1 e)
    (hq : ∀ T h', Fr h₀ L h' m → News h₀ L h' ((e, excObj 59 T none) :: (T, ({ cls := .type "tuple", data := .seq [v].toArray } : Obj)) :: news) → (∀ p ∈ (e, excObj 59 te none) :: news, p.1 < T) → Q .none { s with heap := h' }) :
    wpAny (model prog w) A (call (.builtin "Exception.__init__") [.ref e, v]) Q E s := by
  obtain ⟨nm, q, bs, sn, sub, ab, col, dd, k0, k1, k2, k3, k5, hC⟩ := cls59 (X₀.keeps F.keep)
  obtain ⟨hh, g, d, t, os⟩ := s
  have he := N _ (List.mem_cons_self ..)
  refine exc2_init PySem.F.excBase_Exception hC he.1 (fun T h' keep hE hT eT => ?_) (by rw [sizeLine_eq]; simp)
  have hTe : T ≠ e := by rw [eT]; exact Ne.symm (Nat.ne_of_lt (Heap.lt_size he.1))
  have hlt : ∀ b o, hh.get? b = some o → b < T := fun b o q => by rw [eT]; exact Heap.lt_size q
  refine hq T h' ⟨F.ns.at' fun o q => keep _ _ (Ne.symm he.2.1) q, fun b o q => keep b o (fun z => by rw [z, he.2.2] at q; cases q) (F.keep b o q), F.above⟩ (fun p hp => ?_) (fun p hp => hlt _ _ (N p hp).1)
  rcases List.mem_cons.mp hp with rfl | hp
  · exact ⟨hE, he.2⟩
  rcases List.mem_cons.mp hp with rfl | hp
  · refine ⟨hT, ?_, ?_⟩
    · rw [eT]; exact Ne.symm (Nat.ne_of_lt F.ns.lt)
    · rw [eT]; exact next_is_new F
  · have z := N p (List.mem_cons_of_mem _ hp)
    exact ⟨keep _ _ (off p hp) z.1, z.2⟩
def DictNs (o : Obj) (mA : PySem.Str → Option Value) : Prop := ∃ es ep, o.data = .dict es ep ∧ StrKeys es ∧ UniqKeys es ∧ ∀ name, nsFind es name = mA name
theorem exc_set1_K {e T : Addr} {v : Value} {Q : Unit → Shared → Prop} (F : Fr h₀ L s.heap m) (X₀ : (Mine.hd.heap_39 w.params).In h₀) (N : News h₀ L s.heap ((e, excObj 59 T none) :: news)) (off : ∀ p ∈ news, @Ne Nat p.1 e)
    (hq : ∀ dx oD h' tk, Fr h₀ L h' m → News h₀ L h' ((e, excObj 59 T (some dx)) :: (dx, oD) :: news) → (∀ p ∈ (e, excObj 59 T none) :: news, p.1 < dx) → DictNs oD (fun y => if y = "what" then some v else none) → Q () { s with heap := h', toks := tk }) :
    wpAny (model prog w) A (setAttr (.ref e) "what" v) Q E s := by
  have X := X₀.keeps F.keep
  obtain ⟨nm, q, bs, sn, sub, ab, col, dd, k0, k1, k2, k3, k5, hC⟩ := cls59 X
  obtain ⟨nm', q', bs', sn', sub', ab', col', dd', j0, j1, j2, j3, j5, hC2⟩ := cls46 X
  obtain ⟨-, a2, a3, -⟩ := none58 X
  obtain ⟨-, b2, b3, -⟩ := none45 X
  have n58 : s.heap.Ns 58 (s.heap.nsMap 58) := .of_isNs (isNs_of_in X (nsok58 w))
  have n45 : s.heap.Ns 45 (s.heap.nsMap 45) := .of_isNs (isNs_of_in X (nsok45 w))
  obtain ⟨hh, g, d, t, os⟩ := s
  have he := N _ (List.mem_cons_self ..)
  refine store2_attr (mA := fun _ => none) (ns := []) PySem.F.store_Exception hC n58 a2 a3 hC2 n45 b2 b3 (by rw [typeLookup_type, builtinLookup_eq_fast]; kernel_rfl) ⟨_, he.1, rfl, (fun c q => by cases q), .inl ⟨rfl, fun _ => rfl⟩⟩ (fun h' tk' I' keep same => ?_) (fun y h => absurd rfl h)
  obtain ⟨o₁, ho₁, hc₁, hd₁, hs₁, -, hdx⟩ := same _ he.1
  have hde := hdx rfl
  clear hdx
  have eo : o₁ = excObj 59 T (some hh.objs.size) := by
    obtain ⟨oc, odi, oda, osl⟩ := o₁
    dsimp only at hc₁ hd₁ hs₁ hde
    subst hc₁ hd₁ hs₁ hde
    rfl
  subst eo
  obtain ⟨o₂, ho₂, -, -, hI⟩ := I'
  rw [ho₁] at ho₂
  cases ho₂
  rcases hI with ⟨z, -⟩ | ⟨dx, z, hne, o, es, ep, hdo, hdd, hsk, huk, hnf⟩
  · cases z
  cases z
  have kp : ∀ b o, b ≠ e → hh.get? b = some o → h'.get? b = some o := fun b o q z => keep b o q (fun o₀ dx h1 h2 => by rw [show hh.get? e = _ from he.1] at h1; cases h1; cases h2) z
  refine hq hh.objs.size o h' tk' ⟨F.ns.at' fun o q => kp _ _ (Ne.symm he.2.1) q, fun b o q => kp b o (fun z => by rw [z, he.2.2] at q; cases q) (F.keep b o q), F.above⟩ (fun p hp => ?_) (fun p hp => Heap.lt_size (N p hp).1) ⟨es, ep, hdd, hsk, huk, hnf⟩
  rcases List.mem_cons.mp hp with rfl | hp
  · exact ⟨ho₁, he.2⟩
  rcases List.mem_cons.mp hp with rfl | hp
  · exact ⟨hdo, Ne.symm (Nat.ne_of_lt F.ns.lt), next_is_new F⟩
  · have z := N p (List.mem_cons_of_mem _ hp)
    exact ⟨kp _ _ (off p hp) z.1, z.2⟩
theorem exc_set2_K {e T dx : Addr} {oD : Obj} {v : Value} {mA : PySem.Str → Option Value} {ns : List PySem.Str} {Q : Unit → Shared → Prop} (F : Fr h₀ L s.heap m) (X₀ : (Mine.hd.heap_39 w.params).In h₀) (N : News h₀ L s.heap ((e, excObj 59 T (some dx)) :: (dx, oD) :: news)) (off : ∀ p ∈ news, @Ne Nat p.1 e ∧ @Ne Nat p.1 dx) (hne : @Ne Nat dx e) (D : DictNs oD mA) (hw : Within mA ns) (hsz : ns.length ≤ 1000)
    (hq : ∀ oD h' tk, Fr h₀ L h' m → News h₀ L h' ((e, excObj 59 T (some dx)) :: (dx, oD) :: news) → Q () { s with heap := h', toks := tk }) :
    wpAny (model prog w) A (setAttr (.ref e) "at" v) Q E s := by
  have X := X₀.keeps F.keep
  obtain ⟨nm, q, bs, sn, sub, ab, col, dd, k0, k1, k2, k3, k5, hC⟩ := cls59 X
  obtain ⟨nm', q', bs', sn', sub', ab', col', dd', j0, j1, j2, j3, j5, hC2⟩ := cls46 X
  obtain ⟨-, a2, -, a3⟩ := none58 X
  obtain ⟨-, b2, -, b3⟩ := none45 X
  have n58 : s.heap.Ns 58 (s.heap.nsMap 58) := .of_isNs (isNs_of_in X (nsok58 w))
  have n45 : s.heap.Ns 45 (s.heap.nsMap 45) := .of_isNs (isNs_of_in X (nsok45 w))
  obtain ⟨hh, g, d, t, os⟩ := s
  have he := N _ (List.mem_cons_self ..)
  have hd := N _ (List.mem_cons_of_mem _ (List.mem_cons_self ..))
  obtain ⟨es, ep, hdd, hsk, huk, hnf⟩ := D
  refine store2_attr (mA := mA) (ns := ns) PySem.F.store_Exception hC n58 a2 a3 hC2 n45 b2 b3 (by rw [typeLookup_type, builtinLookup_eq_fast]; kernel_rfl) ⟨_, he.1, rfl, (fun c q => by cases q), .inr ⟨dx, rfl, hne, oD, es, ep, hd.1, hdd, hsk, huk, hnf⟩⟩ (fun h' tk' I' keep same => ?_) hw (by rw [sizeLine_eq]; omega)
  obtain ⟨o₁, ho₁, hc₁, hd₁, hs₁, hdx, -⟩ := same _ he.1
  have hde := hdx dx rfl
  clear hdx
  have eo : o₁ = excObj 59 T (some dx) := by
    obtain ⟨oc, odi, oda, osl⟩ := o₁
    dsimp only at hc₁ hd₁ hs₁ hde
    subst hc₁ hd₁ hs₁ hde
    rfl
  subst eo
  obtain ⟨o₂, ho₂, -, -, hI⟩ := I'
  rw [ho₁] at ho₂
  cases ho₂
  rcases hI with ⟨z, -⟩ | ⟨dx', z, hne', o, es', ep', hdo, hdd', hsk', huk', hnf'⟩
  · cases z
  cases z
  have kp : ∀ b o, b ≠ e → b ≠ dx → hh.get? b = some o → h'.get? b = some o := fun b o q q2 z => keep b o q (fun o₀ dx h1 h2 => by rw [show hh.get? e = _ from he.1] at h1; cases h1; cases h2; exact q2) z
  refine hq o h' tk' ⟨F.ns.at' fun o q => kp _ _ (Ne.symm he.2.1) (Ne.symm hd.2.1) q, fun b o q => kp b o (fun z => by rw [z, he.2.2] at q; cases q) (fun z => by rw [z, hd.2.2] at q; cases q) (F.keep b o q), F.above⟩ (fun p hp => ?_)
  rcases List.mem_cons.mp hp with rfl | hp
  · exact ⟨ho₁, he.2⟩
  rcases List.mem_cons.mp hp with rfl | hp
  · exact ⟨hdo, hd.2⟩
  · have z := N p (List.mem_cons_of_mem _ (List.mem_cons_of_mem _ hp))
    exact ⟨kp _ _ (off p hp).1 (off p hp).2 z.1, z.2⟩
theorem exc_make_K {v : Value} {Q : Value → Shared → Prop} (F : Fr h₀ L s.heap m) (X₀ : (Mine.hd.heap_39 w.params).In h₀) (N : News h₀ L s.heap news)
    (hq : ∀ h' e te, Fr h₀ L h' m → News h₀ L h' ((e, excObj 59 te none) :: news) → (∀ p ∈ news, @Ne Nat p.1 e) →
      wpAny (model prog w) (A.under (.builtin "type.__call__" ⟨[.ref 59, v], []⟩)) (call (.ref 36) [.ref e, v]) (fun r s' => r = .none ∧ Q (.ref e) s') E { s with heap := h' }) :
    wpAny (model prog w) A (call (.ref 59) [v]) Q E s := by
  have X := X₀.keeps F.keep
  obtain ⟨nm, q, bs, sn, sub, ab, col, dd, k0, k1, k2, k3, k5, hC⟩ := cls59 X
  obtain ⟨nm', q', bs', sn', sub', ab', col', dd', j0, j1, j2, j3, j5, hC2⟩ := cls46 X
  obtain ⟨a1, -⟩ := none58 X
  obtain ⟨b1, -⟩ := none45 X
  have n58 : s.heap.Ns 58 (s.heap.nsMap 58) := .of_isNs (isNs_of_in X (nsok58 w))
  have n45 : s.heap.Ns 45 (s.heap.nsMap 45) := .of_isNs (isNs_of_in X (nsok45 w))
  obtain ⟨oI, hI, hIc⟩ := fn36 X
  obtain ⟨hh, g, d, t, os⟩ := s
  refine exc2_call (rest := [v]) PySem.F.excBase_Exception hC n58 a1 hC2 n45 b1 hI hIc (fun h' e hm => ?_) (by rw [sizeLine_eq]; simp)
  obtain ⟨keeps, new, te, he, -, -⟩ := hm
  have off : ∀ p ∈ news, @Ne Nat p.1 e := fun p hp q => by
    have := (N p hp).1
    rw [show p.1 = e from q, show hh.get? e = none from new] at this
    cases this
  refine hq h' e te (F.keeps keeps) (fun p hp => ?_) off
  rcases List.mem_cons.mp hp with rfl | hp
  · refine ⟨he, ?_, ?_⟩
    · intro z
      obtain ⟨o, es, ep, ho, _⟩ := F.ns
      rw [show e = L from z] at new
      rw [show hh.get? L = some o from ho] at new
      cases new
    · cases q : h₀.get? e with
      | none => rfl
      | some o => have := F.keep e o q; rw [show hh.get? e = none from new] at this; cases this
  · exact ⟨keeps _ _ (N p hp).1, (N p hp).2⟩
theorem excCls_K (F : Fr h₀ L s.heap m) (X₀ : (Mine.hd.heap_39 w.params).In h₀) : ExcCls s.heap 59 46 := by
  obtain ⟨nm, q, bs, sn, sub, ab, col, dd, k0, k1, k2, k3, k5, hC⟩ := cls59 (X₀.keeps F.keep)
  exact ⟨nm, q, 58, bs, _, true, sn, sub, ab, col, dd, k0, k1, k2, k3, k5, _, hC, by decide⟩
end

set_option maxRecDepth 100000 in
set_option maxHeartbeats 8000000 in
theorem init_exc {prog : Program} {w : World} {p : Program} {loose : List PySem.Str} {mean : ExcName → Option Value} {mg mb : PySem.Str → Option Value}
  (dp un : Nat) (gd : Option (List Code)) (cn : PySem.Str) (cs : Scope) (a : Addr) (ccd : Value) (cl : List (PySem.Str × Addr)) (outer : List Env) (A₀ : Around) (base h₀ : Heap) (L : Addr) (m : PySem.Str → Option Value) (s : Shared) (Q E : Value → Shared → Prop)
  (B : Below A₀ base outer h₀) (F : Fr h₀ L s.heap m) (X : (Mine.hd.heap_39 w.params).In h₀) (T : Top p loose mean mg mb h₀) (hk : cs.kind = .function)
  (hdp : dp ≤ 900) (hun : un ≤ 8000)
  (news : List (Addr × Obj)) (e te : Addr) (what : PySem.Str) (tw : Tok)
  (N : News h₀ L s.heap ((e, excObj 59 te none) :: news)) (off : ∀ p ∈ news, @Ne Nat p.1 e)
  (hret : ∀ dx T oD h' tk', Fr h₀ L h' m → News h₀ L h' ((e, excObj 59 T (some dx)) :: (dx, oD) :: (T, ({ cls := .type "tuple", data := .seq [Value.str what tw].toArray } : Obj)) :: news) → (∀ p ∈ news, @Ne Nat p.1 T) → Q .none { s with heap := h', toks := tk' })
  :
  wpAny (model prog w) (ktrTop dp un gd cn cs L a ccd cl outer) (call (.ref 36) [.ref e, .str what tw]) Q E s := by
  refine wpAny_call ?_
  k_dflt (refine' code_def ?k1 ?k2 ?k3 ?k4 ?k5 ?kA ?kF ?kK ?k6 ?k7 ?k8 ?k9 ?kB ?_ ?c2 ?c3 ?c4 ?c5; (case kA => exact rfl); (case kF => exact rfl); (case kK => assumption); (case k1 => k_asm); (case k2 => k_asm); (case k3 => k_asm); (case k4 => k_asm); (case k5 => k_asm); (case k6 => k_is); (case k7 => k_is); (case k8 => ktr_room); (case k9 => exact binds_K (by k_in) rfl (by k_is) rfl rfl rfl); (case c5 => decide); (case kB => exact locs rfl); (case c2 => exact rfl); (case c3 => exact rfl); (case c4 => exact rfl); k_whole; intro g' L' h' FG' F' N' B' X' T'; (try dsimp only); (try k_fold))
  k_steps
  refine method_type (v := .builtin "Exception.__init__") F' X' ?a1 ?a2 ?a3 ?a4 ?_
  case a1 => rfl
  case a2 => decide +kernel
  case a3 => k_is
  case a4 => decide +kernel
  k_steps
  refine exc_init_K (by k_asm) (by k_asm) (by k_asm) off ?_
  intro T h1 F1 N1 l1
  k_steps
  have l2 : ∀ p ∈ news, @Ne Nat p.1 e ∧ @Ne Nat p.1 T := fun p hp => ⟨off p hp, Nat.ne_of_lt (l1 p (List.mem_cons_of_mem _ hp))⟩
  have l3 : @Ne Nat T e := Ne.symm (Nat.ne_of_lt (l1 _ (List.mem_cons_self ..)))
  refine exc_set1_K (by k_asm) (by k_asm) (by k_asm) (fun p hp => by rcases List.mem_cons.mp hp with rfl | hp; exact l3; exact off p hp) ?_
  intro dx oD h2 tk2 F2 N2 l4 D2
  k_steps
  refine exc_set2_K (ns := ["what"]) (by k_asm) (by k_asm) (by k_asm) (fun p hp => ⟨?_, Nat.ne_of_lt (l4 p (List.mem_cons_of_mem _ hp))⟩) (Ne.symm (Nat.ne_of_lt (l4 _ (List.mem_cons_self ..)))) D2 (fun y hy => ?_) (by decide) ?_
  · rcases List.mem_cons.mp hp with rfl | hp
    · exact l3
    · exact off p hp
  · by_cases q : y = "what"
    · rw [q]; exact List.mem_cons_self ..
    · rw [if_neg q] at hy; exact absurd rfl hy
  intro oD2 h3 tk3 F3 N3
  k_steps
  (rename Fr _ _ _ _ => lF); (rename News _ _ _ _ => lN)
  exact hret _ _ _ _ _ lF lN (fun p hp => (l2 p hp).2)

section
local macro_rules | `(tactic| walk_at "exec Raise some none") => `(tactic| (k_here; k_dflt (refine Stop.out ?_)))
local macro_rules | `(tactic| walk_at "call ref") => `(tactic| (k_here; (with_reducible show wpAny _ _ (call (Value.ref 59) [Value.str _ _]) _ _ _); k_dflt (refine Stop.out ?_)))
set_option maxRecDepth 100000 in
set_option maxHeartbeats 8000000 in
theorem least_raise {prog : Program} {w : World} {p : Program} {loose : List PySem.Str} {mean : ExcName → Option Value} {mg mb : PySem.Str → Option Value}
  (dp un : Nat) (gd : Option (List Code)) (cn : PySem.Str) (cs : Scope) (a : Addr) (ccd : Value) (cl : List (PySem.Str × Addr)) (outer : List Env) (A₀ : Around) (base h₀ : Heap) (L : Addr) (m : PySem.Str → Option Value) (s : Shared) (Q E : Value → Shared → Prop)
  (B : Below A₀ base outer h₀) (F : Fr h₀ L s.heap m) (X : (Mine.hd.heap_39 w.params).In h₀) (T : Top p loose mean mg mb h₀) (hk : cs.kind = .function)
  (hdp : dp ≤ 800) (hun : un ≤ 7000)
  (news : List (Addr × Obj)) (x dx lb ln : Addr) (bvs nvs : List Value) (bs ns : List Int) (cnt : Int) (q1 q2 q3 : Int) (t1 t2 t3 t4 : Tok) (nd kb kn : Nat)
  (N : News h₀ L s.heap news) (hx : (x, instObj 301 dx) ∈ news) (hdx : (dx, dictOf [⟨q1, .str (Str.ofString "bounds") t1, .ref lb⟩, ⟨q2, .str (Str.ofString "numbers") t2, .ref ln⟩, ⟨q3, .str (Str.ofString "count") t3, .int cnt t4⟩] nd) ∈ news)
  (hlb : (lb, W.listOf bvs.toArray kb) ∈ news) (hln : (ln, W.listOf nvs.toArray kn) ∈ news) (hbI : IntsAre bvs bs) (hnI : IntsAre nvs ns) (hC : ClsOk bs ns cnt)
  (number : Int) (tc : Tok) (hbad : number < 0 ∨ cnt ≤ number)
  (hexc : ∀ g' e t vs h' tk', Fr h₀ L g' m → RaisedS base g' (envX cn cs L a ccd cl :: outer) e (.ref 59) t vs news h' → g'.UpToSlots h' → E (.ref e) { s with heap := h', toks := tk' })
  :
  wpAny (model prog w) (ktrTop dp un gd cn cs L a ccd cl outer) (call (.ref 288) [.ref x, .int number tc]) Q E s := by
  refine wpAny_call ?_
  k_dflt ktr_enter
  k_steps
  all_goals unfold Stop
  all_goals refine raise2 (C := 59) (C2 := 46) (by rfl) ?_
  all_goals k_steps
  all_goals
    unfold Stop
    refine exc_make_K (by k_asm) (by k_asm) (by k_asm) ?_
    intro h1 e te F1 N1 off1
    k_dflt (apply init_exc; (case B => k_asm); (case F => k_asm); (case X => k_asm); (case T => k_asm); (case hk => first | exact rfl | assumption); (case hdp => exact Nat.le_trans (m := dp + 2) (Nat.le_of_eq rfl) (by omega)); (case hun => exact Nat.le_trans (m := un + 4) (Nat.le_of_eq rfl) (by omega)); (case N => exact N1); (case off => exact off1))
    intro dx T oD h2 tk2 F2 N2 offT
    have g1 := F2
    refine ⟨rfl, e, T, some dx, rfl, excCls_K F2 (by k_asm), (N2 _ (List.mem_cons_self ..)).1, ?_⟩
    (rename Below _ _ _ _ => lB); (rename Fr h₀ L _ _ => lG)
    have N3 := fun p hp => N2 p ((List.mem_cons.mp hp).elim (fun q => List.mem_cons.mpr (.inl q)) fun q => List.mem_cons_of_mem _ (List.mem_cons_of_mem _ q))
    refine leave_raise59 (A := ktrTop dp un gd cn cs L a ccd cl outer) (args := [_]) lB F2 rfl rfl N3 (fun p hp => ⟨off1 p hp, ?_⟩) (fun h' R U => hexc _ _ _ _ _ _ lG R U)
    exact offT p hp
end

section
local macro_rules | `(tactic| walk_at "call ref") => `(tactic| (k_here; (with_reducible show wpAny _ _ (call (Value.ref 288) [Value.ref _, Value.int _ _]) _ _ _); k_dflt (apply least_base; (case B => k_asm); (case F => k_asm); (case X => k_asm); (case T => k_asm); (case hk => first | exact rfl | assumption); (case hdp => first | omega | ktr_room); (case hun => first | omega | units_room); (case N => k_asm); (case hx => k_mem); (case hdx => k_mem); (case hlb => k_mem); (case hln => k_mem); (case hbI => with_reducible assumption); (case hnI => with_reducible assumption); (case hC => assumption); (case hn0 => assumption); (case hn1 => assumption)); intro r9 t9 h9 tk9 F9 N9 e9))
local macro_rules | `(tactic| walk_at "call ref") => `(tactic| (k_here; (with_reducible show wpAny _ _ (call (Value.ref 288) [Value.ref _, Value.int _ _]) _ _ _); k_dflt (apply least_raise; (case B => k_asm); (case F => k_asm); (case X => k_asm); (case T => k_asm); (case hk => first | exact rfl | assumption); (case hdp => first | omega | ktr_room); (case hun => first | omega | units_room); (case N => k_asm); (case hx => k_mem); (case hdx => k_mem); (case hlb => k_mem); (case hln => k_mem); (case hbI => with_reducible assumption); (case hnI => with_reducible assumption); (case hC => assumption); (case hbad => assumption)); intro g9 e9 t9 vs9 h9 tk9 FG9 R9 U9))
local macro_rules | `(tactic| walk_at $k:str) => if ["eval ListComp", "CompSrc"].contains k.getString then `(tactic| (k_here; k_dflt (refine Stop.out ?_))) else Lean.Macro.throwUnsupported
set_option maxRecDepth 100000 in
set_option maxHeartbeats 8000000 in
theorem text_raise {prog : Program} {w : World} {p : Program} {loose : List PySem.Str} {mean : ExcName → Option Value} {mg mb : PySem.Str → Option Value}
  (dp un : Nat) (gd : Option (List Code)) (cn : PySem.Str) (cs : Scope) (a : Addr) (ccd : Value) (cl : List (PySem.Str × Addr)) (outer : List Env) (A₀ : Around) (base h₀ : Heap) (L : Addr) (m : PySem.Str → Option Value) (s : Shared) (Q E : Value → Shared → Prop)
  (B : Below A₀ base outer h₀) (F : Fr h₀ L s.heap m) (X : (Mine.hd.heap_39 w.params).In h₀) (T : Top p loose mean mg mb h₀) (hk : cs.kind = .function)
  (hdp : dp ≤ 700) (hun : un ≤ 6000)
  (news : List (Addr × Obj)) (x dx lb ln : Addr) (bvs nvs : List Value) (bs ns : List Int) (cnt : Int) (q1 q2 q3 : Int) (t1 t2 t3 t4 : Tok) (nd kb kn : Nat)
  (N : News h₀ L s.heap news) (hx : (x, instObj 301 dx) ∈ news) (hdx : (dx, dictOf [⟨q1, .str (Str.ofString "bounds") t1, .ref lb⟩, ⟨q2, .str (Str.ofString "numbers") t2, .ref ln⟩, ⟨q3, .str (Str.ofString "count") t3, .int cnt t4⟩] nd) ∈ news)
  (hlb : (lb, W.listOf bvs.toArray kb) ∈ news) (hln : (ln, W.listOf nvs.toArray kn) ∈ news) (hbI : IntsAre bvs bs) (hnI : IntsAre nvs ns) (hC : ClsOk bs ns cnt)
  (lm : Addr) (mvs : List Value) (ms : List Int) (km : Nat) (hlm : (lm, W.listOf mvs.toArray km) ∈ news) (hmI : IntsAre mvs ms) (hm64 : ms.length ≤ 64)
  (kb : Nat) (hkb : kb < ms.length) (hms : ∀ i k, i < kb → ms[i]? = some k → 0 ≤ k ∧ k < cnt) (hmb : ∀ k, ms[kb]? = some k → k < 0 ∨ cnt ≤ k)
  (hexc : ∀ g' e t vs h' tk', Fr h₀ L g' m → RaisedS base g' (envX cn cs L a ccd cl :: outer) e (.ref 59) t vs news h' → g'.UpToSlots h' → E (.ref e) { s with heap := h', toks := tk' })
  :
  wpAny (model prog w) (ktrTop dp un gd cn cs L a ccd cl outer) (call (.ref 298) [.ref x, .ref lm]) Q E s := by
  have hb0 := hC.b0
  have hb1 := hC.b1
  have hb64 := hC.len
  have hbn := hC.eql
  have hpos := hC.pos
  refine wpAny_call ?_
  k_dflt (refine' code_defC ?k1 ?k2 ?k3 ?k4 ?k5 ?kA ?kF ?kK ?k6 ?k7 ?k8 ?k9 ?kB ?kD ?_ ?c2 ?c3 ?c4; (case kA => exact rfl); (case kF => exact rfl); (case kK => assumption); (case k1 => k_asm); (case k2 => k_asm); (case k3 => k_asm); (case k4 => k_asm); (case k5 => k_asm); (case k6 => k_is); (case k7 => k_is); (case k8 => ktr_room); (case k9 => exact BindsTo.of_eq rfl); (case kB => exact rfl); (case kD => decide +kernel); (case c2 => exact rfl); (case c3 => exact rfl); (case c4 => exact rfl); k_whole; intro g' L' h' tk' cells' FG' F' N' Y' B' X' T' l1; (try k_lt l1); k_cells Y'; (try simp only [List.cons_append, List.nil_append] at N'); (try dsimp only); (try k_fold))
  k_steps
  unfold Stop
  (rename Fr h₀ L _ _ => lG); (rename Below _ _ _ _ => lB)
  have hml := hmI.length
  (rename Fr _ L' _ _ => lF0); (rename News _ _ _ _ => lN0)
  refine list_comp_raise0 lF0 lN0 (cls := .ref 59) (k := kb) (base := base) (outer := envX cn cs L a ccd cl :: outer) (by rfl) (by rfl) (by rfl) (by decide) (by rfl) (by decide) (by rfl) ?_
  (try k_unmd)
  k_steps
  (rename Fr _ L' _ _ => lF); (rename News _ _ _ _ => lN)
  unfold RaiseSrc
  refine ⟨lm, mvs.toArray, _, rfl, rfl, lF, lN, Or.inr ⟨_, List.mem_cons_of_mem _ hlm, rfl, _, rfl⟩, by rw [sizeLine_eq, List.size_toArray]; omega, by rw [List.size_toArray]; omega, rfl, fun s₂ hs₂ => ⟨?turn, ?bad⟩, ?out⟩
  case turn =>
    obtain ⟨hh, rfl⟩ := hs₂
    rintro i v ys nx I oI C oC D m₂ h tk E' hi hv rfl hC2 hx2 F2 N2 hoff hne
    obtain ⟨k, tk9, rfl, hk9⟩ := IntsAre.at hmI i v (by simpa using hv)
    obtain ⟨hk0, hk1⟩ := hms i k hi hk9
    have hix : ns.idxOf k < ns.length := List.idxOf_lt_length_iff.mpr (hC.mem hk0 hk1)
    have hbk := hC.at (j := ns.idxOf k) (by omega)
    k_steps
    (rename _ = bs.getD _ _ => e9)
    (rename Fr _ _ _ _ => lF9); (rename News _ _ _ _ => lN9)
    exact LCg.CompEnd.intro lF9 lN9 _ (fun p hp => hp) hoff (Or.inr ⟨_, List.mem_cons_of_mem _ hlm, rfl, _, rfl⟩) rfl
  case bad =>
    obtain ⟨hh, rfl⟩ := hs₂
    rintro v ys nx I oI C oC D m₂ h tk E' hv rfl hC2 hx2 F2 N2 hoff hne HE
    obtain ⟨k, tk9, rfl, hk9⟩ := IntsAre.at hmI kb v (by simpa using hv)
    have hbk := hmb k hk9
    k_steps
    exact HE _ _ _ _ _ _ (by assumption) (by assumption) (by assumption)
  case out =>
    rintro g1 e t vs ys nx h1 tk1 rfl F1 P1 U1
    refine leave_passes (A := ktrTop dp un gd cn cs L a ccd cl outer) lB F1 rfl P1 U1 (fun h' R U => hexc _ _ _ _ _ _ lG (RaisedS.sub R fun q hq => List.mem_cons_of_mem _ hq) U)
end

section
local macro_rules | `(tactic| walk_at "call ref") => `(tactic| (k_here; (with_reducible show wpAny _ _ (call (Value.ref _) []) _ _ _); k_dflt (refine Stop.out ?_)))
set_option maxRecDepth 100000 in
set_option maxHeartbeats 8000000 in
theorem told_base {prog : Program} {w : World} {p : Program} {loose : List PySem.Str} {mean : ExcName → Option Value} {mg mb : PySem.Str → Option Value}
  (dp un : Nat) (gd : Option (List Code)) (cn : PySem.Str) (cs : Scope) (a : Addr) (ccd : Value) (cl : List (PySem.Str × Addr)) (A₀ : Around) (base h₀ : Heap) (L : Addr) (m : PySem.Str → Option Value) (s : Shared) (Q E : Value → Shared → Prop)
  (B : Below A₀ base [] h₀) (F : Fr h₀ L s.heap m) (X : (Mine.hd.heap_39 w.params).In h₀) (T : Top p loose mean mg mb h₀) (hk : cs.kind = .function)
  (hdp : dp ≤ 500) (hun : un ≤ 4000)
  (XB : (Mine.hd.heap_39 w.params).In base) (TB : Top p loose mean mg mb base)
  (news : List (Addr × Obj)) (f : Addr) (N : News h₀ L s.heap news) (Ret : Value → List (Addr × Obj) → Prop) (Exc : Prop)
  (cc PP : Addr) (hCH : CodeHd h₀ cc PP) (fn fq : PySem.Str) (fp : Arguments) (fb : PySem.Expr) (fs : Scope) (fcl : List (PySem.Str × Addr)) (fpm ctv : Value) (fc : Addr) (hf : (f, kla_obj fn fq fp fb fs fcl fpm fc ctv) ∈ news)
  (hdeed : ∀ dp' un' gd' cn2 cs2 a2 ccd2 A₂ g L2 h1 tk (Q' E' : Value → Shared → Prop) m2, dp' ≤ dp + 1 → un' ≤ un + 4 → cs2.kind = .function → Below A₂ base [envX cn cs L a ccd cl] g → Fr g L2 h1 m2 → (Mine.hd.heap_39 w.params).In g → Top p loose mean mg mb g → News g L2 h1 news →
    (∀ v h' tk' nx, Fr g L2 h' m2 → News g L2 h' nx → Ret v nx → Q' v { s with heap := h', toks := tk' }) →
    (∀ g' e t vs h' tk', Exc → Fr g L2 g' m2 → RaisedS base g' [envX cn2 cs2 L2 a2 ccd2 [], envX cn cs L a ccd cl] e (.ref 59) t vs news h' → g'.UpToSlots h' → E' (.ref e) { s with heap := h', toks := tk' }) →
    wpAny (model prog w) (ktrTop dp' un' gd' cn2 cs2 L2 a2 ccd2 [] [envX cn cs L a ccd cl]) (call (.ref f) []) Q' E' { s with heap := h1, toks := tk })
  (hret : ∀ v nx h' tk', Ret v nx → Fr h₀ L h' m → News h₀ L h' nx → Q v { s with heap := h', toks := tk' })
  (hnone : ∀ h' tk', Exc → Fr h₀ L h' m → News h₀ L h' news → Q .none { s with heap := h', toks := tk' })
  :
  wpAny (model prog w) (ktrTop dp un gd cn cs L a ccd cl []) (call (.ref 329) [.ref f]) Q E s := by
  refine wpAny_call ?_
  k_dflt (refine' code_defT B F X N T rfl rfl hk ?k6 ?k7 ?k8 ?k9 ?kB ?_ ?c2 ?c3 ?c4 ?c5; (case k6 => k_is); (case k7 => k_is); (case k8 => ktr_room); (case k9 => exact BindsTo.of_eq rfl); (case c5 => decide); (case kB => exact locs rfl); (case c2 => exact rfl); (case c3 => exact rfl); (case c4 => exact rfl); k_whole)
  intro g L2 h1 FG F1 N1 B1 X1 T1 D1
  (try dsimp only); (try k_fold)
  k_steps
  unfold Stop
  have KQ : ktsIn (Mine.hd.heap_39 w.params) 59 "BaseException" = true := by kernel_rfl
  k_dflt (apply hdeed (A₂ := ktrTop dp un gd cn cs L a ccd cl []); (case a => exact Nat.le_refl _); (case a => exact Nat.le_succ _); (case a => exact rfl); (case a => exact B1); (case a => exact F1); (case a => exact X1); (case a => exact T1); (case a => exact N1))
  · intro v h' tk' nx F2 N2 hR
    k_steps
    (rename Fr h₀ L _ _ => lF); (rename News h₀ L _ _ => lN)
    exact hret _ _ _ _ hR lF lN
  · intro g' e t vs h' tk' hE FG2 R U
    k_dflt (refine' caught_SO0 R FG2 B1 U XB TB D1 (KtsTurn.refl (g := g)) ?ex KQ ?_)
    case ex => k_is
    intro h2 g2 n2 T2 F2 NN2 G2 N2 K2 X2 P2 D2
    k_steps
    (rename Fr h₀ L _ _ => lF); (rename News h₀ L _ _ => lN)
    exact hnone _ _ hE lF lN
end

section
local macro_rules | `(tactic| walk_at "call builtin:sorted") => `(tactic| (k_here; k_dflt (refine' sorted_pairs (by k_asm) (by k_asm) (by exact News.isList (by k_asm) (by k_mem)) (by exact PairsAt.mono (by assumption) (fun q hq => by repeat first | exact hq | refine List.mem_cons_of_mem _ ?_)) (by omega) (by omega) ?_; k_whole); intro D8 c8 h8 vs8 ps8 F8 N8 l8 p8 s8 z8; (try k_lt l8)))
local macro_rules | `(tactic| walk_at "truthy ref") => `(tactic| (k_here; k_dflt (refine' my_truthy (by exact News.isList (by k_asm) (by k_mem)) (by omega) ?_; k_whole)))
local macro_rules | `(tactic| walk_at "subscriptTail Name UnaryOp ref int") => `(tactic| (k_here; k_dflt (refine' my_last (by exact News.isList (by k_asm) (by k_mem)) (by omega) ?_; k_whole)))
local macro_rules | `(tactic| walk_at "setItem ref int") => `(tactic| (k_here; k_dflt (refine' my_setlast (by k_asm) (by k_asm) (by k_updF) (by omega) ?_; k_whole); intro h' n' F' N'; (try dsimp only at N')))
local macro_rules | `(tactic| walk_at "call type:tuple") => `(tactic| (k_here; k_dflt (refine' my_tuple (by k_asm) (by k_asm) (by exact News.isList (by k_asm) (by k_mem)) (by omega) ?_; k_whole); intro D' h' F' N' l1; (try k_lt l1)))
local macro_rules | `(tactic| walk_at $k:str) => if ["exec For Tuple Name cons nil", "exec For Tuple Call cons nil"].contains k.getString then `(tactic| (k_here; k_dflt (refine Stop.out ?_))) else Lean.Macro.throwUnsupported
set_option maxRecDepth 100000 in
set_option maxHeartbeats 8000000 in
theorem made_base {prog : Program} {w : World} {p : Program} {loose : List PySem.Str} {mean : ExcName → Option Value} {mg mb : PySem.Str → Option Value}
  (dp un : Nat) (gd : Option (List Code)) (cn : PySem.Str) (cs : Scope) (a : Addr) (ccd : Value) (cl : List (PySem.Str × Addr)) (outer : List Env) (A₀ : Around) (base h₀ : Heap) (L : Addr) (m : PySem.Str → Option Value) (s : Shared) (Q E : Value → Shared → Prop)
  (B : Below A₀ base outer h₀) (F : Fr h₀ L s.heap m) (X : (Mine.hd.heap_39 w.params).In h₀) (T : Top p loose mean mg mb h₀) (hk : cs.kind = .function)
  (hdp : dp ≤ 800) (hun : un ≤ 7000)
  (news : List (Addr × Obj)) (N : News h₀ L s.heap news) (l : Addr) (vs : List Value) (ps : List (Int × Int)) (kl : Nat) (hl : (l, W.listOf vs.toArray kl) ∈ news) (hp : PairsAt news vs ps) (hp1 : 1 ≤ ps.length) (hp64 : ps.length ≤ 60)
  (hr : ∀ p ∈ ps, 0 ≤ p.1 ∧ p.1 ≤ p.2 ∧ p.2 ≤ 127)
  (hret : ∀ x sps ex h' tk', Fr h₀ L h' m → News h₀ L h' (ex ++ news) → (∀ p ∈ ex, ∀ q ∈ news, @Ne Nat p.1 q.1) → CsAt ex x sps → sps.length ≤ ps.length → Q (.ref x) { s with heap := h', toks := tk' })
  :
  wpAny (model prog w) (ktrTop dp un gd cn cs L a ccd cl outer) (call (.ref 130) [.ref l]) Q E s := by
  refine wpAny_call ?_
  k_dflt ktr_enter
  k_steps
  unfold Stop
  refine wpAny_For ?_ (by intro _; rfl)
  k_steps
  (rename Fr _ _ _ _ => lF); (rename News _ _ _ _ => lN); (rename ∀ p ∈ news, _ => l1)
  refine pairs_loopM news (fun i m₀ nx₀ m nx => (∀ z, z ≠ Str.ofString "last" → z ≠ Str.ofString "first" → z ≠ Str.ofString "low" → z ≠ Str.ofString "high" → m z = m₀ z) ∧ match nx₀ with | (kD, _) :: _ => ∃ kvs kk tl kps, nx = (kD, W.listOf kvs.toArray kk) :: tl ∧ PairsAt tl kvs kps ∧ (∀ p ∈ kps, p ∈ ps) ∧ kps.length = i ∧ (∀ q ∈ tl, @Ne Nat q.1 kD) | [] => False)
    rfl rfl rfl rfl hl hp lF (nx₀ := [_]) lN (fun p hp q hq => by rw [List.mem_singleton.mp hp]; exact Ne.symm (Nat.ne_of_lt (l1 q hq))) ⟨fun _ _ _ _ _ => rfl, [], 0, [], [], rfl, .nil, fun _ h => (nomatch h), rfl, fun _ h => (nomatch h)⟩ ?turn ?done (by passes_own)
  case turn =>
    rintro i a b ta tb m₁ nx h tk I oI hi hJ9 o1 o2 o3 F1 N1
    refine hideT (P := fun R => wpAny _ _ _ R _ _) ?_; intro R9 hR9 hC9 hV9; clear hC9 hV9
    obtain ⟨hm, kvs, kk, tl, kps, rfl, hkv, hks, hkl, hko⟩ := hJ9
    rw [map_four hm] at F1
    have hab := hr (a, b) (List.mem_of_getElem? hi)
    obtain ⟨hab0, hab1, hab2⟩ := hab
    dsimp only at hab0 hab1 hab2
    have hb1 : ∀ q ∈ tl ++ news, @Ne Nat q.1 _ := fun q hq => (List.mem_append.mp hq).elim (hko q) (fun h => Ne.symm (o2 _ (List.mem_cons_self ..) q h))
    have hb2 : @Ne Nat _ I := o1 _ (List.mem_cons_self ..)
    have hb3 : ∀ q ∈ tl ++ news, q.1 ≠ I := fun q hq => (List.mem_append.mp hq).elim (fun h => o1 q (List.mem_cons_of_mem _ h)) (fun h => o3 q h)
    have hb4 : ∀ q ∈ news, q ∈ tl ++ news := fun q hq => List.mem_append_right _ hq
    have hb5 : ∀ q ∈ tl, q ∈ tl ++ news := fun q hq => List.mem_append_left _ hq
    rw [List.cons_append] at N1
    dsimp only at hb2
    generalize tl ++ news = big at N1 hb1 hb3 hb4 hb5
    have hkz : kvs.length ≤ 60 := by have := hkv.length; have := List.getElem?_eq_some_iff.mp hi; obtain ⟨h9, _⟩ := this; omega
    (try k_unmd); (try k_fold)
    k_steps
    (rename Fr _ _ _ _ => lF2); (rename News _ _ _ _ => lN2); (rename _ ∧ _ ∧ AllLt _ _ => l3)
    have e1 : (if 0 > a then 0 else a) = a := if_neg (by omega)
    have e2 : (if 127 < b then 127 else b) = b := if_neg (by omega)
    simp only [e1, e2] at lN2
    refine hR9 _ <| TEnd.made lF2 lN2 hb4 hb5 l3 hb3 hb2 hb1 (fun p hp q hq => o2 p (List.mem_cons_of_mem _ hp) q hq) ⟨?_, _, _, _, kps ++ [(a, b)], rfl, (hkv.mono fun q hq => List.mem_cons_of_mem _ hq).append (.cons ⟨_, _, _, rfl, List.mem_cons_self ..⟩ .nil), ?_, ?_, ?_⟩
    · intro z h1 h2 h3 h4; simp [h1, h2, h3, h4]
    · intro p hp
      rcases List.mem_append.mp hp with hp | hp
      · exact hks p hp
      · rw [List.mem_singleton.mp hp]; exact List.mem_of_getElem? hi
    · rw [List.length_append, hkl]; rfl
    · intro q hq
      rcases List.mem_cons.mp hq with rfl | hq
      · exact Ne.symm (Nat.ne_of_lt l3.2.1)
      · exact hko q hq
  case done =>
    rintro h' tk' m' nx ⟨hm, kvs, kk, tl, kps, rfl, hkv, hks, hkl, hko⟩ F1 N1 o2
    rw [map_four hm] at F1
    have hb1 : ∀ q ∈ tl ++ news, @Ne Nat q.1 _ := fun q hq => (List.mem_append.mp hq).elim (hko q) (fun h => Ne.symm (o2 _ (List.mem_cons_self ..) q h))
    have hb4 : ∀ q ∈ news, q ∈ tl ++ news := fun q hq => List.mem_append_right _ hq
    have hkv2 : PairsAt (tl ++ news) kvs kps := hkv.mono fun q hq => List.mem_append_left _ hq
    rw [List.cons_append] at N1
    generalize tl ++ news = big at N1 hb1 hb4 hkv2
    clear lF lN hko hkv o2
    dsimp only
    (try k_unmd)
    k_steps
    unfold Stop
    refine wpAny_For ?_ (by intro _; rfl)
    k_steps
    (rename Fr _ _ _ _ => lF); (rename News _ _ _ _ => lN); (rename PairsAt _ _ _ => p9); (rename ∀ p ∈ _, p ∈ kps => s9); (rename _ = kps.length => s10); (rename _ ∧ _ ∧ AllLt _ _ => l9); (rename _ ∧ AllLt _ _ => l10)
    have p9' := p9.drop rfl
    refine pairs_loopM (_ :: _ :: big) (fun i m₀ nx₀ m nx => (∀ z, z ≠ Str.ofString "high" → z ≠ Str.ofString "low" → m z = m₀ z) ∧ match nx₀ with | (S, _) :: _ => ∃ svs sk tl sps, nx = (S, W.listOf svs.toArray sk) :: tl ∧ PairsAt tl svs sps ∧ SpansOk sps ∧ sps.length ≤ i ∧ (∀ q ∈ tl, @Ne Nat q.1 S) | [] => False)
      rfl rfl rfl rfl (List.mem_cons_self ..) (p9'.mono fun q hq => List.mem_cons_of_mem _ hq) lF (nx₀ := [_]) (news_swap2 lN) (fun p hp q hq => ?off) ⟨fun _ _ _ => rfl, [], 0, [], [], rfl, .nil, ⟨fun _ h => (nomatch h), fun i h => absurd h (by simp)⟩, Nat.le_refl _, fun _ h => (nomatch h)⟩ ?turn2 ?done2 (by passes_own)
    case off =>
      rw [List.mem_singleton.mp hp]
      rcases List.mem_cons.mp hq with rfl | hq
      · exact Nat.ne_of_lt l9.1
      · rcases List.mem_cons.mp hq with rfl | hq
        · exact Ne.symm (Nat.ne_of_lt l10.1)
        · exact Ne.symm (Nat.ne_of_lt (ktn_ltOf l10.2 q hq))
    case turn2 =>
      clear lF lN
      rintro i a b ta tb m₁ nx h tk I oI hi hJ9 o1 o2 o3 F1 N1
      refine hideT (P := fun R => wpAny _ _ _ R _ _) ?_; intro R9 hR9 hC9 hV9; clear hC9 hV9
      obtain ⟨hm2, svs, sk, tl2, sps, rfl, hsv, hso, hsl, hs0⟩ := hJ9
      rw [map_two hm2] at F1
      have hab := hr (a, b) (hks _ (s9 _ (List.mem_of_getElem? hi)))
      obtain ⟨hab0, hab1, hab2⟩ := hab
      dsimp only at hab0 hab1 hab2
      obtain ⟨big2, N2, hc1, hc2, hc3, hc4, hc5, hc6⟩ := turn_facts hs0 o1 o2 o3 N1
      clear o1 o2 o3 N1
      rcases hsv.snoc with ⟨rfl, rfl⟩ | ⟨vi, v, pi, pl, rfl, rfl, hvi, vT, vt, vu, rfl, hvm⟩
      · (try k_unmd); (try k_fold)
        k_steps
        (rename Fr _ _ _ _ => lF2); (rename News _ _ _ _ => lN2); (rename _ ∧ _ ∧ AllLt _ _ => l3)
        refine hR9 _ <| TEnd.made (kvs := []) lF2 lN2 hc4 hc5 l3 hc3 hc2 hc1 hc6 ⟨?_, _, _, _, [(a, b)], rfl, .cons ⟨_, _, _, rfl, List.mem_cons_self ..⟩ .nil, .one hab0 hab1 hab2, by simp, ?_⟩
        · intro z h1 h2; simp [h1, h2]
        · intro q hq
          rcases List.mem_cons.mp hq with rfl | hq
          · exact Ne.symm (Nat.ne_of_lt l3.2.1)
          · exact hs0 q hq
      · have hvm2 := hc5 _ hvm
        have hvl : vi.length ≤ 60 := by have h8 := hvi.length; obtain ⟨h9, _⟩ := List.getElem?_eq_some_iff.mp hi; rw [List.length_append, List.length_singleton] at hsl; omega
        unfold tup2 at hvm2
        (try k_unmd); (try k_fold)
        k_steps
        all_goals (rename Fr _ _ _ _ => lF2); (rename News _ _ _ _ => lN2)
        · (rename _ ∧ _ ∧ AllLt _ _ => l3)
          refine hR9 _ <| TEnd.made (kvs := vi) lF2 lN2 hc4 hc5 l3 hc3 hc2 hc1 hc6 ⟨?_, _, _, _, pi ++ [(pl.1, b)], rfl, (hvi.mono fun q hq => List.mem_cons_of_mem _ hq).append (.cons ⟨_, _, _, rfl, List.mem_cons_self ..⟩ .nil), hso.setLast (by omega) hab2, ?_, ?_⟩
          · intro z h1 h2; simp [h1, h2]
          · rw [List.length_append, List.length_singleton] at hsl ⊢; omega
          · intro q hq
            rcases List.mem_cons.mp hq with rfl | hq
            · exact Ne.symm (Nat.ne_of_lt l3.2.1)
            · exact hs0 q hq
        · refine hR9 _ <| TEnd.same lF2 lN2 hc4 hc5 hc3 hc2 hc1 hc6 ⟨?_, _, _, _, pi ++ [pl], rfl, hsv, hso, ?_, hs0⟩
          · intro z h1 h2; simp [h1, h2]
          · omega
        · (rename _ ∧ _ ∧ AllLt _ _ => l3)
          refine hR9 _ <| TEnd.made (kvs := vi ++ [Value.ref vT]) lF2 lN2 hc4 hc5 l3 hc3 hc2 hc1 hc6 ⟨?_, _, _, _, (pi ++ [pl]) ++ [(a, b)], rfl, (hsv.mono fun q hq => List.mem_cons_of_mem _ hq).append (.cons ⟨_, _, _, rfl, List.mem_cons_self ..⟩ .nil), hso.push hab0 hab1 hab2 (fun pi' p' e => ?_), ?_, ?_⟩
          · intro z h1 h2; simp [h1, h2]
          · obtain ⟨-, e2⟩ := List.append_inj' e rfl
            cases e2
            omega
          · rw [List.length_append, List.length_singleton]; omega
          · intro q hq
            rcases List.mem_cons.mp hq with rfl | hq
            · exact Ne.symm (Nat.ne_of_lt l3.2.1)
            · exact hs0 q hq
    case done2 =>
      rintro h2 tk2 m2 nx2 ⟨hm2, svs, sk, tl2, sps, rfl, hsv, hso, hsl, hs0⟩ F2 N2 o2
      rw [map_two hm2] at F2
      have hd4 := fun p hp q hq => o2 p (List.mem_cons_of_mem _ hp) q (List.mem_cons_of_mem _ (List.mem_cons_of_mem _ (hb4 q hq)))
      obtain ⟨big2, N3, hd1, hd2⟩ := done_facts N2
      have hd3 := fun q hq => hd1 q (List.mem_cons_of_mem _ (List.mem_cons_of_mem _ (hb4 q hq)))
      have hsz9 : svs.toArray.size ≤ 62 := by rw [List.size_toArray, hsv.length]; omega
      clear lF lN N2 o2
      dsimp only
      (try k_unmd)
      k_steps
      (rename Fr h₀ L _ _ => lF9); (rename News h₀ L _ _ => lN9)
      (rename _ ∧ AllLt _ big2 => la); (rename _ ∧ _ ∧ AllLt _ big2 => lb); (rename _ < _ => lc)
      obtain ⟨ex, n1, n2, n3⟩ := made_fin lN9 hd2 hd3 hd4 la lb lc hsv hso (by omega)
      exact hret _ sps ex _ _ lF9 n1 n2 n3 (by rw [s10] at hsl; have := hkl; omega)
end

theorem bit_gen {prog : Program} {w : World} {p : Program} {loose : List PySem.Str} {mean : ExcName → Option Value} {mg mb : PySem.Str → Option Value}
  (dp un : Nat) (gd : Option (List Code)) (cn : PySem.Str) (cs : Scope) (a : Addr) (ccd : Value) (cl : List (PySem.Str × Addr)) (outer : List Env) (A₀ : Around) (base h₀ : Heap) (L : Addr) (m : PySem.Str → Option Value) (s : Shared) (Q E : Value → Shared → Prop)
  (B : Below A₀ base outer h₀) (F : Fr h₀ L s.heap m) (X : (Mine.hd.heap_39 w.params).In h₀) (T : Top p loose mean mg mb h₀) (hk : cs.kind = .function)
  (hdp : dp ≤ 900) (hun : un ≤ 8000)
  (d c : Addr) (o oc : Obj) (nx : List (Addr × Obj)) (g1 : Obj → List (Addr × Obj)) (g2 : Obj → Obj → List (Addr × Obj))
  (N : News h₀ L s.heap nx) (U1 : UpdF d o nx g1) (U2 : ∀ o', UpdF c oc (g1 o') (g2 o')) (ht : TinAt prog w c o oc) (lo : (d == sysModules) = false) (hdc : @Ne Nat d c)
  (most : Int) (tm : Tok) (h0 : 0 < most) (h1 : most < 1000)
  (hret : ∀ (digit : Int) (t : Tok) (h' : Heap) (tk' : Nat) (o' oc' : Obj), Fr h₀ L h' m → News h₀ L h' (g2 o' oc') → TinAt prog w c o' oc' → 0 ≤ digit → digit < most → Q (.int digit t) { s with heap := h', toks := tk' })
  :
  wpAny (model prog w) (ktrTop dp un gd cn cs L a ccd cl outer) (call (.ref 317) [.ref d, .int most tm]) Q E s := by
  obtain ⟨pre, post, rfl, hg1, a1, b1⟩ := U1.split
  have hsp : ∀ o', ∃ pre2 post2, g1 o' = pre2 ++ (c, oc) :: post2 ∧ (∀ oc', g2 o' oc' = pre2 ++ (c, oc') :: post2) ∧ (∀ p ∈ pre2, p.1 ≠ c) ∧ ∀ p ∈ post2, p.1 ≠ c := fun o' => (U2 o').split
  have hd : ∀ p ∈ pre ++ post, p.1 ≠ d := fun p hp => (List.mem_append.mp hp).elim (a1 p) (b1 p)
  have hcm : (c, oc) ∈ pre ++ post := by
    obtain ⟨p2, q2, e, -⟩ := hsp o
    rw [hg1] at e
    have : (c, oc) ∈ pre ++ (d, o) :: post := by rw [e]; simp
    rcases List.mem_append.mp this with h | h
    · exact List.mem_append_left _ h
    · rcases List.mem_cons.mp h with h | h
      · exact absurd (congrArg Prod.fst h) (Ne.symm hdc)
      · exact List.mem_append_right _ h
  refine bit_base dp un gd cn cs a ccd cl outer A₀ base h₀ L m s Q E B F X T hk hdp hun d c o oc ((pre ++ post).filter fun p => p.1 != c) (fun p hp => N p ?_) ht lo hdc (fun q hq => hd q (List.mem_filter.mp hq).1) (fun q hq => by have := (List.mem_filter.mp hq).2; simpa using this) most tm h0 h1 ?_
  · rcases List.mem_cons.mp hp with rfl | hp
    · exact List.mem_append_right _ (List.mem_cons_self ..)
    · have hp' : p ∈ pre ++ post := by
        rcases List.mem_cons.mp hp with rfl | hp
        · exact hcm
        · exact (List.mem_filter.mp hp).1
      rcases List.mem_append.mp hp' with h | h
      · exact List.mem_append_left _ h
      · exact List.mem_append_right _ (List.mem_cons_of_mem _ h)
  · intro digit t h' tk' o' oc' F' N' T' d0 d1
    refine hret digit t h' tk' o' oc' F' (fun p hp => N' p ?_) T' d0 d1
    obtain ⟨p2, q2, e, hg2, a2, b2⟩ := hsp o'
    rw [hg2] at hp
    rw [hg1] at e
    have key : ∀ p, p ∈ p2 ++ q2 → p ∈ (d, o') :: (c, oc') :: (pre ++ post).filter fun p => p.1 != c := by
      intro p hp
      have hne : p.1 ≠ c := (List.mem_append.mp hp).elim (a2 p) (b2 p)
      have hm : p ∈ pre ++ (d, o') :: post := by
        rw [e]
        rcases List.mem_append.mp hp with h | h
        · exact List.mem_append_left _ h
        · exact List.mem_append_right _ (List.mem_cons_of_mem _ h)
      have fin : p ∈ pre ++ post → p ∈ (d, o') :: (c, oc') :: (pre ++ post).filter fun p => p.1 != c := fun h =>
        List.mem_cons_of_mem _ (List.mem_cons_of_mem _ (List.mem_filter.mpr ⟨h, by simpa using hne⟩))
      rcases List.mem_append.mp hm with h | h
      · exact fin (List.mem_append_left _ h)
      · rcases List.mem_cons.mp h with h | h
        · rw [h]; exact List.mem_cons_self ..
        · exact fin (List.mem_append_right _ h)
    rcases List.mem_append.mp hp with h | h
    · exact key p (List.mem_append_left _ h)
    · rcases List.mem_cons.mp h with h | h
      · rw [h]; exact List.mem_cons_of_mem _ (List.mem_cons_self ..)
      · exact key p (List.mem_append_right _ h)

section
local macro_rules | `(tactic| walk_at $k:str) => if ["exec Assign cons ListComp", "CompSrc"].contains k.getString then `(tactic| (k_here; k_dflt (refine Stop.out ?_))) else Lean.Macro.throwUnsupported
set_option maxRecDepth 100000 in
set_option maxHeartbeats 8000000 in
theorem tin_base {prog : Program} {w : World} {p : Program} {loose : List PySem.Str} {mean : ExcName → Option Value} {mg mb : PySem.Str → Option Value}
  (dp un : Nat) (gd : Option (List Code)) (cn : PySem.Str) (cs : Scope) (a : Addr) (ccd : Value) (cl : List (PySem.Str × Addr)) (outer : List Env) (A₀ : Around) (base h₀ : Heap) (L : Addr) (m : PySem.Str → Option Value) (s : Shared) (Q E : Value → Shared → Prop)
  (B : Below A₀ base outer h₀) (F : Fr h₀ L s.heap m) (X : (Mine.hd.heap_39 w.params).In h₀) (T : Top p loose mean mg mb h₀) (hk : cs.kind = .function)
  (hdp : dp ≤ 800) (hun : un ≤ 7000)
  (news : List (Addr × Obj)) (N : News h₀ L s.heap news) (l : Addr) (vs : List Value) (ns : List Int) (hl : h₀.IsList l vs.toArray) (hI : IntsAre vs ns) (hlay : PyData.layable0 (.list (ns.map .int)) = true) (h63 : ns.length ≤ 63)
  (hret : ∀ d c o oc h' tk', Fr h₀ L h' m → News h₀ L h' ((d, o) :: (c, oc) :: news) → TinAt prog w c o oc → (d == sysModules) = false → @Ne Nat d c → (∀ q ∈ news, @Ne Nat q.1 d) → (∀ q ∈ news, @Ne Nat q.1 c) → Q (.ref d) { s with heap := h', toks := tk' })
  :
  wpAny (model prog w) (ktrTop dp un gd cn cs L a ccd cl outer) (call (.ref 310) [.ref l]) Q E s := by
  refine wpAny_call ?_
  k_dflt ktr_enter
  (rename Fr h₀ L _ _ => lG)
  have hl2 := hl.at fun o e => lG.keep l o e
  have hlen := hI.length
  k_steps
  unfold Stop
  (rename Fr _ _ _ _ => lF0)
  refine LCg.Assign_ListComp_U (F₀ := lF0) (by rfl) (by rfl) (by rfl) (by decide) (by rfl) (by decide) (by rfl) (by rfl) (by rfl) ?_
  (try k_unmd)
  k_steps
  unfold Stop
  (rename Fr _ _ _ _ => lF); (rename News _ _ _ _ => lN); (rename IntsAre _ (List.take 40 ns) => lI); (rename ∀ p ∈ news, _ => l1)
  have hwl := lI.length
  rw [List.length_take] at hwl
  refine LCg.CompSrc.ledger (by rfl) lF lN (by k_mem) (by rw [sizeLine_eq, List.size_toArray]; omega) ?_
  intro g
  refine compRest_inv (n := _) (fun i ys nx => nx = _ ∧ ∃ zs, IntsAre ys zs ∧ zs.length = i) ?turn ?fin _ 0 [] _ (Nat.zero_add _) ⟨rfl, [], .nil, rfl⟩
  case turn =>
    rintro i v ys nx I oI C oC D m₂ h tk E' hi hv ⟨rfl, zs, hys, hzs⟩ hC2 hx2 F2 N2 hoff hne
    obtain ⟨k, tk9, rfl, hk9⟩ := IntsAre.at lI i v (by simpa using hv)
    k_steps
    (rename Fr _ _ _ _ => lF9); (rename News _ _ _ _ => lN9)
    refine LCg.CompEnd.intro lF9 lN9 _ (fun p hp => hp) hoff (Or.inr ⟨_, List.mem_cons_self .., rfl, _, rfl⟩) ⟨rfl, _, hys.append (.cons _ _ .nil), ?_⟩
    rw [List.length_append, hzs]; rfl
  case fin =>
    rintro ys nx ⟨rfl, zs, hys, hzs⟩
    intro D h tk F2 N2 hoff
    dsimp only
    (try k_unmd)
    k_steps
    (rename Fr h₀ L _ _ => lF9); (rename News h₀ L _ _ => lN9); (rename Obj.IsDictOf _ _ _ => lD); (rename _ ∧ _ ∧ AllLt _ news => l3); (rename (_ == sysModules) = false => lo9)
    rw [List.size_toArray] at hzs
    refine hret _ _ _ (W.listOf ys.toArray ys.length) _ _ lF9 (fun p hp => lN9 p ?_) ⟨ys, zs, _, _, _, _, _, rfl, hys, by rw [hys.length]; omega, lD⟩ lo9 (Ne.symm (Nat.ne_of_lt l3.1)) (fun q hq => Nat.ne_of_lt (ktn_ltOf l3.2.2 q hq)) (fun q hq => off_of1 hoff q (List.mem_cons_of_mem _ hq))
    rcases List.mem_cons.mp hp with rfl | hp
    · exact List.mem_cons_self ..
    · rcases List.mem_cons.mp hp with rfl | hp
      · exact List.mem_cons_of_mem _ (List.mem_cons_self ..)
      · exact List.mem_cons_of_mem _ (List.mem_cons_of_mem _ (List.mem_cons_of_mem _ hp))
end

section
local macro_rules | `(tactic| walk_at "call ref") => `(tactic| (k_here; (with_reducible show wpAny _ _ (call (Value.ref 317) [Value.ref _, Value.int _ _]) _ _ _); k_dflt (apply bit_gen; (case B => k_asm); (case F => k_asm); (case X => k_asm); (case T => k_asm); (case hk => first | exact rfl | assumption); (case hdp => first | omega | ktr_room); (case hun => first | omega | units_room); (case N => k_asm); (case U1 => k_updF); (case ht => assumption); (case U2 => (intro o9; k_updF)); (case lo => assumption); (case hdc => k_ne); (case h0 => omega); (case h1 => omega)); intro dg9 t9 h9 tk9 o9 oc9 F9 N9 T9 d9 e9; (try dsimp only at N9)))
local macro_rules | `(tactic| walk_at "call ref") => `(tactic| (k_here; (with_reducible show wpAny _ _ (call (Value.ref 130) [Value.ref _]) _ _ _); k_dflt (refine Stop.out ?_)))
local macro_rules | `(tactic| walk_at $k:str) => if ["eval ListComp", "SrcLP"].contains k.getString then `(tactic| (k_here; k_dflt (refine Stop.out ?_))) else Lean.Macro.throwUnsupported
set_option maxRecDepth 100000 in
set_option maxHeartbeats 8000000 in
theorem sets_base {prog : Program} {w : World} {p : Program} {loose : List PySem.Str} {mean : ExcName → Option Value} {mg mb : PySem.Str → Option Value}
  (dp un : Nat) (gd : Option (List Code)) (cn : PySem.Str) (cs : Scope) (a : Addr) (ccd : Value) (cl : List (PySem.Str × Addr)) (outer : List Env) (A₀ : Around) (base h₀ : Heap) (L : Addr) (m : PySem.Str → Option Value) (s : Shared) (Q E : Value → Shared → Prop)
  (B : Below A₀ base outer h₀) (F : Fr h₀ L s.heap m) (X : (Mine.hd.heap_39 w.params).In h₀) (T : Top p loose mean mg mb h₀) (hk : cs.kind = .function)
  (hdp : dp ≤ 700) (hun : un ≤ 6000)
  (d c : Addr) (o oc : Obj) (news : List (Addr × Obj)) (N : News h₀ L s.heap ((d, o) :: (c, oc) :: news)) (ht : TinAt prog w c o oc) (lo : (d == sysModules) = false) (hdc : @Ne Nat d c)
  (hnd : ∀ q ∈ news, @Ne Nat q.1 d) (hnc : ∀ q ∈ news, @Ne Nat q.1 c)
  (hret : ∀ l fvs k sss tl o' oc' h' tk', Fr h₀ L h' m → News h₀ L h' ((d, o') :: (c, oc') :: (l, W.listOf fvs.toArray k) :: tl) → (∀ q ∈ news, q ∈ tl) → TinAt prog w c o' oc' → @Ne Nat l d → @Ne Nat l c → (∀ q ∈ tl, @Ne Nat q.1 d) → (∀ q ∈ tl, @Ne Nat q.1 c) → (∀ q ∈ tl, @Ne Nat q.1 l) →
    SetsAt tl fvs sss → sss.length ≤ 3 → (∀ sps ∈ sss, sps.length ≤ 2) → Q (.ref l) { s with heap := h', toks := tk' })
  :
  wpAny (model prog w) (ktrTop dp un gd cn cs L a ccd cl outer) (call (.ref 322) [.ref d]) Q E s := by
  refine wpAny_call ?_
  k_dflt ktr_enter
  k_steps
  (rename (0:Int) ≤ _ => d9); (rename _ < (4:Int) => e9); (rename TinAt _ _ _ _ _ => T9)
  obtain ⟨n, rfl⟩ := Int.eq_ofNat_of_zero_le d9
  (rename IsRange _ _ _ _ _ _ _ _ => lR); (rename Fr _ _ _ _ => lF); (rename News _ _ _ _ => lN); (rename _ ∧ _ ∧ AllLt _ news => l1)
  refine range_loopM (n := n) (fun i m₀ nx₀ m nx => (∀ z, z ≠ Str.ofString "turn" → z ≠ Str.ofString "pairs" → z ≠ Str.ofString "lap" → z ≠ Str.ofString "low" → m z = m₀ z) ∧ match nx₀ with
    | (K, _) :: _ => ∃ fvs k sss tl o' oc', nx = (K, W.listOf fvs.toArray k) :: (d, o') :: (c, oc') :: tl ∧ (∀ q ∈ news, q ∈ tl) ∧ TinAt prog w c o' oc' ∧ (∀ q ∈ tl, @Ne Nat q.1 K ∧ @Ne Nat q.1 d ∧ @Ne Nat q.1 c) ∧ SetsAt tl fvs sss ∧ sss.length = i ∧ (∀ sps ∈ sss, sps.length ≤ 2)
    | [] => False) rfl rfl rfl lR ?hs ?hn lF lN ?h0 ?turn ?done (by passes_own)
  case hs => exact rs_small (by omega)
  case hn => exact rs_nat _
  case h0 => exact ⟨fun _ _ _ _ _ => rfl, [], 0, [], news, _, _, rfl, fun _ h => h, T9, fun q hq => ⟨Nat.ne_of_lt (ktn_ltOf l1.2.2 q hq), hnd q hq, hnc q hq⟩, .nil, rfl, fun _ h => (nomatch h)⟩
  case turn =>
    clear lF lN lR T9
    rintro i m₁ nx h tk t I oI hi hJ9 hoff F1 N1
    refine hideT (P := fun R => wpAny _ _ _ R _ _) ?_; intro R9 hR9 hC9 hV9; clear hC9 hV9
    obtain ⟨hm, fvs, k, sss, tl, o1, oc1, rfl, hsub, T1, hof, hst, hsl, hs2⟩ := hJ9
    rw [map_four hm] at F1
    obtain ⟨x1, x2, x3, x4⟩ := off_three hoff
    have y1 := fun q hq => (hof q hq).1
    have y2 := fun q hq => (hof q hq).2.1
    have y3 := fun q hq => (hof q hq).2.2
    (try k_unmd); (try k_fold)
    k_steps
    (rename (0:Int) ≤ _ => d9); (rename _ < (2:Int) => e9); (rename TinAt _ _ _ _ _ => T9)
    obtain ⟨dn, rfl⟩ := Int.eq_ofNat_of_zero_le d9
    (rename IsRange _ _ _ _ _ _ _ _ => lR); (rename Fr _ _ _ _ => lF); (rename News _ _ _ _ => lN); (rename _ ∧ _ ∧ _ ∧ _ ∧ AllLt _ tl => l2)
    rw [show (1 : Int) + (dn : Int) = ((1 + dn : Nat) : Int) by omega] at lR
    refine range_loopM (n := 1 + dn) (fun j m₀ nx₀ m nx => (∀ z, z ≠ Str.ofString "lap" → z ≠ Str.ofString "low" → m z = m₀ z) ∧ match nx₀ with
      | (P, _) :: (I, oI) :: (K, oK) :: _ => ∃ pvs kp ps tl2 o' oc', nx = (P, W.listOf pvs.toArray kp) :: (I, oI) :: (K, oK) :: (d, o') :: (c, oc') :: tl2 ∧ (∀ q ∈ tl, q ∈ tl2) ∧ TinAt prog w c o' oc' ∧
          (∀ q ∈ tl2, @Ne Nat q.1 P ∧ @Ne Nat q.1 I ∧ @Ne Nat q.1 K ∧ @Ne Nat q.1 d ∧ @Ne Nat q.1 c) ∧ PairsAt tl2 pvs ps ∧ ps.length = j ∧ (∀ p ∈ ps, 0 ≤ p.1 ∧ p.1 ≤ 127 ∧ p.1 ≤ p.2 ∧ p.2 ≤ 170)
      | _ => False) rfl rfl rfl lR ?hs2 ?hn2 lF lN ?h02 ?turn2 ?done2 (by passes_own)
    case hs2 => exact rs_small (by omega)
    case hn2 => exact rs_nat _
    case h02 => exact ⟨fun _ _ _ => rfl, [], 0, [], tl, _, _, rfl, fun _ h => h, T9, fun q hq => ⟨Nat.ne_of_lt (ktn_ltOf l2.2.2.2.2 q hq), x4 q hq, y1 q hq, y2 q hq, y3 q hq⟩, .nil, rfl, fun _ h => (nomatch h)⟩
    case turn2 =>
      clear lF lN lR T9
      rintro j m₂ nx2 h2 tk2 t2 I2 oI2 hj hJ9 hoff2 F2 N2
      refine hideT (P := fun R => wpAny _ _ _ R _ _) ?_; intro R9 hR9 hC9 hV9; clear hC9 hV9
      obtain ⟨hm2, pvs, kp, ps, tl2, o2, oc2, rfl, hsub2, T2, hof2, hpv, hpl, hpr⟩ := hJ9
      rw [map_two hm2] at F2
      obtain ⟨w1, w2, w3, w4, w5, w6⟩ := off_five hoff2
      have z1 := fun q hq => (hof2 q hq).1
      have z2 := fun q hq => (hof2 q hq).2.1
      have z3 := fun q hq => (hof2 q hq).2.2.1
      have z4 := fun q hq => (hof2 q hq).2.2.2.1
      have z5 := fun q hq => (hof2 q hq).2.2.2.2
      have zl : pvs.length ≤ 60 := by rw [hpv.length]; omega
      (try k_unmd); (try k_fold)
      k_steps
      (rename Fr _ _ _ _ => lF9); (rename News _ _ _ _ => lN9); (rename TinAt _ _ _ _ _ => T9); (rename _ ∧ _ ∧ _ ∧ _ ∧ _ ∧ _ ∧ AllLt _ tl2 => l9)
      (rename _ < (40:Int) => f1); (rename (0:Int) ≤ _ => f2); (rename _ < (128:Int) => f3); (rename (0:Int) ≤ _ => f4)
      refine hR9 _ <| TEnd.sets1 lF9 lN9 l9.1 w1 w2 w3 w4 w5 w6 ⟨?_, _, _, ps ++ [(_, _)], _ :: tl2, _, _, rfl, fun q hq => List.mem_cons_of_mem _ (hsub2 q hq), T9, ?_, (hpv.mono fun q hq => List.mem_cons_of_mem _ hq).append (.cons ⟨_, _, _, rfl, List.mem_cons_self ..⟩ .nil), ?_, ?_⟩
      · intro z h1 h2; simp [h1, h2]
      · intro q hq
        rcases List.mem_cons.mp hq with rfl | hq
        · exact ⟨Ne.symm (Nat.ne_of_lt l9.2.1), Ne.symm (Nat.ne_of_lt l9.2.2.1), Ne.symm (Nat.ne_of_lt l9.2.2.2.1), Ne.symm (Nat.ne_of_lt l9.2.2.2.2.1), Ne.symm (Nat.ne_of_lt l9.2.2.2.2.2.1)⟩
        · exact hof2 q hq
      · rw [List.length_append, hpl]; rfl
      · intro p hp
        rcases List.mem_append.mp hp with hp | hp
        · exact hpr p hp
        · rw [List.mem_singleton.mp hp]
          dsimp only
          omega
    case done2 =>
      clear lF lN lR T9
      rintro h3 tk3 m3 nx3 ⟨hm2, pvs, kp, ps, tl2, o2, oc2, rfl, hsub2, T2, hof2, hpv, hpl, hpr⟩ F3 N3
      rw [map_two hm2] at F3
      have z1 := fun q hq => (hof2 q hq).1
      have z2 := fun q hq => (hof2 q hq).2.1
      have z3 := fun q hq => (hof2 q hq).2.2.1
      have z4 := fun q hq => (hof2 q hq).2.2.2.1
      have z5 := fun q hq => (hof2 q hq).2.2.2.2
      dsimp only
      (try k_unmd)
      k_steps
      unfold Stop
      (rename Fr _ _ _ _ => lF)
      refine LCp.ListComp_P (F₀ := lF) (by rfl) (by decide) (by rfl) (by decide) (by rfl) (by rfl) (by decide) ?_
      k_steps
      unfold Stop
      refine LCp.SrcLP.ledger (by rfl) lF N3 (List.mem_cons_self ..) (by rw [sizeLine_eq, List.size_toArray, hpv.length]; omega) ?_
      intro g
      refine compRestP_inv (ps := ps) (fun i ys nx => ∃ tl3 qs, nx = _ :: _ :: _ :: _ :: _ :: tl3 ∧ (∀ q ∈ tl2, q ∈ tl3) ∧ (∀ q ∈ tl3, @Ne Nat q.1 _ ∧ @Ne Nat q.1 I ∧ @Ne Nat q.1 _ ∧ @Ne Nat q.1 d ∧ @Ne Nat q.1 c) ∧ PairsAt tl3 ys qs ∧ qs.length = i ∧ (∀ p ∈ qs, 0 ≤ p.1 ∧ p.1 ≤ p.2 ∧ p.2 ≤ 127)) ?hJ3 ?turn3 ?fin3 _ 0 [] _ (Nat.zero_add _) ⟨tl2, [], rfl, fun _ h => h, hof2, .nil, rfl, fun _ h => (nomatch h)⟩
      case hJ3 =>
        rintro i ys nx ⟨tl3, qs, rfl, hs3, -⟩
        exact hpv.mono fun q hq => List.mem_cons_of_mem _ (List.mem_cons_of_mem _ (List.mem_cons_of_mem _ (List.mem_cons_of_mem _ (List.mem_cons_of_mem _ (hs3 q hq)))))
      case turn3 =>
        rintro i3 a b ta tb ys nx I3 oI3 C3 oC3 D3 m₂ h tk E' hi3 ⟨tl3, qs, rfl, hs3, ho3, hq3, hl3, hr3⟩ hC2 hx hx2 F2 N2 hoff3 hne3
        have hab := hpr (a, b) (List.mem_of_getElem? hi3)
        dsimp only at hab
        k_steps
        (rename Fr _ _ _ _ => lF9); (rename News _ _ _ _ => lN9); (rename _ ∧ _ ∧ _ ∧ _ ∧ _ ∧ _ ∧ _ ∧ _ ∧ AllLt _ tl3 => l9)
        have e2 : (if 127 < b then (127 : Int) else b) ≤ 127 ∧ a ≤ (if 127 < b then (127 : Int) else b) := by split <;> omega
        refine CompEnd.sets lF9 lN9 hoff3 ⟨l9.1, l9.2.1, l9.2.2.1⟩ (Or.inr ⟨_, List.mem_cons_self .., rfl, _, rfl⟩) ⟨_, qs ++ [(_, _)], rfl, fun q hq => List.mem_cons_of_mem _ (hs3 q hq), ?_, (hq3.mono fun q hq => List.mem_cons_of_mem _ hq).append (.cons ⟨_, _, _, rfl, List.mem_cons_self ..⟩ .nil), ?_, ?_⟩
        · intro q hq
          rcases List.mem_cons.mp hq with rfl | hq
          · exact ⟨Ne.symm (Nat.ne_of_lt l9.2.2.2.1), Ne.symm (Nat.ne_of_lt l9.2.2.2.2.1), Ne.symm (Nat.ne_of_lt l9.2.2.2.2.2.1), Ne.symm (Nat.ne_of_lt l9.2.2.2.2.2.2.1), Ne.symm (Nat.ne_of_lt l9.2.2.2.2.2.2.2.1)⟩
          · exact ho3 q hq
        · rw [List.length_append, hl3]; rfl
        · intro p hp
          rcases List.mem_append.mp hp with hp | hp
          · exact hr3 p hp
          · rw [List.mem_singleton.mp hp]
            exact ⟨hab.1, e2.2, e2.1⟩
      case fin3 =>
        rintro ys nx ⟨tl3, qs, rfl, hs3, ho3, hq3, hl3, hr3⟩
        rw [List.size_toArray, hpv.length, hpl] at hl3
        clear lF N3
        intro D h tk F2 N2 hoff1
        dsimp only
        (try k_unmd)
        k_steps
        unfold Stop
        k_dflt (apply made_base; (case B => k_asm); (case F => k_asm); (case X => k_asm); (case T => k_asm); (case hk => first | exact rfl | assumption); (case hdp => first | omega | ktr_room); (case hun => first | omega | units_room); (case N => exact N2); (case hl => exact List.mem_cons_self ..); (case hp => exact hq3.mono fun q hq => List.mem_cons_of_mem _ (List.mem_cons_of_mem _ (List.mem_cons_of_mem _ (List.mem_cons_of_mem _ (List.mem_cons_of_mem _ (List.mem_cons_of_mem _ hq)))))); (case hp1 => omega); (case hp64 => omega); (case hr => exact hr3))
        intro x sps ex h4 tk4 F4 N4 fr4 cs4 ls4
        obtain ⟨tl4, N5, v1, v2, v3, v4, v5, v6⟩ := sets_canon N4 fr4 ho3
        clear N4 F2 N2
        have zf : fvs.length ≤ 60 := by rw [hst.length]; omega
        k_steps
        (rename Fr _ _ _ _ => lF9); (rename News _ _ _ _ => lN9)
        refine hR9 _ <| TEnd.sets2 lF9 lN9 x1 x2 x3 v3 ⟨?_, _, _, sss ++ [sps], tl4, _, _, rfl, fun q hq => v1 q (hs3 q (hsub2 q (hsub q hq))), T2, fun q hq => ⟨v4 q hq, v5 q hq, v6 q hq⟩, (hst.mono fun q hq => v1 q (hs3 q (hsub2 q hq))).append (.cons (cs4.mono v2) .nil), ?_, ?_⟩
        · intro z h1 h2 h3 h4; simp [h1, h2, h3, h4]
        · rw [List.length_append, hsl]; rfl
        · intro p hp
          rcases List.mem_append.mp hp with hp | hp
          · exact hs2 p hp
          · rw [List.mem_singleton.mp hp]; omega
  case done =>
    rintro h2 tk2 m2 nx2 ⟨hm, fvs, k, sss, tl, o1, oc1, rfl, hsub, T1, hof, hst, hsl, hs2⟩ F2 N2
    rw [map_four hm] at F2
    clear lF lN lR T9
    dsimp only
    (try k_unmd)
    k_steps
    (rename Fr h₀ L _ _ => lF9); (rename News h₀ L _ _ => lN9)
    exact hret _ _ _ sss tl _ _ _ _ lF9 (news_rot3 lN9) hsub T1 (Ne.symm (Nat.ne_of_lt l1.1)) (Ne.symm (Nat.ne_of_lt l1.2.1)) (fun q hq => (hof q hq).2.1) (fun q hq => (hof q hq).2.2) (fun q hq => (hof q hq).1) hst (by omega) hs2
end

section
local macro_rules | `(tactic| walk_at "call builtin:len") => `(tactic| (k_here; (with_reducible show wpAny _ _ (call (Value.builtin "len") [Value.ref _]) _ _ _); k_dflt (refine' my_lenV (by k_asm) (by k_mem) (by omega) ?_; k_whole)))
local macro_rules | `(tactic| walk_at "subscriptTail") => `(tactic| (k_here; (with_reducible show wpAny _ _ (subscriptTail _ _ (Value.ref _) (Value.int _ _)) _ _ _); k_dflt (refine' my_pick (by k_asm) (by k_mem) (by assumption) (by omega) ?_; k_whole)))
local macro_rules | `(tactic| walk_at "getMethod ref") => `(tactic| (k_here; (with_reducible show wpAny _ _ (getMethod (Value.ref _) (Str.ofString "get") _) _ _ _); k_dflt (refine' my_getm (by k_asm) (by k_mem) (by assumption) ?_; k_whole)))
local macro_rules | `(tactic| walk_at "call builtin:dict.get") => `(tactic| (k_here; k_dflt (refine' my_get (by k_asm) (by k_mem) (by assumption) (by assumption) ?_; k_whole); intro t7))
local macro_rules | `(tactic| walk_at "binaryOp LShift int int") => `(tactic| (k_here; k_dflt (refine' my_shl (by omega) ?_; k_whole); intro t7))
local macro_rules | `(tactic| walk_at "setItem ref int") => `(tactic| (k_here; k_dflt (refine' my_set (by k_asm) (by k_asm) (by k_updF) (by assumption) (by first | omega | (have := storedI_len; omega)) ?_; k_whole); intro h' o' F' N' D'; (try dsimp only at N')))
local macro_rules | `(tactic| walk_at "getMethod ref") => `(tactic| (k_here; (with_reducible show wpAny _ _ (getMethod (Value.ref _) (Str.ofString "keys") _) _ _ _); k_dflt (refine' my_keysm (by k_asm) (by k_mem) (by assumption) ?_; k_whole)))
local macro_rules | `(tactic| walk_at "call builtin:dict.keys") => `(tactic| (k_here; k_dflt (refine' my_keys (by k_asm) (by k_asm) (by k_mem) (by assumption) (by assumption) ?_; k_whole); intro D' h' F' N' l1; (try k_lt l1)))
local macro_rules | `(tactic| walk_at "compareOp NotIn int ref") => `(tactic| (k_here; k_dflt (refine' my_notin (by k_asm) (by k_mem) (by assumption) (by assumption) ?a ?b); intros))
local macro_rules | `(tactic| walk_at "subscriptTail") => `(tactic| (k_here; (with_reducible show wpAny _ _ (subscriptTail _ _ (Value.ref _) (Value.int _ _)) _ _ _); k_dflt (refine' my_item (by k_asm) (by k_mem) (by assumption) (by first | assumption | exact lookI_stored (by assumption)) ?_; k_whole); intro t7))
local macro_rules | `(tactic| walk_at "call builtin:len") => `(tactic| (k_here; (with_reducible show wpAny _ _ (call (Value.builtin "len") [Value.ref _]) _ _ _); k_dflt (refine' my_lenD (by k_asm) (by k_mem) (by assumption) (by assumption) (by omega) ?_; k_whole); intro t7))
local macro_rules | `(tactic| walk_at $k:str) => if ["exec For Tuple Attribute cons nil", "call builtin:sorted"].contains k.getString then `(tactic| (k_here; k_dflt (refine Stop.out ?_))) else Lean.Macro.throwUnsupported
theorem ints_snoc {vs : List Value} {ns : List Int} {n : Int} {t : Tok} (h : IntsAre vs ns) : IntsAre (vs ++ [.int n t]) (ns ++ [n]) := by
  induction h with
  | nil => exact .cons _ _ .nil
  | cons _ _ _ ih => exact .cons _ _ ih
theorem ints_snoc_take {vs : List Value} {cs : List Int} {i : Nat} {c : Int} {t : Tok} (h : IntsAre vs (cs.take i)) (hc : cs[i]? = some c) : IntsAre (vs ++ [.int c t]) (cs.take (i + 1)) := by
  rw [List.take_add_one, hc]
  exact ints_snoc h
theorem cod_nz {cs : List Int} {tv : List (Int × Int)} {P : Nat} {f : Int} {i : Nat} {c : Int} (hp : cs.Perm (tv.map (·.1))) (ho : cs.Pairwise (· ≤ ·)) (hn : (tv.map (·.1)).Nodup) (hT : TInv tv P f) (hi : 0 < i) (hc : cs[i]? = some c) : c ≠ 0 := by
  intro e
  obtain ⟨hl, hce⟩ := List.getElem?_eq_some_iff.mp hc
  have h0 := List.pairwise_iff_getElem.mp ho 0 i (by omega) hl hi
  have hnd := hp.nodup_iff.mpr hn
  have hm : cs[0] ∈ tv.map (·.1) := hp.mem_iff.mp (List.getElem_mem _)
  obtain ⟨p, hpm, hpe⟩ := List.mem_map.mp hm
  have := (hT.keys p hpm).1
  have heq : cs[0] = cs[i] := by omega
  exact List.pairwise_iff_getElem.mp hnd 0 i (by omega) hl hi heq
theorem off_eight {I V K N B T x d : Addr} {oV oK oN oB oT ox od : Obj} {news : List (Addr × Obj)} (h : ∀ p ∈ (V, oV) :: (K, oK) :: (N, oN) :: (B, oB) :: (T, oT) :: (x, ox) :: (d, od) :: news, p.1 ≠ I) :
    @Ne Nat V I ∧ @Ne Nat K I ∧ @Ne Nat N I ∧ @Ne Nat B I ∧ @Ne Nat T I ∧ @Ne Nat x I ∧ @Ne Nat d I ∧ ∀ q ∈ news, @Ne Nat q.1 I := by
  rw [List.forall_mem_cons, List.forall_mem_cons, List.forall_mem_cons, List.forall_mem_cons, List.forall_mem_cons, List.forall_mem_cons, List.forall_mem_cons] at h
  exact h
theorem TEnd.cin {h₀ : Heap} {L : Addr} {J : (PySem.Str → Option Value) → List (Addr × Obj) → Prop} {s₁ : Shared} {h' : Heap} {tk : Nat} {m' : PySem.Str → Option Value} {I B : Addr} {oI oB : Obj} {tl : List (Addr × Obj)}
    (F : Fr h₀ L h' m') (N : News h₀ L h' ((I, oI) :: (B, oB) :: tl)) (h1 : ∀ p ∈ tl, @Ne Nat p.1 I) (h2 : ∀ p ∈ tl, @Ne Nat p.1 B) (hj : J m' tl) : TEnd h₀ L [(I, oI), (B, oB)] J s₁ { s₁ with heap := h', toks := tk } := by
  refine TEnd.intro F N _ (fun p hp => ?_) (fun p hp => List.mem_cons_of_mem _ (List.mem_cons_of_mem _ hp)) (fun p hp q hq => ?_) hj
  · rcases List.mem_cons.mp hp with rfl | hp
    · exact List.mem_cons_self ..
    · rw [List.mem_singleton.mp hp]; exact List.mem_cons_of_mem _ (List.mem_cons_self ..)
  · rcases List.mem_cons.mp hq with rfl | hq
    · exact h1 p hp
    · rw [List.mem_singleton.mp hq]; exact h2 p hp
theorem mk_eight {I V K N B T x d : Addr} {oV oK oN oB oT ox od : Obj} {news : List (Addr × Obj)} (h : @Ne Nat V I ∧ @Ne Nat K I ∧ @Ne Nat N I ∧ @Ne Nat B I ∧ @Ne Nat T I ∧ @Ne Nat x I ∧ @Ne Nat d I ∧ ∀ q ∈ news, @Ne Nat q.1 I) :
    ∀ p ∈ (V, oV) :: (K, oK) :: (N, oN) :: (B, oB) :: (T, oT) :: (x, ox) :: (d, od) :: news, @Ne Nat p.1 I := by
  rw [List.forall_mem_cons, List.forall_mem_cons, List.forall_mem_cons, List.forall_mem_cons, List.forall_mem_cons, List.forall_mem_cons, List.forall_mem_cons]
  exact h
def ClAt (ex : List (Addr × Obj)) (x : Addr) (bs ns : List Int) (cnt : Int) : Prop :=
  ∃ (dx lb ln : Addr) (bvs nvs : List Value) (q1 q2 q3 : Int) (t1 t2 t3 t4 : Tok) (nd kb kn : Nat), (x, instObj 301 dx) ∈ ex ∧ (dx, dictOf [⟨q1, .str (Str.ofString "bounds") t1, .ref lb⟩, ⟨q2, .str (Str.ofString "numbers") t2, .ref ln⟩, ⟨q3, .str (Str.ofString "count") t3, .int cnt t4⟩] nd) ∈ ex ∧
    (lb, W.listOf bvs.toArray kb) ∈ ex ∧ (ln, W.listOf nvs.toArray kn) ∈ ex ∧ IntsAre bvs bs ∧ IntsAre nvs ns
theorem cin_fin {h₀ h : Heap} {L B D K N Bb T x d : Addr} {oB oD oK oN oBb oT ox od : Obj} {news : List (Addr × Obj)} (Nw : News h₀ L h ((B, oB) :: (D, oD) :: (K, oK) :: (N, oN) :: (Bb, oBb) :: (T, oT) :: (x, ox) :: (d, od) :: news)) :
    News h₀ L h ([(x, ox), (d, od), (Bb, oBb), (N, oN)] ++ news) := fun p hp => Nw p (by
  simp only [List.cons_append, List.nil_append, List.mem_cons] at hp ⊢
  rcases hp with h | h | h | h | h <;> simp [h])
theorem cin_off {N Bb x d : Addr} {ox od oBb oN : Obj} {news : List (Addr × Obj)} (h1 : ∀ p ∈ news, @LT.lt Nat _ p.1 d) (h2 : @LT.lt Nat _ d x) (h3 : AllLt Bb news) (h4 : AllLt N news) :
    ∀ p ∈ [(x, ox), (d, od), (Bb, oBb), (N, oN)], ∀ q ∈ news, @Ne Nat p.1 q.1 := by
  intro p hp q hq
  have a := h1 q hq
  simp only [List.mem_cons, List.not_mem_nil, or_false] at hp
  rcases hp with rfl | rfl | rfl | rfl
  · exact Nat.ne_of_gt (Nat.lt_trans a h2)
  · exact Nat.ne_of_gt a
  · exact Nat.ne_of_gt (kst_ltOf h3 q hq)
  · exact Nat.ne_of_gt (kst_ltOf h4 q hq)
def CJ5 (prog : Program) (w : World) (cs : List Int) (i : Nat) (m₀ : PySem.Str → Option Value) (nx₀ : List (Addr × Obj)) (m : PySem.Str → Option Value) (nx : List (Addr × Obj)) : Prop :=
  (∀ z, z ≠ Str.ofString "code" → z ≠ Str.ofString "holders" → m z = m₀ z) ∧ match nx₀ with
      | vD :: (K, _) :: (ln, _) :: (lb, _) :: rest => ∃ oK kn nvs nk bvs bk ns hd th, nx = vD :: (K, oK) :: (ln, W.listOf nvs.toArray nk) :: (lb, W.listOf bvs.toArray bk) :: rest ∧ DictI prog w oK kn ∧ IntsAre nvs ns ∧ IntsAre bvs (cs.take i) ∧ ns.length = i ∧ NInv ns kn hd ∧ m (Str.ofString "holders") = some (.int hd th)
      | _ => False
theorem CJ5.out {prog : Program} {w : World} {cs : List Int} {i : Nat} {m₀ m : PySem.Str → Option Value} {vD : Addr × Obj} {K ln lb : Addr} {o1 o2 o3 : Obj} {rest : List (Addr × Obj)} {nx : List (Addr × Obj)} (h : CJ5 prog w cs i m₀ (vD :: (K, o1) :: (ln, o2) :: (lb, o3) :: rest) m nx) {P : Prop}
    (k : ∀ oK kn nvs nk bvs bk ns hd th, nx = vD :: (K, oK) :: (ln, W.listOf nvs.toArray nk) :: (lb, W.listOf bvs.toArray bk) :: rest → (∀ z, z ≠ Str.ofString "code" → z ≠ Str.ofString "holders" → m z = m₀ z) → DictI prog w oK kn → IntsAre nvs ns → IntsAre bvs (cs.take i) → ns.length = i → NInv ns kn hd → m (Str.ofString "holders") = some (.int hd th) → P) : P := by
  obtain ⟨h0, oK, kn, nvs, nk, bvs, bk, ns, hd, th, h1, h2, h3, h4, h5, h6, h7⟩ := h
  exact k oK kn nvs nk bvs bk ns hd th h1 h0 h2 h3 h4 h5 h6 h7
theorem CJ5.mk {prog : Program} {w : World} {cs : List Int} {i : Nat} {m₀ m : PySem.Str → Option Value} {vD : Addr × Obj} {K ln lb : Addr} {o1 o2 o3 : Obj} {rest : List (Addr × Obj)} {oK : Obj} {kn : List (Int × Int)} {nvs bvs : List Value} {nk bk : Nat} {ns : List Int} {hd : Int} {th : Tok} (h0 : ∀ z, z ≠ Str.ofString "code" → z ≠ Str.ofString "holders" → m z = m₀ z) (h2 : DictI prog w oK kn) (h3 : IntsAre nvs ns) (h4 : IntsAre bvs (cs.take i)) (h5 : ns.length = i) (h6 : NInv ns kn hd) (h7 : m (Str.ofString "holders") = some (.int hd th)) :
    CJ5 prog w cs i m₀ (vD :: (K, o1) :: (ln, o2) :: (lb, o3) :: rest) m (vD :: (K, oK) :: (ln, W.listOf nvs.toArray nk) :: (lb, W.listOf bvs.toArray bk) :: rest) :=
  ⟨h0, oK, kn, nvs, nk, bvs, bk, ns, hd, th, rfl, h2, h3, h4, h5, h6, h7⟩
set_option maxRecDepth 100000 in
set_option maxHeartbeats 8000000 in
theorem cinit_base {prog : Program} {w : World} {p : Program} {loose : List PySem.Str} {mean : ExcName → Option Value} {mg mb : PySem.Str → Option Value}
  (dp un : Nat) (gd : Option (List Code)) (cn : PySem.Str) (cs : Scope) (a : Addr) (ccd : Value) (cl : List (PySem.Str × Addr)) (outer : List Env) (A₀ : Around) (base h₀ : Heap) (L : Addr) (m : PySem.Str → Option Value) (s : Shared) (Q E : Value → Shared → Prop)
  (B : Below A₀ base outer h₀) (F : Fr h₀ L s.heap m) (X : (Mine.hd.heap_39 w.params).In h₀) (T : Top p loose mean mg mb h₀) (hk : cs.kind = .function)
  (hdp : dp ≤ 700) (hun : un ≤ 6000)
  (news : List (Addr × Obj)) (N : News h₀ L s.heap news) (l : Addr) (vs : List Value) (kl : Nat) (sss : List (List (Int × Int))) (hl : (l, W.listOf vs.toArray kl) ∈ news) (hss : SetsAt news vs sss) (h64 : sss.length ≤ 30) (hsum : (sss.map (·.length)).sum ≤ 30)
  (hret : ∀ x ex bs ns cnt h' tk', Fr h₀ L h' m → News h₀ L h' (ex ++ news) → (∀ p ∈ ex, ∀ q ∈ news, @Ne Nat p.1 q.1) → ClAt ex x bs ns cnt → ClsX bs ns cnt → bs.length ≤ 1 + 2 * (sss.map (·.length)).sum → Q (.ref x) { s with heap := h', toks := tk' })
  :
  wpAny (model prog w) (ktrTop dp un gd cn cs L a ccd cl outer) (call (.ref 301) [.ref l]) Q E s := by
  k_dflt (refine' call_cls ?k1 ?k2 ?k3 ?k4 ?k5 ?k6 ?_; (case k1 => k_asm); (case k2 => k_asm); (case k3 => k_asm); (case k4 => k_is); (case k5 => k_is); (case k6 => k_is); k_whole; intro x' d' h' F' N' l1 l2; (try k_lt l1); (try k_lt2 l2))
  have hq1 := l1
  have hq2 := l2
  k_dflt (refine' code_def ?k1 ?k2 ?k3 ?k4 ?k5 ?kA ?kF ?kK ?k6 ?k7 ?k8 ?k9 ?kB ?_ ?c2 ?c3 ?c4 ?c5; (case kA => exact rfl); (case kF => exact rfl); (case kK => assumption); (case k1 => k_asm); (case k2 => k_asm); (case k3 => k_asm); (case k4 => k_asm); (case k5 => k_asm); (case k6 => k_is); (case k7 => k_is); (case k8 => k_room); (case k9 => exact BindsTo.of_eq rfl); (case c5 => decide); (case kB => exact locs rfl); (case c2 => exact rfl); (case c3 => exact rfl); (case c4 => exact rfl); k_whole; intro g' L' h' FG' F' N' B' X' T'; (try dsimp only); (try k_lift B'); (try k_fold))
  have hlen := hss.length
  k_steps
  (rename IsRange _ _ _ _ _ _ _ _ => lR); (rename Fr _ _ _ _ => lF); (rename News _ _ _ _ => lN); (rename Obj.IsDictOf _ _ _ => lD); (rename (_ == sysModules) = false => lo9); (rename _ ∧ _ ∧ AllLt _ news => l9)
  refine range_loopM (n := vs.length) (fun i m₀ nx₀ m nx => (∀ z, z ≠ Str.ofString "place" → z ≠ Str.ofString "low" → z ≠ Str.ofString "high" → m z = m₀ z) ∧ match nx₀ with
    | (T, _) :: rest => ∃ oT tv, nx = (T, oT) :: rest ∧ DictI prog w oT tv ∧ TInv tv i 0 ∧ tv.length ≤ 1 + 2 * lensUp sss i
    | [] => False) rfl rfl rfl lR ?hs ?hn lF lN ?h0 ?turn ?done (by passes_own)
  case hs => exact rs_small (by omega)
  case hn => exact rs_nat _
  case h0 => exact ⟨fun _ _ _ _ => rfl, _, [(0, 0)], rfl, ⟨_, lD, .cons .nil⟩, .init, by simp⟩
  case turn =>
    clear lF lN lR lD
    rintro i m₁ nx h tk t I oI hi hJ hoff F1 N1
    refine hideT (P := fun R => wpAny _ _ _ R _ _) ?_; intro R9 hR9 hC9 hV9; clear hC9 hV9
    obtain ⟨hm, oT, tv, rfl, hD, hT, hL⟩ := hJ
    rw [map_three hm] at F1
    obtain ⟨xi, sps, hvi, hsi, cdx, cq, ct, cnd, ctp, ck, csvs, c1, c2, c3, c4, c5, c6⟩ : ∃ xi sps, vs[i]? = some (.ref xi) ∧ sss[i]? = some sps ∧ CsAt news xi sps := by
      obtain ⟨xi, sps, e, h1, h2⟩ := hss.at i vs[i] (by rw [List.getElem?_eq_getElem hi])
      exact ⟨xi, sps, by rw [List.getElem?_eq_getElem hi, e], h1, h2⟩
    (try k_unmd); (try k_fold)
    k_steps
    unfold Stop
    refine wpAny_For ?_ (by intro _; rfl)
    k_steps
    (rename Fr _ _ _ _ => lF); (rename News _ _ _ _ => lN)
    have hsp := lensUp_succ hsi
    refine pairs_loopTM ((I, oI) :: (x', instObj 301 d') :: (d', dictOf [] 0) :: news) (fun j m₀ nx₀ m nx => (∀ z, z ≠ Str.ofString "high" → z ≠ Str.ofString "low" → m z = m₀ z) ∧ match nx₀ with
      | (T, _) :: _ => ∃ oT tv f, nx = [(T, oT)] ∧ DictI prog w oT tv ∧ TInv tv i f ∧ tv.length ≤ 1 + 2 * lensUp sss i + 2 * j ∧ (∀ p, sps[j]? = some p → f ≤ p.1)
      | [] => False) rfl rfl rfl rfl (List.mem_cons_of_mem _ (List.mem_cons_of_mem _ (List.mem_cons_of_mem _ c3))) (c4.mono fun q hq => List.mem_cons_of_mem _ (List.mem_cons_of_mem _ (List.mem_cons_of_mem _ hq))) lF (nx₀ := [_]) (news_mid lN) ?hsn2 ?h02 ?turn2 ?done2 (by passes_own)
    case hsn2 =>
      intro p hp q hq
      rw [List.mem_singleton.mp hp]
      rcases List.mem_cons.mp hq with e | hq
      · rw [e]; exact hoff (h'.objs.size, oT) (List.mem_cons_self ..)
      · have hlt : ∀ q ∈ (x', instObj 301 d') :: (d', dictOf [] 0) :: news, q.1 < h'.objs.size := List.forall_mem_cons.mpr ⟨l9.1, List.forall_mem_cons.mpr ⟨l9.2.1, fun q hq => kst_ltOf l9.2.2 q hq⟩⟩
        exact Nat.ne_of_gt (hlt q hq)
    case h02 =>
      exact ⟨fun _ _ _ => rfl, _, tv, 0, rfl, hD, hT, by omega, fun p hp => (c5.rng p (List.mem_of_getElem? hp)).1⟩
    case turn2 =>
      clear lF lN
      rintro j a b ta tb m₂ nx2 h2 tk2 I2 oI2 hj hJ2 o1 o2 o3 F2 N2
      refine hideT (P := fun R => wpAny _ _ _ R _ _) ?_; intro R9 hR9 hC9 hV9; clear hC9 hV9
      obtain ⟨hm2, oT2, tv2, f, rfl, hD2, hT2, hL2, hf2⟩ := hJ2
      rw [map_two hm2] at F2
      have hab := c5.rng (a, b) (List.mem_of_getElem? hj)
      have hfa := hf2 _ hj
      obtain ⟨hab0, hab1, hab2⟩ := hab
      dsimp only at hab0 hab1 hab2 hfa
      obtain ⟨w1, w2, w3, w4, w5⟩ := off_T o1 o2
      have o2' := fun q hq => o2 _ (List.mem_singleton.mpr rfl) q hq
      rw [List.cons_append, List.nil_append] at N2
      have hz1 := lensUp_le sss i
      obtain ⟨hz3, -⟩ := List.getElem?_eq_some_iff.mp hj
      have hz2 := storedI_len tv2 a (Builtin.bitXor ((lookI tv2 a).getD 0) (2 ^ i))
      have hG1 := hT2.toggle hfa hab0 (by omega) rfl
      (try k_unmd); (try k_fold)
      k_steps
      all_goals (rename Fr _ _ _ _ => lF9); (rename News _ _ _ _ => lN9); (rename DictI _ _ _ _ => lD9)
      · refine hR9 _ <| TEnd.turn lF9 lN9 w1 o2' ⟨?_, _, _, b + 1 + 1, rfl, lD9, hG1.toggle (by omega) (by omega) (by omega) rfl, Nat.le_trans (storedI_len _ _ _) (by omega), fun p hp => ?_⟩
        · intro z h1 h2; simp [h1, h2]
        · have := c5.next hj hp; omega
      · refine hR9 _ <| TEnd.turn lF9 lN9 w1 o2' ⟨?_, _, _, a + 1, rfl, lD9, hG1, by omega, fun p hp => ?_⟩
        · intro z h1 h2; simp [h1, h2]
        · have := c5.next hj hp; omega
    case done2 =>
      clear lF lN
      rintro h2 tk2 m2 nx2 ⟨hm2, oT2, tv2, f, rfl, hD2, hT2, hL2, -⟩ F2 N2 o2
      rw [map_two hm2] at F2
      rw [List.cons_append, List.nil_append] at N2
      dsimp only
      (try k_unmd)
      k_steps
      (rename Fr _ _ _ _ => lF9); (rename News _ _ _ _ => lN9)
      refine hR9 _ <| TEnd.intro lF9 lN9 _ (by lcg_sub) ?hn3 ?ho3 ⟨?hj3, _, _, rfl, hD2, hT2.next, by omega⟩
      case hn3 => exact List.forall_mem_cons.mpr ⟨List.mem_cons_self .., fun p hp => List.mem_cons_of_mem _ (List.mem_cons_of_mem _ hp)⟩
      case ho3 => exact off_one (fun p hp => (List.mem_cons.mp hp).elim (fun e => by rw [e]; exact hoff (h'.objs.size, oT) (List.mem_cons_self ..)) (fun e => hoff p (List.mem_cons_of_mem _ e)))
      case hj3 => intro z h1 h2 h3; simp [h1, h2, h3]
  case done =>
    rintro h2 tk2 m2 nx2 ⟨hm2, oT, tv, rfl, hD, hT, hL⟩ F2 N2
    rw [map_three hm2] at F2
    clear lF lN lR lD
    have hz1 := lensUp_le sss vs.length
    have hT0 := hD
    dsimp only
    (try k_unmd)
    k_steps
    unfold Stop
    k_dflt (refine' my_sortk ?hh ?F ?N ?v ?l ?d ?z ?_; (case hh => rfl); (case F => k_asm); (case N => k_asm); (case v => k_mem); (case l => k_mem); (case d => assumption); (case z => omega))
    intro B9 h9 tk9 vs9 cs9 c9 F9 N9 l9 i9 p9 o9
    (try k_lt l9)
    k_steps
    (rename Fr _ _ _ _ => lF); (rename News _ _ _ _ => lN)
    (rename Obj.IsDictOf (PySem.intKind prog w) _ [] => lK)
    (rename _ ∧ _ ∧ _ ∧ AllLt _ news => g3); (rename _ ∧ _ ∧ _ ∧ _ ∧ AllLt _ news => g4)
    refine list_loopM [_] (CJ5 prog w cs9) rfl rfl rfl (Or.inr ⟨_, List.mem_cons_self .., rfl, _, rfl⟩) lF lN ?hsn5 ?h05 ?turn5 ?done5 (by passes_own)
    case h05 => exact CJ5.mk (fun _ _ _ => rfl) ⟨[], lK, .nil⟩ .nil .nil rfl .init rfl
    case turn5 =>
      clear lF lN lK
      rintro i v m₁ nx h tk I oI hv hJ o1 o2 o3 F1 N1
      refine hideT (P := fun R => wpAny _ _ _ R _ _) ?_; intro R9 hR9 hC9 hV9; clear hC9 hV9
      refine hJ.out ?_; clear hJ; rintro oK kn nvs nk bvs bk ns hd th rfl hm5 hK hnv hbv hnl hN hhd
      rw [map_two hm5] at F1
      rw [hhd] at F1
      rw [List.cons_append, List.nil_append] at N1
      obtain ⟨c, tc, rfl, hc⟩ := IntsAre.at i9 i v (by simpa using hv)
      have hcm := p9.mem_iff.mp (List.mem_of_getElem? hc)
      obtain ⟨n7, hn7⟩ := lookI_of hcm
      (try k_unmd); (try k_fold)
      obtain ⟨e1, e2, e3, e4, e5, e6, e7, e8⟩ := off_eight o1
      have hknl : kn.length ≤ i := (by have := hN.seen; have := seenUp_le hN.ord ns.length (Nat.le_refl _); omega)
      have hi63 : i < cs9.length := (List.getElem?_eq_some_iff.mp hc).1
      have hcl : cs9.length = tv.length := by rw [p9.length_eq, List.length_map]
      have hbl : bvs.length ≤ 100 := by rw [hbv.length, List.length_take]; omega
      have hnvl : nvs.length ≤ 100 := by rw [hnv.length]; omega
      have hknl2 : kn.length ≤ 100 := by omega
      have hv7 := hT.vals _ (lookI_mem hn7)
      have hx0 : 0 ≤ Builtin.bitXor hd n7 := bitXor_nn hN.hd0 hv7.1
      have hxne : ns ≠ [] → Builtin.bitXor hd n7 ≠ hd := fun hne => bitXor_ne hN.hd0 hv7.1 (hT.nz _ (lookI_mem hn7) (by
        have hi0 : 0 < i := by rw [← hnl]; exact List.length_pos_iff.mpr hne
        exact cod_nz p9 o9 hD.nodup hT hi0 hc))
      k_steps
      all_goals (rename Fr _ _ _ _ => lF9); (rename News _ _ _ _ => lN9)
      · (rename DictI _ _ _ _ => lD9); (rename lookI kn _ = none => hnone)
        rw [storedI_none hnone] at lD9
        refine hR9 _ <| TEnd.cin lF9 lN9 (mk_eight ⟨e1, e2, e3, e4, e5, e6, e7, e8⟩) (mk_eight ⟨Nat.ne_of_lt l9.1, Nat.ne_of_lt l9.2.1, Nat.ne_of_lt l9.2.2.1, Nat.ne_of_lt l9.2.2.2.1, Nat.ne_of_lt l9.2.2.2.2.1, Nat.ne_of_lt l9.2.2.2.2.2.1, Nat.ne_of_lt l9.2.2.2.2.2.2.1, fun q hq => Nat.ne_of_lt (kst_ltOf l9.2.2.2.2.2.2.2 q hq)⟩) (CJ5.mk ?_ lD9 (ints_snoc hnv) (ints_snoc_take hbv hc) (by rw [List.length_append, hnl]; rfl) (hN.fresh hx0 hnone) rfl)
        intro z h1 h2; simp [h1, h2]
      · (rename lookI kn _ = some _ => hsome)
        refine hR9 _ <| TEnd.cin lF9 lN9 (mk_eight ⟨e1, e2, e3, e4, e5, e6, e7, e8⟩) (mk_eight ⟨Nat.ne_of_lt l9.1, Nat.ne_of_lt l9.2.1, Nat.ne_of_lt l9.2.2.1, Nat.ne_of_lt l9.2.2.2.1, Nat.ne_of_lt l9.2.2.2.2.1, Nat.ne_of_lt l9.2.2.2.2.2.1, Nat.ne_of_lt l9.2.2.2.2.2.2.1, fun q hq => Nat.ne_of_lt (kst_ltOf l9.2.2.2.2.2.2.2 q hq)⟩) (CJ5.mk ?_ hK (ints_snoc hnv) (ints_snoc_take hbv hc) (by rw [List.length_append, hnl]; rfl) (hN.known hx0 hxne hsome) rfl)
        intro z h1 h2; simp [h1, h2]
    case hsn5 =>
      intro p hp q hq
      rw [List.mem_singleton.mp hq]
      exact mk_eight ⟨Nat.ne_of_lt l9.1, Nat.ne_of_lt l9.2.1, Nat.ne_of_lt l9.2.2.1, Nat.ne_of_lt l9.2.2.2.1, Nat.ne_of_lt l9.2.2.2.2.1, Nat.ne_of_lt l9.2.2.2.2.2.1, Nat.ne_of_lt l9.2.2.2.2.2.2.1, fun q hq => Nat.ne_of_lt (kst_ltOf l9.2.2.2.2.2.2.2 q hq)⟩ p hp
    case done5 =>
      clear lF lN lK
      intro h tk m₁ nx hJ F1 N1 o1
      refine hJ.out ?_; clear hJ; rintro oK kn nvs nk bvs bk ns hd th rfl hm5 hK hnv hbv hnl hN hhd
      rw [map_two hm5] at F1
      rw [List.cons_append, List.nil_append] at N1
      have hcl : cs9.length = tv.length := by rw [p9.length_eq, List.length_map]
      have hvl : vs9.toArray.size = cs9.length := by rw [List.size_toArray, i9.length]
      rw [hvl] at hnl hbv
      rw [List.take_length] at hbv
      have hknl : kn.length ≤ cs9.length := (by have := hN.seen; have := seenUp_le hN.ord ns.length (Nat.le_refl _); omega)
      have hknl2 : kn.length ≤ 100 := by omega
      dsimp only
      (try k_unmd)
      k_steps
      (rename Fr _ _ _ _ => lF9); (rename News _ _ _ _ => lN9)
      exact hret x' _ cs9 ns (kn.length : Int) _ _ lF9 (cin_fin lN9) (cin_off hq1 hq2 g3.2.2.2 g4.2.2.2.2) ⟨_, _, _, bvs, nvs, _, _, _, _, _, _, _, _, _, _, List.mem_cons_self .., List.mem_cons_of_mem _ (List.mem_cons_self ..), List.mem_cons_of_mem _ (List.mem_cons_of_mem _ (List.mem_cons_self ..)), List.mem_cons_of_mem _ (List.mem_cons_of_mem _ (List.mem_cons_of_mem _ (List.mem_cons_self ..))), hbv, hnv⟩
        ⟨ClsOk.make o9 (p9.nodup_iff.mpr hD.nodup) (fun b hb => by obtain ⟨p, hp, e⟩ := List.mem_map.mp (p9.mem_iff.mp hb); rw [← e]; exact hT.keys p hp) (by obtain ⟨v, hv⟩ := hT.zero; exact p9.mem_iff.mpr (List.mem_map.mpr ⟨_, hv, rfl⟩)) (by omega) hN hnl, hN.ord, hN.dif, hN.seen, by omega⟩ (by omega)
end

section
local macro_rules | `(tactic| walk_at "truthy ref") => `(tactic| (k_here; k_dflt (refine' my_truthyI (by exact News.isList (by k_asm) (by k_mem)) (by with_reducible assumption) (by omega) (by omega) ?_; k_whole)))
local macro_rules | `(tactic| walk_at "call builtin:len") => `(tactic| (k_here; (with_reducible show wpAny _ _ (call (Value.builtin "len") [Value.ref _]) _ _ _); k_dflt (first | (refine' my_len (by exact News.isList (by k_asm) (by k_mem)) (by with_reducible assumption) (by omega) ?_; k_whole) | (refine' my_lenV (by k_asm) (by k_mem) (by first | omega | (simp only [List.length_append, List.length_singleton]; omega)) ?_; k_whole))))
local macro_rules | `(tactic| walk_at "subscriptTail") => `(tactic| (k_here; (with_reducible show wpAny _ _ (subscriptTail _ _ (Value.ref _) (Value.int _ _)) _ _ _); k_dflt (refine' my_pickZ (by k_asm) (by k_mem) (by first | assumption | exact row_last (by omega)) (by omega) (by omega) ?_; k_whole)))
local macro_rules | `(tactic| walk_at "exec Raise some none") => `(tactic| (k_here; (exfalso; omega)))
local macro_rules | `(tactic| walk_at "call ref") => `(tactic| (k_here; (with_reducible show wpAny _ _ (call (Value.ref 130) [Value.ref _]) _ _ _); k_dflt (refine Stop.out ?_)))
local macro_rules | `(tactic| walk_at "call ref") => `(tactic| (k_here; (with_reducible show wpAny _ _ (call (Value.ref 301) [Value.ref _]) _ _ _); k_dflt (refine Stop.out ?_)))
local macro_rules | `(tactic| walk_at $k:str) => if ["eval ListComp", "CompSrc", "exec If"].contains k.getString then `(tactic| (k_here; k_dflt (refine Stop.out ?_))) else Lean.Macro.throwUnsupported
set_option maxRecDepth 100000 in
set_option maxHeartbeats 8000000 in
theorem fromb_base {prog : Program} {w : World} {p : Program} {loose : List PySem.Str} {mean : ExcName → Option Value} {mg mb : PySem.Str → Option Value}
  (dp un : Nat) (gd : Option (List Code)) (cn : PySem.Str) (cs : Scope) (a : Addr) (ccd : Value) (cl : List (PySem.Str × Addr)) (outer : List Env) (A₀ : Around) (base h₀ : Heap) (L : Addr) (m : PySem.Str → Option Value) (s : Shared) (Q E : Value → Shared → Prop)
  (B : Below A₀ base outer h₀) (F : Fr h₀ L s.heap m) (X : (Mine.hd.heap_39 w.params).In h₀) (T : Top p loose mean mg mb h₀) (hk : cs.kind = .function)
  (hdp : dp ≤ 600) (hun : un ≤ 5000)
  (news : List (Addr × Obj)) (N : News h₀ L s.heap news) (lb ln : Addr) (bvs nvs : List Value) (kb kn : Nat) (bs ns : List Int) (cnt : Int) (hlb : (lb, W.listOf bvs.toArray kb) ∈ news) (hln : (ln, W.listOf nvs.toArray kn) ∈ news) (hbI : IntsAre bvs bs) (hnI : IntsAre nvs ns) (hX : ClsX bs ns cnt) (h30 : bs.length ≤ 30)
  (hret : ∀ x ex bs ns cnt h' tk', Fr h₀ L h' m → News h₀ L h' (ex ++ news) → (∀ p ∈ ex, ∀ q ∈ news, @Ne Nat p.1 q.1) → ClAt ex x bs ns cnt → ClsX bs ns cnt → Q (.ref x) { s with heap := h', toks := tk' })
  :
  wpAny (model prog w) (ktrTop dp un gd cn cs L a ccd cl outer) (call (.ref 250) [.ref lb, .ref ln]) Q E s := by
  have hC := hX.ok
  have hb0 := hC.b0
  have hb1 := hC.b1
  have hb64 := hC.len
  have hbn := hC.eql
  have hpos := hC.pos
  have hzero := hC.zero
  have hzero2 : bs.getD (0:Int).toNat 0 = 0 := hzero
  refine wpAny_call ?_
  k_dflt ktr_enter
  k_steps
  unfold Stop
  refine wpAny_If ?_
  k_steps
  (rename IsRange _ _ _ _ _ _ _ _ => lR); (rename Fr _ _ _ _ => lF); (rename News _ _ _ _ => lN); (rename ∀ p ∈ news, _ => l1)
  refine range_loopM (n := bs.length) (fun i m₀ nx₀ m₁ nx => (∀ z, z ≠ Str.ofString "place" → z ≠ Str.ofString "low" → z ≠ Str.ofString "high" → z ≠ Str.ofString "number" → m₁ z = m₀ z) ∧ match nx₀ with
    | (R, _) :: _ => ∃ pvs kp rl tl pss, nx = (R, W.listOf pvs.toArray kp) :: (rl ++ tl) ∧ (∀ q ∈ news, q ∈ tl) ∧ RowsAt tl rl pvs pss ∧ (pvs.length : Int) = seenUp ns i ∧ lens pss = i ∧ RowsOff R rl tl
    | [] => False) rfl rfl rfl lR ?hs ?hn lF lN ?h0 ?turn ?done (by passes_own)
  case hs => exact rs_small (by omega)
  case hn => exact rs_nat _
  case h0 => exact ⟨fun _ _ _ _ _ => rfl, [], 0, [], news, [], rfl, fun _ h => h, .nil, rfl, rfl, fun _ h => (nomatch h), fun q hq => Nat.ne_of_lt (l1 q hq), List.Pairwise.nil, fun _ h => (nomatch h)⟩
  case turn =>
    clear lF lN lR
    rintro i m₁ nx h tk t I oI hi hJ9 hoff F1 N1
    refine hideT (P := fun R => wpAny _ _ _ R _ _) ?_; intro R9 hR9 hC9 hV9; clear hC9 hV9
    obtain ⟨hm, pvs, kp, rl, tl, pss, rfl, hsub, hrow, hpl, hln2, hro⟩ := hJ9
    rw [map_four hm] at F1
    rw [Int.zero_add] at F1
    have hA := hb0 i (by omega) (by omega)
    have hA1 := fun h => hb0 (i + 1) (by omega) h
    have hA2 := hb1 i (by omega)
    have hN0 := hC.n0 i (by omega) (by omega)
    have hord := hX.ord i (by omega)
    rw [← hpl] at hord
    have hdif : 0 < i → ns.getD ((i : Int) - 1).toNat 0 ≠ ns.getD (i : Int).toNat 0 := fun h0 => by
      have := hX.dif (i - 1) (by omega)
      rw [show ((i : Int) - 1).toNat = i - 1 by omega, Int.toNat_natCast]
      rwa [show i - 1 + 1 = i by omega] at this
    have hsl := seenUp_le hX.ord i (by omega)
    have hE1 : bs.getD (i : Int).toNat 0 < endOf bs i := by rw [Int.toNat_natCast]; exact hC.end_gt hi
    have hE2 := endOf_le hC hi
    have hnum : ns.getD (i : Int).toNat 0 = ns.getD i 0 := by rw [Int.toNat_natCast]
    obtain ⟨x1, x2⟩ := off1 hoff
    have y1 : ∀ q ∈ rl ++ tl, @Ne Nat q.1 _ := fun q hq => (List.mem_append.mp hq).elim (hro.r1 q) (hro.r2 q)
    have hb4 : ∀ q ∈ news, q ∈ rl ++ tl := fun q hq => List.mem_append_right _ (hsub q hq)
    have hlb2 := hb4 _ hlb
    have hln3 := hb4 _ hln
    have N2 := N1
    generalize hbig : rl ++ tl = big at N2 y1 x2 hlb2 hln3
    clear N1
    (try k_unmd); (try k_fold)
    k_steps
    unfold Stop
    (rename Fr _ _ _ _ => fB); (rename News _ _ _ _ => nB)
    k_dflt (refine cut_set (Str.ofString "high") (fun t => .int (endOf bs i - 1) t) fB nB (wpAny_If ?_) ?_)
    · k_steps
      · (rename Fr _ _ _ _ => lF9); (rename News _ _ _ _ => lN9); (rename (i : Int) + 1 < _ => hlt)
        have he : endOf bs i = bs.getD ((i : Int) + 1).toNat 0 := (if_pos (by omega)).trans (by congr 1)
        exact ⟨rfl, _, _, _, _, rfl, lF9, lN9, fun z hz => if_neg hz, (if_pos rfl).trans (by rw [he])⟩
      · (rename Fr _ _ _ _ => lF9); (rename News _ _ _ _ => lN9); (rename ¬ (i : Int) + 1 < _ => hlt)
        have he : endOf bs i = 128 := if_neg (by omega)
        exact ⟨rfl, _, _, _, _, rfl, lF9, lN9, fun z _ => rfl, by rw [he]; rfl⟩
    clear fB nB
    intro h9 tk9 t9 F9 N9
    k_steps
    unfold Stop
    refine wpAny_If ?_
    k_steps
    unfold Stop
    (rename Fr _ _ _ _ => fB); (rename News _ _ _ _ => nB)
    k_dflt (refine cut_same fB nB (wpAny_If ?_) ?_)
    · k_steps
      all_goals ((rename Fr _ _ _ _ => lF9); (rename News _ _ _ _ => lN9); exact ⟨rfl, _, _, rfl, lF9, lN9⟩)
    clear fB nB
    intro h8 tk8 F8 N8
    by_cases hnew : ns.getD (i : Int).toNat 0 = (pvs.length : Int)
    · k_steps
      unfold Stop
      refine wpAny_If ?_
      k_steps
      all_goals first
        | (exfalso; omega)
        | ((rename Fr _ _ _ _ => lF9); (rename News _ _ _ _ => lN9); (rename _ ∧ _ ∧ AllLt _ big => l2); (rename _ ∧ _ ∧ _ ∧ AllLt _ big => l3)
           subst hbig
           refine hR9 _ <| TEnd.rowNew2 lF9 lN9 l3.2.1 l2.1 x1 x2 hrow (by omega) hro l2.2.1 l2.2.2 l3.1 (fun rl' tl' pss' e1 e2 e3 e4 => ⟨?_, _, _, rl', tl', pss', rfl, fun q hq => e1 q (hsub q hq), e2, ?_, by omega, e4⟩)
           · intro z h1 h2 h3 h4; simp [h1, h2, h3, h4]
           · show _ = max (seenUp ns i) (ns.getD i 0 + 1)
             rw [List.length_append, List.length_singleton]; omega)
    · subst hbig
      obtain ⟨P, k, pv, ps, ra, rb, hpick, rfl, hpv, hpsl, hset⟩ := hrow.split (ns.getD (i : Int).toNat 0).toNat (by omega)
      have hPI : @Ne Nat P I := x2 (P, W.listOf pv.toArray k) (by simp)
      have hPR : @Ne Nat P _ := y1 (P, W.listOf pv.toArray k) (by simp)
      have hbP := hro.big
      have sub : ∀ q ∈ ra ++ rb ++ tl, q ∈ (ra ++ (P, W.listOf pv.toArray k) :: rb) ++ tl := fun q hq => by
        simp only [List.mem_append, List.mem_cons] at hq ⊢
        rcases hq with (h | h) | h
        · exact .inl (.inl h)
        · exact .inl (.inr (.inr h))
        · exact .inr h
      have hbI : ∀ q ∈ ra ++ rb ++ tl, @Ne Nat q.1 I := fun q hq => x2 q (sub q hq)
      have hbR : ∀ q ∈ ra ++ rb ++ tl, @Ne Nat q.1 _ := fun q hq => y1 q (sub q hq)
      have hpvl := hpv.length
      have N3 := news_row N8
      have hPR2 := Ne.symm hPR
      generalize hbig : ra ++ rb ++ tl = big at N3 hbP hbI hbR
      clear N8 x2 y1
      k_steps
      unfold Stop
      refine wpAny_If ?_
      k_steps
      all_goals first
        | (exfalso; omega)
        | ((rename Fr _ _ _ _ => lF9); (rename News _ _ _ _ => lN9); (rename _ ∧ _ ∧ _ ∧ AllLt _ big => l3)
           subst hbig
           refine hR9 _ <| TEnd.rowOld2 lF9 lN9 l3.1 x1 hPI hbI hpv (by omega) hro l3.2.1 l3.2.2.2 l3.2.2.1 hset (fun rl' tl' pss' e1 e2 e3 e4 => ⟨?_, _, _, rl', tl', pss', rfl, fun q hq => e1 q (hsub q hq), e2, ?_, by omega, e4⟩)
           · intro z h1 h2 h3 h4; simp [h1, h2, h3, h4]
           · show _ = max (seenUp ns i) (ns.getD i 0 + 1)
             omega)
  case done =>
    rintro h2 tk2 m2 nx2 ⟨hm, pvs, kp, rl, tl, pss, rfl, hsub, hrow, hpl, hln2, hro⟩ F2 N2
    rw [map_four hm] at F2
    clear lF lN lR
    dsimp only
    (try k_unmd)
    k_steps
    unfold Stop
    (rename Fr _ _ _ _ => lF0)
    refine LCg.ListComp_U (F₀ := lF0) (by rfl) (by decide) (by rfl) (by decide) (by rfl) ?_
    (try k_unmd)
    k_steps
    (rename Fr _ _ _ _ => lF); (rename News _ _ _ _ => lN)
    unfold Stop
    have hpl2 := hrow.length
    have hsl := seenUp_le hX.ord bs.length (by omega)
    refine LCg.CompSrc.ledger (by rfl) lF lN (by k_mem) (by rw [sizeLine_eq, List.size_toArray]; omega) ?_
    intro g
    refine compRest_inv (n := _) (fun i ys nx => ∃ ex sss, nx = ex ++ _ ∧ SetsAt nx ys sss ∧ sss.length = i ∧ lens sss ≤ lens (pss.take i)) ?turn ?fin _ 0 [] _ (Nat.zero_add _) ⟨[], [], rfl, .nil, rfl, Nat.le_refl _⟩
    case turn =>
      rintro i v ys nx I oI C oC D m₂ h tk E' hi hv ⟨ex, sss, rfl, hys, hsl2, hle⟩ hC2 hx2 F2 N2 hoff hne
      obtain ⟨P, k, pv, ps, rfl, hP, hpv, hp1, hpr, hpt, hpz⟩ := hrow.at i v (by simpa using hv)
      k_steps
      unfold Stop
      k_dflt (apply made_base; (case B => k_asm); (case F => k_asm); (case X => k_asm); (case T => k_asm); (case hk => first | exact rfl | assumption); (case hdp => first | omega | ktr_room); (case hun => first | omega | units_room); (case N => exact N2); (case hl => exact row_memP hP); (case hp => exact hpv.mono fun q hq => row_memT hq); (case hp1 => omega); (case hp64 => omega); (case hr => exact hpr))
      intro x sps ex4 h4 tk4 F4 N4 fr4 cs4 ls4
      refine LCg.CompEnd.intro F4 N4 ((ex4 ++ ex) ++ (_ :: (rl ++ tl))) ?sub ?off ?src ⟨ex4 ++ ex, sss ++ [sps], rfl, ?ya, ?yb, ?yc⟩
      case src => exact Or.inr ⟨_, List.mem_append_right _ (List.mem_cons_self ..), rfl, _, rfl⟩
      case ya => exact (hys.mono fun q hq => by rw [List.append_assoc]; exact List.mem_append_right _ hq).append (.cons (cs4.mono fun q hq => by rw [List.append_assoc]; exact List.mem_append_left _ hq) .nil)
      case yb => rw [List.length_append, hsl2]; rfl
      case yc => rw [lens_append, hpt]; show _ + (sps.length + 0) ≤ _; omega
      case sub =>
        intro p hp
        rw [List.append_assoc] at hp
        rcases List.mem_cons.mp hp with rfl | hp
        · exact List.mem_append_right _ (List.mem_cons_self ..)
        rcases List.mem_cons.mp hp with rfl | hp
        · exact List.mem_append_right _ (List.mem_cons_of_mem _ (List.mem_cons_self ..))
        rcases List.mem_cons.mp hp with rfl | hp
        · exact List.mem_append_right _ (List.mem_cons_of_mem _ (List.mem_cons_of_mem _ (List.mem_cons_self ..)))
        rcases List.mem_append.mp hp with hp | hp
        · exact List.mem_append_left _ hp
        · exact List.mem_append_right _ (List.mem_cons_of_mem _ (List.mem_cons_of_mem _ (List.mem_cons_of_mem _ hp)))
      case off =>
        refine LCg.Off3.of fun p hp => ?_
        rw [List.append_assoc] at hp
        rcases List.mem_append.mp hp with hp | hp
        · exact ⟨fr4 p hp _ (List.mem_cons_self ..), fr4 p hp _ (List.mem_cons_of_mem _ (List.mem_cons_self ..)), fr4 p hp _ (List.mem_cons_of_mem _ (List.mem_cons_of_mem _ (List.mem_cons_self ..)))⟩
        · exact LCg.Off3.mem hoff p hp
    case fin =>
      rintro ys nx ⟨ex, sss, rfl, hys, hsl2, hle⟩
      intro D h tk F2 N3 hoff1
      clear lF lN
      dsimp only
      (try k_unmd)
      k_steps
      unfold Stop
      have hle2 : lens sss ≤ lens pss := by
        rw [List.size_toArray, hpl2, List.take_length] at hle; exact hle
      k_dflt (apply cinit_base; (case B => k_asm); (case F => k_asm); (case X => k_asm); (case T => k_asm); (case hk => first | exact rfl | assumption); (case hdp => first | omega | ktr_room); (case hun => first | omega | units_room); (case N => exact N3); (case hl => exact List.mem_cons_self ..); (case hss => exact hys.mono fun q hq => List.mem_cons_of_mem _ hq); (case h64 => rw [hsl2, List.size_toArray]; omega); (case hsum => show lens sss ≤ 30; omega))
      intro x ex5 bs5 ns5 cnt5 h5 tk5 F5 N5 fr5 ca5 cx5 _
      k_steps
      (rename Fr h₀ L _ _ => lF9); (rename News h₀ L _ _ => lN9)
      exact hret _ ex5 _ _ _ _ _ lF9 (fun p hp => lN9 p ((List.mem_append.mp hp).elim (fun h => List.mem_append_left _ h) fun h => List.mem_append_right _ (row_memN (hsub p h)))) (fun p hp q hq => fr5 p hp q (row_memN (hsub q hq))) ca5 cx5
end


noncomputable def lawDef : Stmt := (PySem.Challenge.pw_qd0060_01.main.body.getLast?).getD default
noncomputable def lawBody : List Stmt := match lawDef with | .FunctionDef _ _ b _ _ _ _ _ _ _ => b | _ => []
noncomputable def lawSt (i : Nat) : Stmt := lawBody.getD i default
abbrev lawCl (cT cB cN cF cC cS cW : Addr) : List (PySem.Str × Addr) := [(Str.ofString "word", cW), (Str.ofString "some", cS), (Str.ofString "classes", cC), (Str.ofString "firsts", cF), (Str.ofString "number", cN), (Str.ofString "table", cB), (Str.ofString "tin", cT)]
/-- where the law's cells lie -/
structure CellsAt (cT cB cN cF cC cS cW : Nat) : Prop where
  t : 331 < cT
  b : cT < cB
  n : cB < cN
  f : cN < cF
  c : cF < cC
  s : cC < cS
  w : cS < cW
structure KeyOff (cT cB cN cF cC cS cW d : Nat) : Prop where
  e0 : 331 ≠ d
  e1 : cT ≠ d
  e2 : cB ≠ d
  e3 : cN ≠ d
  e4 : cF ≠ d
  e5 : cC ≠ d
  e6 : cS ≠ d
  e7 : cW ≠ d
structure BigOff (cT cB cN cF cC cS cW d c : Nat) (big : List (Addr × Obj)) : Prop where
  e0 : ∀ q ∈ big, @Ne Nat q.1 331
  e1 : ∀ q ∈ big, @Ne Nat q.1 cT
  e2 : ∀ q ∈ big, @Ne Nat q.1 cB
  e3 : ∀ q ∈ big, @Ne Nat q.1 cN
  e4 : ∀ q ∈ big, @Ne Nat q.1 cF
  e5 : ∀ q ∈ big, @Ne Nat q.1 cC
  e6 : ∀ q ∈ big, @Ne Nat q.1 cS
  e7 : ∀ q ∈ big, @Ne Nat q.1 cW
  e8 : ∀ q ∈ big, @Ne Nat q.1 d
  e9 : ∀ q ∈ big, @Ne Nat q.1 c
theorem canon {h₀ h : Heap} {L : Addr} {tl : List (Addr × Obj)} (keys : List (Addr × Obj)) (N : News h₀ L h tl) (hk : ∀ p ∈ keys, p ∈ tl) :
    ∃ big, News h₀ L h (keys ++ big) ∧ (∀ q ∈ tl, q ∈ keys ++ big) ∧ (∀ k ∈ keys, ∀ q ∈ big, @Ne Nat q.1 k.1) := by
  refine ⟨tl.filter (fun q => !(keys.map (·.1)).contains q.1), fun p hp => ?_, fun q hq => ?_, fun k hk' q hq => ?_⟩
  · rcases List.mem_append.mp hp with hp | hp
    · exact N p (hk p hp)
    · exact N p (List.mem_filter.mp hp).1
  · by_cases z : (keys.map (·.1)).contains q.1 = true
    · obtain ⟨k, hkm, hke⟩ := List.mem_map.mp (List.contains_iff_mem.mp z)
      have h1 := (N q hq).1
      have h2 := (N k (hk k hkm)).1
      rw [hke, h1] at h2
      have : q = k := by
        cases q; cases k
        dsimp only at hke h2
        cases h2; rw [hke]
      rw [this]
      exact List.mem_append_left _ hkm
    · exact List.mem_append_right _ (List.mem_filter.mpr ⟨hq, by simpa using z⟩)
  · have := (List.mem_filter.mp hq).2
    intro e
    rw [Bool.not_eq_true'] at this
    have hm : q.1 ∈ keys.map (·.1) := List.mem_map.mpr ⟨k, hk', by exact e.symm⟩
    rw [List.contains_iff_mem.mpr hm] at this
    cases this
theorem BigOff.of {cT cB cN cF cC cS cW d c : Addr} {oT oB oN oF oC oS oW oP o oc : Obj} {big : List (Addr × Obj)} (h : ∀ k ∈ [(cW, oW), (cS, oS), (cC, oC), (cF, oF), (cN, oN), (cB, oB), (cT, oT), (331, oP), (d, o), (c, oc)], ∀ q ∈ big, @Ne Nat q.1 k.1) : BigOff cT cB cN cF cC cS cW d c big :=
  ⟨h (331, oP) (by simp), h (cT, oT) (by simp), h (cB, oB) (by simp), h (cN, oN) (by simp), h (cF, oF) (by simp), h (cC, oC) (by simp), h (cS, oS) (by simp), h (cW, oW) (by simp), h (d, o) (by simp), h (c, oc) (by simp)⟩
theorem keys_ex {h₀ h : Heap} {L : Addr} {cT cB cN cF cC cS cW d c : Addr} {oT oB oN oF oC oS oW oP o oc : Obj} {ex big : List (Addr × Obj)}
    (N : News h₀ L h (ex ++ ((cW, oW) :: (cS, oS) :: (cC, oC) :: (cF, oF) :: (cN, oN) :: (cB, oB) :: (cT, oT) :: (331, oP) :: (d, o) :: (c, oc) :: big)))
    (fr : ∀ p ∈ ex, ∀ q ∈ (cW, oW) :: (cS, oS) :: (cC, oC) :: (cF, oF) :: (cN, oN) :: (cB, oB) :: (cT, oT) :: (331, oP) :: (d, o) :: (c, oc) :: big, @Ne Nat p.1 q.1) (hb : BigOff cT cB cN cF cC cS cW d c big) :
    News h₀ L h ((cW, oW) :: (cS, oS) :: (cC, oC) :: (cF, oF) :: (cN, oN) :: (cB, oB) :: (cT, oT) :: (331, oP) :: (d, o) :: (c, oc) :: (ex ++ big)) ∧ BigOff cT cB cN cF cC cS cW d c (ex ++ big) := by
  refine ⟨fun p hp => N p ?_, ?_⟩
  · have e : (cW, oW) :: (cS, oS) :: (cC, oC) :: (cF, oF) :: (cN, oN) :: (cB, oB) :: (cT, oT) :: (331, oP) :: (d, o) :: (c, oc) :: (ex ++ big) = [(cW, oW), (cS, oS), (cC, oC), (cF, oF), (cN, oN), (cB, oB), (cT, oT), (331, oP), (d, o), (c, oc)] ++ (ex ++ big) := rfl
    have e2 : (cW, oW) :: (cS, oS) :: (cC, oC) :: (cF, oF) :: (cN, oN) :: (cB, oB) :: (cT, oT) :: (331, oP) :: (d, o) :: (c, oc) :: big = [(cW, oW), (cS, oS), (cC, oC), (cF, oF), (cN, oN), (cB, oB), (cT, oT), (331, oP), (d, o), (c, oc)] ++ big := rfl
    rw [e] at hp
    rw [e2]
    rcases List.mem_append.mp hp with h | h
    · exact List.mem_append_right _ (List.mem_append_left _ h)
    · rcases List.mem_append.mp h with h | h
      · exact List.mem_append_left _ h
      · exact List.mem_append_right _ (List.mem_append_right _ h)
  · have go : ∀ {x : Addr}, (∀ q ∈ big, @Ne Nat q.1 x) → (∀ p ∈ ex, @Ne Nat p.1 x) → ∀ q ∈ ex ++ big, @Ne Nat q.1 x := fun h1 h2 q hq => (List.mem_append.mp hq).elim (h2 q) (h1 q)
    exact ⟨go hb.e0 fun p hp => fr p hp (331, oP) (by simp), go hb.e1 fun p hp => fr p hp (cT, oT) (by simp), go hb.e2 fun p hp => fr p hp (cB, oB) (by simp), go hb.e3 fun p hp => fr p hp (cN, oN) (by simp), go hb.e4 fun p hp => fr p hp (cF, oF) (by simp),
      go hb.e5 fun p hp => fr p hp (cC, oC) (by simp), go hb.e6 fun p hp => fr p hp (cS, oS) (by simp), go hb.e7 fun p hp => fr p hp (cW, oW) (by simp), go hb.e8 fun p hp => fr p hp (d, o) (by simp), go hb.e9 fun p hp => fr p hp (c, oc) (by simp)⟩
theorem map_one {m : PySem.Str → Option Value} {x : PySem.Str} {v : Value} (h : m x = some v) : m = fun y => if y = x then some v else m y := by
  funext y
  by_cases e : y = x
  · rw [if_pos e, e, h]
  · rw [if_neg e]
theorem sum_le {sss : List (List (Int × Int))} (h : ∀ sps ∈ sss, sps.length ≤ 2) : (sss.map (·.length)).sum ≤ 2 * sss.length := by
  induction sss with
  | nil => simp
  | cons a r ih =>
    have h1 := h a (List.mem_cons_self ..)
    have h2 := ih fun q hq => h q (List.mem_cons_of_mem _ hq)
    simp only [List.map_cons, List.sum_cons, List.length_cons]
    omega
theorem ClAt.mono {ex ex' : List (Addr × Obj)} {x : Addr} {bs ns : List Int} {cnt : Int} (h : ClAt ex x bs ns cnt) (hs : ∀ q ∈ ex, q ∈ ex') : ClAt ex' x bs ns cnt := by
  obtain ⟨dx, lb, ln, bvs, nvs, y1, y2, y3, t1, t2, t3, t4, nd, kb, kn, hx, hdx, hlb, hln, hbI, hnI⟩ := h
  exact ⟨dx, lb, ln, bvs, nvs, y1, y2, y3, t1, t2, t3, t4, nd, kb, kn, hs _ hx, hs _ hdx, hs _ hlb, hs _ hln, hbI, hnI⟩
theorem KeyOff.all {cT cB cN cF cC cS cW d : Nat} {oT oB oN oF oC oS oW oP : Obj} (h : KeyOff cT cB cN cF cC cS cW d) : ∀ q ∈ ([(cW, oW), (cS, oS), (cC, oC), (cF, oF), (cN, oN), (cB, oB), (cT, oT), (331, oP)] : List (Addr × Obj)), @Ne Nat q.1 d := by
  intro q hq
  simp only [List.mem_cons, List.not_mem_nil, or_false] at hq
  rcases hq with rfl | rfl | rfl | rfl | rfl | rfl | rfl | rfl
  · exact h.e7
  · exact h.e6
  · exact h.e5
  · exact h.e4
  · exact h.e3
  · exact h.e2
  · exact h.e1
  · exact h.e0
theorem keys_two {h₀ h : Heap} {L : Addr} {cT cB cN cF cC cS cW d c : Addr} {oT oB oN oF oC oS oW oP o oc : Obj} {big : List (Addr × Obj)}
    (N : News h₀ L h ((cW, oW) :: (cS, oS) :: (cC, oC) :: (cF, oF) :: (cN, oN) :: (cB, oB) :: (cT, oT) :: (331, oP) :: (d, o) :: (c, oc) :: big)) :
    News h₀ L h ((d, o) :: (c, oc) :: [(cW, oW), (cS, oS), (cC, oC), (cF, oF), (cN, oN), (cB, oB), (cT, oT), (331, oP)]) := fun p hp => N p (by
  simp only [List.mem_cons, List.not_mem_nil, or_false] at hp ⊢
  rcases hp with h | h | h | h | h | h | h | h | h | h <;> simp [h])
theorem canon10 {h₀ h : Heap} {L : Addr} {cT cB cN cF cC cS cW d c : Addr} {oT oB oN oF oC oS oW oP o oc : Obj} {tl : List (Addr × Obj)}
    (N : News h₀ L h ((d, o) :: (c, oc) :: tl)) (hs : ∀ q ∈ [(cW, oW), (cS, oS), (cC, oC), (cF, oF), (cN, oN), (cB, oB), (cT, oT), (331, oP)], q ∈ tl) :
    ∃ big, News h₀ L h ((cW, oW) :: (cS, oS) :: (cC, oC) :: (cF, oF) :: (cN, oN) :: (cB, oB) :: (cT, oT) :: (331, oP) :: (d, o) :: (c, oc) :: big) ∧
      (∀ q ∈ tl, q ∈ (cW, oW) :: (cS, oS) :: (cC, oC) :: (cF, oF) :: (cN, oN) :: (cB, oB) :: (cT, oT) :: (331, oP) :: (d, o) :: (c, oc) :: big) ∧ BigOff cT cB cN cF cC cS cW d c big := by
  obtain ⟨big, N2, sub, off⟩ := canon [(cW, oW), (cS, oS), (cC, oC), (cF, oF), (cN, oN), (cB, oB), (cT, oT), (331, oP), (d, o), (c, oc)] N (fun p hp => by
    have : p ∈ [(cW, oW), (cS, oS), (cC, oC), (cF, oF), (cN, oN), (cB, oB), (cT, oT), (331, oP)] ∨ p = (d, o) ∨ p = (c, oc) := by
      simp only [List.mem_cons, List.not_mem_nil, or_false] at hp ⊢
      rcases hp with h | h | h | h | h | h | h | h | h | h <;> simp [h]
    rcases this with h | h | h
    · exact List.mem_cons_of_mem _ (List.mem_cons_of_mem _ (hs p h))
    · rw [h]; exact List.mem_cons_self ..
    · rw [h]; exact List.mem_cons_of_mem _ (List.mem_cons_self ..))
  exact ⟨big, N2, fun q hq => sub q (List.mem_cons_of_mem _ (List.mem_cons_of_mem _ hq)), BigOff.of off⟩
theorem st6_led {h₀ h : Heap} {L : Addr} {D l cT cB cN cF cC cS cW d c : Addr} {oD ol oT oB oN oF oC oS oW oP o oc : Obj} {big : List (Addr × Obj)}
    (N : News h₀ L h ((D, oD) :: (l, ol) :: (cW, oW) :: (cS, oS) :: (cC, oC) :: (cF, oF) :: (cN, oN) :: (cB, oB) :: (cT, oT) :: (331, oP) :: (d, o) :: (c, oc) :: big))
    (l1 : @LT.lt Nat _ l D ∧ @LT.lt Nat _ cW D ∧ @LT.lt Nat _ cS D ∧ @LT.lt Nat _ cC D ∧ @LT.lt Nat _ cF D ∧ @LT.lt Nat _ cN D ∧ @LT.lt Nat _ cB D ∧ @LT.lt Nat _ cT D ∧ @LT.lt Nat _ 331 D ∧ @LT.lt Nat _ d D ∧ @LT.lt Nat _ c D ∧ AllLt D big)
    (q1 : @LT.lt Nat _ 331 cT) (q2 : @LT.lt Nat _ cT cB) (q3 : @LT.lt Nat _ cB cN) (q4 : @LT.lt Nat _ cN cF) (q5 : @LT.lt Nat _ cF cC) (q6 : @LT.lt Nat _ cC cS) (q7 : @LT.lt Nat _ cS cW)
    (hDO : KeyOff cT cB cN cF cC cS cW d) (hCO : KeyOff cT cB cN cF cC cS cW c) (hBO : BigOff cT cB cN cF cC cS cW d c big) :
    ∃ tl, News h₀ L h ([(D, oD)] ++ (cN, oN) :: (331, oP) :: tl) ∧ (∀ q ∈ big, q ∈ tl) ∧ (cC, oC) ∈ tl ∧ (cF, oF) ∈ tl ∧ (∀ q ∈ [(cW, oW), (cS, oS), (cC, oC), (cF, oF), (cB, oB), (cT, oT), (d, o), (c, oc)], q ∈ tl) ∧
      (∀ q ∈ tl, @Ne Nat q.1 D) ∧ (∀ q ∈ tl, @Ne Nat q.1 cN) ∧ (∀ q ∈ tl, @Ne Nat q.1 331) ∧ @Ne Nat cN D ∧ @Ne Nat 331 D := by
  obtain ⟨w1, w2, w3, w4, w5, w6, w7, w8, w9, w10, w11, w12⟩ := l1
  refine ⟨(cW, oW) :: (cS, oS) :: (cC, oC) :: (cF, oF) :: (cB, oB) :: (cT, oT) :: (d, o) :: (c, oc) :: big, fun p hp => N p ?_, fun q hq => ?_, ?_, ?_, fun q hq => ?_, ?_, ?_, ?_, Nat.ne_of_lt w6, Nat.ne_of_lt w9⟩
  · simp only [List.cons_append, List.nil_append, List.mem_cons] at hp ⊢
    rcases hp with h | h | h | h | h | h | h | h | h | h | h | h <;> simp [h]
  · simp [hq]
  · simp
  · simp
  · simp only [List.mem_cons, List.not_mem_nil, or_false] at hq ⊢
    rcases hq with h | h | h | h | h | h | h | h <;> simp [h]
  · simp only [List.forall_mem_cons]
    exact ⟨Nat.ne_of_lt w2, Nat.ne_of_lt w3, Nat.ne_of_lt w4, Nat.ne_of_lt w5, Nat.ne_of_lt w7, Nat.ne_of_lt w8, Nat.ne_of_lt w10, Nat.ne_of_lt w11, fun q hq => Nat.ne_of_lt (kst_ltOf w12 q hq)⟩
  · simp only [List.forall_mem_cons]
    exact ⟨Nat.ne_of_gt (by omega), Nat.ne_of_gt (by omega), Nat.ne_of_gt (by omega), Nat.ne_of_gt (by omega), Nat.ne_of_lt (by omega), Nat.ne_of_lt (by omega), Ne.symm hDO.e3, Ne.symm hCO.e3, hBO.e3⟩
  · simp only [List.forall_mem_cons]
    exact ⟨Nat.ne_of_gt (by omega), Nat.ne_of_gt (by omega), Nat.ne_of_gt (by omega), Nat.ne_of_gt (by omega), Nat.ne_of_gt (by omega), Nat.ne_of_gt (by omega), Ne.symm hDO.e0, Ne.symm hCO.e0, hBO.e0⟩
theorem TEnd.lam {h₀ : Heap} {L : Addr} {J : (PySem.Str → Option Value) → List (Addr × Obj) → Prop} {s₁ : Shared} {h' : Heap} {tk : Nat} {m' : PySem.Str → Option Value} {I D cN P : Addr} {oI oD oN oP : Obj} {tl2 led : List (Addr × Obj)}
    (F : Fr h₀ L h' m') (N : News h₀ L h' led) (h1 : (I, oI) ∈ led) (h2 : (D, oD) ∈ led) (h3 : (cN, oN) ∈ led) (h4 : (P, oP) ∈ led) (h5 : ∀ q ∈ tl2, q ∈ led)
    (a1 : @Ne Nat cN I) (a2 : @Ne Nat cN D) (b1 : @Ne Nat P I) (b2 : @Ne Nat P D) (c1 : ∀ q ∈ tl2, @Ne Nat q.1 I) (c2 : ∀ q ∈ tl2, @Ne Nat q.1 D) (hj : J m' ((cN, oN) :: (P, oP) :: tl2)) :
    TEnd h₀ L [(I, oI), (D, oD)] J s₁ { s₁ with heap := h', toks := tk } := by
  refine TEnd.intro F N _ (fun p hp => ?_) (fun p hp => ?_) (fun p hp q hq => ?_) hj
  · rcases List.mem_cons.mp hp with rfl | hp
    · exact h1
    · rw [List.mem_singleton.mp hp]; exact h2
  · rcases List.mem_cons.mp hp with rfl | hp
    · exact h3
    · rcases List.mem_cons.mp hp with rfl | hp
      · exact h4
      · exact h5 p hp
  · have z : @Ne Nat p.1 I ∧ @Ne Nat p.1 D := by
      rcases List.mem_cons.mp hp with rfl | hp
      · exact ⟨a1, a2⟩
      · rcases List.mem_cons.mp hp with rfl | hp
        · exact ⟨b1, b2⟩
        · exact ⟨c1 p hp, c2 p hp⟩
    rcases List.mem_cons.mp hq with rfl | hq
    · exact z.1
    · rw [List.mem_singleton.mp hq]; exact z.2
theorem canonB {h₀ h : Heap} {L : Addr} {cT cB cN cF cC cS cW d c : Addr} {oT oB oN oF oC oS oW oP o oc : Obj} {tl : List (Addr × Obj)} (N : News h₀ L h tl)
    (hs : ∀ q ∈ [(cW, oW), (cS, oS), (cC, oC), (cF, oF), (cB, oB), (cT, oT), (d, o), (c, oc)], q ∈ tl) (hN : (cN, oN) ∈ tl) (hP : (331, oP) ∈ tl) :
    ∃ big, News h₀ L h ((cW, oW) :: (cS, oS) :: (cC, oC) :: (cF, oF) :: (cN, oN) :: (cB, oB) :: (cT, oT) :: (331, oP) :: (d, o) :: (c, oc) :: big) ∧ BigOff cT cB cN cF cC cS cW d c big ∧
      ∀ old, BigOff cT cB cN cF cC cS cW d c old → (∀ q ∈ old, q ∈ tl) → ∀ q ∈ old, q ∈ big := by
  obtain ⟨big, N2, sub, off⟩ := canon [(cW, oW), (cS, oS), (cC, oC), (cF, oF), (cN, oN), (cB, oB), (cT, oT), (331, oP), (d, o), (c, oc)] N (fun p hp => by
    have : p ∈ [(cW, oW), (cS, oS), (cC, oC), (cF, oF), (cB, oB), (cT, oT), (d, o), (c, oc)] ∨ p = (cN, oN) ∨ p = (331, oP) := by
      simp only [List.mem_cons, List.not_mem_nil, or_false] at hp ⊢
      rcases hp with h | h | h | h | h | h | h | h | h | h <;> simp [h]
    rcases this with h | h | h
    · exact hs p h
    · rw [h]; exact hN
    · rw [h]; exact hP)
  refine ⟨big, N2, BigOff.of off, fun old ho hsub q hq => ?_⟩
  rcases List.mem_append.mp (sub q (hsub q hq)) with h | h
  · exfalso
    simp only [List.mem_cons, List.not_mem_nil, or_false] at h
    rcases h with h | h | h | h | h | h | h | h | h | h
    · exact ho.e7 q hq (by rw [h])
    · exact ho.e6 q hq (by rw [h])
    · exact ho.e5 q hq (by rw [h])
    · exact ho.e4 q hq (by rw [h])
    · exact ho.e3 q hq (by rw [h])
    · exact ho.e2 q hq (by rw [h])
    · exact ho.e1 q hq (by rw [h])
    · exact ho.e0 q hq (by rw [h])
    · exact ho.e8 q hq (by rw [h])
    · exact ho.e9 q hq (by rw [h])
  · exact h

section
local macro_rules | `(tactic| walk_at "CompSrc") => `(tactic| (k_here; k_dflt (refine Stop.out ?_)))
local macro_rules | `(tactic| walk_at "call ref") => `(tactic| (k_here; (with_reducible show wpAny _ _ (call (Value.ref 317) [Value.ref _, Value.int _ _]) _ _ _); k_dflt (refine Stop.out ?_)))
set_option maxRecDepth 100000 in
set_option maxHeartbeats 8000000 in
theorem st9 {prog : Program} {w : World} {p : Program} {loose : List PySem.Str} {mean : ExcName → Option Value} {mg mb : PySem.Str → Option Value}
  (dp un : Nat) (gd : Option (List Code)) (fa : Addr) (A₀ : Around) (base h₀ : Heap) (L : Addr) (m : PySem.Str → Option Value) (s : Shared) (Q : Flow → Shared → Prop) (E : Value → Shared → Prop)
  (XB : (Mine.hd.heap_39 w.params).In base) (TB : Top p loose mean mg mb base) (B : Below A₀ base [] h₀) (F : Fr h₀ L s.heap m) (X : (Mine.hd.heap_39 w.params).In h₀) (T : Top p loose mean mg mb h₀) (hdp : dp ≤ 400) (hun : un ≤ 3000)
  (hCH : CodeHd h₀ 333 331)
  (cT cB cN cF cC cS cW : Addr) (oT oB oN oF oC oS oW : Obj) (hCA : CellsAt cT cB cN cF cC cS cW)
  (ps : Array Value) (d c : Addr) (o oc : Obj) (big : List (Addr × Obj)) (N : News h₀ L s.heap ((cW, oW) :: (cS, oS) :: (cC, oC) :: (cF, oF) :: (cN, oN) :: (cB, oB) :: (cT, oT) :: (331, tabObj ps) :: (d, o) :: (c, oc) :: big)) (hDO : KeyOff cT cB cN cF cC cS cW d) (hCO : KeyOff cT cB cN cF cC cS cW c) (hdc : @Ne Nat d c) (hBO : BigOff cT cB cN cF cC cS cW d c big)
  (hT : oT.data = .cell (some (.ref d))) (hTI : TinAt prog w c o oc) (hlo : (d == sysModules) = false)
  (hret : ∀ big' l ys cs k o oc h' tk' m', (∀ q ∈ big, q ∈ big') → Fr h₀ L h' m' → m' (Str.ofString "signs") = some (.ref l) → (∀ big, big = big' → News h₀ L h' ((cW, oW) :: (cS, oS) :: (cC, oC) :: (cF, oF) :: (cN, oN) :: (cB, oB) :: (cT, oT) :: (331, tabObj ps) :: (d, o) :: (c, oc) :: big)) → BigOff cT cB cN cF cC cS cW d c big' → TinAt prog w c o oc → (l, W.listOf ys.toArray k) ∈ big' → IntsAre ys cs → cs.length ≤ 5 → (∀ k ∈ cs, 0 ≤ k ∧ k ≤ 8364) → Q .next { s with heap := h', toks := tk' })
  :
  wpAny (model prog w) (ktrTop dp un gd (Str.ofString "law") ({ kind := PySem.ScopeKind.function, names := [(PySem.Str.ofString "script", PySem.NameKind.local), (PySem.Str.ofString "tin", PySem.NameKind.cell), (PySem.Str.ofString "table", PySem.NameKind.cell), (PySem.Str.ofString "number", PySem.NameKind.cell), (PySem.Str.ofString "firsts", PySem.NameKind.cell), (PySem.Str.ofString "due", PySem.NameKind.local), (PySem.Str.ofString "is_let", PySem.NameKind.local), (PySem.Str.ofString "signs", PySem.NameKind.local), (PySem.Str.ofString "text", PySem.NameKind.local), (PySem.Str.ofString "classes", PySem.NameKind.cell), (PySem.Str.ofString "some", PySem.NameKind.cell), (PySem.Str.ofString "word", PySem.NameKind.cell), (PySem.Str.ofString "_law_tin", PySem.NameKind.globalImplicit), (PySem.Str.ofString "Classes", PySem.NameKind.globalImplicit), (PySem.Str.ofString "_law_sets", PySem.NameKind.globalImplicit), (PySem.Str.ofString "_law_bit", PySem.NameKind.globalImplicit), (PySem.Str.ofString "range", PySem.NameKind.globalImplicit), (PySem.Str.ofString "_law_told", PySem.NameKind.globalImplicit)], isGenerator := false, isCoroutine := false, more := [(PySem.Str.ofString "fast", (PySem.Const.str "script")), (PySem.Str.ofString "fast", (PySem.Const.str "tin")), (PySem.Str.ofString "fast", (PySem.Const.str "table")), (PySem.Str.ofString "fast", (PySem.Const.str "number")), (PySem.Str.ofString "fast", (PySem.Const.str "firsts")), (PySem.Str.ofString "fast", (PySem.Const.str "turn")), (PySem.Str.ofString "fast", (PySem.Const.str "due")), (PySem.Str.ofString "fast", (PySem.Const.str "is_let")), (PySem.Str.ofString "fast", (PySem.Const.str "signs")), (PySem.Str.ofString "fast", (PySem.Const.str "code")), (PySem.Str.ofString "fast", (PySem.Const.str "text")), (PySem.Str.ofString "fast", (PySem.Const.str "classes")), (PySem.Str.ofString "fast", (PySem.Const.str "some")), (PySem.Str.ofString "fast", (PySem.Const.str "word"))] } : PySem.Scope) L fa (.ref 333) (lawCl cT cB cN cF cC cS cW) []) (exec (lawSt 9) (envX (Str.ofString "law") ({ kind := PySem.ScopeKind.function, names := [(PySem.Str.ofString "script", PySem.NameKind.local), (PySem.Str.ofString "tin", PySem.NameKind.cell), (PySem.Str.ofString "table", PySem.NameKind.cell), (PySem.Str.ofString "number", PySem.NameKind.cell), (PySem.Str.ofString "firsts", PySem.NameKind.cell), (PySem.Str.ofString "due", PySem.NameKind.local), (PySem.Str.ofString "is_let", PySem.NameKind.local), (PySem.Str.ofString "signs", PySem.NameKind.local), (PySem.Str.ofString "text", PySem.NameKind.local), (PySem.Str.ofString "classes", PySem.NameKind.cell), (PySem.Str.ofString "some", PySem.NameKind.cell), (PySem.Str.ofString "word", PySem.NameKind.cell), (PySem.Str.ofString "_law_tin", PySem.NameKind.globalImplicit), (PySem.Str.ofString "Classes", PySem.NameKind.globalImplicit), (PySem.Str.ofString "_law_sets", PySem.NameKind.globalImplicit), (PySem.Str.ofString "_law_bit", PySem.NameKind.globalImplicit), (PySem.Str.ofString "range", PySem.NameKind.globalImplicit), (PySem.Str.ofString "_law_told", PySem.NameKind.globalImplicit)], isGenerator := false, isCoroutine := false, more := [(PySem.Str.ofString "fast", (PySem.Const.str "script")), (PySem.Str.ofString "fast", (PySem.Const.str "tin")), (PySem.Str.ofString "fast", (PySem.Const.str "table")), (PySem.Str.ofString "fast", (PySem.Const.str "number")), (PySem.Str.ofString "fast", (PySem.Const.str "firsts")), (PySem.Str.ofString "fast", (PySem.Const.str "turn")), (PySem.Str.ofString "fast", (PySem.Const.str "due")), (PySem.Str.ofString "fast", (PySem.Const.str "is_let")), (PySem.Str.ofString "fast", (PySem.Const.str "signs")), (PySem.Str.ofString "fast", (PySem.Const.str "code")), (PySem.Str.ofString "fast", (PySem.Const.str "text")), (PySem.Str.ofString "fast", (PySem.Const.str "classes")), (PySem.Str.ofString "fast", (PySem.Const.str "some")), (PySem.Str.ofString "fast", (PySem.Const.str "word"))] } : PySem.Scope) L fa (.ref 333) (lawCl cT cB cN cF cC cS cW))) Q E s := by
  have hBO9 := hBO
  obtain ⟨q1, q2, q3, q4, q5, q6, q7⟩ := hCA
  obtain ⟨u0, u1, u2, u3, u4, u5, u6, u7⟩ := hDO
  obtain ⟨v0, v1, v2, v3, v4, v5, v6, v7⟩ := hCO
  obtain ⟨z0, z1, z2, z3, z4, z5, z6, z7, z8, z9⟩ := hBO
  show wpAny _ _ (exec (.Assign _ _ _) _) _ _ _
  refine LCg.Assign_ListComp_U (F₀ := F) (by rfl) (by with_unfolding_all rfl) (by with_unfolding_all rfl) (by decide) (by rfl) (by decide) (by rfl) (by rfl) (by rfl) ?_
  (try k_unmd)
  k_steps
  (unfold Stop; (k_dflt (apply bit_gen; (case B => k_asm); (case F => k_asm); (case X => k_asm); (case T => k_asm); (case hk => first | exact rfl | assumption); (case hdp => first | omega | ktr_room); (case hun => first | omega | units_room))); (case N => k_asm); (case U1 => k_updF); (case ht => assumption); (case U2 => (intro o9; k_updF)); (case lo => assumption); (case hdc => k_ne); (case h0 => omega); (case h1 => omega))
  intro dg9 t9 h9 tk9 o9 oc9 F9 N9 T9 d9 e9
  (try dsimp only at N9)
  obtain ⟨r, rfl⟩ := Int.eq_ofNat_of_zero_le d9
  k_steps
  (rename Fr _ _ _ _ => lF); (rename News _ _ _ _ => lN); (rename IsRange _ _ _ _ _ _ _ _ => lR)
  unfold Stop
  refine LCg.CompSrc.range (n := r) (by rfl) lF lN lR (rs_small (by omega)) (rs_nat _) (by rw [sizeLine_eq]; omega) ?_
  intro g
  refine compRest_inv (n := r) (fun i ys nx => ∃ o oc cs, nx = (cW, _) :: (cS, _) :: (cC, _) :: (cF, _) :: (cN, _) :: (cB, _) :: (cT, _) :: (331, tabObj ps) :: (d, o) :: (c, oc) :: big ∧ TinAt prog w c o oc ∧ IntsAre ys cs ∧ cs.length = i ∧ ∀ k ∈ cs, 0 ≤ k ∧ k ≤ 8364) ?turn ?fin _ 0 [] _ (Nat.zero_add _) ⟨_, _, [], rfl, T9, .nil, rfl, fun _ h => (nomatch h)⟩
  case turn =>
    clear lF lN lR T9 d9 e9
    rintro i v ys nx I oI C oK D m₂ h tk E' hi ⟨tv, rfl⟩ ⟨o, oc, cs, rfl, T9, hys, hcl, hcr⟩ hC2 hx2 F2 N2 hoff hne
    have g1 := LCg.Off3.mem hoff (d, o) (by simp)
    have g2 := LCg.Off3.mem hoff (c, oc) (by simp)
    have g1a : @Ne Nat d I := g1.1
    have g1b : @Ne Nat d C := g1.2.1
    have g1c : @Ne Nat d D := g1.2.2
    have g2a : @Ne Nat c I := g2.1
    have g2b : @Ne Nat c C := g2.2.1
    have g2c : @Ne Nat c D := g2.2.2
    clear g1 g2
    k_steps
    (unfold Stop; (k_dflt (apply bit_gen; (case B => k_asm); (case F => k_asm); (case X => k_asm); (case T => k_asm); (case hk => first | exact rfl | assumption); (case hdp => first | omega | ktr_room); (case hun => first | omega | units_room))); (case N => k_asm); (case U1 => k_updF); (case ht => assumption); (case U2 => (intro o9; k_updF)); (case lo => assumption); (case hdc => k_ne); (case h0 => omega); (case h1 => omega))
    intro dg9 t9 h9 tk9 o9 oc9 F9 N9 T9 d9 e9
    (try dsimp only at N9)
    k_steps
    (unfold Stop; (k_dflt (apply bit_gen; (case B => k_asm); (case F => k_asm); (case X => k_asm); (case T => k_asm); (case hk => first | exact rfl | assumption); (case hdp => first | omega | ktr_room); (case hun => first | omega | units_room))); (case N => k_asm); (case U1 => k_updF); (case ht => assumption); (case U2 => (intro o9; k_updF)); (case lo => assumption); (case hdc => k_ne); (case h0 => omega); (case h1 => omega))
    intro dg8 t8 h8 tk8 o8 oc8 F8 N8 T8 d8 e8
    (try dsimp only at N8)
    k_steps
    (rename Fr _ _ _ _ => lF9); (rename News _ _ _ _ => lN9)
    refine LCg.CompEnd.intro lF9 lN9 ((cW, _) :: (cS, _) :: (cC, _) :: (cF, _) :: (cN, _) :: (cB, _) :: (cT, _) :: (331, tabObj ps) :: (d, _) :: (c, _) :: big) (fun p hp => List.mem_cons_of_mem _ hp) hoff trivial ⟨_, _, cs ++ [_], rfl, T8, hys.append (.cons _ _ .nil), ?_, fun k hk => ?_⟩
    · rw [List.length_append, hcl]; rfl
    · rcases List.mem_append.mp hk with hk | hk
      · exact hcr k hk
      · rw [List.mem_singleton.mp hk]
        exact sgn_rng d9 e9 _
  case fin =>
    rintro ys nx ⟨o, oc, cs, rfl, T9, hys, hcl, hcr⟩
    intro D h tk F2 N2 hoff
    clear lF lN lR
    obtain ⟨N4, BO4⟩ := keys_ex (ex := [(D, LCg.lst ys)]) N2 (fun p hp q hq => by rw [List.mem_singleton.mp hp]; exact Ne.symm (off_of1 hoff q hq)) hBO9
    exact hret ([(D, LCg.lst ys)] ++ big) D ys cs ys.length _ _ _ _ _ (fun q hq => List.mem_cons_of_mem _ hq) F2 (if_pos rfl) (fun _ e => e ▸ N4) BO4 T9 (List.mem_cons_self ..) hys (by omega) hcr
end

section
local macro_rules | `(tactic| walk_at $k:str) => if ["CompSrc", "CompSrcT", "eval ListComp", "call builtin:str.join", "compareOp NotEq ref ref", "compareOp In int ref", "compareOp NotIn int ref"].contains k.getString then `(tactic| (k_here; k_dflt (refine Stop.out ?_))) else Lean.Macro.throwUnsupported
local macro_rules | `(tactic| walk_at "call ref") => `(tactic| (k_here; (with_reducible show wpAny _ _ (call (Value.ref _) _) _ _ _); k_dflt (refine Stop.out ?_)))
local macro_rules | `(tactic| walk_at "pad") => `(tactic| fail "pad")


noncomputable def lam6 : PySem.Expr := match lawSt 6 with | .For _ _ b _ _ => (match b.getD 1 default with | .If (.Compare (.Call _ (l :: _) _ _) _ _ _) _ _ _ => l | _ => default) | _ => default
set_option maxRecDepth 100000 in
set_option maxHeartbeats 8000000 in
theorem told_least {prog : Program} {w : World} {p : Program} {loose : List PySem.Str} {mean : ExcName → Option Value} {mg mb : PySem.Str → Option Value}
  (dp un : Nat) (gd : Option (List Code)) (fa : Addr) (A₀ : Around) (base h₀ : Heap) (L : Addr) (m : PySem.Str → Option Value) (s : Shared) (Q : Flow → Shared → Prop) (E : Value → Shared → Prop)
  (XB : (Mine.hd.heap_39 w.params).In base) (TB : Top p loose mean mg mb base) (B : Below A₀ base [] h₀) (F : Fr h₀ L s.heap m) (X : (Mine.hd.heap_39 w.params).In h₀) (T : Top p loose mean mg mb h₀) (hdp : dp ≤ 400) (hun : un ≤ 3000)
  (hCH : CodeHd h₀ 333 331)
  (cT cB cN cF cC cS cW : Addr) (oT oB oN oF oC oS oW : Obj) (hCA : CellsAt cT cB cN cF cC cS cW)
  (news : List (Addr × Obj)) (N : News h₀ L s.heap news) (f c' x dx lb ln : Addr) (P : Arguments) (Bd : PySem.Expr) (Sc : Scope) (pos : Pos) (hlam : lam6 = .Lambda P Bd Sc pos) (pm ctv : Value) (ocd : Obj) (fs : Array Value) (tq : Tok)
  (hf : (f, kla_obj (Str.ofString "<lambda>") (Str.ofString "law" ++ Str.ofString ".<locals>." ++ Str.ofString "<lambda>") P Bd Sc [(Str.ofString "number", cN), (Str.ofString "classes", cC)] pm c' ctv) ∈ news) (hcm : (c', ocd) ∈ news) (hcd : ocd.data = .fields fs) (hcq : fs[1]? = some (.str (Str.ofString "law" ++ Str.ofString ".<locals>." ++ Str.ofString "<lambda>") tq))
  (bs ns : List Int) (n : Nat) (hmC : (cC, oC) ∈ news) (hC : oC.data = .cell (some (.ref x))) (hC9 : ClsOk bs ns n) (k : Int) (tk9 : Tok) (hmN : (cN, oN) ∈ news) (hN : oN.data = .cell (some (.int k tk9)))
  (bvs nvs : List Value) (y1 y2 y3 : Int) (t1 t2 t3 t4 : Tok) (nd kb kn : Nat) (hx : (x, instObj 301 dx) ∈ news) (hdx : (dx, dictOf [⟨y1, .str (Str.ofString "bounds") t1, .ref lb⟩, ⟨y2, .str (Str.ofString "numbers") t2, .ref ln⟩, ⟨y3, .str (Str.ofString "count") t3, .int n t4⟩] nd) ∈ news)
  (hlb : (lb, W.listOf bvs.toArray kb) ∈ news) (hln : (ln, W.listOf nvs.toArray kn) ∈ news) (hbI : IntsAre bvs bs) (hnI : IntsAre nvs ns) (QV : Value → Shared → Prop)
  (hret : ∀ t h' tk', 0 ≤ k → k < n → Fr h₀ L h' m → News h₀ L h' news → QV (.int (bs.getD (ns.idxOf k) 0) t) { s with heap := h', toks := tk' })
  (hnone : ∀ h' tk', ¬ (0 ≤ k ∧ k < n) → Fr h₀ L h' m → News h₀ L h' news → QV .none { s with heap := h', toks := tk' })
  :
  wpAny (model prog w) (ktrTop dp un gd (Str.ofString "law") ({ kind := PySem.ScopeKind.function, names := [(PySem.Str.ofString "script", PySem.NameKind.local), (PySem.Str.ofString "tin", PySem.NameKind.cell), (PySem.Str.ofString "table", PySem.NameKind.cell), (PySem.Str.ofString "number", PySem.NameKind.cell), (PySem.Str.ofString "firsts", PySem.NameKind.cell), (PySem.Str.ofString "due", PySem.NameKind.local), (PySem.Str.ofString "is_let", PySem.NameKind.local), (PySem.Str.ofString "signs", PySem.NameKind.local), (PySem.Str.ofString "text", PySem.NameKind.local), (PySem.Str.ofString "classes", PySem.NameKind.cell), (PySem.Str.ofString "some", PySem.NameKind.cell), (PySem.Str.ofString "word", PySem.NameKind.cell), (PySem.Str.ofString "_law_tin", PySem.NameKind.globalImplicit), (PySem.Str.ofString "Classes", PySem.NameKind.globalImplicit), (PySem.Str.ofString "_law_sets", PySem.NameKind.globalImplicit), (PySem.Str.ofString "_law_bit", PySem.NameKind.globalImplicit), (PySem.Str.ofString "range", PySem.NameKind.globalImplicit), (PySem.Str.ofString "_law_told", PySem.NameKind.globalImplicit)], isGenerator := false, isCoroutine := false, more := [(PySem.Str.ofString "fast", (PySem.Const.str "script")), (PySem.Str.ofString "fast", (PySem.Const.str "tin")), (PySem.Str.ofString "fast", (PySem.Const.str "table")), (PySem.Str.ofString "fast", (PySem.Const.str "number")), (PySem.Str.ofString "fast", (PySem.Const.str "firsts")), (PySem.Str.ofString "fast", (PySem.Const.str "turn")), (PySem.Str.ofString "fast", (PySem.Const.str "due")), (PySem.Str.ofString "fast", (PySem.Const.str "is_let")), (PySem.Str.ofString "fast", (PySem.Const.str "signs")), (PySem.Str.ofString "fast", (PySem.Const.str "code")), (PySem.Str.ofString "fast", (PySem.Const.str "text")), (PySem.Str.ofString "fast", (PySem.Const.str "classes")), (PySem.Str.ofString "fast", (PySem.Const.str "some")), (PySem.Str.ofString "fast", (PySem.Const.str "word"))] } : PySem.Scope) L fa (.ref 333) (lawCl cT cB cN cF cC cS cW) []) (call (.ref 329) [.ref f]) QV E s := by
  obtain ⟨rfl, rfl, rfl, rfl⟩ := PySem.Expr.Lambda.inj (hlam.symm.trans (rfl : lam6 = .Lambda _ _ _ _))
  k_dflt (apply told_base (Ret := fun v nx => (0 ≤ k ∧ k < n) ∧ (∃ t, v = .int (bs.getD (ns.idxOf k) 0) t) ∧ nx = news) (Exc := ¬ (0 ≤ k ∧ k < n)) (hCH := hCH) (hf := hf); (case B => k_asm); (case F => k_asm); (case X => k_asm); (case T => k_asm); (case hk => first | exact rfl | assumption); (case hdp => first | omega | ktr_room); (case hun => first | omega | units_room); (case XB => exact XB); (case TB => exact TB); (case N => exact N))
  · intro dp' un' gd' cn2 cs2 a2 ccd2 A₂ g L2 h1 tk Q' E' m2 hdp' hun' hcs2 B2 F2 X2 T2 N2 hR hE
    clear N F B X T hret hnone XB TB
    refine wpAny_call ?_
    k_dflt (refine' kla_code ?k1 ?k2 ?k3 ?k4 ?k5 ?kA ?kF ?kK ?k6 ?k7 ?k8 ?k9 ?kB ?_ ?c2 ?c3 ?c4 ?c5; (case kA => exact rfl); (case kF => exact rfl); (case kK => exact hcs2); (case k1 => k_asm); (case k2 => k_asm); (case k3 => k_asm); (case k4 => k_asm); (case k5 => k_asm); (case k6 => k_mem); (case k7 => exact codeRec_news (by k_asm) (by k_mem) (by assumption) (by assumption)); (case k8 => k_room); (case k9 => exact rfl); (case c5 => decide); (case kB => exact locs rfl); (case c2 => exact rfl); (case c3 => exact rfl); (case c4 => exact rfl); k_whole; intro g' L' h' FG' F' N' B' X' T'; (try dsimp only); (try k_fold))
    k_steps
    unfold Stop
    by_cases hin : 0 ≤ k ∧ k < (n : Int)
    · obtain ⟨hin0, hin1⟩ := hin
      k_dflt (apply least_base; (case B => k_asm); (case F => k_asm); (case X => k_asm); (case T => k_asm); (case hk => first | exact rfl | assumption); (case hdp => first | omega | ktr_room); (case hun => first | omega | units_room); (case N => k_asm); (case hx => exact hx); (case hdx => exact hdx); (case hlb => exact hlb); (case hln => exact hln); (case hbI => exact hbI); (case hnI => exact hnI); (case hC => exact hC9); (case hn0 => exact hin0); (case hn1 => exact hin1))
      intro r t h3 tk3 F3 N3 e3
      k_steps
      (rename Fr g L2 _ _ => lF); (rename News g L2 _ _ => lN)
      exact hR _ _ _ _ lF lN ⟨⟨hin0, hin1⟩, ⟨_, by rw [e3]⟩, rfl⟩
    · k_dflt (apply least_raise; (case B => k_asm); (case F => k_asm); (case X => k_asm); (case T => k_asm); (case hk => first | exact rfl | assumption); (case hdp => first | omega | ktr_room); (case hun => first | omega | units_room); (case N => k_asm); (case hx => exact hx); (case hdx => exact hdx); (case hlb => exact hlb); (case hln => exact hln); (case hbI => exact hbI); (case hnI => exact hnI); (case hC => exact hC9); (case hbad => omega))
      intro g9 e9 t9 vs9 h9 tk9 FG9 R9 U9
      k_steps
      (rename Below _ _ _ _ => lB); (rename Fr g L2 _ _ => lG)
      refine leave_onSX (A := ktrTop dp' un' gd' cn2 cs2 L2 a2 ccd2 [] [(envX (Str.ofString "law") ({ kind := PySem.ScopeKind.function, names := [(PySem.Str.ofString "script", PySem.NameKind.local), (PySem.Str.ofString "tin", PySem.NameKind.cell), (PySem.Str.ofString "table", PySem.NameKind.cell), (PySem.Str.ofString "number", PySem.NameKind.cell), (PySem.Str.ofString "firsts", PySem.NameKind.cell), (PySem.Str.ofString "due", PySem.NameKind.local), (PySem.Str.ofString "is_let", PySem.NameKind.local), (PySem.Str.ofString "signs", PySem.NameKind.local), (PySem.Str.ofString "text", PySem.NameKind.local), (PySem.Str.ofString "classes", PySem.NameKind.cell), (PySem.Str.ofString "some", PySem.NameKind.cell), (PySem.Str.ofString "word", PySem.NameKind.cell), (PySem.Str.ofString "_law_tin", PySem.NameKind.globalImplicit), (PySem.Str.ofString "Classes", PySem.NameKind.globalImplicit), (PySem.Str.ofString "_law_sets", PySem.NameKind.globalImplicit), (PySem.Str.ofString "_law_bit", PySem.NameKind.globalImplicit), (PySem.Str.ofString "range", PySem.NameKind.globalImplicit), (PySem.Str.ofString "_law_told", PySem.NameKind.globalImplicit)], isGenerator := false, isCoroutine := false, more := [(PySem.Str.ofString "fast", (PySem.Const.str "script")), (PySem.Str.ofString "fast", (PySem.Const.str "tin")), (PySem.Str.ofString "fast", (PySem.Const.str "table")), (PySem.Str.ofString "fast", (PySem.Const.str "number")), (PySem.Str.ofString "fast", (PySem.Const.str "firsts")), (PySem.Str.ofString "fast", (PySem.Const.str "turn")), (PySem.Str.ofString "fast", (PySem.Const.str "due")), (PySem.Str.ofString "fast", (PySem.Const.str "is_let")), (PySem.Str.ofString "fast", (PySem.Const.str "signs")), (PySem.Str.ofString "fast", (PySem.Const.str "code")), (PySem.Str.ofString "fast", (PySem.Const.str "text")), (PySem.Str.ofString "fast", (PySem.Const.str "classes")), (PySem.Str.ofString "fast", (PySem.Const.str "some")), (PySem.Str.ofString "fast", (PySem.Const.str "word"))] } : PySem.Scope) L fa (.ref 333) (lawCl cT cB cN cF cC cS cW))]) lB FG9 rfl R9 U9 (fun h' R U => hE _ _ _ _ _ _ hin lG R U)
  · rintro v nx h' tk' ⟨⟨k0, k1⟩, ⟨t, rfl⟩, rfl⟩ F2 N2
    exact hret t h' tk' k0 k1 F2 N2
  · intro h' tk' hb F2 N2
    exact hnone h' tk' hb F2 N2


noncomputable def lam8 : PySem.Expr := match lawSt 8 with | .If (.Compare (.Call _ (l :: _) _ _) _ _ _) _ _ _ => l | _ => default
set_option maxRecDepth 100000 in
set_option maxHeartbeats 8000000 in
theorem told_text8 {prog : Program} {w : World} {p : Program} {loose : List PySem.Str} {mean : ExcName → Option Value} {mg mb : PySem.Str → Option Value}
  (dp un : Nat) (gd : Option (List Code)) (fa : Addr) (A₀ : Around) (base h₀ : Heap) (L : Addr) (m : PySem.Str → Option Value) (s : Shared) (Q : Flow → Shared → Prop) (E : Value → Shared → Prop)
  (XB : (Mine.hd.heap_39 w.params).In base) (TB : Top p loose mean mg mb base) (B : Below A₀ base [] h₀) (F : Fr h₀ L s.heap m) (X : (Mine.hd.heap_39 w.params).In h₀) (T : Top p loose mean mg mb h₀) (hdp : dp ≤ 400) (hun : un ≤ 3000)
  (hCH : CodeHd h₀ 333 331)
  (cT cB cN cF cC cS cW : Addr) (oT oB oN oF oC oS oW : Obj) (hCA : CellsAt cT cB cN cF cC cS cW)
  (news : List (Addr × Obj)) (N : News h₀ L s.heap news) (f c' x dx lb ln : Addr) (P : Arguments) (Bd : PySem.Expr) (Sc : Scope) (pos : Pos) (hlam : lam8 = .Lambda P Bd Sc pos) (pm ctv : Value) (ocd : Obj) (fs : Array Value) (tq : Tok)
  (hf : (f, kla_obj (Str.ofString "<lambda>") (Str.ofString "law" ++ Str.ofString ".<locals>." ++ Str.ofString "<lambda>") P Bd Sc [(Str.ofString "some", cS), (Str.ofString "classes", cC)] pm c' ctv) ∈ news) (hcm : (c', ocd) ∈ news) (hcd : ocd.data = .fields fs) (hcq : fs[1]? = some (.str (Str.ofString "law" ++ Str.ofString ".<locals>." ++ Str.ofString "<lambda>") tq))
  (bs ns : List Int) (n : Nat) (hmC : (cC, oC) ∈ news) (hC : oC.data = .cell (some (.ref x))) (hC9 : ClsOk bs ns n) (lm : Addr) (mvs : List Value) (ms : List Int) (km : Nat) (hmM : (cS, oS) ∈ news) (hM : oS.data = .cell (some (.ref lm))) (hlm : (lm, W.listOf mvs.toArray km) ∈ news) (hmI : IntsAre mvs ms) (hm64 : ms.length ≤ 64)
  (bvs nvs : List Value) (y1 y2 y3 : Int) (t1 t2 t3 t4 : Tok) (nd kb kn : Nat) (hx : (x, instObj 301 dx) ∈ news) (hdx : (dx, dictOf [⟨y1, .str (Str.ofString "bounds") t1, .ref lb⟩, ⟨y2, .str (Str.ofString "numbers") t2, .ref ln⟩, ⟨y3, .str (Str.ofString "count") t3, .int n t4⟩] nd) ∈ news)
  (hlb : (lb, W.listOf bvs.toArray kb) ∈ news) (hln : (ln, W.listOf nvs.toArray kn) ∈ news) (hbI : IntsAre bvs bs) (hnI : IntsAre nvs ns) (QV : Value → Shared → Prop)
  (hret : ∀ t h' tk' tx, (∀ k ∈ ms, 0 ≤ k ∧ k < (n : Int)) → tx = (⟨(ms.map fun k => (bs.getD (ns.idxOf k) 0).toNat).toArray⟩ : PySem.Str) → Fr h₀ L h' m → News h₀ L h' news → QV (.str tx t) { s with heap := h', toks := tk' })
  (hnone : ∀ h' tk', ¬ (∀ k ∈ ms, 0 ≤ k ∧ k < (n : Int)) → Fr h₀ L h' m → News h₀ L h' news → QV .none { s with heap := h', toks := tk' })
  :
  wpAny (model prog w) (ktrTop dp un gd (Str.ofString "law") ({ kind := PySem.ScopeKind.function, names := [(PySem.Str.ofString "script", PySem.NameKind.local), (PySem.Str.ofString "tin", PySem.NameKind.cell), (PySem.Str.ofString "table", PySem.NameKind.cell), (PySem.Str.ofString "number", PySem.NameKind.cell), (PySem.Str.ofString "firsts", PySem.NameKind.cell), (PySem.Str.ofString "due", PySem.NameKind.local), (PySem.Str.ofString "is_let", PySem.NameKind.local), (PySem.Str.ofString "signs", PySem.NameKind.local), (PySem.Str.ofString "text", PySem.NameKind.local), (PySem.Str.ofString "classes", PySem.NameKind.cell), (PySem.Str.ofString "some", PySem.NameKind.cell), (PySem.Str.ofString "word", PySem.NameKind.cell), (PySem.Str.ofString "_law_tin", PySem.NameKind.globalImplicit), (PySem.Str.ofString "Classes", PySem.NameKind.globalImplicit), (PySem.Str.ofString "_law_sets", PySem.NameKind.globalImplicit), (PySem.Str.ofString "_law_bit", PySem.NameKind.globalImplicit), (PySem.Str.ofString "range", PySem.NameKind.globalImplicit), (PySem.Str.ofString "_law_told", PySem.NameKind.globalImplicit)], isGenerator := false, isCoroutine := false, more := [(PySem.Str.ofString "fast", (PySem.Const.str "script")), (PySem.Str.ofString "fast", (PySem.Const.str "tin")), (PySem.Str.ofString "fast", (PySem.Const.str "table")), (PySem.Str.ofString "fast", (PySem.Const.str "number")), (PySem.Str.ofString "fast", (PySem.Const.str "firsts")), (PySem.Str.ofString "fast", (PySem.Const.str "turn")), (PySem.Str.ofString "fast", (PySem.Const.str "due")), (PySem.Str.ofString "fast", (PySem.Const.str "is_let")), (PySem.Str.ofString "fast", (PySem.Const.str "signs")), (PySem.Str.ofString "fast", (PySem.Const.str "code")), (PySem.Str.ofString "fast", (PySem.Const.str "text")), (PySem.Str.ofString "fast", (PySem.Const.str "classes")), (PySem.Str.ofString "fast", (PySem.Const.str "some")), (PySem.Str.ofString "fast", (PySem.Const.str "word"))] } : PySem.Scope) L fa (.ref 333) (lawCl cT cB cN cF cC cS cW) []) (call (.ref 329) [.ref f]) QV E s := by
  obtain ⟨rfl, rfl, rfl, rfl⟩ := PySem.Expr.Lambda.inj (hlam.symm.trans (rfl : lam8 = .Lambda _ _ _ _))
  k_dflt (apply told_base (Ret := fun v nx => (∀ k ∈ ms, 0 ≤ k ∧ k < (n : Int)) ∧ (∃ t, v = .str (⟨(ms.map fun k => (bs.getD (ns.idxOf k) 0).toNat).toArray⟩ : PySem.Str) t) ∧ nx = news) (Exc := ¬ (∀ k ∈ ms, 0 ≤ k ∧ k < (n : Int))) (hCH := hCH) (hf := hf); (case B => k_asm); (case F => k_asm); (case X => k_asm); (case T => k_asm); (case hk => first | exact rfl | assumption); (case hdp => first | omega | ktr_room); (case hun => first | omega | units_room); (case XB => exact XB); (case TB => exact TB); (case N => exact N))
  · intro dp' un' gd' cn2 cs2 a2 ccd2 A₂ g L2 h1 tk Q' E' m2 hdp' hun' hcs2 B2 F2 X2 T2 N2 hR hE
    clear N F B X T hret hnone XB TB
    refine wpAny_call ?_
    k_dflt (refine' kla_code ?k1 ?k2 ?k3 ?k4 ?k5 ?kA ?kF ?kK ?k6 ?k7 ?k8 ?k9 ?kB ?_ ?c2 ?c3 ?c4 ?c5; (case kA => exact rfl); (case kF => exact rfl); (case kK => exact hcs2); (case k1 => k_asm); (case k2 => k_asm); (case k3 => k_asm); (case k4 => k_asm); (case k5 => k_asm); (case k6 => k_mem); (case k7 => exact codeRec_news (by k_asm) (by k_mem) (by assumption) (by assumption)); (case k8 => k_room); (case k9 => exact rfl); (case c5 => decide); (case kB => exact locs rfl); (case c2 => exact rfl); (case c3 => exact rfl); (case c4 => exact rfl); k_whole; intro g' L' h' FG' F' N' B' X' T'; (try dsimp only); (try k_fold))
    k_steps
    unfold Stop
    by_cases hin : ∀ k ∈ ms, 0 ≤ k ∧ k < (n : Int)
    · k_dflt (apply text_base; (case B => k_asm); (case F => k_asm); (case X => k_asm); (case T => k_asm); (case hk => first | exact rfl | assumption); (case hdp => first | omega | ktr_room); (case hun => first | omega | units_room); (case N => k_asm); (case hx => exact hx); (case hdx => exact hdx); (case hlb => exact hlb); (case hln => exact hln); (case hbI => exact hbI); (case hnI => exact hnI); (case hC => exact hC9); (case hlm => exact hlm); (case hmI => exact hmI); (case hm64 => exact hm64); (case hms => exact hin))
      intro tx t h3 tk3 F3 N3 e3
      k_steps
      (rename Fr g L2 _ _ => lF); (rename News g L2 _ _ => lN)
      exact hR _ _ _ _ lF lN ⟨hin, ⟨_, by rw [e3]⟩, rfl⟩
    · obtain ⟨jb, j1, j2, j3⟩ := first_bad hin
      k_dflt (apply text_raise (hkb := j1) (hmI := hmI); (case B => k_asm); (case F => k_asm); (case X => k_asm); (case T => k_asm); (case hk => first | exact rfl | assumption); (case hdp => first | omega | ktr_room); (case hun => first | omega | units_room); (case N => k_asm); (case hx => exact hx); (case hdx => exact hdx); (case hlb => exact hlb); (case hln => exact hln); (case hbI => exact hbI); (case hnI => exact hnI); (case hC => exact hC9); (case hlm => exact hlm); (case hm64 => exact hm64); (case hms => exact j2); (case hmb => exact fun k e => by have := j3 k e; omega))
      intro g9 e9 t9 vs9 h9 tk9 FG9 R9 U9
      k_steps
      (rename Below _ _ _ _ => lB); (rename Fr g L2 _ _ => lG)
      refine leave_onSX (A := ktrTop dp' un' gd' cn2 cs2 L2 a2 ccd2 [] [(envX (Str.ofString "law") ({ kind := PySem.ScopeKind.function, names := [(PySem.Str.ofString "script", PySem.NameKind.local), (PySem.Str.ofString "tin", PySem.NameKind.cell), (PySem.Str.ofString "table", PySem.NameKind.cell), (PySem.Str.ofString "number", PySem.NameKind.cell), (PySem.Str.ofString "firsts", PySem.NameKind.cell), (PySem.Str.ofString "due", PySem.NameKind.local), (PySem.Str.ofString "is_let", PySem.NameKind.local), (PySem.Str.ofString "signs", PySem.NameKind.local), (PySem.Str.ofString "text", PySem.NameKind.local), (PySem.Str.ofString "classes", PySem.NameKind.cell), (PySem.Str.ofString "some", PySem.NameKind.cell), (PySem.Str.ofString "word", PySem.NameKind.cell), (PySem.Str.ofString "_law_tin", PySem.NameKind.globalImplicit), (PySem.Str.ofString "Classes", PySem.NameKind.globalImplicit), (PySem.Str.ofString "_law_sets", PySem.NameKind.globalImplicit), (PySem.Str.ofString "_law_bit", PySem.NameKind.globalImplicit), (PySem.Str.ofString "range", PySem.NameKind.globalImplicit), (PySem.Str.ofString "_law_told", PySem.NameKind.globalImplicit)], isGenerator := false, isCoroutine := false, more := [(PySem.Str.ofString "fast", (PySem.Const.str "script")), (PySem.Str.ofString "fast", (PySem.Const.str "tin")), (PySem.Str.ofString "fast", (PySem.Const.str "table")), (PySem.Str.ofString "fast", (PySem.Const.str "number")), (PySem.Str.ofString "fast", (PySem.Const.str "firsts")), (PySem.Str.ofString "fast", (PySem.Const.str "turn")), (PySem.Str.ofString "fast", (PySem.Const.str "due")), (PySem.Str.ofString "fast", (PySem.Const.str "is_let")), (PySem.Str.ofString "fast", (PySem.Const.str "signs")), (PySem.Str.ofString "fast", (PySem.Const.str "code")), (PySem.Str.ofString "fast", (PySem.Const.str "text")), (PySem.Str.ofString "fast", (PySem.Const.str "classes")), (PySem.Str.ofString "fast", (PySem.Const.str "some")), (PySem.Str.ofString "fast", (PySem.Const.str "word"))] } : PySem.Scope) L fa (.ref 333) (lawCl cT cB cN cF cC cS cW))]) lB FG9 rfl R9 U9 (fun h' R U => hE _ _ _ _ _ _ hin lG R U)
  · rintro v nx h' tk' ⟨k0, ⟨t, rfl⟩, rfl⟩ F2 N2
    exact hret t h' tk' _ k0 rfl F2 N2
  · intro h' tk' hb F2 N2
    exact hnone h' tk' hb F2 N2

noncomputable def lam12 : PySem.Expr := match lawSt 12 with | .Assign _ (.Call _ (l :: _) _ _) _ => l | _ => default
set_option maxRecDepth 100000 in
set_option maxHeartbeats 8000000 in
theorem told_text12 {prog : Program} {w : World} {p : Program} {loose : List PySem.Str} {mean : ExcName → Option Value} {mg mb : PySem.Str → Option Value}
  (dp un : Nat) (gd : Option (List Code)) (fa : Addr) (A₀ : Around) (base h₀ : Heap) (L : Addr) (m : PySem.Str → Option Value) (s : Shared) (Q : Flow → Shared → Prop) (E : Value → Shared → Prop)
  (XB : (Mine.hd.heap_39 w.params).In base) (TB : Top p loose mean mg mb base) (B : Below A₀ base [] h₀) (F : Fr h₀ L s.heap m) (X : (Mine.hd.heap_39 w.params).In h₀) (T : Top p loose mean mg mb h₀) (hdp : dp ≤ 400) (hun : un ≤ 3000)
  (hCH : CodeHd h₀ 333 331)
  (cT cB cN cF cC cS cW : Addr) (oT oB oN oF oC oS oW : Obj) (hCA : CellsAt cT cB cN cF cC cS cW)
  (news : List (Addr × Obj)) (N : News h₀ L s.heap news) (f c' x dx lb ln : Addr) (P : Arguments) (Bd : PySem.Expr) (Sc : Scope) (pos : Pos) (hlam : lam12 = .Lambda P Bd Sc pos) (pm ctv : Value) (ocd : Obj) (fs : Array Value) (tq : Tok)
  (hf : (f, kla_obj (Str.ofString "<lambda>") (Str.ofString "law" ++ Str.ofString ".<locals>." ++ Str.ofString "<lambda>") P Bd Sc [(Str.ofString "word", cW), (Str.ofString "classes", cC)] pm c' ctv) ∈ news) (hcm : (c', ocd) ∈ news) (hcd : ocd.data = .fields fs) (hcq : fs[1]? = some (.str (Str.ofString "law" ++ Str.ofString ".<locals>." ++ Str.ofString "<lambda>") tq))
  (bs ns : List Int) (n : Nat) (hmC : (cC, oC) ∈ news) (hC : oC.data = .cell (some (.ref x))) (hC9 : ClsOk bs ns n) (lm : Addr) (mvs : List Value) (ms : List Int) (km : Nat) (hmM : (cW, oW) ∈ news) (hM : oW.data = .cell (some (.ref lm))) (hlm : (lm, W.listOf mvs.toArray km) ∈ news) (hmI : IntsAre mvs ms) (hm64 : ms.length ≤ 64)
  (bvs nvs : List Value) (y1 y2 y3 : Int) (t1 t2 t3 t4 : Tok) (nd kb kn : Nat) (hx : (x, instObj 301 dx) ∈ news) (hdx : (dx, dictOf [⟨y1, .str (Str.ofString "bounds") t1, .ref lb⟩, ⟨y2, .str (Str.ofString "numbers") t2, .ref ln⟩, ⟨y3, .str (Str.ofString "count") t3, .int n t4⟩] nd) ∈ news)
  (hlb : (lb, W.listOf bvs.toArray kb) ∈ news) (hln : (ln, W.listOf nvs.toArray kn) ∈ news) (hbI : IntsAre bvs bs) (hnI : IntsAre nvs ns) (QV : Value → Shared → Prop)
  (hret : ∀ t h' tk' tx, (∀ k ∈ ms, 0 ≤ k ∧ k < (n : Int)) → tx = (⟨(ms.map fun k => (bs.getD (ns.idxOf k) 0).toNat).toArray⟩ : PySem.Str) → Fr h₀ L h' m → News h₀ L h' news → QV (.str tx t) { s with heap := h', toks := tk' })
  (hnone : ∀ h' tk', ¬ (∀ k ∈ ms, 0 ≤ k ∧ k < (n : Int)) → Fr h₀ L h' m → News h₀ L h' news → QV .none { s with heap := h', toks := tk' })
  :
  wpAny (model prog w) (ktrTop dp un gd (Str.ofString "law") ({ kind := PySem.ScopeKind.function, names := [(PySem.Str.ofString "script", PySem.NameKind.local), (PySem.Str.ofString "tin", PySem.NameKind.cell), (PySem.Str.ofString "table", PySem.NameKind.cell), (PySem.Str.ofString "number", PySem.NameKind.cell), (PySem.Str.ofString "firsts", PySem.NameKind.cell), (PySem.Str.ofString "due", PySem.NameKind.local), (PySem.Str.ofString "is_let", PySem.NameKind.local), (PySem.Str.ofString "signs", PySem.NameKind.local), (PySem.Str.ofString "text", PySem.NameKind.local), (PySem.Str.ofString "classes", PySem.NameKind.cell), (PySem.Str.ofString "some", PySem.NameKind.cell), (PySem.Str.ofString "word", PySem.NameKind.cell), (PySem.Str.ofString "_law_tin", PySem.NameKind.globalImplicit), (PySem.Str.ofString "Classes", PySem.NameKind.globalImplicit), (PySem.Str.ofString "_law_sets", PySem.NameKind.globalImplicit), (PySem.Str.ofString "_law_bit", PySem.NameKind.globalImplicit), (PySem.Str.ofString "range", PySem.NameKind.globalImplicit), (PySem.Str.ofString "_law_told", PySem.NameKind.globalImplicit)], isGenerator := false, isCoroutine := false, more := [(PySem.Str.ofString "fast", (PySem.Const.str "script")), (PySem.Str.ofString "fast", (PySem.Const.str "tin")), (PySem.Str.ofString "fast", (PySem.Const.str "table")), (PySem.Str.ofString "fast", (PySem.Const.str "number")), (PySem.Str.ofString "fast", (PySem.Const.str "firsts")), (PySem.Str.ofString "fast", (PySem.Const.str "turn")), (PySem.Str.ofString "fast", (PySem.Const.str "due")), (PySem.Str.ofString "fast", (PySem.Const.str "is_let")), (PySem.Str.ofString "fast", (PySem.Const.str "signs")), (PySem.Str.ofString "fast", (PySem.Const.str "code")), (PySem.Str.ofString "fast", (PySem.Const.str "text")), (PySem.Str.ofString "fast", (PySem.Const.str "classes")), (PySem.Str.ofString "fast", (PySem.Const.str "some")), (PySem.Str.ofString "fast", (PySem.Const.str "word"))] } : PySem.Scope) L fa (.ref 333) (lawCl cT cB cN cF cC cS cW) []) (call (.ref 329) [.ref f]) QV E s := by
  obtain ⟨rfl, rfl, rfl, rfl⟩ := PySem.Expr.Lambda.inj (hlam.symm.trans (rfl : lam12 = .Lambda _ _ _ _))
  k_dflt (apply told_base (Ret := fun v nx => (∀ k ∈ ms, 0 ≤ k ∧ k < (n : Int)) ∧ (∃ t, v = .str (⟨(ms.map fun k => (bs.getD (ns.idxOf k) 0).toNat).toArray⟩ : PySem.Str) t) ∧ nx = news) (Exc := ¬ (∀ k ∈ ms, 0 ≤ k ∧ k < (n : Int))) (hCH := hCH) (hf := hf); (case B => k_asm); (case F => k_asm); (case X => k_asm); (case T => k_asm); (case hk => first | exact rfl | assumption); (case hdp => first | omega | ktr_room); (case hun => first | omega | units_room); (case XB => exact XB); (case TB => exact TB); (case N => exact N))
  · intro dp' un' gd' cn2 cs2 a2 ccd2 A₂ g L2 h1 tk Q' E' m2 hdp' hun' hcs2 B2 F2 X2 T2 N2 hR hE
    clear N F B X T hret hnone XB TB
    refine wpAny_call ?_
    k_dflt (refine' kla_code ?k1 ?k2 ?k3 ?k4 ?k5 ?kA ?kF ?kK ?k6 ?k7 ?k8 ?k9 ?kB ?_ ?c2 ?c3 ?c4 ?c5; (case kA => exact rfl); (case kF => exact rfl); (case kK => exact hcs2); (case k1 => k_asm); (case k2 => k_asm); (case k3 => k_asm); (case k4 => k_asm); (case k5 => k_asm); (case k6 => k_mem); (case k7 => exact codeRec_news (by k_asm) (by k_mem) (by assumption) (by assumption)); (case k8 => k_room); (case k9 => exact rfl); (case c5 => decide); (case kB => exact locs rfl); (case c2 => exact rfl); (case c3 => exact rfl); (case c4 => exact rfl); k_whole; intro g' L' h' FG' F' N' B' X' T'; (try dsimp only); (try k_fold))
    k_steps
    unfold Stop
    by_cases hin : ∀ k ∈ ms, 0 ≤ k ∧ k < (n : Int)
    · k_dflt (apply text_base; (case B => k_asm); (case F => k_asm); (case X => k_asm); (case T => k_asm); (case hk => first | exact rfl | assumption); (case hdp => first | omega | ktr_room); (case hun => first | omega | units_room); (case N => k_asm); (case hx => exact hx); (case hdx => exact hdx); (case hlb => exact hlb); (case hln => exact hln); (case hbI => exact hbI); (case hnI => exact hnI); (case hC => exact hC9); (case hlm => exact hlm); (case hmI => exact hmI); (case hm64 => exact hm64); (case hms => exact hin))
      intro tx t h3 tk3 F3 N3 e3
      k_steps
      (rename Fr g L2 _ _ => lF); (rename News g L2 _ _ => lN)
      exact hR _ _ _ _ lF lN ⟨hin, ⟨_, by rw [e3]⟩, rfl⟩
    · obtain ⟨jb, j1, j2, j3⟩ := first_bad hin
      k_dflt (apply text_raise (hkb := j1) (hmI := hmI); (case B => k_asm); (case F => k_asm); (case X => k_asm); (case T => k_asm); (case hk => first | exact rfl | assumption); (case hdp => first | omega | ktr_room); (case hun => first | omega | units_room); (case N => k_asm); (case hx => exact hx); (case hdx => exact hdx); (case hlb => exact hlb); (case hln => exact hln); (case hbI => exact hbI); (case hnI => exact hnI); (case hC => exact hC9); (case hlm => exact hlm); (case hm64 => exact hm64); (case hms => exact j2); (case hmb => exact fun k e => by have := j3 k e; omega))
      intro g9 e9 t9 vs9 h9 tk9 FG9 R9 U9
      k_steps
      (rename Below _ _ _ _ => lB); (rename Fr g L2 _ _ => lG)
      refine leave_onSX (A := ktrTop dp' un' gd' cn2 cs2 L2 a2 ccd2 [] [(envX (Str.ofString "law") ({ kind := PySem.ScopeKind.function, names := [(PySem.Str.ofString "script", PySem.NameKind.local), (PySem.Str.ofString "tin", PySem.NameKind.cell), (PySem.Str.ofString "table", PySem.NameKind.cell), (PySem.Str.ofString "number", PySem.NameKind.cell), (PySem.Str.ofString "firsts", PySem.NameKind.cell), (PySem.Str.ofString "due", PySem.NameKind.local), (PySem.Str.ofString "is_let", PySem.NameKind.local), (PySem.Str.ofString "signs", PySem.NameKind.local), (PySem.Str.ofString "text", PySem.NameKind.local), (PySem.Str.ofString "classes", PySem.NameKind.cell), (PySem.Str.ofString "some", PySem.NameKind.cell), (PySem.Str.ofString "word", PySem.NameKind.cell), (PySem.Str.ofString "_law_tin", PySem.NameKind.globalImplicit), (PySem.Str.ofString "Classes", PySem.NameKind.globalImplicit), (PySem.Str.ofString "_law_sets", PySem.NameKind.globalImplicit), (PySem.Str.ofString "_law_bit", PySem.NameKind.globalImplicit), (PySem.Str.ofString "range", PySem.NameKind.globalImplicit), (PySem.Str.ofString "_law_told", PySem.NameKind.globalImplicit)], isGenerator := false, isCoroutine := false, more := [(PySem.Str.ofString "fast", (PySem.Const.str "script")), (PySem.Str.ofString "fast", (PySem.Const.str "tin")), (PySem.Str.ofString "fast", (PySem.Const.str "table")), (PySem.Str.ofString "fast", (PySem.Const.str "number")), (PySem.Str.ofString "fast", (PySem.Const.str "firsts")), (PySem.Str.ofString "fast", (PySem.Const.str "turn")), (PySem.Str.ofString "fast", (PySem.Const.str "due")), (PySem.Str.ofString "fast", (PySem.Const.str "is_let")), (PySem.Str.ofString "fast", (PySem.Const.str "signs")), (PySem.Str.ofString "fast", (PySem.Const.str "code")), (PySem.Str.ofString "fast", (PySem.Const.str "text")), (PySem.Str.ofString "fast", (PySem.Const.str "classes")), (PySem.Str.ofString "fast", (PySem.Const.str "some")), (PySem.Str.ofString "fast", (PySem.Const.str "word"))] } : PySem.Scope) L fa (.ref 333) (lawCl cT cB cN cF cC cS cW))]) lB FG9 rfl R9 U9 (fun h' R U => hE _ _ _ _ _ _ hin lG R U)
  · rintro v nx h' tk' ⟨k0, ⟨t, rfl⟩, rfl⟩ F2 N2
    exact hret t h' tk' _ k0 rfl F2 N2
  · intro h' tk' hb F2 N2
    exact hnone h' tk' hb F2 N2

set_option maxRecDepth 100000 in
set_option maxHeartbeats 8000000 in
theorem st0 {prog : Program} {w : World} {p : Program} {loose : List PySem.Str} {mean : ExcName → Option Value} {mg mb : PySem.Str → Option Value}
  (dp un : Nat) (gd : Option (List Code)) (fa : Addr) (A₀ : Around) (base h₀ : Heap) (L : Addr) (m : PySem.Str → Option Value) (s : Shared) (Q : Flow → Shared → Prop) (E : Value → Shared → Prop)
  (XB : (Mine.hd.heap_39 w.params).In base) (TB : Top p loose mean mg mb base) (B : Below A₀ base [] h₀) (F : Fr h₀ L s.heap m) (X : (Mine.hd.heap_39 w.params).In h₀) (T : Top p loose mean mg mb h₀) (hdp : dp ≤ 400) (hun : un ≤ 3000)
  (hCH : CodeHd h₀ 333 331)
  (cT cB cN cF cC cS cW : Addr) (oT oB oN oF oC oS oW : Obj) (hCA : CellsAt cT cB cN cF cC cS cW)
  (N : News h₀ L s.heap [(cW, oW), (cS, oS), (cC, oC), (cF, oF), (cN, oN), (cB, oB), (cT, oT), (331, tabObj #[])])
  (hT : oT.data = .cell none)
  (l : Addr) (vs : List Value) (zs : List Int) (hm : m (Str.ofString "script") = some (.ref l)) (hl : h₀.IsList l vs.toArray) (hI : IntsAre vs zs) (hlay : PyData.layable0 (.list (zs.map .int)) = true) (h63 : zs.length ≤ 63)
  (hret : ∀ d c o oc oT h' tk', Fr h₀ L h' m → News h₀ L h' ((cW, oW) :: (cS, oS) :: (cC, oC) :: (cF, oF) :: (cN, oN) :: (cB, oB) :: (cT, oT) :: (331, tabObj #[]) :: (d, o) :: (c, oc) :: []) → oT.data = .cell (some (.ref d)) → TinAt prog w c o oc → (d == sysModules) = false → KeyOff cT cB cN cF cC cS cW d → KeyOff cT cB cN cF cC cS cW c → @Ne Nat d c → Q .next { s with heap := h', toks := tk' })
  :
  wpAny (model prog w) (ktrTop dp un gd (Str.ofString "law") ({ kind := PySem.ScopeKind.function, names := [(PySem.Str.ofString "script", PySem.NameKind.local), (PySem.Str.ofString "tin", PySem.NameKind.cell), (PySem.Str.ofString "table", PySem.NameKind.cell), (PySem.Str.ofString "number", PySem.NameKind.cell), (PySem.Str.ofString "firsts", PySem.NameKind.cell), (PySem.Str.ofString "due", PySem.NameKind.local), (PySem.Str.ofString "is_let", PySem.NameKind.local), (PySem.Str.ofString "signs", PySem.NameKind.local), (PySem.Str.ofString "text", PySem.NameKind.local), (PySem.Str.ofString "classes", PySem.NameKind.cell), (PySem.Str.ofString "some", PySem.NameKind.cell), (PySem.Str.ofString "word", PySem.NameKind.cell), (PySem.Str.ofString "_law_tin", PySem.NameKind.globalImplicit), (PySem.Str.ofString "Classes", PySem.NameKind.globalImplicit), (PySem.Str.ofString "_law_sets", PySem.NameKind.globalImplicit), (PySem.Str.ofString "_law_bit", PySem.NameKind.globalImplicit), (PySem.Str.ofString "range", PySem.NameKind.globalImplicit), (PySem.Str.ofString "_law_told", PySem.NameKind.globalImplicit)], isGenerator := false, isCoroutine := false, more := [(PySem.Str.ofString "fast", (PySem.Const.str "script")), (PySem.Str.ofString "fast", (PySem.Const.str "tin")), (PySem.Str.ofString "fast", (PySem.Const.str "table")), (PySem.Str.ofString "fast", (PySem.Const.str "number")), (PySem.Str.ofString "fast", (PySem.Const.str "firsts")), (PySem.Str.ofString "fast", (PySem.Const.str "turn")), (PySem.Str.ofString "fast", (PySem.Const.str "due")), (PySem.Str.ofString "fast", (PySem.Const.str "is_let")), (PySem.Str.ofString "fast", (PySem.Const.str "signs")), (PySem.Str.ofString "fast", (PySem.Const.str "code")), (PySem.Str.ofString "fast", (PySem.Const.str "text")), (PySem.Str.ofString "fast", (PySem.Const.str "classes")), (PySem.Str.ofString "fast", (PySem.Const.str "some")), (PySem.Str.ofString "fast", (PySem.Const.str "word"))] } : PySem.Scope) L fa (.ref 333) (lawCl cT cB cN cF cC cS cW) []) (exec (lawSt 0) (envX (Str.ofString "law") ({ kind := PySem.ScopeKind.function, names := [(PySem.Str.ofString "script", PySem.NameKind.local), (PySem.Str.ofString "tin", PySem.NameKind.cell), (PySem.Str.ofString "table", PySem.NameKind.cell), (PySem.Str.ofString "number", PySem.NameKind.cell), (PySem.Str.ofString "firsts", PySem.NameKind.cell), (PySem.Str.ofString "due", PySem.NameKind.local), (PySem.Str.ofString "is_let", PySem.NameKind.local), (PySem.Str.ofString "signs", PySem.NameKind.local), (PySem.Str.ofString "text", PySem.NameKind.local), (PySem.Str.ofString "classes", PySem.NameKind.cell), (PySem.Str.ofString "some", PySem.NameKind.cell), (PySem.Str.ofString "word", PySem.NameKind.cell), (PySem.Str.ofString "_law_tin", PySem.NameKind.globalImplicit), (PySem.Str.ofString "Classes", PySem.NameKind.globalImplicit), (PySem.Str.ofString "_law_sets", PySem.NameKind.globalImplicit), (PySem.Str.ofString "_law_bit", PySem.NameKind.globalImplicit), (PySem.Str.ofString "range", PySem.NameKind.globalImplicit), (PySem.Str.ofString "_law_told", PySem.NameKind.globalImplicit)], isGenerator := false, isCoroutine := false, more := [(PySem.Str.ofString "fast", (PySem.Const.str "script")), (PySem.Str.ofString "fast", (PySem.Const.str "tin")), (PySem.Str.ofString "fast", (PySem.Const.str "table")), (PySem.Str.ofString "fast", (PySem.Const.str "number")), (PySem.Str.ofString "fast", (PySem.Const.str "firsts")), (PySem.Str.ofString "fast", (PySem.Const.str "turn")), (PySem.Str.ofString "fast", (PySem.Const.str "due")), (PySem.Str.ofString "fast", (PySem.Const.str "is_let")), (PySem.Str.ofString "fast", (PySem.Const.str "signs")), (PySem.Str.ofString "fast", (PySem.Const.str "code")), (PySem.Str.ofString "fast", (PySem.Const.str "text")), (PySem.Str.ofString "fast", (PySem.Const.str "classes")), (PySem.Str.ofString "fast", (PySem.Const.str "some")), (PySem.Str.ofString "fast", (PySem.Const.str "word"))] } : PySem.Scope) L fa (.ref 333) (lawCl cT cB cN cF cC cS cW))) Q E s := by
  obtain ⟨q1, q2, q3, q4, q5, q6, q7⟩ := hCA
  have em := map_one hm
  rw [em] at F
  show wpAny _ _ (exec (.Assign _ _ _) _) _ _ _
  k_steps
  unfold Stop
  k_dflt (apply tin_base; (case B => k_asm); (case F => k_asm); (case X => k_asm); (case T => k_asm); (case hk => first | exact rfl | assumption); (case hdp => first | omega | ktr_room); (case hun => first | omega | units_room); (case N => exact N); (case hl => exact hl); (case hI => exact hI); (case hlay => exact hlay); (case h63 => exact h63))
  intro d c o oc h1 tk1 F1 N1 T1 lo dc hd hc
  have kd : KeyOff cT cB cN cF cC cS cW d := ⟨hd (331, tabObj #[]) (by simp), hd (cT, oT) (by simp), hd (cB, oB) (by simp), hd (cN, oN) (by simp), hd (cF, oF) (by simp), hd (cC, oC) (by simp), hd (cS, oS) (by simp), hd (cW, oW) (by simp)⟩
  have kc : KeyOff cT cB cN cF cC cS cW c := ⟨hc (331, tabObj #[]) (by simp), hc (cT, oT) (by simp), hc (cB, oB) (by simp), hc (cN, oN) (by simp), hc (cF, oF) (by simp), hc (cC, oC) (by simp), hc (cS, oS) (by simp), hc (cW, oW) (by simp)⟩
  obtain ⟨u0, u1, u2, u3, u4, u5, u6, u7⟩ := kd
  obtain ⟨v0, v1, v2, v3, v4, v5, v6, v7⟩ := kc
  clear hd hc N
  k_steps
  (rename Fr _ _ _ _ => lF); (rename News _ _ _ _ => lN); (rename _ = Data.cell (some _) => lD)
  rw [← em] at lF
  refine hret d c o oc _ _ _ lF (fun p hp => lN p ?_) lD T1 lo ⟨u0, u1, u2, u3, u4, u5, u6, u7⟩ ⟨v0, v1, v2, v3, v4, v5, v6, v7⟩ dc
  simp only [List.mem_cons, List.not_mem_nil, or_false] at hp ⊢
  rcases hp with h | h | h | h | h | h | h | h | h | h <;> simp [h]

set_option maxRecDepth 100000 in
set_option maxHeartbeats 8000000 in
theorem st1 {prog : Program} {w : World} {p : Program} {loose : List PySem.Str} {mean : ExcName → Option Value} {mg mb : PySem.Str → Option Value}
  (dp un : Nat) (gd : Option (List Code)) (fa : Addr) (A₀ : Around) (base h₀ : Heap) (L : Addr) (m : PySem.Str → Option Value) (s : Shared) (Q : Flow → Shared → Prop) (E : Value → Shared → Prop)
  (XB : (Mine.hd.heap_39 w.params).In base) (TB : Top p loose mean mg mb base) (B : Below A₀ base [] h₀) (F : Fr h₀ L s.heap m) (X : (Mine.hd.heap_39 w.params).In h₀) (T : Top p loose mean mg mb h₀) (hdp : dp ≤ 400) (hun : un ≤ 3000)
  (hCH : CodeHd h₀ 333 331)
  (cT cB cN cF cC cS cW : Addr) (oT oB oN oF oC oS oW : Obj) (hCA : CellsAt cT cB cN cF cC cS cW)
  (ps : Array Value) (d c : Addr) (o oc : Obj) (big : List (Addr × Obj)) (N : News h₀ L s.heap ((cW, oW) :: (cS, oS) :: (cC, oC) :: (cF, oF) :: (cN, oN) :: (cB, oB) :: (cT, oT) :: (331, tabObj ps) :: (d, o) :: (c, oc) :: big)) (hDO : KeyOff cT cB cN cF cC cS cW d) (hCO : KeyOff cT cB cN cF cC cS cW c) (hdc : @Ne Nat d c) (hBO : BigOff cT cB cN cF cC cS cW d c big)
  (hT : oT.data = .cell (some (.ref d))) (hTI : TinAt prog w c o oc) (hlo : (d == sysModules) = false)
  (hC : oC.data = .cell none)
  (hret : ∀ x bs ns cnt o oc oC big h' tk', Fr h₀ L h' m → News h₀ L h' ((cW, oW) :: (cS, oS) :: (cC, oC) :: (cF, oF) :: (cN, oN) :: (cB, oB) :: (cT, oT) :: (331, tabObj ps) :: (d, o) :: (c, oc) :: big) → oC.data = .cell (some (.ref x)) → TinAt prog w c o oc → BigOff cT cB cN cF cC cS cW d c big → ClAt big x bs ns cnt → ClsX bs ns cnt → bs.length ≤ 30 → Q .next { s with heap := h', toks := tk' })
  :
  wpAny (model prog w) (ktrTop dp un gd (Str.ofString "law") ({ kind := PySem.ScopeKind.function, names := [(PySem.Str.ofString "script", PySem.NameKind.local), (PySem.Str.ofString "tin", PySem.NameKind.cell), (PySem.Str.ofString "table", PySem.NameKind.cell), (PySem.Str.ofString "number", PySem.NameKind.cell), (PySem.Str.ofString "firsts", PySem.NameKind.cell), (PySem.Str.ofString "due", PySem.NameKind.local), (PySem.Str.ofString "is_let", PySem.NameKind.local), (PySem.Str.ofString "signs", PySem.NameKind.local), (PySem.Str.ofString "text", PySem.NameKind.local), (PySem.Str.ofString "classes", PySem.NameKind.cell), (PySem.Str.ofString "some", PySem.NameKind.cell), (PySem.Str.ofString "word", PySem.NameKind.cell), (PySem.Str.ofString "_law_tin", PySem.NameKind.globalImplicit), (PySem.Str.ofString "Classes", PySem.NameKind.globalImplicit), (PySem.Str.ofString "_law_sets", PySem.NameKind.globalImplicit), (PySem.Str.ofString "_law_bit", PySem.NameKind.globalImplicit), (PySem.Str.ofString "range", PySem.NameKind.globalImplicit), (PySem.Str.ofString "_law_told", PySem.NameKind.globalImplicit)], isGenerator := false, isCoroutine := false, more := [(PySem.Str.ofString "fast", (PySem.Const.str "script")), (PySem.Str.ofString "fast", (PySem.Const.str "tin")), (PySem.Str.ofString "fast", (PySem.Const.str "table")), (PySem.Str.ofString "fast", (PySem.Const.str "number")), (PySem.Str.ofString "fast", (PySem.Const.str "firsts")), (PySem.Str.ofString "fast", (PySem.Const.str "turn")), (PySem.Str.ofString "fast", (PySem.Const.str "due")), (PySem.Str.ofString "fast", (PySem.Const.str "is_let")), (PySem.Str.ofString "fast", (PySem.Const.str "signs")), (PySem.Str.ofString "fast", (PySem.Const.str "code")), (PySem.Str.ofString "fast", (PySem.Const.str "text")), (PySem.Str.ofString "fast", (PySem.Const.str "classes")), (PySem.Str.ofString "fast", (PySem.Const.str "some")), (PySem.Str.ofString "fast", (PySem.Const.str "word"))] } : PySem.Scope) L fa (.ref 333) (lawCl cT cB cN cF cC cS cW) []) (exec (lawSt 1) (envX (Str.ofString "law") ({ kind := PySem.ScopeKind.function, names := [(PySem.Str.ofString "script", PySem.NameKind.local), (PySem.Str.ofString "tin", PySem.NameKind.cell), (PySem.Str.ofString "table", PySem.NameKind.cell), (PySem.Str.ofString "number", PySem.NameKind.cell), (PySem.Str.ofString "firsts", PySem.NameKind.cell), (PySem.Str.ofString "due", PySem.NameKind.local), (PySem.Str.ofString "is_let", PySem.NameKind.local), (PySem.Str.ofString "signs", PySem.NameKind.local), (PySem.Str.ofString "text", PySem.NameKind.local), (PySem.Str.ofString "classes", PySem.NameKind.cell), (PySem.Str.ofString "some", PySem.NameKind.cell), (PySem.Str.ofString "word", PySem.NameKind.cell), (PySem.Str.ofString "_law_tin", PySem.NameKind.globalImplicit), (PySem.Str.ofString "Classes", PySem.NameKind.globalImplicit), (PySem.Str.ofString "_law_sets", PySem.NameKind.globalImplicit), (PySem.Str.ofString "_law_bit", PySem.NameKind.globalImplicit), (PySem.Str.ofString "range", PySem.NameKind.globalImplicit), (PySem.Str.ofString "_law_told", PySem.NameKind.globalImplicit)], isGenerator := false, isCoroutine := false, more := [(PySem.Str.ofString "fast", (PySem.Const.str "script")), (PySem.Str.ofString "fast", (PySem.Const.str "tin")), (PySem.Str.ofString "fast", (PySem.Const.str "table")), (PySem.Str.ofString "fast", (PySem.Const.str "number")), (PySem.Str.ofString "fast", (PySem.Const.str "firsts")), (PySem.Str.ofString "fast", (PySem.Const.str "turn")), (PySem.Str.ofString "fast", (PySem.Const.str "due")), (PySem.Str.ofString "fast", (PySem.Const.str "is_let")), (PySem.Str.ofString "fast", (PySem.Const.str "signs")), (PySem.Str.ofString "fast", (PySem.Const.str "code")), (PySem.Str.ofString "fast", (PySem.Const.str "text")), (PySem.Str.ofString "fast", (PySem.Const.str "classes")), (PySem.Str.ofString "fast", (PySem.Const.str "some")), (PySem.Str.ofString "fast", (PySem.Const.str "word"))] } : PySem.Scope) L fa (.ref 333) (lawCl cT cB cN cF cC cS cW))) Q E s := by
  have hDO9 := hDO
  have hCO9 := hCO
  obtain ⟨q1, q2, q3, q4, q5, q6, q7⟩ := hCA
  obtain ⟨u0, u1, u2, u3, u4, u5, u6, u7⟩ := hDO
  obtain ⟨v0, v1, v2, v3, v4, v5, v6, v7⟩ := hCO
  obtain ⟨z0, z1, z2, z3, z4, z5, z6, z7, z8, z9⟩ := hBO
  show wpAny _ _ (exec (.Assign _ _ _) _) _ _ _
  k_steps
  unfold Stop
  k_dflt (apply sets_base (d := d) (c := c) (o := o) (oc := oc) (news := [(cW, oW), (cS, oS), (cC, oC), (cF, oF), (cN, oN), (cB, oB), (cT, oT), (331, tabObj ps)]); (case B => k_asm); (case F => k_asm); (case X => k_asm); (case T => k_asm); (case hk => first | exact rfl | assumption); (case hdp => first | omega | ktr_room); (case hun => first | omega | units_room); (case N => exact keys_two N); (case ht => exact hTI); (case lo => exact hlo); (case hdc => exact hdc); (case hnd => exact hDO9.all); (case hnc => exact hCO9.all))
  intro l fvs k sss tl o' oc' h1 tk1 F1 N1 sub1 T1 n1 n2 n3 n4 n5 S1 hs3 hs2
  obtain ⟨big1, N2, sub2, BO⟩ := canon10 (tl := (l, _) :: tl) N1 (fun q hq => List.mem_cons_of_mem _ (sub1 q hq))
  have hlm := sub2 (l, W.listOf fvs.toArray k) (List.mem_cons_self ..)
  have S2 : SetsAt _ fvs sss := S1.mono fun q hq => sub2 q (List.mem_cons_of_mem _ hq)
  clear N1 N sub1 sub2 S1
  have BO8 := BO
  obtain ⟨z0, z1, z2, z3, z4, z5, z6, z7, z8, z9⟩ := BO8
  k_steps
  unfold Stop
  have hsum := sum_le hs2
  k_dflt (apply cinit_base; (case B => k_asm); (case F => k_asm); (case X => k_asm); (case T => k_asm); (case hk => first | exact rfl | assumption); (case hdp => first | omega | ktr_room); (case hun => first | omega | units_room); (case N => exact N2); (case hl => exact hlm); (case hss => exact S2); (case h64 => omega); (case hsum => omega))
  intro x ex bs ns cnt h3 tk3 F3 N3 fr3 C3 X3 len3
  obtain ⟨N4, BO4⟩ := keys_ex N3 fr3 BO
  clear N3 N2 fr3 z0 z1 z2 z3 z4 z5 z6 z7 z8 z9 S2 hlm
  have C4 : ClAt (ex ++ big1) x bs ns cnt := C3.mono fun q hq => List.mem_append_left _ hq
  generalize ex ++ big1 = big2 at N4 BO4 C4
  have BO5 := BO4
  obtain ⟨z0, z1, z2, z3, z4, z5, z6, z7, z8, z9⟩ := BO5
  k_steps
  (rename Fr _ _ _ _ => lF); (rename News _ _ _ _ => lN); (rename _ = Data.cell (some _) => lD)
  exact hret x bs ns cnt _ _ _ _ _ _ lF lN lD T1 BO4 C4 X3 (by omega)

set_option maxRecDepth 100000 in
set_option maxHeartbeats 8000000 in
theorem st2 {prog : Program} {w : World} {p : Program} {loose : List PySem.Str} {mean : ExcName → Option Value} {mg mb : PySem.Str → Option Value}
  (dp un : Nat) (gd : Option (List Code)) (fa : Addr) (A₀ : Around) (base h₀ : Heap) (L : Addr) (m : PySem.Str → Option Value) (s : Shared) (Q : Flow → Shared → Prop) (E : Value → Shared → Prop)
  (XB : (Mine.hd.heap_39 w.params).In base) (TB : Top p loose mean mg mb base) (B : Below A₀ base [] h₀) (F : Fr h₀ L s.heap m) (X : (Mine.hd.heap_39 w.params).In h₀) (T : Top p loose mean mg mb h₀) (hdp : dp ≤ 400) (hun : un ≤ 3000)
  (hCH : CodeHd h₀ 333 331)
  (cT cB cN cF cC cS cW : Addr) (oT oB oN oF oC oS oW : Obj) (hCA : CellsAt cT cB cN cF cC cS cW)
  (ps : Array Value) (d c : Addr) (o oc : Obj) (big : List (Addr × Obj)) (N : News h₀ L s.heap ((cW, oW) :: (cS, oS) :: (cC, oC) :: (cF, oF) :: (cN, oN) :: (cB, oB) :: (cT, oT) :: (331, tabObj ps) :: (d, o) :: (c, oc) :: big)) (hDO : KeyOff cT cB cN cF cC cS cW d) (hCO : KeyOff cT cB cN cF cC cS cW c) (hdc : @Ne Nat d c) (hBO : BigOff cT cB cN cF cC cS cW d c big)
  (hT : oT.data = .cell (some (.ref d))) (hTI : TinAt prog w c o oc) (hlo : (d == sysModules) = false)
  (x : Addr) (bs ns : List Int) (cnt : Int) (hC : oC.data = .cell (some (.ref x))) (hCl : ClAt big x bs ns cnt) (hX : ClsX bs ns cnt) (h30 : bs.length ≤ 30)
  (hret : ∀ x bs ns cnt o oc oC big h' tk', Fr h₀ L h' m → News h₀ L h' ((cW, oW) :: (cS, oS) :: (cC, oC) :: (cF, oF) :: (cN, oN) :: (cB, oB) :: (cT, oT) :: (331, tabObj ps) :: (d, o) :: (c, oc) :: big) → oC.data = .cell (some (.ref x)) → TinAt prog w c o oc → BigOff cT cB cN cF cC cS cW d c big → ClAt big x bs ns cnt → ClsX bs ns cnt → Q .next { s with heap := h', toks := tk' })
  :
  wpAny (model prog w) (ktrTop dp un gd (Str.ofString "law") ({ kind := PySem.ScopeKind.function, names := [(PySem.Str.ofString "script", PySem.NameKind.local), (PySem.Str.ofString "tin", PySem.NameKind.cell), (PySem.Str.ofString "table", PySem.NameKind.cell), (PySem.Str.ofString "number", PySem.NameKind.cell), (PySem.Str.ofString "firsts", PySem.NameKind.cell), (PySem.Str.ofString "due", PySem.NameKind.local), (PySem.Str.ofString "is_let", PySem.NameKind.local), (PySem.Str.ofString "signs", PySem.NameKind.local), (PySem.Str.ofString "text", PySem.NameKind.local), (PySem.Str.ofString "classes", PySem.NameKind.cell), (PySem.Str.ofString "some", PySem.NameKind.cell), (PySem.Str.ofString "word", PySem.NameKind.cell), (PySem.Str.ofString "_law_tin", PySem.NameKind.globalImplicit), (PySem.Str.ofString "Classes", PySem.NameKind.globalImplicit), (PySem.Str.ofString "_law_sets", PySem.NameKind.globalImplicit), (PySem.Str.ofString "_law_bit", PySem.NameKind.globalImplicit), (PySem.Str.ofString "range", PySem.NameKind.globalImplicit), (PySem.Str.ofString "_law_told", PySem.NameKind.globalImplicit)], isGenerator := false, isCoroutine := false, more := [(PySem.Str.ofString "fast", (PySem.Const.str "script")), (PySem.Str.ofString "fast", (PySem.Const.str "tin")), (PySem.Str.ofString "fast", (PySem.Const.str "table")), (PySem.Str.ofString "fast", (PySem.Const.str "number")), (PySem.Str.ofString "fast", (PySem.Const.str "firsts")), (PySem.Str.ofString "fast", (PySem.Const.str "turn")), (PySem.Str.ofString "fast", (PySem.Const.str "due")), (PySem.Str.ofString "fast", (PySem.Const.str "is_let")), (PySem.Str.ofString "fast", (PySem.Const.str "signs")), (PySem.Str.ofString "fast", (PySem.Const.str "code")), (PySem.Str.ofString "fast", (PySem.Const.str "text")), (PySem.Str.ofString "fast", (PySem.Const.str "classes")), (PySem.Str.ofString "fast", (PySem.Const.str "some")), (PySem.Str.ofString "fast", (PySem.Const.str "word"))] } : PySem.Scope) L fa (.ref 333) (lawCl cT cB cN cF cC cS cW) []) (exec (lawSt 2) (envX (Str.ofString "law") ({ kind := PySem.ScopeKind.function, names := [(PySem.Str.ofString "script", PySem.NameKind.local), (PySem.Str.ofString "tin", PySem.NameKind.cell), (PySem.Str.ofString "table", PySem.NameKind.cell), (PySem.Str.ofString "number", PySem.NameKind.cell), (PySem.Str.ofString "firsts", PySem.NameKind.cell), (PySem.Str.ofString "due", PySem.NameKind.local), (PySem.Str.ofString "is_let", PySem.NameKind.local), (PySem.Str.ofString "signs", PySem.NameKind.local), (PySem.Str.ofString "text", PySem.NameKind.local), (PySem.Str.ofString "classes", PySem.NameKind.cell), (PySem.Str.ofString "some", PySem.NameKind.cell), (PySem.Str.ofString "word", PySem.NameKind.cell), (PySem.Str.ofString "_law_tin", PySem.NameKind.globalImplicit), (PySem.Str.ofString "Classes", PySem.NameKind.globalImplicit), (PySem.Str.ofString "_law_sets", PySem.NameKind.globalImplicit), (PySem.Str.ofString "_law_bit", PySem.NameKind.globalImplicit), (PySem.Str.ofString "range", PySem.NameKind.globalImplicit), (PySem.Str.ofString "_law_told", PySem.NameKind.globalImplicit)], isGenerator := false, isCoroutine := false, more := [(PySem.Str.ofString "fast", (PySem.Const.str "script")), (PySem.Str.ofString "fast", (PySem.Const.str "tin")), (PySem.Str.ofString "fast", (PySem.Const.str "table")), (PySem.Str.ofString "fast", (PySem.Const.str "number")), (PySem.Str.ofString "fast", (PySem.Const.str "firsts")), (PySem.Str.ofString "fast", (PySem.Const.str "turn")), (PySem.Str.ofString "fast", (PySem.Const.str "due")), (PySem.Str.ofString "fast", (PySem.Const.str "is_let")), (PySem.Str.ofString "fast", (PySem.Const.str "signs")), (PySem.Str.ofString "fast", (PySem.Const.str "code")), (PySem.Str.ofString "fast", (PySem.Const.str "text")), (PySem.Str.ofString "fast", (PySem.Const.str "classes")), (PySem.Str.ofString "fast", (PySem.Const.str "some")), (PySem.Str.ofString "fast", (PySem.Const.str "word"))] } : PySem.Scope) L fa (.ref 333) (lawCl cT cB cN cF cC cS cW))) Q E s := by
  have hBO9 := hBO
  have hCl9 := hCl
  obtain ⟨q1, q2, q3, q4, q5, q6, q7⟩ := hCA
  obtain ⟨u0, u1, u2, u3, u4, u5, u6, u7⟩ := hDO
  obtain ⟨v0, v1, v2, v3, v4, v5, v6, v7⟩ := hCO
  obtain ⟨z0, z1, z2, z3, z4, z5, z6, z7, z8, z9⟩ := hBO
  obtain ⟨dx, lb, ln, bvs, nvs, y1, y2, y3, t1, t2, t3, t4, nd, kb, kn, hx, hdx, hlb, hln, hbI, hnI⟩ := hCl
  have hC9 := hX.ok
  show wpAny _ _ (exec (.If _ _ _ _) _) _ _ _
  k_steps
  (unfold Stop; (k_dflt (apply bit_gen; (case B => k_asm); (case F => k_asm); (case X => k_asm); (case T => k_asm); (case hk => first | exact rfl | assumption); (case hdp => first | omega | ktr_room); (case hun => first | omega | units_room))); (case N => k_asm); (case U1 => k_updF); (case ht => assumption); (case U2 => (intro o9; k_updF)); (case lo => assumption); (case hdc => k_ne); (case h0 => omega); (case h1 => omega))
  intro dg9 t9 h9 tk9 o9 oc9 F9 N9 T9 d9 e9
  (try dsimp only at N9)
  k_steps
  · unfold Stop
    k_dflt (apply fromb_base; (case B => k_asm); (case F => k_asm); (case X => k_asm); (case T => k_asm); (case hk => first | exact rfl | assumption); (case hdp => first | omega | ktr_room); (case hun => first | omega | units_room); (case N => exact N9); (case hlb => k_mem); (case hln => k_mem); (case hbI => exact hbI); (case hnI => exact hnI); (case hX => exact hX); (case h30 => exact h30))
    intro x ex bs ns cnt h3 tk3 F3 N3 fr3 C3 X3
    obtain ⟨N4, BO4⟩ := keys_ex N3 fr3 hBO9
    clear N3 N9 fr3 z0 z1 z2 z3 z4 z5 z6 z7 z8 z9 N
    have C4 : ClAt (ex ++ big) x bs ns cnt := C3.mono fun q hq => List.mem_append_left _ hq
    generalize ex ++ big = big2 at N4 BO4 C4
    have BO5 := BO4
    obtain ⟨z0, z1, z2, z3, z4, z5, z6, z7, z8, z9⟩ := BO5
    k_steps
    (rename Fr _ _ _ _ => lF); (rename News _ _ _ _ => lN); (rename _ = Data.cell (some (Value.ref x)) => lD)
    exact hret x bs ns cnt _ _ _ _ _ _ lF lN lD T9 BO4 C4 X3
  · exact hret x bs ns cnt _ _ _ _ _ _ F9 N9 hC T9 hBO9 hCl9 hX

set_option maxRecDepth 100000 in
set_option maxHeartbeats 8000000 in
theorem st3 {prog : Program} {w : World} {p : Program} {loose : List PySem.Str} {mean : ExcName → Option Value} {mg mb : PySem.Str → Option Value}
  (dp un : Nat) (gd : Option (List Code)) (fa : Addr) (A₀ : Around) (base h₀ : Heap) (L : Addr) (m : PySem.Str → Option Value) (s : Shared) (Q : Flow → Shared → Prop) (E : Value → Shared → Prop)
  (XB : (Mine.hd.heap_39 w.params).In base) (TB : Top p loose mean mg mb base) (B : Below A₀ base [] h₀) (F : Fr h₀ L s.heap m) (X : (Mine.hd.heap_39 w.params).In h₀) (T : Top p loose mean mg mb h₀) (hdp : dp ≤ 400) (hun : un ≤ 3000)
  (hCH : CodeHd h₀ 333 331)
  (cT cB cN cF cC cS cW : Addr) (oT oB oN oF oC oS oW : Obj) (hCA : CellsAt cT cB cN cF cC cS cW)
  (ps : Array Value) (d c : Addr) (o oc : Obj) (big : List (Addr × Obj)) (N : News h₀ L s.heap ((cW, oW) :: (cS, oS) :: (cC, oC) :: (cF, oF) :: (cN, oN) :: (cB, oB) :: (cT, oT) :: (331, tabObj ps) :: (d, o) :: (c, oc) :: big)) (hDO : KeyOff cT cB cN cF cC cS cW d) (hCO : KeyOff cT cB cN cF cC cS cW c) (hdc : @Ne Nat d c) (hBO : BigOff cT cB cN cF cC cS cW d c big)
  (hT : oT.data = .cell (some (.ref d))) (hTI : TinAt prog w c o oc) (hlo : (d == sysModules) = false)
  (x : Addr) (bs ns : List Int) (cnt : Int) (hC : oC.data = .cell (some (.ref x))) (hCl : ClAt big x bs ns cnt) (hX : ClsX bs ns cnt) (vB : Option Value) (hB : oB.data = .cell vB)
  (hret : ∀ big' l ys k oB h' tk', (∀ q ∈ big, q ∈ big') → Fr h₀ L h' m → (∀ big, big = big' → News h₀ L h' ((cW, oW) :: (cS, oS) :: (cC, oC) :: (cF, oF) :: (cN, oN) :: (cB, oB) :: (cT, oT) :: (331, tabObj ps) :: (d, o) :: (c, oc) :: big)) → oB.data = .cell (some (.ref l)) → BigOff cT cB cN cF cC cS cW d c big' → (l, W.listOf ys.toArray k) ∈ big' → IntsAre ys (tabUp bs ns bs.length) → Q .next { s with heap := h', toks := tk' })
  :
  wpAny (model prog w) (ktrTop dp un gd (Str.ofString "law") ({ kind := PySem.ScopeKind.function, names := [(PySem.Str.ofString "script", PySem.NameKind.local), (PySem.Str.ofString "tin", PySem.NameKind.cell), (PySem.Str.ofString "table", PySem.NameKind.cell), (PySem.Str.ofString "number", PySem.NameKind.cell), (PySem.Str.ofString "firsts", PySem.NameKind.cell), (PySem.Str.ofString "due", PySem.NameKind.local), (PySem.Str.ofString "is_let", PySem.NameKind.local), (PySem.Str.ofString "signs", PySem.NameKind.local), (PySem.Str.ofString "text", PySem.NameKind.local), (PySem.Str.ofString "classes", PySem.NameKind.cell), (PySem.Str.ofString "some", PySem.NameKind.cell), (PySem.Str.ofString "word", PySem.NameKind.cell), (PySem.Str.ofString "_law_tin", PySem.NameKind.globalImplicit), (PySem.Str.ofString "Classes", PySem.NameKind.globalImplicit), (PySem.Str.ofString "_law_sets", PySem.NameKind.globalImplicit), (PySem.Str.ofString "_law_bit", PySem.NameKind.globalImplicit), (PySem.Str.ofString "range", PySem.NameKind.globalImplicit), (PySem.Str.ofString "_law_told", PySem.NameKind.globalImplicit)], isGenerator := false, isCoroutine := false, more := [(PySem.Str.ofString "fast", (PySem.Const.str "script")), (PySem.Str.ofString "fast", (PySem.Const.str "tin")), (PySem.Str.ofString "fast", (PySem.Const.str "table")), (PySem.Str.ofString "fast", (PySem.Const.str "number")), (PySem.Str.ofString "fast", (PySem.Const.str "firsts")), (PySem.Str.ofString "fast", (PySem.Const.str "turn")), (PySem.Str.ofString "fast", (PySem.Const.str "due")), (PySem.Str.ofString "fast", (PySem.Const.str "is_let")), (PySem.Str.ofString "fast", (PySem.Const.str "signs")), (PySem.Str.ofString "fast", (PySem.Const.str "code")), (PySem.Str.ofString "fast", (PySem.Const.str "text")), (PySem.Str.ofString "fast", (PySem.Const.str "classes")), (PySem.Str.ofString "fast", (PySem.Const.str "some")), (PySem.Str.ofString "fast", (PySem.Const.str "word"))] } : PySem.Scope) L fa (.ref 333) (lawCl cT cB cN cF cC cS cW) []) (exec (lawSt 3) (envX (Str.ofString "law") ({ kind := PySem.ScopeKind.function, names := [(PySem.Str.ofString "script", PySem.NameKind.local), (PySem.Str.ofString "tin", PySem.NameKind.cell), (PySem.Str.ofString "table", PySem.NameKind.cell), (PySem.Str.ofString "number", PySem.NameKind.cell), (PySem.Str.ofString "firsts", PySem.NameKind.cell), (PySem.Str.ofString "due", PySem.NameKind.local), (PySem.Str.ofString "is_let", PySem.NameKind.local), (PySem.Str.ofString "signs", PySem.NameKind.local), (PySem.Str.ofString "text", PySem.NameKind.local), (PySem.Str.ofString "classes", PySem.NameKind.cell), (PySem.Str.ofString "some", PySem.NameKind.cell), (PySem.Str.ofString "word", PySem.NameKind.cell), (PySem.Str.ofString "_law_tin", PySem.NameKind.globalImplicit), (PySem.Str.ofString "Classes", PySem.NameKind.globalImplicit), (PySem.Str.ofString "_law_sets", PySem.NameKind.globalImplicit), (PySem.Str.ofString "_law_bit", PySem.NameKind.globalImplicit), (PySem.Str.ofString "range", PySem.NameKind.globalImplicit), (PySem.Str.ofString "_law_told", PySem.NameKind.globalImplicit)], isGenerator := false, isCoroutine := false, more := [(PySem.Str.ofString "fast", (PySem.Const.str "script")), (PySem.Str.ofString "fast", (PySem.Const.str "tin")), (PySem.Str.ofString "fast", (PySem.Const.str "table")), (PySem.Str.ofString "fast", (PySem.Const.str "number")), (PySem.Str.ofString "fast", (PySem.Const.str "firsts")), (PySem.Str.ofString "fast", (PySem.Const.str "turn")), (PySem.Str.ofString "fast", (PySem.Const.str "due")), (PySem.Str.ofString "fast", (PySem.Const.str "is_let")), (PySem.Str.ofString "fast", (PySem.Const.str "signs")), (PySem.Str.ofString "fast", (PySem.Const.str "code")), (PySem.Str.ofString "fast", (PySem.Const.str "text")), (PySem.Str.ofString "fast", (PySem.Const.str "classes")), (PySem.Str.ofString "fast", (PySem.Const.str "some")), (PySem.Str.ofString "fast", (PySem.Const.str "word"))] } : PySem.Scope) L fa (.ref 333) (lawCl cT cB cN cF cC cS cW))) Q E s := by
  have hBO9 := hBO
  obtain ⟨q1, q2, q3, q4, q5, q6, q7⟩ := hCA
  obtain ⟨u0, u1, u2, u3, u4, u5, u6, u7⟩ := hDO
  obtain ⟨v0, v1, v2, v3, v4, v5, v6, v7⟩ := hCO
  obtain ⟨z0, z1, z2, z3, z4, z5, z6, z7, z8, z9⟩ := hBO
  obtain ⟨dx, lb, ln, bvs, nvs, y1, y2, y3, t1, t2, t3, t4, nd, kb, kn, hx, hdx, hlb, hln, hbI, hnI⟩ := hCl
  have hC9 := hX.ok
  show wpAny _ _ (exec (.Assign _ _ _) _) _ _ _
  k_steps
  unfold Stop
  k_dflt (apply table_base; (case B => k_asm); (case F => k_asm); (case X => k_asm); (case T => k_asm); (case hk => first | exact rfl | assumption); (case hdp => first | omega | ktr_room); (case hun => first | omega | units_room); (case N => exact N); (case hx => k_mem); (case hdx => k_mem); (case hlb => k_mem); (case hln => k_mem); (case hbI => exact hbI); (case hnI => exact hnI); (case hC => exact hC9))
  intro l ys k h1 tk1 F1 N1 l1 hys
  obtain ⟨N4, BO4⟩ := keys_ex (ex := [(l, W.listOf ys.toArray k)]) N1 (fun p hp q hq => by rw [List.mem_singleton.mp hp]; exact Ne.symm (Nat.ne_of_lt (l1 q hq))) hBO9
  clear N1 l1 z0 z1 z2 z3 z4 z5 z6 z7 z8 z9 N
  have hm : (l, W.listOf ys.toArray k) ∈ [(l, W.listOf ys.toArray k)] ++ big := List.mem_cons_self ..
  have hsub : ∀ q ∈ big, q ∈ [(l, W.listOf ys.toArray k)] ++ big := fun q hq => List.mem_cons_of_mem _ hq
  generalize [(l, W.listOf ys.toArray k)] ++ big = big2 at N4 BO4 hm hsub
  have BO5 := BO4
  obtain ⟨z0, z1, z2, z3, z4, z5, z6, z7, z8, z9⟩ := BO5
  k_steps
  (rename Fr _ _ _ _ => lF); (rename News _ _ _ _ => lN); (rename _ = Data.cell (some (Value.ref l)) => lD)
  exact hret big2 l ys k _ _ _ hsub lF (fun _ e => e ▸ lN) lD BO4 hm hys

set_option maxRecDepth 100000 in
set_option maxHeartbeats 8000000 in
theorem st4 {prog : Program} {w : World} {p : Program} {loose : List PySem.Str} {mean : ExcName → Option Value} {mg mb : PySem.Str → Option Value}
  (dp un : Nat) (gd : Option (List Code)) (fa : Addr) (A₀ : Around) (base h₀ : Heap) (L : Addr) (m : PySem.Str → Option Value) (s : Shared) (Q : Flow → Shared → Prop) (E : Value → Shared → Prop)
  (XB : (Mine.hd.heap_39 w.params).In base) (TB : Top p loose mean mg mb base) (B : Below A₀ base [] h₀) (F : Fr h₀ L s.heap m) (X : (Mine.hd.heap_39 w.params).In h₀) (T : Top p loose mean mg mb h₀) (hdp : dp ≤ 400) (hun : un ≤ 3000)
  (hCH : CodeHd h₀ 333 331)
  (cT cB cN cF cC cS cW : Addr) (oT oB oN oF oC oS oW : Obj) (hCA : CellsAt cT cB cN cF cC cS cW)
  (ps : Array Value) (d c : Addr) (o oc : Obj) (big : List (Addr × Obj)) (N : News h₀ L s.heap ((cW, oW) :: (cS, oS) :: (cC, oC) :: (cF, oF) :: (cN, oN) :: (cB, oB) :: (cT, oT) :: (331, tabObj ps) :: (d, o) :: (c, oc) :: big)) (hDO : KeyOff cT cB cN cF cC cS cW d) (hCO : KeyOff cT cB cN cF cC cS cW c) (hdc : @Ne Nat d c) (hBO : BigOff cT cB cN cF cC cS cW d c big)
  (hT : oT.data = .cell (some (.ref d))) (hTI : TinAt prog w c o oc) (hlo : (d == sysModules) = false)
  (x : Addr) (bs ns : List Int) (n : Nat) (hC : oC.data = .cell (some (.ref x))) (hCl : ClAt big x bs ns n) (hX : ClsX bs ns n) (lt : Addr) (tvs : List Value) (kt : Nat) (hB : oB.data = .cell (some (.ref lt))) (hlt : (lt, W.listOf tvs.toArray kt) ∈ big) (htI : IntsAre tvs (tabUp bs ns bs.length)) (vF : Option Value) (hF : oF.data = .cell vF)
  (hret : ∀ big' l ys k oF h' tk', (∀ q ∈ big, q ∈ big') → Fr h₀ L h' m → (∀ big, big = big' → News h₀ L h' ((cW, oW) :: (cS, oS) :: (cC, oC) :: (cF, oF) :: (cN, oN) :: (cB, oB) :: (cT, oT) :: (331, tabObj ps) :: (d, o) :: (c, oc) :: big)) → oF.data = .cell (some (.ref l)) → BigOff cT cB cN cF cC cS cW d c big' → (l, W.listOf ys.toArray k) ∈ big' → IntsAre ys (firstsUp (tabUp bs ns bs.length) n) → Q .next { s with heap := h', toks := tk' })
  :
  wpAny (model prog w) (ktrTop dp un gd (Str.ofString "law") ({ kind := PySem.ScopeKind.function, names := [(PySem.Str.ofString "script", PySem.NameKind.local), (PySem.Str.ofString "tin", PySem.NameKind.cell), (PySem.Str.ofString "table", PySem.NameKind.cell), (PySem.Str.ofString "number", PySem.NameKind.cell), (PySem.Str.ofString "firsts", PySem.NameKind.cell), (PySem.Str.ofString "due", PySem.NameKind.local), (PySem.Str.ofString "is_let", PySem.NameKind.local), (PySem.Str.ofString "signs", PySem.NameKind.local), (PySem.Str.ofString "text", PySem.NameKind.local), (PySem.Str.ofString "classes", PySem.NameKind.cell), (PySem.Str.ofString "some", PySem.NameKind.cell), (PySem.Str.ofString "word", PySem.NameKind.cell), (PySem.Str.ofString "_law_tin", PySem.NameKind.globalImplicit), (PySem.Str.ofString "Classes", PySem.NameKind.globalImplicit), (PySem.Str.ofString "_law_sets", PySem.NameKind.globalImplicit), (PySem.Str.ofString "_law_bit", PySem.NameKind.globalImplicit), (PySem.Str.ofString "range", PySem.NameKind.globalImplicit), (PySem.Str.ofString "_law_told", PySem.NameKind.globalImplicit)], isGenerator := false, isCoroutine := false, more := [(PySem.Str.ofString "fast", (PySem.Const.str "script")), (PySem.Str.ofString "fast", (PySem.Const.str "tin")), (PySem.Str.ofString "fast", (PySem.Const.str "table")), (PySem.Str.ofString "fast", (PySem.Const.str "number")), (PySem.Str.ofString "fast", (PySem.Const.str "firsts")), (PySem.Str.ofString "fast", (PySem.Const.str "turn")), (PySem.Str.ofString "fast", (PySem.Const.str "due")), (PySem.Str.ofString "fast", (PySem.Const.str "is_let")), (PySem.Str.ofString "fast", (PySem.Const.str "signs")), (PySem.Str.ofString "fast", (PySem.Const.str "code")), (PySem.Str.ofString "fast", (PySem.Const.str "text")), (PySem.Str.ofString "fast", (PySem.Const.str "classes")), (PySem.Str.ofString "fast", (PySem.Const.str "some")), (PySem.Str.ofString "fast", (PySem.Const.str "word"))] } : PySem.Scope) L fa (.ref 333) (lawCl cT cB cN cF cC cS cW) []) (exec (lawSt 4) (envX (Str.ofString "law") ({ kind := PySem.ScopeKind.function, names := [(PySem.Str.ofString "script", PySem.NameKind.local), (PySem.Str.ofString "tin", PySem.NameKind.cell), (PySem.Str.ofString "table", PySem.NameKind.cell), (PySem.Str.ofString "number", PySem.NameKind.cell), (PySem.Str.ofString "firsts", PySem.NameKind.cell), (PySem.Str.ofString "due", PySem.NameKind.local), (PySem.Str.ofString "is_let", PySem.NameKind.local), (PySem.Str.ofString "signs", PySem.NameKind.local), (PySem.Str.ofString "text", PySem.NameKind.local), (PySem.Str.ofString "classes", PySem.NameKind.cell), (PySem.Str.ofString "some", PySem.NameKind.cell), (PySem.Str.ofString "word", PySem.NameKind.cell), (PySem.Str.ofString "_law_tin", PySem.NameKind.globalImplicit), (PySem.Str.ofString "Classes", PySem.NameKind.globalImplicit), (PySem.Str.ofString "_law_sets", PySem.NameKind.globalImplicit), (PySem.Str.ofString "_law_bit", PySem.NameKind.globalImplicit), (PySem.Str.ofString "range", PySem.NameKind.globalImplicit), (PySem.Str.ofString "_law_told", PySem.NameKind.globalImplicit)], isGenerator := false, isCoroutine := false, more := [(PySem.Str.ofString "fast", (PySem.Const.str "script")), (PySem.Str.ofString "fast", (PySem.Const.str "tin")), (PySem.Str.ofString "fast", (PySem.Const.str "table")), (PySem.Str.ofString "fast", (PySem.Const.str "number")), (PySem.Str.ofString "fast", (PySem.Const.str "firsts")), (PySem.Str.ofString "fast", (PySem.Const.str "turn")), (PySem.Str.ofString "fast", (PySem.Const.str "due")), (PySem.Str.ofString "fast", (PySem.Const.str "is_let")), (PySem.Str.ofString "fast", (PySem.Const.str "signs")), (PySem.Str.ofString "fast", (PySem.Const.str "code")), (PySem.Str.ofString "fast", (PySem.Const.str "text")), (PySem.Str.ofString "fast", (PySem.Const.str "classes")), (PySem.Str.ofString "fast", (PySem.Const.str "some")), (PySem.Str.ofString "fast", (PySem.Const.str "word"))] } : PySem.Scope) L fa (.ref 333) (lawCl cT cB cN cF cC cS cW))) Q E s := by
  have hBO9 := hBO
  obtain ⟨q1, q2, q3, q4, q5, q6, q7⟩ := hCA
  obtain ⟨u0, u1, u2, u3, u4, u5, u6, u7⟩ := hDO
  obtain ⟨v0, v1, v2, v3, v4, v5, v6, v7⟩ := hCO
  obtain ⟨z0, z1, z2, z3, z4, z5, z6, z7, z8, z9⟩ := hBO
  obtain ⟨dx, lb, ln, bvs, nvs, y1, y2, y3, t1, t2, t3, t4, nd, kb, kn, hx, hdx, hlb, hln, hbI, hnI⟩ := hCl
  have hC9 := hX.ok
  have h64 := hC9.c64
  show wpAny _ _ (exec (.Assign _ _ _) _) _ _ _
  k_steps
  unfold Stop
  (rename Fr _ _ _ _ => lF0)
  refine LCg.ListComp_U (F₀ := lF0) (by with_unfolding_all rfl) (by decide) (by rfl) (by decide) (by rfl) ?_
  (try k_unmd)
  k_steps
  (rename Fr _ _ _ _ => lF); (rename News _ _ _ _ => lN); (rename IsRange _ _ _ _ _ _ _ _ => lR)
  unfold Stop
  refine LCg.CompSrc.range (n := n) (by rfl) lF lN lR (rs_small (by omega)) (rs_nat _) (by rw [sizeLine_eq]; omega) ?_
  intro g
  refine compRest_inv (n := n) (fun i ys nx => nx = _ ∧ IntsAre ys (firstsUp (tabUp bs ns bs.length) i)) ?turn ?fin _ 0 [] _ (Nat.zero_add _) ⟨rfl, .nil⟩
  case turn =>
    rintro i v ys nx I oI C oK D m₂ h tk E' hi ⟨tv, rfl⟩ ⟨rfl, hys⟩ hC2 hx2 F2 N2 hoff hne
    rw [Int.zero_add] at hx2
    have hmem := tab_has hC9 (k := (i : Int)) (by omega) (by omega)
    have hrng := fun k hk => let z := tab_rng hC9 k hk; (⟨z.1, by omega⟩ : 0 ≤ k ∧ k < 1024)
    have htl := tabUp_len_le hC9 bs.length (Nat.le_refl _)
    k_steps
    (rename Fr _ _ _ _ => lF9); (rename News _ _ _ _ => lN9)
    refine LCg.CompEnd.intro lF9 lN9 _ (fun p hp => hp) hoff trivial ⟨rfl, ?_⟩
    rw [firstsUp_succ]
    exact hys.append (.cons _ _ .nil)
  case fin =>
    rintro ys nx ⟨rfl, hys⟩
    intro D h tk F2 N2 hoff
    clear lF lN lR
    obtain ⟨N4, BO4⟩ := keys_ex (ex := [(D, LCg.lst ys)]) N2 (fun p hp q hq => by rw [List.mem_singleton.mp hp]; exact Ne.symm (off_of1 hoff q hq)) hBO9
    clear N2 hoff z0 z1 z2 z3 z4 z5 z6 z7 z8 z9
    have hm : (D, LCg.lst ys) ∈ [(D, LCg.lst ys)] ++ big := List.mem_cons_self ..
    have hsub : ∀ q ∈ big, q ∈ [(D, LCg.lst ys)] ++ big := fun q hq => List.mem_cons_of_mem _ hq
    generalize [(D, LCg.lst ys)] ++ big = big2 at N4 BO4 hm hsub
    have BO5 := BO4
    obtain ⟨z0, z1, z2, z3, z4, z5, z6, z7, z8, z9⟩ := BO5
    dsimp only
    (try k_unmd)
    k_steps
    (rename Fr _ _ _ _ => lF); (rename News _ _ _ _ => lN); (rename _ = Data.cell (some (Value.ref D)) => lD)
    exact hret big2 D ys ys.length _ _ _ hsub lF (fun _ e => e ▸ lN) lD BO4 hm hys

set_option maxRecDepth 100000 in
set_option maxHeartbeats 8000000 in
theorem st5 {prog : Program} {w : World} {p : Program} {loose : List PySem.Str} {mean : ExcName → Option Value} {mg mb : PySem.Str → Option Value}
  (dp un : Nat) (gd : Option (List Code)) (fa : Addr) (A₀ : Around) (base h₀ : Heap) (L : Addr) (m : PySem.Str → Option Value) (s : Shared) (Q : Flow → Shared → Prop) (E : Value → Shared → Prop)
  (XB : (Mine.hd.heap_39 w.params).In base) (TB : Top p loose mean mg mb base) (B : Below A₀ base [] h₀) (F : Fr h₀ L s.heap m) (X : (Mine.hd.heap_39 w.params).In h₀) (T : Top p loose mean mg mb h₀) (hdp : dp ≤ 400) (hun : un ≤ 3000)
  (hCH : CodeHd h₀ 333 331)
  (cT cB cN cF cC cS cW : Addr) (oT oB oN oF oC oS oW : Obj) (hCA : CellsAt cT cB cN cF cC cS cW)
  (ps : Array Value) (d c : Addr) (o oc : Obj) (big : List (Addr × Obj)) (N : News h₀ L s.heap ((cW, oW) :: (cS, oS) :: (cC, oC) :: (cF, oF) :: (cN, oN) :: (cB, oB) :: (cT, oT) :: (331, tabObj ps) :: (d, o) :: (c, oc) :: big)) (hDO : KeyOff cT cB cN cF cC cS cW d) (hCO : KeyOff cT cB cN cF cC cS cW c) (hdc : @Ne Nat d c) (hBO : BigOff cT cB cN cF cC cS cW d c big)
  (hT : oT.data = .cell (some (.ref d))) (hTI : TinAt prog w c o oc) (hlo : (d == sysModules) = false)
  (x : Addr) (bs ns : List Int) (n : Nat) (hC : oC.data = .cell (some (.ref x))) (hCl : ClAt big x bs ns n) (hX : ClsX bs ns n) (vS : Option Value) (hS : oS.data = .cell vS)
  (hret : ∀ big' l ys zs k o oc oS h' tk', (∀ q ∈ big, q ∈ big') → Fr h₀ L h' m → (∀ big, big = big' → News h₀ L h' ((cW, oW) :: (cS, oS) :: (cC, oC) :: (cF, oF) :: (cN, oN) :: (cB, oB) :: (cT, oT) :: (331, tabObj ps) :: (d, o) :: (c, oc) :: big)) → oS.data = .cell (some (.ref l)) → TinAt prog w c o oc → BigOff cT cB cN cF cC cS cW d c big' → (l, W.listOf ys.toArray k) ∈ big' → IntsAre ys zs → zs.length ≤ 6 → Q .next { s with heap := h', toks := tk' })
  :
  wpAny (model prog w) (ktrTop dp un gd (Str.ofString "law") ({ kind := PySem.ScopeKind.function, names := [(PySem.Str.ofString "script", PySem.NameKind.local), (PySem.Str.ofString "tin", PySem.NameKind.cell), (PySem.Str.ofString "table", PySem.NameKind.cell), (PySem.Str.ofString "number", PySem.NameKind.cell), (PySem.Str.ofString "firsts", PySem.NameKind.cell), (PySem.Str.ofString "due", PySem.NameKind.local), (PySem.Str.ofString "is_let", PySem.NameKind.local), (PySem.Str.ofString "signs", PySem.NameKind.local), (PySem.Str.ofString "text", PySem.NameKind.local), (PySem.Str.ofString "classes", PySem.NameKind.cell), (PySem.Str.ofString "some", PySem.NameKind.cell), (PySem.Str.ofString "word", PySem.NameKind.cell), (PySem.Str.ofString "_law_tin", PySem.NameKind.globalImplicit), (PySem.Str.ofString "Classes", PySem.NameKind.globalImplicit), (PySem.Str.ofString "_law_sets", PySem.NameKind.globalImplicit), (PySem.Str.ofString "_law_bit", PySem.NameKind.globalImplicit), (PySem.Str.ofString "range", PySem.NameKind.globalImplicit), (PySem.Str.ofString "_law_told", PySem.NameKind.globalImplicit)], isGenerator := false, isCoroutine := false, more := [(PySem.Str.ofString "fast", (PySem.Const.str "script")), (PySem.Str.ofString "fast", (PySem.Const.str "tin")), (PySem.Str.ofString "fast", (PySem.Const.str "table")), (PySem.Str.ofString "fast", (PySem.Const.str "number")), (PySem.Str.ofString "fast", (PySem.Const.str "firsts")), (PySem.Str.ofString "fast", (PySem.Const.str "turn")), (PySem.Str.ofString "fast", (PySem.Const.str "due")), (PySem.Str.ofString "fast", (PySem.Const.str "is_let")), (PySem.Str.ofString "fast", (PySem.Const.str "signs")), (PySem.Str.ofString "fast", (PySem.Const.str "code")), (PySem.Str.ofString "fast", (PySem.Const.str "text")), (PySem.Str.ofString "fast", (PySem.Const.str "classes")), (PySem.Str.ofString "fast", (PySem.Const.str "some")), (PySem.Str.ofString "fast", (PySem.Const.str "word"))] } : PySem.Scope) L fa (.ref 333) (lawCl cT cB cN cF cC cS cW) []) (exec (lawSt 5) (envX (Str.ofString "law") ({ kind := PySem.ScopeKind.function, names := [(PySem.Str.ofString "script", PySem.NameKind.local), (PySem.Str.ofString "tin", PySem.NameKind.cell), (PySem.Str.ofString "table", PySem.NameKind.cell), (PySem.Str.ofString "number", PySem.NameKind.cell), (PySem.Str.ofString "firsts", PySem.NameKind.cell), (PySem.Str.ofString "due", PySem.NameKind.local), (PySem.Str.ofString "is_let", PySem.NameKind.local), (PySem.Str.ofString "signs", PySem.NameKind.local), (PySem.Str.ofString "text", PySem.NameKind.local), (PySem.Str.ofString "classes", PySem.NameKind.cell), (PySem.Str.ofString "some", PySem.NameKind.cell), (PySem.Str.ofString "word", PySem.NameKind.cell), (PySem.Str.ofString "_law_tin", PySem.NameKind.globalImplicit), (PySem.Str.ofString "Classes", PySem.NameKind.globalImplicit), (PySem.Str.ofString "_law_sets", PySem.NameKind.globalImplicit), (PySem.Str.ofString "_law_bit", PySem.NameKind.globalImplicit), (PySem.Str.ofString "range", PySem.NameKind.globalImplicit), (PySem.Str.ofString "_law_told", PySem.NameKind.globalImplicit)], isGenerator := false, isCoroutine := false, more := [(PySem.Str.ofString "fast", (PySem.Const.str "script")), (PySem.Str.ofString "fast", (PySem.Const.str "tin")), (PySem.Str.ofString "fast", (PySem.Const.str "table")), (PySem.Str.ofString "fast", (PySem.Const.str "number")), (PySem.Str.ofString "fast", (PySem.Const.str "firsts")), (PySem.Str.ofString "fast", (PySem.Const.str "turn")), (PySem.Str.ofString "fast", (PySem.Const.str "due")), (PySem.Str.ofString "fast", (PySem.Const.str "is_let")), (PySem.Str.ofString "fast", (PySem.Const.str "signs")), (PySem.Str.ofString "fast", (PySem.Const.str "code")), (PySem.Str.ofString "fast", (PySem.Const.str "text")), (PySem.Str.ofString "fast", (PySem.Const.str "classes")), (PySem.Str.ofString "fast", (PySem.Const.str "some")), (PySem.Str.ofString "fast", (PySem.Const.str "word"))] } : PySem.Scope) L fa (.ref 333) (lawCl cT cB cN cF cC cS cW))) Q E s := by
  have hBO9 := hBO
  obtain ⟨q1, q2, q3, q4, q5, q6, q7⟩ := hCA
  obtain ⟨u0, u1, u2, u3, u4, u5, u6, u7⟩ := hDO
  obtain ⟨v0, v1, v2, v3, v4, v5, v6, v7⟩ := hCO
  obtain ⟨z0, z1, z2, z3, z4, z5, z6, z7, z8, z9⟩ := hBO
  obtain ⟨dx, lb, ln, bvs, nvs, y1, y2, y3, t1, t2, t3, t4, nd, kb, kn, hx, hdx, hlb, hln, hbI, hnI⟩ := hCl
  have hC9 := hX.ok
  have h64 := hC9.c64
  show wpAny _ _ (exec (.Assign _ _ _) _) _ _ _
  k_steps
  unfold Stop
  (rename Fr _ _ _ _ => lF0)
  refine LCg.ListComp_U (F₀ := lF0) (by with_unfolding_all rfl) (by decide) (by rfl) (by decide) (by rfl) ?_
  (try k_unmd)
  k_steps
  (unfold Stop; (k_dflt (apply bit_gen; (case B => k_asm); (case F => k_asm); (case X => k_asm); (case T => k_asm); (case hk => first | exact rfl | assumption); (case hdp => first | omega | ktr_room); (case hun => first | omega | units_room))); (case N => k_asm); (case U1 => k_updF); (case ht => assumption); (case U2 => (intro o9; k_updF)); (case lo => assumption); (case hdc => k_ne); (case h0 => omega); (case h1 => omega))
  intro dg9 t9 h9 tk9 o9 oc9 F9 N9 T9 d9 e9
  (try dsimp only at N9)
  obtain ⟨r, rfl⟩ := Int.eq_ofNat_of_zero_le d9
  k_steps
  (rename Fr _ _ _ _ => lF); (rename News _ _ _ _ => lN); (rename IsRange _ _ _ _ _ _ _ _ => lR)
  unfold Stop
  refine LCg.CompSrc.range (n := r) (by rfl) lF lN lR (rs_small (by omega)) (rs_nat _) (by rw [sizeLine_eq]; omega) ?_
  intro g
  refine compRest_inv (n := r) (fun i ys nx => ∃ o oc zs, nx = (cW, _) :: (cS, _) :: (cC, _) :: (cF, _) :: (cN, _) :: (cB, _) :: (cT, _) :: (331, tabObj ps) :: (d, o) :: (c, oc) :: big ∧ TinAt prog w c o oc ∧ IntsAre ys zs ∧ zs.length = i) ?turn ?fin _ 0 [] _ (Nat.zero_add _) ⟨_, _, [], rfl, T9, .nil, rfl⟩
  case turn =>
    clear lF lN lR T9 d9 e9
    rintro i v ys nx I oI C oK D m₂ h tk E' hi ⟨tv, rfl⟩ ⟨o, oc, zs, rfl, T9, hys, hzl⟩ hC2 hx2 F2 N2 hoff hne
    have g1 := LCg.Off3.mem hoff (d, o) (by simp)
    have g2 := LCg.Off3.mem hoff (c, oc) (by simp)
    have g1a : @Ne Nat d I := g1.1
    have g1b : @Ne Nat d C := g1.2.1
    have g1c : @Ne Nat d D := g1.2.2
    have g2a : @Ne Nat c I := g2.1
    have g2b : @Ne Nat c C := g2.2.1
    have g2c : @Ne Nat c D := g2.2.2
    clear g1 g2
    k_steps
    (unfold Stop; (k_dflt (apply bit_gen; (case B => k_asm); (case F => k_asm); (case X => k_asm); (case T => k_asm); (case hk => first | exact rfl | assumption); (case hdp => first | omega | ktr_room); (case hun => first | omega | units_room))); (case N => k_asm); (case U1 => k_updF); (case ht => assumption); (case U2 => (intro o9; k_updF)); (case lo => assumption); (case hdc => k_ne); (case h0 => omega); (case h1 => omega))
    intro dg9 t9 h9 tk9 o9 oc9 F9 N9 T9 d9 e9
    (try dsimp only at N9)
    k_steps
    (unfold Stop; (k_dflt (apply bit_gen; (case B => k_asm); (case F => k_asm); (case X => k_asm); (case T => k_asm); (case hk => first | exact rfl | assumption); (case hdp => first | omega | ktr_room); (case hun => first | omega | units_room))); (case N => k_asm); (case U1 => k_updF); (case ht => assumption); (case U2 => (intro o9; k_updF)); (case lo => assumption); (case hdc => k_ne); (case h0 => omega); (case h1 => omega))
    intro dg8 t8 h8 tk8 o8 oc8 F8 N8 T8 d8 e8
    (try dsimp only at N8)
    k_steps
    refine LCg.CompEnd.intro F8 N8 ((cW, _) :: (cS, _) :: (cC, _) :: (cF, _) :: (cN, _) :: (cB, _) :: (cT, _) :: (331, tabObj ps) :: (d, _) :: (c, _) :: big) (fun p hp => List.mem_cons_of_mem _ hp) hoff trivial ⟨_, _, zs ++ [_], rfl, T8, hys.append (.cons _ _ .nil), ?_⟩
    rw [List.length_append, hzl]; rfl
  case fin =>
    rintro ys nx ⟨o, oc, zs, rfl, T9, hys, hzl⟩
    intro D h tk F2 N2 hoff
    clear lF lN lR
    obtain ⟨N4, BO4⟩ := keys_ex (ex := [(D, LCg.lst ys)]) N2 (fun p hp q hq => by rw [List.mem_singleton.mp hp]; exact Ne.symm (off_of1 hoff q hq)) hBO9
    clear N2 hoff z0 z1 z2 z3 z4 z5 z6 z7 z8 z9
    have hm : (D, LCg.lst ys) ∈ [(D, LCg.lst ys)] ++ big := List.mem_cons_self ..
    have hsub : ∀ q ∈ big, q ∈ [(D, LCg.lst ys)] ++ big := fun q hq => List.mem_cons_of_mem _ hq
    generalize [(D, LCg.lst ys)] ++ big = big2 at N4 BO4 hm hsub
    have BO5 := BO4
    obtain ⟨z0, z1, z2, z3, z4, z5, z6, z7, z8, z9⟩ := BO5
    dsimp only
    (try k_unmd)
    k_steps
    (rename Fr _ _ _ _ => lF); (rename News _ _ _ _ => lN); (rename _ = Data.cell (some (Value.ref D)) => lD)
    exact hret big2 D ys zs ys.length _ _ _ _ _ hsub lF (fun _ e => e ▸ lN) lD T9 BO4 hm hys (by omega)

section
local macro_rules | `(tactic| walk_at "exec For Name BinOp cons nil") => `(tactic| (k_here; k_dflt (refine wpAny_For ?_ (by intro _; rfl))))
local macro_rules | `(tactic| walk_at "pyIter ref") => `(tactic| (k_here; k_dflt (refine Stop.out ?_)))
set_option maxRecDepth 100000 in
set_option maxHeartbeats 8000000 in
theorem st6 {prog : Program} {w : World} {p : Program} {loose : List PySem.Str} {mean : ExcName → Option Value} {mg mb : PySem.Str → Option Value}
  (dp un : Nat) (gd : Option (List Code)) (fa : Addr) (A₀ : Around) (base h₀ : Heap) (L : Addr) (m : PySem.Str → Option Value) (s : Shared) (Q : Flow → Shared → Prop) (E : Value → Shared → Prop)
  (XB : (Mine.hd.heap_39 w.params).In base) (TB : Top p loose mean mg mb base) (B : Below A₀ base [] h₀) (F : Fr h₀ L s.heap m) (X : (Mine.hd.heap_39 w.params).In h₀) (T : Top p loose mean mg mb h₀) (hdp : dp ≤ 400) (hun : un ≤ 3000)
  (hCH : CodeHd h₀ 333 331)
  (cT cB cN cF cC cS cW : Addr) (oT oB oN oF oC oS oW : Obj) (hCA : CellsAt cT cB cN cF cC cS cW)
  (d c : Addr) (o oc : Obj) (big : List (Addr × Obj)) (N : News h₀ L s.heap ((cW, oW) :: (cS, oS) :: (cC, oC) :: (cF, oF) :: (cN, oN) :: (cB, oB) :: (cT, oT) :: (331, tabObj #[]) :: (d, o) :: (c, oc) :: big)) (hDO : KeyOff cT cB cN cF cC cS cW d) (hCO : KeyOff cT cB cN cF cC cS cW c) (hdc : @Ne Nat d c) (hBO : BigOff cT cB cN cF cC cS cW d c big)
  (x : Addr) (bs ns : List Int) (n : Nat) (hC : oC.data = .cell (some (.ref x))) (hCl : ClAt big x bs ns n) (hX : ClsX bs ns n)
  (lf : Addr) (fvs : List Value) (kf : Nat) (hF : oF.data = .cell (some (.ref lf))) (hlf : (lf, W.listOf fvs.toArray kf) ∈ big) (hfI : IntsAre fvs (firstsUp (tabUp bs ns bs.length) n))
  (ls : Addr) (svs : List Value) (zs : List Int) (ks : Nat) (hS : oS.data = .cell (some (.ref ls))) (hls : (ls, W.listOf svs.toArray ks) ∈ big) (hsI : IntsAre svs zs) (hz6 : zs.length ≤ 6)
  (vN : Option Value) (hN : oN.data = .cell vN) 
  (hret : ∀ c' big' oN v h' tk' m', (∀ q ∈ big, q ∈ big') → Fr h₀ L h' m' → News h₀ L h' ((cW, oW) :: (cS, oS) :: (cC, oC) :: (cF, oF) :: (cN, oN) :: (cB, oB) :: (cT, oT) :: (331, tabObj (#[] ++ #[rawInt 219, rawInt 21, .ref c'])) :: (d, o) :: (c, oc) :: big') → oN.data = .cell v → BigOff cT cB cN cF cC cS cW d c big' → Q .next { s with heap := h', toks := tk' })
  (hE : PassesOwn (model prog w) (ktrTop dp un gd (Str.ofString "law") ({ kind := PySem.ScopeKind.function, names := [(PySem.Str.ofString "script", PySem.NameKind.local), (PySem.Str.ofString "tin", PySem.NameKind.cell), (PySem.Str.ofString "table", PySem.NameKind.cell), (PySem.Str.ofString "number", PySem.NameKind.cell), (PySem.Str.ofString "firsts", PySem.NameKind.cell), (PySem.Str.ofString "due", PySem.NameKind.local), (PySem.Str.ofString "is_let", PySem.NameKind.local), (PySem.Str.ofString "signs", PySem.NameKind.local), (PySem.Str.ofString "text", PySem.NameKind.local), (PySem.Str.ofString "classes", PySem.NameKind.cell), (PySem.Str.ofString "some", PySem.NameKind.cell), (PySem.Str.ofString "word", PySem.NameKind.cell), (PySem.Str.ofString "_law_tin", PySem.NameKind.globalImplicit), (PySem.Str.ofString "Classes", PySem.NameKind.globalImplicit), (PySem.Str.ofString "_law_sets", PySem.NameKind.globalImplicit), (PySem.Str.ofString "_law_bit", PySem.NameKind.globalImplicit), (PySem.Str.ofString "range", PySem.NameKind.globalImplicit), (PySem.Str.ofString "_law_told", PySem.NameKind.globalImplicit)], isGenerator := false, isCoroutine := false, more := [(PySem.Str.ofString "fast", (PySem.Const.str "script")), (PySem.Str.ofString "fast", (PySem.Const.str "tin")), (PySem.Str.ofString "fast", (PySem.Const.str "table")), (PySem.Str.ofString "fast", (PySem.Const.str "number")), (PySem.Str.ofString "fast", (PySem.Const.str "firsts")), (PySem.Str.ofString "fast", (PySem.Const.str "turn")), (PySem.Str.ofString "fast", (PySem.Const.str "due")), (PySem.Str.ofString "fast", (PySem.Const.str "is_let")), (PySem.Str.ofString "fast", (PySem.Const.str "signs")), (PySem.Str.ofString "fast", (PySem.Const.str "code")), (PySem.Str.ofString "fast", (PySem.Const.str "text")), (PySem.Str.ofString "fast", (PySem.Const.str "classes")), (PySem.Str.ofString "fast", (PySem.Const.str "some")), (PySem.Str.ofString "fast", (PySem.Const.str "word"))] } : PySem.Scope) L fa (.ref 333) (lawCl cT cB cN cF cC cS cW) []) (envX (Str.ofString "law") ({ kind := PySem.ScopeKind.function, names := [(PySem.Str.ofString "script", PySem.NameKind.local), (PySem.Str.ofString "tin", PySem.NameKind.cell), (PySem.Str.ofString "table", PySem.NameKind.cell), (PySem.Str.ofString "number", PySem.NameKind.cell), (PySem.Str.ofString "firsts", PySem.NameKind.cell), (PySem.Str.ofString "due", PySem.NameKind.local), (PySem.Str.ofString "is_let", PySem.NameKind.local), (PySem.Str.ofString "signs", PySem.NameKind.local), (PySem.Str.ofString "text", PySem.NameKind.local), (PySem.Str.ofString "classes", PySem.NameKind.cell), (PySem.Str.ofString "some", PySem.NameKind.cell), (PySem.Str.ofString "word", PySem.NameKind.cell), (PySem.Str.ofString "_law_tin", PySem.NameKind.globalImplicit), (PySem.Str.ofString "Classes", PySem.NameKind.globalImplicit), (PySem.Str.ofString "_law_sets", PySem.NameKind.globalImplicit), (PySem.Str.ofString "_law_bit", PySem.NameKind.globalImplicit), (PySem.Str.ofString "range", PySem.NameKind.globalImplicit), (PySem.Str.ofString "_law_told", PySem.NameKind.globalImplicit)], isGenerator := false, isCoroutine := false, more := [(PySem.Str.ofString "fast", (PySem.Const.str "script")), (PySem.Str.ofString "fast", (PySem.Const.str "tin")), (PySem.Str.ofString "fast", (PySem.Const.str "table")), (PySem.Str.ofString "fast", (PySem.Const.str "number")), (PySem.Str.ofString "fast", (PySem.Const.str "firsts")), (PySem.Str.ofString "fast", (PySem.Const.str "turn")), (PySem.Str.ofString "fast", (PySem.Const.str "due")), (PySem.Str.ofString "fast", (PySem.Const.str "is_let")), (PySem.Str.ofString "fast", (PySem.Const.str "signs")), (PySem.Str.ofString "fast", (PySem.Const.str "code")), (PySem.Str.ofString "fast", (PySem.Const.str "text")), (PySem.Str.ofString "fast", (PySem.Const.str "classes")), (PySem.Str.ofString "fast", (PySem.Const.str "some")), (PySem.Str.ofString "fast", (PySem.Const.str "word"))] } : PySem.Scope) L fa (.ref 333) (lawCl cT cB cN cF cC cS cW)) E)
  :
  wpAny (model prog w) (ktrTop dp un gd (Str.ofString "law") ({ kind := PySem.ScopeKind.function, names := [(PySem.Str.ofString "script", PySem.NameKind.local), (PySem.Str.ofString "tin", PySem.NameKind.cell), (PySem.Str.ofString "table", PySem.NameKind.cell), (PySem.Str.ofString "number", PySem.NameKind.cell), (PySem.Str.ofString "firsts", PySem.NameKind.cell), (PySem.Str.ofString "due", PySem.NameKind.local), (PySem.Str.ofString "is_let", PySem.NameKind.local), (PySem.Str.ofString "signs", PySem.NameKind.local), (PySem.Str.ofString "text", PySem.NameKind.local), (PySem.Str.ofString "classes", PySem.NameKind.cell), (PySem.Str.ofString "some", PySem.NameKind.cell), (PySem.Str.ofString "word", PySem.NameKind.cell), (PySem.Str.ofString "_law_tin", PySem.NameKind.globalImplicit), (PySem.Str.ofString "Classes", PySem.NameKind.globalImplicit), (PySem.Str.ofString "_law_sets", PySem.NameKind.globalImplicit), (PySem.Str.ofString "_law_bit", PySem.NameKind.globalImplicit), (PySem.Str.ofString "range", PySem.NameKind.globalImplicit), (PySem.Str.ofString "_law_told", PySem.NameKind.globalImplicit)], isGenerator := false, isCoroutine := false, more := [(PySem.Str.ofString "fast", (PySem.Const.str "script")), (PySem.Str.ofString "fast", (PySem.Const.str "tin")), (PySem.Str.ofString "fast", (PySem.Const.str "table")), (PySem.Str.ofString "fast", (PySem.Const.str "number")), (PySem.Str.ofString "fast", (PySem.Const.str "firsts")), (PySem.Str.ofString "fast", (PySem.Const.str "turn")), (PySem.Str.ofString "fast", (PySem.Const.str "due")), (PySem.Str.ofString "fast", (PySem.Const.str "is_let")), (PySem.Str.ofString "fast", (PySem.Const.str "signs")), (PySem.Str.ofString "fast", (PySem.Const.str "code")), (PySem.Str.ofString "fast", (PySem.Const.str "text")), (PySem.Str.ofString "fast", (PySem.Const.str "classes")), (PySem.Str.ofString "fast", (PySem.Const.str "some")), (PySem.Str.ofString "fast", (PySem.Const.str "word"))] } : PySem.Scope) L fa (.ref 333) (lawCl cT cB cN cF cC cS cW) []) (exec (lawSt 6) (envX (Str.ofString "law") ({ kind := PySem.ScopeKind.function, names := [(PySem.Str.ofString "script", PySem.NameKind.local), (PySem.Str.ofString "tin", PySem.NameKind.cell), (PySem.Str.ofString "table", PySem.NameKind.cell), (PySem.Str.ofString "number", PySem.NameKind.cell), (PySem.Str.ofString "firsts", PySem.NameKind.cell), (PySem.Str.ofString "due", PySem.NameKind.local), (PySem.Str.ofString "is_let", PySem.NameKind.local), (PySem.Str.ofString "signs", PySem.NameKind.local), (PySem.Str.ofString "text", PySem.NameKind.local), (PySem.Str.ofString "classes", PySem.NameKind.cell), (PySem.Str.ofString "some", PySem.NameKind.cell), (PySem.Str.ofString "word", PySem.NameKind.cell), (PySem.Str.ofString "_law_tin", PySem.NameKind.globalImplicit), (PySem.Str.ofString "Classes", PySem.NameKind.globalImplicit), (PySem.Str.ofString "_law_sets", PySem.NameKind.globalImplicit), (PySem.Str.ofString "_law_bit", PySem.NameKind.globalImplicit), (PySem.Str.ofString "range", PySem.NameKind.globalImplicit), (PySem.Str.ofString "_law_told", PySem.NameKind.globalImplicit)], isGenerator := false, isCoroutine := false, more := [(PySem.Str.ofString "fast", (PySem.Const.str "script")), (PySem.Str.ofString "fast", (PySem.Const.str "tin")), (PySem.Str.ofString "fast", (PySem.Const.str "table")), (PySem.Str.ofString "fast", (PySem.Const.str "number")), (PySem.Str.ofString "fast", (PySem.Const.str "firsts")), (PySem.Str.ofString "fast", (PySem.Const.str "turn")), (PySem.Str.ofString "fast", (PySem.Const.str "due")), (PySem.Str.ofString "fast", (PySem.Const.str "is_let")), (PySem.Str.ofString "fast", (PySem.Const.str "signs")), (PySem.Str.ofString "fast", (PySem.Const.str "code")), (PySem.Str.ofString "fast", (PySem.Const.str "text")), (PySem.Str.ofString "fast", (PySem.Const.str "classes")), (PySem.Str.ofString "fast", (PySem.Const.str "some")), (PySem.Str.ofString "fast", (PySem.Const.str "word"))] } : PySem.Scope) L fa (.ref 333) (lawCl cT cB cN cF cC cS cW))) Q E s := by
  have hBO9 := hBO
  have hCA9 := hCA
  obtain ⟨q1, q2, q3, q4, q5, q6, q7⟩ := hCA
  obtain ⟨u0, u1, u2, u3, u4, u5, u6, u7⟩ := hDO
  obtain ⟨v0, v1, v2, v3, v4, v5, v6, v7⟩ := hCO
  obtain ⟨z0, z1, z2, z3, z4, z5, z6, z7, z8, z9⟩ := hBO
  obtain ⟨dx, lb, ln, bvs, nvs, y1, y2, y3, t1, t2, t3, t4, nd, kb, kn, hx, hdx, hlb, hln, hbI, hnI⟩ := hCl
  have hC9 := hX.ok
  have h64 := hC9.c64
  show wpAny _ _ (exec (.For _ _ _ _ _) _) _ _ _
  k_steps
  (rename Fr _ _ _ _ => lF); (rename News _ _ _ _ => lN); (rename _ ∧ _ ∧ _ ∧ _ ∧ _ ∧ _ ∧ _ ∧ _ ∧ _ ∧ _ ∧ _ ∧ AllLt _ big => l1); (rename IntsAre _ (_ ++ _) => lI)
  obtain ⟨tl, N6, m1, m2, m3, m4, w1, w2, w3, w4, w5⟩ := st6_led lN l1 q1 q2 q3 q4 q5 q6 q7 ⟨u0, u1, u2, u3, u4, u5, u6, u7⟩ ⟨v0, v1, v2, v3, v4, v5, v6, v7⟩ hBO9
  have q331 : @Ne Nat 331 cN := Nat.ne_of_lt (by omega)
  clear lN l1 u0 u1 u2 u3 u4 u5 u6 u7 v0 v1 v2 v3 v4 v5 v6 v7 z0 z1 z2 z3 z4 z5 z6 z7 z8 z9 q1 q2 q3 q4 q5 q6 q7
  have lIl := lI.length
  rw [List.length_append] at lIl
  unfold Stop
  refine list_loopC [_] (fun i m nx => ∃ ps tl', nx = (331, tabObj ps) :: tl' ∧ (∀ q ∈ tl, q ∈ tl') ∧ (∀ q ∈ tl', @Ne Nat q.1 331) ∧ (∀ q ∈ tl', @Ne Nat q.1 cN) ∧ ((i = 0 ∧ ps = #[]) ∨ (∃ c' ocd vs t, ps = #[] ++ #[rawInt 219, rawInt 21, .ref c'] ∧ (c', ocd) ∈ tl' ∧ ocd.data = .fields vs ∧ vs[1]? = some (.str (Str.ofString "law.<locals>.<lambda>") t))))
    rfl rfl rfl rfl (Or.inr ⟨_, List.mem_cons_self .., rfl, _, rfl⟩) lF N6 hN ?hsn ⟨#[], tl, rfl, fun _ h => h, w3, w2, .inl ⟨rfl, rfl⟩⟩ ?hoffc ?turn ?done hE
  case hsn =>
    intro p hp q hq
    rw [List.mem_singleton.mp hq]
    rcases List.mem_cons.mp hp with rfl | hp
    · exact w4
    · rcases List.mem_cons.mp hp with rfl | hp
      · exact w5
      · exact w1 p hp
  case hoffc =>
    rintro i m nx ⟨ps, tl', rfl, -, -, h3, -⟩ p hp
    rcases List.mem_cons.mp hp with rfl | hp
    · exact q331
    · exact h3 p hp
  case turn =>
    clear lF N6
    rintro i v m₁ nx h tk I oI oN2 hv ⟨ps, tl2, rfl, hsub, o331, ocN, hps⟩ hoN a1 a2 a3 a4 a5 F1 N1
    obtain ⟨k, tk9, rfl, hk⟩ := IntsAre.at lI i v (by simpa using hv)
    rw [List.cons_append, List.nil_append] at N1
    have b1 : @Ne Nat 331 I := a2 _ (List.mem_cons_self ..)
    have b2 : ∀ q ∈ tl2, @Ne Nat q.1 I := fun q hq => a2 q (List.mem_cons_of_mem _ hq)
    have b3 : @Ne Nat 331 _ := a4 _ (List.mem_cons_self ..) _ (List.mem_cons_self ..)
    have b4 := fun q hq => a4 q (List.mem_cons_of_mem _ hq) _ (List.mem_cons_self ..)
    have b5 : @Ne Nat _ I := a5 _ (List.mem_cons_self ..)
    have b6 : @Ne Nat cN _ := a3 _ (List.mem_cons_self ..)
    clear a2 a3 a4 a5
    dsimp only at b3 b4 b5 b6
    have mC := hsub _ m2
    have mF := hsub _ m3
    have mx := hsub _ (m1 _ hx)
    have mdx := hsub _ (m1 _ hdx)
    have mlb := hsub _ (m1 _ hlb)
    have mln := hsub _ (m1 _ hln)
    have mlf := hsub _ (m1 _ hlf)
    have hfl := firstsUp_len (tabUp bs ns bs.length) n
    by_cases hin : 0 ≤ k ∧ k < n
    · obtain ⟨hin0, hin1⟩ := hin
      have hval := firsts_at hC9 hin0 hin1
      rcases hps with ⟨-, rfl⟩ | ⟨c', ocd, vs, t, rfl, hcm, hcd1, hcd2⟩
      · (try k_unmd); k_fold
        k_steps
        unfold Stop
        k_dflt (apply told_least (Q := fun _ _ => True) (oT := oT) (oB := oB) (oF := oF) (oS := oS) (oW := oW) (P := _) (Bd := _) (Sc := _) (pos := _); (case XB => exact XB); (case TB => exact TB); (case B => k_asm); (case F => k_asm); (case X => k_asm); (case T => k_asm); (case hdp => exact hdp); (case hun => exact hun); (case hCH => exact hCH); (case hCA => exact hCA9); (case N => k_asm); (case hf => k_mem); (case hlam => rfl); (case hcm => k_mem); (case hcd => assumption); (case hcq => assumption); (case hmC => k_mem); (case hC => exact hC); (case hC9 => exact hC9); (case hmN => k_mem); (case hN => exact hoN); (case hx => k_mem); (case hdx => k_mem); (case hlb => k_mem); (case hln => k_mem); (case hbI => exact hbI); (case hnI => exact hnI))
        · intro t8 h8 tk8 _ _ F8 N8
          k_steps
          all_goals first | (exfalso; omega) | skip
          (rename _ ∧ _ ∧ _ ∧ _ ∧ AllLt _ tl2 => l9); (rename _ = Data.fields _ => d9); (rename _[1]? = some (Value.str _ _) => e9)
          refine TEnd.lam (tl2 := (_, _) :: tl2) F8 N8 (by k_mem) (by k_mem) (by k_mem) (by k_mem) ?_ a1 b6 b1 b3 (List.forall_mem_cons.mpr ⟨Nat.ne_of_gt l9.1, b2⟩) (List.forall_mem_cons.mpr ⟨Nat.ne_of_gt l9.2.1, b4⟩) ⟨oN2, _, _, rfl, hoN, _, _, rfl, fun q hq => List.mem_cons_of_mem _ (hsub q hq), List.forall_mem_cons.mpr ⟨Nat.ne_of_gt l9.2.2.2.1, o331⟩, List.forall_mem_cons.mpr ⟨Nat.ne_of_gt l9.2.2.1, ocN⟩, .inr ⟨_, _, _, _, rfl, List.mem_cons_self .., d9, e9⟩⟩
          intro q hq
          rcases List.mem_cons.mp hq with rfl | hq
          · k_mem
          · repeat (first | exact hq | refine List.mem_cons_of_mem _ ?_)
        · intro h8 tk8 hbad F8 N8
          exfalso; omega
      · (try k_unmd); k_fold
        k_steps
        unfold Stop
        k_dflt (apply told_least (Q := fun _ _ => True) (oT := oT) (oB := oB) (oF := oF) (oS := oS) (oW := oW) (P := _) (Bd := _) (Sc := _) (pos := _); (case XB => exact XB); (case TB => exact TB); (case B => k_asm); (case F => k_asm); (case X => k_asm); (case T => k_asm); (case hdp => exact hdp); (case hun => exact hun); (case hCH => exact hCH); (case hCA => exact hCA9); (case N => k_asm); (case hf => k_mem); (case hlam => rfl); (case hcm => k_mem); (case hcd => assumption); (case hcq => assumption); (case hmC => k_mem); (case hC => exact hC); (case hC9 => exact hC9); (case hmN => k_mem); (case hN => exact hoN); (case hx => k_mem); (case hdx => k_mem); (case hlb => k_mem); (case hln => k_mem); (case hbI => exact hbI); (case hnI => exact hnI))
        · intro t8 h8 tk8 _ _ F8 N8
          k_steps
          all_goals first | (exfalso; omega) | skip
          refine TEnd.lam (tl2 := tl2) F8 N8 (by k_mem) (by k_mem) (by k_mem) (by k_mem) ?_ a1 b6 b1 b3 b2 b4 ⟨oN2, _, _, rfl, hoN, _, _, rfl, hsub, o331, ocN, .inr ⟨_, _, _, _, rfl, hcm, hcd1, hcd2⟩⟩
          intro q hq
          repeat (first | exact hq | refine List.mem_cons_of_mem _ ?_)
        · intro h8 tk8 hbad F8 N8
          exfalso; omega
    · rcases hps with ⟨-, rfl⟩ | ⟨c', ocd, vs, t, rfl, hcm, hcd1, hcd2⟩
      · (try k_unmd); k_fold
        k_steps
        all_goals (
        unfold Stop
        k_dflt (apply told_least (Q := fun _ _ => True) (oT := oT) (oB := oB) (oF := oF) (oS := oS) (oW := oW) (P := _) (Bd := _) (Sc := _) (pos := _); (case XB => exact XB); (case TB => exact TB); (case B => k_asm); (case F => k_asm); (case X => k_asm); (case T => k_asm); (case hdp => exact hdp); (case hun => exact hun); (case hCH => exact hCH); (case hCA => exact hCA9); (case N => k_asm); (case hf => k_mem); (case hlam => rfl); (case hcm => k_mem); (case hcd => assumption); (case hcq => assumption); (case hmC => k_mem); (case hC => exact hC); (case hC9 => exact hC9); (case hmN => k_mem); (case hN => exact hoN); (case hx => k_mem); (case hdx => k_mem); (case hlb => k_mem); (case hln => k_mem); (case hbI => exact hbI); (case hnI => exact hnI))
        · intro t8 h8 tk8 _ _ F8 N8
          exfalso; omega
        · intro h8 tk8 hbad F8 N8
          k_steps
          (rename _ ∧ _ ∧ _ ∧ _ ∧ AllLt _ tl2 => l9); (rename _ = Data.fields _ => d9); (rename _[1]? = some (Value.str _ _) => e9)
          refine TEnd.lam (tl2 := (_, _) :: tl2) F8 N8 (by k_mem) (by k_mem) (by k_mem) (by k_mem) ?_ a1 b6 b1 b3 (List.forall_mem_cons.mpr ⟨Nat.ne_of_gt l9.1, b2⟩) (List.forall_mem_cons.mpr ⟨Nat.ne_of_gt l9.2.1, b4⟩) ⟨oN2, _, _, rfl, hoN, _, _, rfl, fun q hq => List.mem_cons_of_mem _ (hsub q hq), List.forall_mem_cons.mpr ⟨Nat.ne_of_gt l9.2.2.2.1, o331⟩, List.forall_mem_cons.mpr ⟨Nat.ne_of_gt l9.2.2.1, ocN⟩, .inr ⟨_, _, _, _, rfl, List.mem_cons_self .., d9, e9⟩⟩
          intro q hq
          rcases List.mem_cons.mp hq with rfl | hq
          · k_mem
          · repeat (first | exact hq | refine List.mem_cons_of_mem _ ?_)
        )
      · (try k_unmd); k_fold
        k_steps
        all_goals (
        unfold Stop
        k_dflt (apply told_least (Q := fun _ _ => True) (oT := oT) (oB := oB) (oF := oF) (oS := oS) (oW := oW) (P := _) (Bd := _) (Sc := _) (pos := _); (case XB => exact XB); (case TB => exact TB); (case B => k_asm); (case F => k_asm); (case X => k_asm); (case T => k_asm); (case hdp => exact hdp); (case hun => exact hun); (case hCH => exact hCH); (case hCA => exact hCA9); (case N => k_asm); (case hf => k_mem); (case hlam => rfl); (case hcm => k_mem); (case hcd => assumption); (case hcq => assumption); (case hmC => k_mem); (case hC => exact hC); (case hC9 => exact hC9); (case hmN => k_mem); (case hN => exact hoN); (case hx => k_mem); (case hdx => k_mem); (case hlb => k_mem); (case hln => k_mem); (case hbI => exact hbI); (case hnI => exact hnI))
        · intro t8 h8 tk8 _ _ F8 N8
          exfalso; omega
        · intro h8 tk8 hbad F8 N8
          k_steps
          refine TEnd.lam (tl2 := tl2) F8 N8 (by k_mem) (by k_mem) (by k_mem) (by k_mem) ?_ a1 b6 b1 b3 b2 b4 ⟨oN2, _, _, rfl, hoN, _, _, rfl, hsub, o331, ocN, .inr ⟨_, _, _, _, rfl, hcm, hcd1, hcd2⟩⟩
          intro q hq
          repeat (first | exact hq | refine List.mem_cons_of_mem _ ?_)
        )
  case done =>
    rintro h' tk' m' nx oN3 v3 ⟨ps, tl2, rfl, hsub, o331, ocN, hps⟩ hd3 F9 N9 -
    rcases hps with ⟨e, -⟩ | ⟨c', ocd, vs, t, rfl, -, -, -⟩
    · rw [List.size_toArray, lIl] at e; simp at e
    · obtain ⟨big', N8, BO8, sub8⟩ := canonB N9 (fun q hq => List.mem_append_right _ (List.mem_cons_of_mem _ (List.mem_cons_of_mem _ (hsub _ (m4 q hq))))) (List.mem_append_right _ (List.mem_cons_self ..)) (List.mem_append_right _ (List.mem_cons_of_mem _ (List.mem_cons_self ..)))
      exact hret c' big' oN3 v3 h' tk' m' (sub8 big hBO9 fun q hq => List.mem_append_right _ (List.mem_cons_of_mem _ (List.mem_cons_of_mem _ (hsub _ (m1 q hq))))) F9 N8 hd3 BO8
end

set_option maxRecDepth 100000 in
set_option maxHeartbeats 8000000 in
theorem st7 {prog : Program} {w : World} {p : Program} {loose : List PySem.Str} {mean : ExcName → Option Value} {mg mb : PySem.Str → Option Value}
  (dp un : Nat) (gd : Option (List Code)) (fa : Addr) (A₀ : Around) (base h₀ : Heap) (L : Addr) (m : PySem.Str → Option Value) (s : Shared) (Q : Flow → Shared → Prop) (E : Value → Shared → Prop)
  (XB : (Mine.hd.heap_39 w.params).In base) (TB : Top p loose mean mg mb base) (B : Below A₀ base [] h₀) (F : Fr h₀ L s.heap m) (X : (Mine.hd.heap_39 w.params).In h₀) (T : Top p loose mean mg mb h₀) (hdp : dp ≤ 400) (hun : un ≤ 3000)
  (hCH : CodeHd h₀ 333 331)
  (cT cB cN cF cC cS cW : Addr) (oT oB oN oF oC oS oW : Obj) (hCA : CellsAt cT cB cN cF cC cS cW)
  (ps : Array Value) (d c : Addr) (o oc : Obj) (big : List (Addr × Obj)) (N : News h₀ L s.heap ((cW, oW) :: (cS, oS) :: (cC, oC) :: (cF, oF) :: (cN, oN) :: (cB, oB) :: (cT, oT) :: (331, tabObj ps) :: (d, o) :: (c, oc) :: big)) (hDO : KeyOff cT cB cN cF cC cS cW d) (hCO : KeyOff cT cB cN cF cC cS cW c) (hdc : @Ne Nat d c) (hBO : BigOff cT cB cN cF cC cS cW d c big)
  (hT : oT.data = .cell (some (.ref d))) (hTI : TinAt prog w c o oc) (hlo : (d == sysModules) = false)
  (x : Addr) (bs ns : List Int) (n : Nat) (hC : oC.data = .cell (some (.ref x))) (hCl : ClAt big x bs ns n) (hX : ClsX bs ns n)
  (ls : Addr) (svs : List Value) (zs : List Int) (ks : Nat) (hS : oS.data = .cell (some (.ref ls))) (hls : (ls, W.listOf svs.toArray ks) ∈ big) (hsI : IntsAre svs zs) (hz6 : zs.length ≤ 6)
  (hret : ∀ h' tk' m' b, (b = true ↔ ∀ k ∈ zs, 0 ≤ k ∧ k < (n : Int)) → Fr h₀ L h' m' → m' (Str.ofString "is_let") = some (.bool b) → News h₀ L h' ((cW, oW) :: (cS, oS) :: (cC, oC) :: (cF, oF) :: (cN, oN) :: (cB, oB) :: (cT, oT) :: (331, tabObj ps) :: (d, o) :: (c, oc) :: big) → Q .next { s with heap := h', toks := tk' })
  :
  wpAny (model prog w) (ktrTop dp un gd (Str.ofString "law") ({ kind := PySem.ScopeKind.function, names := [(PySem.Str.ofString "script", PySem.NameKind.local), (PySem.Str.ofString "tin", PySem.NameKind.cell), (PySem.Str.ofString "table", PySem.NameKind.cell), (PySem.Str.ofString "number", PySem.NameKind.cell), (PySem.Str.ofString "firsts", PySem.NameKind.cell), (PySem.Str.ofString "due", PySem.NameKind.local), (PySem.Str.ofString "is_let", PySem.NameKind.local), (PySem.Str.ofString "signs", PySem.NameKind.local), (PySem.Str.ofString "text", PySem.NameKind.local), (PySem.Str.ofString "classes", PySem.NameKind.cell), (PySem.Str.ofString "some", PySem.NameKind.cell), (PySem.Str.ofString "word", PySem.NameKind.cell), (PySem.Str.ofString "_law_tin", PySem.NameKind.globalImplicit), (PySem.Str.ofString "Classes", PySem.NameKind.globalImplicit), (PySem.Str.ofString "_law_sets", PySem.NameKind.globalImplicit), (PySem.Str.ofString "_law_bit", PySem.NameKind.globalImplicit), (PySem.Str.ofString "range", PySem.NameKind.globalImplicit), (PySem.Str.ofString "_law_told", PySem.NameKind.globalImplicit)], isGenerator := false, isCoroutine := false, more := [(PySem.Str.ofString "fast", (PySem.Const.str "script")), (PySem.Str.ofString "fast", (PySem.Const.str "tin")), (PySem.Str.ofString "fast", (PySem.Const.str "table")), (PySem.Str.ofString "fast", (PySem.Const.str "number")), (PySem.Str.ofString "fast", (PySem.Const.str "firsts")), (PySem.Str.ofString "fast", (PySem.Const.str "turn")), (PySem.Str.ofString "fast", (PySem.Const.str "due")), (PySem.Str.ofString "fast", (PySem.Const.str "is_let")), (PySem.Str.ofString "fast", (PySem.Const.str "signs")), (PySem.Str.ofString "fast", (PySem.Const.str "code")), (PySem.Str.ofString "fast", (PySem.Const.str "text")), (PySem.Str.ofString "fast", (PySem.Const.str "classes")), (PySem.Str.ofString "fast", (PySem.Const.str "some")), (PySem.Str.ofString "fast", (PySem.Const.str "word"))] } : PySem.Scope) L fa (.ref 333) (lawCl cT cB cN cF cC cS cW) []) (exec (lawSt 7) (envX (Str.ofString "law") ({ kind := PySem.ScopeKind.function, names := [(PySem.Str.ofString "script", PySem.NameKind.local), (PySem.Str.ofString "tin", PySem.NameKind.cell), (PySem.Str.ofString "table", PySem.NameKind.cell), (PySem.Str.ofString "number", PySem.NameKind.cell), (PySem.Str.ofString "firsts", PySem.NameKind.cell), (PySem.Str.ofString "due", PySem.NameKind.local), (PySem.Str.ofString "is_let", PySem.NameKind.local), (PySem.Str.ofString "signs", PySem.NameKind.local), (PySem.Str.ofString "text", PySem.NameKind.local), (PySem.Str.ofString "classes", PySem.NameKind.cell), (PySem.Str.ofString "some", PySem.NameKind.cell), (PySem.Str.ofString "word", PySem.NameKind.cell), (PySem.Str.ofString "_law_tin", PySem.NameKind.globalImplicit), (PySem.Str.ofString "Classes", PySem.NameKind.globalImplicit), (PySem.Str.ofString "_law_sets", PySem.NameKind.globalImplicit), (PySem.Str.ofString "_law_bit", PySem.NameKind.globalImplicit), (PySem.Str.ofString "range", PySem.NameKind.globalImplicit), (PySem.Str.ofString "_law_told", PySem.NameKind.globalImplicit)], isGenerator := false, isCoroutine := false, more := [(PySem.Str.ofString "fast", (PySem.Const.str "script")), (PySem.Str.ofString "fast", (PySem.Const.str "tin")), (PySem.Str.ofString "fast", (PySem.Const.str "table")), (PySem.Str.ofString "fast", (PySem.Const.str "number")), (PySem.Str.ofString "fast", (PySem.Const.str "firsts")), (PySem.Str.ofString "fast", (PySem.Const.str "turn")), (PySem.Str.ofString "fast", (PySem.Const.str "due")), (PySem.Str.ofString "fast", (PySem.Const.str "is_let")), (PySem.Str.ofString "fast", (PySem.Const.str "signs")), (PySem.Str.ofString "fast", (PySem.Const.str "code")), (PySem.Str.ofString "fast", (PySem.Const.str "text")), (PySem.Str.ofString "fast", (PySem.Const.str "classes")), (PySem.Str.ofString "fast", (PySem.Const.str "some")), (PySem.Str.ofString "fast", (PySem.Const.str "word"))] } : PySem.Scope) L fa (.ref 333) (lawCl cT cB cN cF cC cS cW))) Q E s := by
  have hBO9 := hBO
  obtain ⟨q1, q2, q3, q4, q5, q6, q7⟩ := hCA
  obtain ⟨u0, u1, u2, u3, u4, u5, u6, u7⟩ := hDO
  obtain ⟨v0, v1, v2, v3, v4, v5, v6, v7⟩ := hCO
  obtain ⟨z0, z1, z2, z3, z4, z5, z6, z7, z8, z9⟩ := hBO
  obtain ⟨dx, lb, ln, bvs, nvs, y1, y2, y3, t1, t2, t3, t4, nd, kb, kn, hx, hdx, hlb, hln, hbI, hnI⟩ := hCl
  have hC9 := hX.ok
  have h64 := hC9.c64
  have hsl := hsI.length
  show wpAny _ _ (exec (.Assign _ _ _) _) _ _ _
  k_steps
  unfold Stop
  (rename Fr _ _ _ _ => lF0)
  refine LCt.ListComp_T (F₀ := lF0) (by with_unfolding_all rfl) (by decide) (by rfl) (by decide) (by rfl) ?_
  (try k_unmd)
  k_steps
  (rename Fr _ _ _ _ => lF); (rename News _ _ _ _ => lN)
  unfold Stop
  refine LCt.CompSrcT.ledger (by rfl) lF lN (by k_mem) (by rw [sizeLine_eq, List.size_toArray]; omega) ?_
  intro g
  refine compRestT_inv (n := _) (fun i ys nx => nx = _ ∧ IntsAre ys ((zs.take i).filter fun k => !decide (0 ≤ k ∧ k < (n : Int)))) ?turn ?fin _ 0 [] _ (Nat.zero_add _) ⟨rfl, .nil⟩
  case turn =>
    rintro i v ys nx I oI C oK D m₂ h tk E' hi hv ⟨rfl, hys⟩ hC2 hx2 F2 N2 hoff hne
    obtain ⟨k, tk9, rfl, hk9⟩ := IntsAre.at hsI i v (by simpa using hv)
    have et : zs.take (i + 1) = zs.take i ++ [k] := by rw [List.take_add_one, hk9]; rfl
    k_steps
    all_goals (
      (rename Fr _ _ _ _ => lF9); (rename News _ _ _ _ => lN9)
      refine LCg.CompEnd.intro lF9 lN9 _ (fun p hp => hp) hoff (Or.inr ⟨_, by k_mem, rfl, _, rfl⟩) ⟨rfl, ?_⟩
      rw [et, List.filter_append])
    · have e : List.filter (fun k => !decide (0 ≤ k ∧ k < (n : Int))) [k] = [] := by rw [List.filter_cons, if_neg (by simp; omega)]; rfl
      rw [e, List.append_nil]; exact hys
    · have e : List.filter (fun k => !decide (0 ≤ k ∧ k < (n : Int))) [k] = [k] := by rw [List.filter_cons, if_pos (by simp; omega)]; rfl
      rw [e]; exact hys.append (.cons _ _ .nil)
    · have e : List.filter (fun k => !decide (0 ≤ k ∧ k < (n : Int))) [k] = [k] := by rw [List.filter_cons, if_pos (by simp; omega)]; rfl
      rw [e]; exact hys.append (.cons _ _ .nil)
  case fin =>
    rintro ys nx ⟨rfl, hys⟩
    intro D h tk F2 N2 hoff
    clear lF lN
    have hyl := hys.length
    dsimp only
    (try k_unmd)
    k_steps
    (rename Fr _ _ _ _ => lF9); (rename News _ _ _ _ => lN9)
    refine hret _ _ _ _ ?_ lF9 (if_pos rfl) (fun p hp => lN9 p (List.mem_cons_of_mem _ (List.mem_cons_of_mem _ hp)))
    rw [List.size_toArray, hsl, List.take_length, decide_eq_true_iff, List.filter_eq_nil_iff]
    simp

set_option maxRecDepth 100000 in
set_option maxHeartbeats 8000000 in
theorem st8 {prog : Program} {w : World} {p : Program} {loose : List PySem.Str} {mean : ExcName → Option Value} {mg mb : PySem.Str → Option Value}
  (dp un : Nat) (gd : Option (List Code)) (fa : Addr) (A₀ : Around) (base h₀ : Heap) (L : Addr) (m : PySem.Str → Option Value) (s : Shared) (Q : Flow → Shared → Prop) (E : Value → Shared → Prop)
  (XB : (Mine.hd.heap_39 w.params).In base) (TB : Top p loose mean mg mb base) (B : Below A₀ base [] h₀) (F : Fr h₀ L s.heap m) (X : (Mine.hd.heap_39 w.params).In h₀) (T : Top p loose mean mg mb h₀) (hdp : dp ≤ 400) (hun : un ≤ 3000)
  (hCH : CodeHd h₀ 333 331)
  (cT cB cN cF cC cS cW : Addr) (oT oB oN oF oC oS oW : Obj) (hCA : CellsAt cT cB cN cF cC cS cW)
  (c₁ : Addr) (d c : Addr) (o oc : Obj) (big : List (Addr × Obj)) (N : News h₀ L s.heap ((cW, oW) :: (cS, oS) :: (cC, oC) :: (cF, oF) :: (cN, oN) :: (cB, oB) :: (cT, oT) :: (331, tabObj (#[] ++ #[rawInt 219, rawInt 21, .ref c₁])) :: (d, o) :: (c, oc) :: big)) (hDO : KeyOff cT cB cN cF cC cS cW d) (hCO : KeyOff cT cB cN cF cC cS cW c) (hdc : @Ne Nat d c) (hBO : BigOff cT cB cN cF cC cS cW d c big)
  (x : Addr) (bs ns : List Int) (n : Nat) (hC : oC.data = .cell (some (.ref x))) (hCl : ClAt big x bs ns n) (hX : ClsX bs ns n)
  (lf : Addr) (fvs : List Value) (kf : Nat) (hF : oF.data = .cell (some (.ref lf))) (hlf : (lf, W.listOf fvs.toArray kf) ∈ big) (hfI : IntsAre fvs (firstsUp (tabUp bs ns bs.length) n))
  (ls : Addr) (svs : List Value) (zs : List Int) (ks : Nat) (hS : oS.data = .cell (some (.ref ls))) (hls : (ls, W.listOf svs.toArray ks) ∈ big) (hsI : IntsAre svs zs) (hz6 : zs.length ≤ 6)
  (b : Bool) (hb : b = true ↔ ∀ k ∈ zs, 0 ≤ k ∧ k < (n : Int)) (hm : m (Str.ofString "is_let") = some (.bool b))
  (hret : ∀ c₂ h' tk', Fr h₀ L h' m → News h₀ L h' ((cW, oW) :: (cS, oS) :: (cC, oC) :: (cF, oF) :: (cN, oN) :: (cB, oB) :: (cT, oT) :: (331, tabObj ((#[] ++ #[rawInt 219, rawInt 21, .ref c₁]) ++ #[rawInt 222, rawInt 17, .ref c₂])) :: (d, o) :: (c, oc) :: big) → Q .next { s with heap := h', toks := tk' })
  :
  wpAny (model prog w) (ktrTop dp un gd (Str.ofString "law") ({ kind := PySem.ScopeKind.function, names := [(PySem.Str.ofString "script", PySem.NameKind.local), (PySem.Str.ofString "tin", PySem.NameKind.cell), (PySem.Str.ofString "table", PySem.NameKind.cell), (PySem.Str.ofString "number", PySem.NameKind.cell), (PySem.Str.ofString "firsts", PySem.NameKind.cell), (PySem.Str.ofString "due", PySem.NameKind.local), (PySem.Str.ofString "is_let", PySem.NameKind.local), (PySem.Str.ofString "signs", PySem.NameKind.local), (PySem.Str.ofString "text", PySem.NameKind.local), (PySem.Str.ofString "classes", PySem.NameKind.cell), (PySem.Str.ofString "some", PySem.NameKind.cell), (PySem.Str.ofString "word", PySem.NameKind.cell), (PySem.Str.ofString "_law_tin", PySem.NameKind.globalImplicit), (PySem.Str.ofString "Classes", PySem.NameKind.globalImplicit), (PySem.Str.ofString "_law_sets", PySem.NameKind.globalImplicit), (PySem.Str.ofString "_law_bit", PySem.NameKind.globalImplicit), (PySem.Str.ofString "range", PySem.NameKind.globalImplicit), (PySem.Str.ofString "_law_told", PySem.NameKind.globalImplicit)], isGenerator := false, isCoroutine := false, more := [(PySem.Str.ofString "fast", (PySem.Const.str "script")), (PySem.Str.ofString "fast", (PySem.Const.str "tin")), (PySem.Str.ofString "fast", (PySem.Const.str "table")), (PySem.Str.ofString "fast", (PySem.Const.str "number")), (PySem.Str.ofString "fast", (PySem.Const.str "firsts")), (PySem.Str.ofString "fast", (PySem.Const.str "turn")), (PySem.Str.ofString "fast", (PySem.Const.str "due")), (PySem.Str.ofString "fast", (PySem.Const.str "is_let")), (PySem.Str.ofString "fast", (PySem.Const.str "signs")), (PySem.Str.ofString "fast", (PySem.Const.str "code")), (PySem.Str.ofString "fast", (PySem.Const.str "text")), (PySem.Str.ofString "fast", (PySem.Const.str "classes")), (PySem.Str.ofString "fast", (PySem.Const.str "some")), (PySem.Str.ofString "fast", (PySem.Const.str "word"))] } : PySem.Scope) L fa (.ref 333) (lawCl cT cB cN cF cC cS cW) []) (exec (lawSt 8) (envX (Str.ofString "law") ({ kind := PySem.ScopeKind.function, names := [(PySem.Str.ofString "script", PySem.NameKind.local), (PySem.Str.ofString "tin", PySem.NameKind.cell), (PySem.Str.ofString "table", PySem.NameKind.cell), (PySem.Str.ofString "number", PySem.NameKind.cell), (PySem.Str.ofString "firsts", PySem.NameKind.cell), (PySem.Str.ofString "due", PySem.NameKind.local), (PySem.Str.ofString "is_let", PySem.NameKind.local), (PySem.Str.ofString "signs", PySem.NameKind.local), (PySem.Str.ofString "text", PySem.NameKind.local), (PySem.Str.ofString "classes", PySem.NameKind.cell), (PySem.Str.ofString "some", PySem.NameKind.cell), (PySem.Str.ofString "word", PySem.NameKind.cell), (PySem.Str.ofString "_law_tin", PySem.NameKind.globalImplicit), (PySem.Str.ofString "Classes", PySem.NameKind.globalImplicit), (PySem.Str.ofString "_law_sets", PySem.NameKind.globalImplicit), (PySem.Str.ofString "_law_bit", PySem.NameKind.globalImplicit), (PySem.Str.ofString "range", PySem.NameKind.globalImplicit), (PySem.Str.ofString "_law_told", PySem.NameKind.globalImplicit)], isGenerator := false, isCoroutine := false, more := [(PySem.Str.ofString "fast", (PySem.Const.str "script")), (PySem.Str.ofString "fast", (PySem.Const.str "tin")), (PySem.Str.ofString "fast", (PySem.Const.str "table")), (PySem.Str.ofString "fast", (PySem.Const.str "number")), (PySem.Str.ofString "fast", (PySem.Const.str "firsts")), (PySem.Str.ofString "fast", (PySem.Const.str "turn")), (PySem.Str.ofString "fast", (PySem.Const.str "due")), (PySem.Str.ofString "fast", (PySem.Const.str "is_let")), (PySem.Str.ofString "fast", (PySem.Const.str "signs")), (PySem.Str.ofString "fast", (PySem.Const.str "code")), (PySem.Str.ofString "fast", (PySem.Const.str "text")), (PySem.Str.ofString "fast", (PySem.Const.str "classes")), (PySem.Str.ofString "fast", (PySem.Const.str "some")), (PySem.Str.ofString "fast", (PySem.Const.str "word"))] } : PySem.Scope) L fa (.ref 333) (lawCl cT cB cN cF cC cS cW))) Q E s := by
  have hBO9 := hBO
  have hCA9 := hCA
  obtain ⟨q1, q2, q3, q4, q5, q6, q7⟩ := hCA
  obtain ⟨u0, u1, u2, u3, u4, u5, u6, u7⟩ := hDO
  obtain ⟨v0, v1, v2, v3, v4, v5, v6, v7⟩ := hCO
  obtain ⟨z0, z1, z2, z3, z4, z5, z6, z7, z8, z9⟩ := hBO
  obtain ⟨dx, lb, ln, bvs, nvs, y1, y2, y3, t1, t2, t3, t4, nd, kb, kn, hx, hdx, hlb, hln, hbI, hnI⟩ := hCl
  have hC9 := hX.ok
  have h64 := hC9.c64
  have hsl := hsI.length
  have hfl := firstsUp_len (tabUp bs ns bs.length) n
  have em := map_one hm
  rw [em] at F
  show wpAny _ _ (exec (.If _ _ _ _) _) _ _ _
  k_steps
  unfold Stop
  k_dflt (apply told_text8 (Q := fun _ _ => True) (oT := oT) (oB := oB) (oF := oF) (oN := oN) (oW := oW) (P := _) (Bd := _) (Sc := _) (pos := _); (case XB => exact XB); (case TB => exact TB); (case B => k_asm); (case F => k_asm); (case X => k_asm); (case T => k_asm); (case hdp => exact hdp); (case hun => exact hun); (case hCH => exact hCH); (case hCA => exact hCA9); (case N => k_asm); (case hf => k_mem); (case hlam => rfl); (case hcm => k_mem); (case hcd => assumption); (case hcq => assumption); (case hmC => k_mem); (case hC => exact hC); (case hC9 => exact hC9); (case hmM => k_mem); (case hM => exact hS); (case hlm => k_mem); (case hmI => exact hsI); (case hm64 => omega); (case hx => k_mem); (case hdx => k_mem); (case hlb => k_mem); (case hln => k_mem); (case hbI => exact hbI); (case hnI => exact hnI))
  · intro t8 h8 tk8 tx hall htx F8 N8
    obtain rfl := hb.mpr hall
    k_steps
    unfold Stop
    (rename Fr _ _ _ _ => lF0)
    refine LCg.ListComp_U (F₀ := lF0) (by with_unfolding_all rfl) (by decide) (by rfl) (by decide) (by rfl) ?_
    (try k_unmd)
    k_steps
    (rename Fr _ _ _ _ => lF); (rename News _ _ _ _ => lN)
    unfold Stop
    refine LCg.CompSrc.ledger (by rfl) lF lN (by k_mem) (by rw [sizeLine_eq, List.size_toArray]; omega) ?_
    intro g
    refine compRest_inv (n := _) (fun i ys nx => nx = _ ∧ StrsAre ys ((zs.take i).map fun k => (⟨#[(bs.getD (ns.idxOf k) 0).toNat]⟩ : PySem.Str))) ?turn ?fin _ 0 [] _ (Nat.zero_add _) ⟨rfl, .nil⟩
    case turn =>
      rintro i v ys nx I oI C oK D m₂ h tk E' hi hv ⟨rfl, hys⟩ hC2 hx2 F2 N2 hoff hne
      obtain ⟨k, tk9, rfl, hk9⟩ := IntsAre.at hsI i v (by simpa using hv)
      obtain ⟨hk0, hk1⟩ := hall k (List.mem_of_getElem? hk9)
      have hval := firsts_at hC9 hk0 hk1
      have hix : ns.idxOf k < ns.length := List.idxOf_lt_length_iff.mpr (hC9.mem hk0 hk1)
      have hbk := hC9.at (j := ns.idxOf k) (by have := hC9.eql; omega)
      have hv0 : 0 ≤ (firstsUp (tabUp bs ns bs.length) n).getD k.toNat 0 ∧ (firstsUp (tabUp bs ns bs.length) n).getD k.toNat 0 ≤ 127 := by rw [hval]; exact hbk
      obtain ⟨hv1, hv2⟩ := hv0
      k_steps
      (rename Fr _ _ _ _ => lF9); (rename News _ _ _ _ => lN9)
      refine LCg.CompEnd.intro lF9 lN9 _ (fun p hp => hp) hoff (Or.inr ⟨_, by k_mem, rfl, _, rfl⟩) ⟨rfl, ?_⟩
      rw [List.take_add_one, hk9, List.map_append, hval]
      exact hys.append' (.cons _ _ .nil)
    case fin =>
      rintro ys nx ⟨rfl, hys⟩
      intro D h tk F2 N2 hoff
      clear lF lN
      rw [List.size_toArray, hsl, List.take_length] at hys
      dsimp only
      (try k_unmd)
      k_steps
      unfold Stop
      (rename Fr _ _ _ _ => lF2); (rename News _ _ _ _ => lN2)
      refine my_join (ms := zs) (f := fun k => (bs.getD (ns.idxOf k) 0).toNat) (News.isList lN2 (.head _)) hys (by omega) ?_
      intro t' k' tx2 htx2
      rw [← htx] at htx2
      subst htx2
      k_steps
      · exfalso
        (rename (_ != _) = true => z9)
        simp at z9
      · (rename Fr _ _ _ _ => lF); (rename News _ _ _ _ => lN)
        rw [← em] at lF
        exact hret _ _ _ lF (fun p hp => lN p (List.mem_cons_of_mem _ (List.mem_cons_of_mem _ (List.mem_cons_of_mem _ hp))))
  · intro h8 tk8 hbad F8 N8
    have eb : b = false := by
      cases b with
      | false => rfl
      | true => exact absurd (hb.mp rfl) hbad
    subst eb
    k_steps
    (rename Fr _ _ _ _ => lF); (rename News _ _ _ _ => lN)
    rw [← em] at lF
    exact hret _ _ _ lF (fun p hp => lN p (List.mem_cons_of_mem _ (List.mem_cons_of_mem _ hp)))

set_option maxRecDepth 100000 in
set_option maxHeartbeats 8000000 in
theorem st10 {prog : Program} {w : World} {p : Program} {loose : List PySem.Str} {mean : ExcName → Option Value} {mg mb : PySem.Str → Option Value}
  (dp un : Nat) (gd : Option (List Code)) (fa : Addr) (A₀ : Around) (base h₀ : Heap) (L : Addr) (m : PySem.Str → Option Value) (s : Shared) (Q : Flow → Shared → Prop) (E : Value → Shared → Prop)
  (XB : (Mine.hd.heap_39 w.params).In base) (TB : Top p loose mean mg mb base) (B : Below A₀ base [] h₀) (F : Fr h₀ L s.heap m) (X : (Mine.hd.heap_39 w.params).In h₀) (T : Top p loose mean mg mb h₀) (hdp : dp ≤ 400) (hun : un ≤ 3000)
  (hCH : CodeHd h₀ 333 331)
  (cT cB cN cF cC cS cW : Addr) (oT oB oN oF oC oS oW : Obj) (hCA : CellsAt cT cB cN cF cC cS cW)
  (ps : Array Value) (d c : Addr) (o oc : Obj) (big : List (Addr × Obj)) (N : News h₀ L s.heap ((cW, oW) :: (cS, oS) :: (cC, oC) :: (cF, oF) :: (cN, oN) :: (cB, oB) :: (cT, oT) :: (331, tabObj ps) :: (d, o) :: (c, oc) :: big)) (hDO : KeyOff cT cB cN cF cC cS cW d) (hCO : KeyOff cT cB cN cF cC cS cW c) (hdc : @Ne Nat d c) (hBO : BigOff cT cB cN cF cC cS cW d c big)
  (hT : oT.data = .cell (some (.ref d))) (hTI : TinAt prog w c o oc) (hlo : (d == sysModules) = false)
  (x : Addr) (bs ns : List Int) (n : Nat) (hC : oC.data = .cell (some (.ref x))) (hCl : ClAt big x bs ns n) (hX : ClsX bs ns n) (vW : Option Value) (hW : oW.data = .cell vW)
  (lg : Addr) (gvs : List Value) (gs : List Int) (kg : Nat) (hm : m (Str.ofString "signs") = some (.ref lg)) (hlg : (lg, W.listOf gvs.toArray kg) ∈ big) (hgI : IntsAre gvs gs) (hg5 : gs.length ≤ 5) (hgr : ∀ k ∈ gs, 0 ≤ k ∧ k ≤ 8364)
  (hret : ∀ big' l ys k oW h' tk', (∀ q ∈ big, q ∈ big') → Fr h₀ L h' m → (∀ big, big = big' → News h₀ L h' ((cW, oW) :: (cS, oS) :: (cC, oC) :: (cF, oF) :: (cN, oN) :: (cB, oB) :: (cT, oT) :: (331, tabObj ps) :: (d, o) :: (c, oc) :: big)) → oW.data = .cell (some (.ref l)) → BigOff cT cB cN cF cC cS cW d c big' → (l, W.listOf ys.toArray k) ∈ big' → IntsAre ys (gs.map fun k => ofVal bs ns k) → Q .next { s with heap := h', toks := tk' })
  :
  wpAny (model prog w) (ktrTop dp un gd (Str.ofString "law") ({ kind := PySem.ScopeKind.function, names := [(PySem.Str.ofString "script", PySem.NameKind.local), (PySem.Str.ofString "tin", PySem.NameKind.cell), (PySem.Str.ofString "table", PySem.NameKind.cell), (PySem.Str.ofString "number", PySem.NameKind.cell), (PySem.Str.ofString "firsts", PySem.NameKind.cell), (PySem.Str.ofString "due", PySem.NameKind.local), (PySem.Str.ofString "is_let", PySem.NameKind.local), (PySem.Str.ofString "signs", PySem.NameKind.local), (PySem.Str.ofString "text", PySem.NameKind.local), (PySem.Str.ofString "classes", PySem.NameKind.cell), (PySem.Str.ofString "some", PySem.NameKind.cell), (PySem.Str.ofString "word", PySem.NameKind.cell), (PySem.Str.ofString "_law_tin", PySem.NameKind.globalImplicit), (PySem.Str.ofString "Classes", PySem.NameKind.globalImplicit), (PySem.Str.ofString "_law_sets", PySem.NameKind.globalImplicit), (PySem.Str.ofString "_law_bit", PySem.NameKind.globalImplicit), (PySem.Str.ofString "range", PySem.NameKind.globalImplicit), (PySem.Str.ofString "_law_told", PySem.NameKind.globalImplicit)], isGenerator := false, isCoroutine := false, more := [(PySem.Str.ofString "fast", (PySem.Const.str "script")), (PySem.Str.ofString "fast", (PySem.Const.str "tin")), (PySem.Str.ofString "fast", (PySem.Const.str "table")), (PySem.Str.ofString "fast", (PySem.Const.str "number")), (PySem.Str.ofString "fast", (PySem.Const.str "firsts")), (PySem.Str.ofString "fast", (PySem.Const.str "turn")), (PySem.Str.ofString "fast", (PySem.Const.str "due")), (PySem.Str.ofString "fast", (PySem.Const.str "is_let")), (PySem.Str.ofString "fast", (PySem.Const.str "signs")), (PySem.Str.ofString "fast", (PySem.Const.str "code")), (PySem.Str.ofString "fast", (PySem.Const.str "text")), (PySem.Str.ofString "fast", (PySem.Const.str "classes")), (PySem.Str.ofString "fast", (PySem.Const.str "some")), (PySem.Str.ofString "fast", (PySem.Const.str "word"))] } : PySem.Scope) L fa (.ref 333) (lawCl cT cB cN cF cC cS cW) []) (exec (lawSt 10) (envX (Str.ofString "law") ({ kind := PySem.ScopeKind.function, names := [(PySem.Str.ofString "script", PySem.NameKind.local), (PySem.Str.ofString "tin", PySem.NameKind.cell), (PySem.Str.ofString "table", PySem.NameKind.cell), (PySem.Str.ofString "number", PySem.NameKind.cell), (PySem.Str.ofString "firsts", PySem.NameKind.cell), (PySem.Str.ofString "due", PySem.NameKind.local), (PySem.Str.ofString "is_let", PySem.NameKind.local), (PySem.Str.ofString "signs", PySem.NameKind.local), (PySem.Str.ofString "text", PySem.NameKind.local), (PySem.Str.ofString "classes", PySem.NameKind.cell), (PySem.Str.ofString "some", PySem.NameKind.cell), (PySem.Str.ofString "word", PySem.NameKind.cell), (PySem.Str.ofString "_law_tin", PySem.NameKind.globalImplicit), (PySem.Str.ofString "Classes", PySem.NameKind.globalImplicit), (PySem.Str.ofString "_law_sets", PySem.NameKind.globalImplicit), (PySem.Str.ofString "_law_bit", PySem.NameKind.globalImplicit), (PySem.Str.ofString "range", PySem.NameKind.globalImplicit), (PySem.Str.ofString "_law_told", PySem.NameKind.globalImplicit)], isGenerator := false, isCoroutine := false, more := [(PySem.Str.ofString "fast", (PySem.Const.str "script")), (PySem.Str.ofString "fast", (PySem.Const.str "tin")), (PySem.Str.ofString "fast", (PySem.Const.str "table")), (PySem.Str.ofString "fast", (PySem.Const.str "number")), (PySem.Str.ofString "fast", (PySem.Const.str "firsts")), (PySem.Str.ofString "fast", (PySem.Const.str "turn")), (PySem.Str.ofString "fast", (PySem.Const.str "due")), (PySem.Str.ofString "fast", (PySem.Const.str "is_let")), (PySem.Str.ofString "fast", (PySem.Const.str "signs")), (PySem.Str.ofString "fast", (PySem.Const.str "code")), (PySem.Str.ofString "fast", (PySem.Const.str "text")), (PySem.Str.ofString "fast", (PySem.Const.str "classes")), (PySem.Str.ofString "fast", (PySem.Const.str "some")), (PySem.Str.ofString "fast", (PySem.Const.str "word"))] } : PySem.Scope) L fa (.ref 333) (lawCl cT cB cN cF cC cS cW))) Q E s := by
  have hBO9 := hBO
  obtain ⟨q1, q2, q3, q4, q5, q6, q7⟩ := hCA
  obtain ⟨u0, u1, u2, u3, u4, u5, u6, u7⟩ := hDO
  obtain ⟨v0, v1, v2, v3, v4, v5, v6, v7⟩ := hCO
  obtain ⟨z0, z1, z2, z3, z4, z5, z6, z7, z8, z9⟩ := hBO
  obtain ⟨dx, lb, ln, bvs, nvs, y1, y2, y3, t1, t2, t3, t4, nd, kb, kn, hx, hdx, hlb, hln, hbI, hnI⟩ := hCl
  have hC9 := hX.ok
  have h64 := hC9.c64
  have hgl := hgI.length
  have em := map_one hm
  rw [em] at F
  show wpAny _ _ (exec (.Assign _ _ _) _) _ _ _
  k_steps
  unfold Stop
  (rename Fr _ _ _ _ => lF0)
  refine LCg.ListComp_U (F₀ := lF0) (by with_unfolding_all rfl) (by decide) (by rfl) (by decide) (by rfl) ?_
  (try k_unmd)
  k_steps
  (rename Fr _ _ _ _ => lF); (rename News _ _ _ _ => lN)
  unfold Stop
  refine LCg.CompSrc.ledger (by rfl) lF lN (by k_mem) (by rw [sizeLine_eq, List.size_toArray]; omega) ?_
  intro g
  refine compRest_inv (n := _) (fun i ys nx => nx = _ ∧ StrsAre ys ((gs.take i).map fun k => (⟨#[k.toNat]⟩ : PySem.Str))) ?turn ?fin _ 0 [] _ (Nat.zero_add _) ⟨rfl, .nil⟩
  case turn =>
    rintro i v ys nx I oI C oK D m₂ h tk E' hi hv ⟨rfl, hys⟩ hC2 hx2 F2 N2 hoff hne
    obtain ⟨k, tk9, rfl, hk9⟩ := IntsAre.at hgI i v (by simpa using hv)
    obtain ⟨hk0, hk1⟩ := hgr k (List.mem_of_getElem? hk9)
    k_steps
    (rename Fr _ _ _ _ => lF9); (rename News _ _ _ _ => lN9)
    refine LCg.CompEnd.intro lF9 lN9 _ (fun p hp => hp) hoff (Or.inr ⟨_, by k_mem, rfl, _, rfl⟩) ⟨rfl, ?_⟩
    rw [List.take_add_one, hk9, List.map_append]
    exact hys.append' (.cons _ _ .nil)
  case fin =>
    rintro ys nx ⟨rfl, hys⟩
    intro D h tk F2 N2 hoff
    clear lF lN
    rw [List.size_toArray, hgl, List.take_length] at hys
    dsimp only
    (try k_unmd)
    k_steps
    unfold Stop
    (rename Fr _ _ _ _ => lF2); (rename News _ _ _ _ => lN2)
    refine my_join (ms := gs) (f := fun k => k.toNat) (News.isList lN2 (.head _)) hys (by omega) ?_
    intro t' k' tx2 htx2
    have hNk := fun p hp => lN2 p (List.mem_cons_of_mem _ hp)
    k_steps
    unfold Stop
    k_dflt (apply word_base; (case B => k_asm); (case F => k_asm); (case X => k_asm); (case T => k_asm); (case hk => first | exact rfl | assumption); (case hdp => first | omega | ktr_room); (case hun => first | omega | units_room); (case N => exact lN2); (case hx => k_mem); (case hdx => k_mem); (case hlb => k_mem); (case hln => k_mem); (case hbI => exact hbI); (case hnI => exact hnI); (case hC => exact hC9); (case hlt => rw [htx2]; simp; omega))
    intro l zs8 k8 h8 tk8 F8 N8 n8 I8
    rw [htx2] at I8
    have e8 : List.map (fun (c : Nat) => ofVal bs ns (c : Int)) (⟨(gs.map fun k => k.toNat).toArray⟩ : PySem.Str).cps.toList = gs.map fun k => ofVal bs ns k := by
      rw [List.toList_toArray, List.map_map]
      refine List.map_congr_left fun k hk => ?_
      show ofVal bs ns ((k.toNat : Nat) : Int) = _
      rw [Int.toNat_of_nonneg (hgr k hk).1]
    rw [e8] at I8
    have Nd : News h₀ L h8 ([(l, W.listOf zs8.toArray k8)] ++ ((cW, oW) :: (cS, oS) :: (cC, oC) :: (cF, oF) :: (cN, oN) :: (cB, oB) :: (cT, oT) :: (331, tabObj ps) :: (d, o) :: (c, oc) :: big)) := fun p hp => N8 p (by
      rcases List.mem_append.mp hp with hp | hp
      · rw [List.mem_singleton.mp hp]; exact List.mem_cons_self ..
      · exact List.mem_cons_of_mem _ (List.mem_cons_of_mem _ hp))
    obtain ⟨N4, BO4⟩ := keys_ex Nd (fun p hp q hq => by rw [List.mem_singleton.mp hp]; exact Ne.symm (n8 q (List.mem_cons_of_mem _ hq))) hBO9
    clear Nd N8 n8 hNk e8 hoff z0 z1 z2 z3 z4 z5 z6 z7 z8 z9
    have hmm : (l, W.listOf zs8.toArray k8) ∈ [(l, W.listOf zs8.toArray k8)] ++ big := List.mem_cons_self ..
    have hsub : ∀ q ∈ big, q ∈ [(l, W.listOf zs8.toArray k8)] ++ big := fun q hq => List.mem_cons_of_mem _ hq
    generalize [(l, W.listOf zs8.toArray k8)] ++ big = big2 at N4 BO4 hmm hsub
    have BO5 := BO4
    obtain ⟨z0, z1, z2, z3, z4, z5, z6, z7, z8, z9⟩ := BO5
    k_steps
    (rename Fr _ _ _ _ => lF); (rename News _ _ _ _ => lN); (rename _ = Data.cell (some (Value.ref l)) => lD)
    rw [← em] at lF
    exact hret big2 l zs8 k8 _ _ _ hsub lF (fun _ e => e ▸ lN) lD BO4 hmm I8

set_option maxRecDepth 100000 in
set_option maxHeartbeats 8000000 in
theorem st11 {prog : Program} {w : World} {p : Program} {loose : List PySem.Str} {mean : ExcName → Option Value} {mg mb : PySem.Str → Option Value}
  (dp un : Nat) (gd : Option (List Code)) (fa : Addr) (A₀ : Around) (base h₀ : Heap) (L : Addr) (m : PySem.Str → Option Value) (s : Shared) (Q : Flow → Shared → Prop) (E : Value → Shared → Prop)
  (XB : (Mine.hd.heap_39 w.params).In base) (TB : Top p loose mean mg mb base) (B : Below A₀ base [] h₀) (F : Fr h₀ L s.heap m) (X : (Mine.hd.heap_39 w.params).In h₀) (T : Top p loose mean mg mb h₀) (hdp : dp ≤ 400) (hun : un ≤ 3000)
  (hCH : CodeHd h₀ 333 331)
  (cT cB cN cF cC cS cW : Addr) (oT oB oN oF oC oS oW : Obj) (hCA : CellsAt cT cB cN cF cC cS cW)
  (ps : Array Value) (d c : Addr) (o oc : Obj) (big : List (Addr × Obj)) (N : News h₀ L s.heap ((cW, oW) :: (cS, oS) :: (cC, oC) :: (cF, oF) :: (cN, oN) :: (cB, oB) :: (cT, oT) :: (331, tabObj ps) :: (d, o) :: (c, oc) :: big)) (hDO : KeyOff cT cB cN cF cC cS cW d) (hCO : KeyOff cT cB cN cF cC cS cW c) (hdc : @Ne Nat d c) (hBO : BigOff cT cB cN cF cC cS cW d c big)
  (hT : oT.data = .cell (some (.ref d))) (hTI : TinAt prog w c o oc) (hlo : (d == sysModules) = false)
  (x : Addr) (bs ns : List Int) (n : Nat) (hX : ClsX bs ns n) (lt : Addr) (tvs : List Value) (kt : Nat) (hB : oB.data = .cell (some (.ref lt))) (hlt : (lt, W.listOf tvs.toArray kt) ∈ big) (htI : IntsAre tvs (tabUp bs ns bs.length))
  (lg : Addr) (gvs : List Value) (gs : List Int) (kg : Nat) (hm : m (Str.ofString "signs") = some (.ref lg)) (hlg : (lg, W.listOf gvs.toArray kg) ∈ big) (hgI : IntsAre gvs gs) (hg5 : gs.length ≤ 5) (hgr : ∀ k ∈ gs, 0 ≤ k ∧ k ≤ 8364)
  (lw : Addr) (wvs : List Value) (kw : Nat) (hW : oW.data = .cell (some (.ref lw))) (hlw : (lw, W.listOf wvs.toArray kw) ∈ big) (hwI : IntsAre wvs (gs.map fun k => ofVal bs ns k))
  (hret : ∀ h' tk', Fr h₀ L h' m → News h₀ L h' ((cW, oW) :: (cS, oS) :: (cC, oC) :: (cF, oF) :: (cN, oN) :: (cB, oB) :: (cT, oT) :: (331, tabObj ps) :: (d, o) :: (c, oc) :: big) → Q .next { s with heap := h', toks := tk' })
  :
  wpAny (model prog w) (ktrTop dp un gd (Str.ofString "law") ({ kind := PySem.ScopeKind.function, names := [(PySem.Str.ofString "script", PySem.NameKind.local), (PySem.Str.ofString "tin", PySem.NameKind.cell), (PySem.Str.ofString "table", PySem.NameKind.cell), (PySem.Str.ofString "number", PySem.NameKind.cell), (PySem.Str.ofString "firsts", PySem.NameKind.cell), (PySem.Str.ofString "due", PySem.NameKind.local), (PySem.Str.ofString "is_let", PySem.NameKind.local), (PySem.Str.ofString "signs", PySem.NameKind.local), (PySem.Str.ofString "text", PySem.NameKind.local), (PySem.Str.ofString "classes", PySem.NameKind.cell), (PySem.Str.ofString "some", PySem.NameKind.cell), (PySem.Str.ofString "word", PySem.NameKind.cell), (PySem.Str.ofString "_law_tin", PySem.NameKind.globalImplicit), (PySem.Str.ofString "Classes", PySem.NameKind.globalImplicit), (PySem.Str.ofString "_law_sets", PySem.NameKind.globalImplicit), (PySem.Str.ofString "_law_bit", PySem.NameKind.globalImplicit), (PySem.Str.ofString "range", PySem.NameKind.globalImplicit), (PySem.Str.ofString "_law_told", PySem.NameKind.globalImplicit)], isGenerator := false, isCoroutine := false, more := [(PySem.Str.ofString "fast", (PySem.Const.str "script")), (PySem.Str.ofString "fast", (PySem.Const.str "tin")), (PySem.Str.ofString "fast", (PySem.Const.str "table")), (PySem.Str.ofString "fast", (PySem.Const.str "number")), (PySem.Str.ofString "fast", (PySem.Const.str "firsts")), (PySem.Str.ofString "fast", (PySem.Const.str "turn")), (PySem.Str.ofString "fast", (PySem.Const.str "due")), (PySem.Str.ofString "fast", (PySem.Const.str "is_let")), (PySem.Str.ofString "fast", (PySem.Const.str "signs")), (PySem.Str.ofString "fast", (PySem.Const.str "code")), (PySem.Str.ofString "fast", (PySem.Const.str "text")), (PySem.Str.ofString "fast", (PySem.Const.str "classes")), (PySem.Str.ofString "fast", (PySem.Const.str "some")), (PySem.Str.ofString "fast", (PySem.Const.str "word"))] } : PySem.Scope) L fa (.ref 333) (lawCl cT cB cN cF cC cS cW) []) (exec (lawSt 11) (envX (Str.ofString "law") ({ kind := PySem.ScopeKind.function, names := [(PySem.Str.ofString "script", PySem.NameKind.local), (PySem.Str.ofString "tin", PySem.NameKind.cell), (PySem.Str.ofString "table", PySem.NameKind.cell), (PySem.Str.ofString "number", PySem.NameKind.cell), (PySem.Str.ofString "firsts", PySem.NameKind.cell), (PySem.Str.ofString "due", PySem.NameKind.local), (PySem.Str.ofString "is_let", PySem.NameKind.local), (PySem.Str.ofString "signs", PySem.NameKind.local), (PySem.Str.ofString "text", PySem.NameKind.local), (PySem.Str.ofString "classes", PySem.NameKind.cell), (PySem.Str.ofString "some", PySem.NameKind.cell), (PySem.Str.ofString "word", PySem.NameKind.cell), (PySem.Str.ofString "_law_tin", PySem.NameKind.globalImplicit), (PySem.Str.ofString "Classes", PySem.NameKind.globalImplicit), (PySem.Str.ofString "_law_sets", PySem.NameKind.globalImplicit), (PySem.Str.ofString "_law_bit", PySem.NameKind.globalImplicit), (PySem.Str.ofString "range", PySem.NameKind.globalImplicit), (PySem.Str.ofString "_law_told", PySem.NameKind.globalImplicit)], isGenerator := false, isCoroutine := false, more := [(PySem.Str.ofString "fast", (PySem.Const.str "script")), (PySem.Str.ofString "fast", (PySem.Const.str "tin")), (PySem.Str.ofString "fast", (PySem.Const.str "table")), (PySem.Str.ofString "fast", (PySem.Const.str "number")), (PySem.Str.ofString "fast", (PySem.Const.str "firsts")), (PySem.Str.ofString "fast", (PySem.Const.str "turn")), (PySem.Str.ofString "fast", (PySem.Const.str "due")), (PySem.Str.ofString "fast", (PySem.Const.str "is_let")), (PySem.Str.ofString "fast", (PySem.Const.str "signs")), (PySem.Str.ofString "fast", (PySem.Const.str "code")), (PySem.Str.ofString "fast", (PySem.Const.str "text")), (PySem.Str.ofString "fast", (PySem.Const.str "classes")), (PySem.Str.ofString "fast", (PySem.Const.str "some")), (PySem.Str.ofString "fast", (PySem.Const.str "word"))] } : PySem.Scope) L fa (.ref 333) (lawCl cT cB cN cF cC cS cW))) Q E s := by
  obtain ⟨q1, q2, q3, q4, q5, q6, q7⟩ := hCA
  obtain ⟨u0, u1, u2, u3, u4, u5, u6, u7⟩ := hDO
  obtain ⟨v0, v1, v2, v3, v4, v5, v6, v7⟩ := hCO
  obtain ⟨z0, z1, z2, z3, z4, z5, z6, z7, z8, z9⟩ := hBO
  have hC9 := hX.ok
  have htl := tabUp_len hC9 bs.length (Nat.le_refl _)
  rw [if_neg (Nat.lt_irrefl _)] at htl
  have hgl := hgI.length
  have hwl := hwI.length
  rw [List.length_map] at hwl
  have em := map_one hm
  rw [em] at F
  show wpAny _ _ (exec (.If _ _ _ _) _) _ _ _
  k_steps
  unfold Stop
  (rename Fr _ _ _ _ => lF0)
  refine LCg.ListComp_U (F₀ := lF0) (by with_unfolding_all rfl) (by decide) (by rfl) (by decide) (by rfl) ?_
  (try k_unmd)
  k_steps
  (rename Fr _ _ _ _ => lF); (rename News _ _ _ _ => lN)
  unfold Stop
  refine LCg.CompSrc.ledger (by rfl) lF lN (by k_mem) (by rw [sizeLine_eq, List.size_toArray]; omega) ?_
  intro g
  refine compRest_inv (n := _) (fun i ys nx => nx = _ ∧ IntsAre ys ((gs.take i).map fun k => ofVal bs ns k)) ?turn ?fin _ 0 [] _ (Nat.zero_add _) ⟨rfl, .nil⟩
  case turn =>
    rintro i v ys nx I oI C oK D m₂ h tk E' hi hv ⟨rfl, hys⟩ hC2 hx2 F2 N2 hoff hne
    obtain ⟨k, tk9, rfl, hk9⟩ := IntsAre.at hgI i v (by simpa using hv)
    obtain ⟨hk0, hk1⟩ := hgr k (List.mem_of_getElem? hk9)
    have et : (gs.take (i + 1)).map (fun k => ofVal bs ns k) = (gs.take i).map (fun k => ofVal bs ns k) ++ [ofVal bs ns k] := by
      rw [List.take_add_one, hk9, List.map_append]; rfl
    k_steps
    all_goals (
      (rename Fr _ _ _ _ => lF9); (rename News _ _ _ _ => lN9)
      refine LCg.CompEnd.intro lF9 lN9 _ (fun p hp => hp) hoff (Or.inr ⟨_, by k_mem, rfl, _, rfl⟩) ⟨rfl, ?_⟩
      rw [et])
    · have e : ofVal bs ns k = (tabUp bs ns bs.length).getD k.toNat 0 := if_neg (by omega)
      rw [e]
      exact hys.append (.cons _ _ .nil)
    · have e : ofVal bs ns k = -1 := if_pos (by omega)
      rw [e]
      exact hys.append (.cons _ _ .nil)
  case fin =>
    rintro ys nx ⟨rfl, hys⟩
    intro D h tk F2 N2 hoff
    clear lF lN
    rw [List.size_toArray, hgl, List.take_length] at hys
    have hyl := hys.length
    rw [List.length_map] at hyl
    dsimp only
    (try k_unmd)
    k_steps
    unfold Stop
    (rename Fr _ _ _ _ => lF2); (rename News _ _ _ _ => lN2)
    refine ne_intsK (lN2.isList (by k_mem)) hwI (lN2.isList (by k_mem)) hys (by units_room) ?_
    rw [decide_eq_true rfl]
    k_steps
    (rename Fr _ _ _ _ => lF); (rename News _ _ _ _ => lN)
    rw [← em] at lF
    exact hret _ _ lF (fun p hp => lN p (List.mem_cons_of_mem _ hp))

set_option maxRecDepth 100000 in
set_option maxHeartbeats 8000000 in
theorem st12 {prog : Program} {w : World} {p : Program} {loose : List PySem.Str} {mean : ExcName → Option Value} {mg mb : PySem.Str → Option Value}
  (dp un : Nat) (gd : Option (List Code)) (fa : Addr) (A₀ : Around) (base h₀ : Heap) (L : Addr) (m : PySem.Str → Option Value) (s : Shared) (Q : Flow → Shared → Prop) (E : Value → Shared → Prop)
  (XB : (Mine.hd.heap_39 w.params).In base) (TB : Top p loose mean mg mb base) (B : Below A₀ base [] h₀) (F : Fr h₀ L s.heap m) (X : (Mine.hd.heap_39 w.params).In h₀) (T : Top p loose mean mg mb h₀) (hdp : dp ≤ 400) (hun : un ≤ 3000)
  (hCH : CodeHd h₀ 333 331)
  (cT cB cN cF cC cS cW : Addr) (oT oB oN oF oC oS oW : Obj) (hCA : CellsAt cT cB cN cF cC cS cW)
  (c₁ c₂ : Addr) (d c : Addr) (o oc : Obj) (big : List (Addr × Obj)) (N : News h₀ L s.heap ((cW, oW) :: (cS, oS) :: (cC, oC) :: (cF, oF) :: (cN, oN) :: (cB, oB) :: (cT, oT) :: (331, tabObj ((#[] ++ #[rawInt 219, rawInt 21, .ref c₁]) ++ #[rawInt 222, rawInt 17, .ref c₂])) :: (d, o) :: (c, oc) :: big)) (hDO : KeyOff cT cB cN cF cC cS cW d) (hCO : KeyOff cT cB cN cF cC cS cW c) (hdc : @Ne Nat d c) (hBO : BigOff cT cB cN cF cC cS cW d c big)
  (x : Addr) (bs ns : List Int) (n : Nat) (hC : oC.data = .cell (some (.ref x))) (hCl : ClAt big x bs ns n) (hX : ClsX bs ns n)
  (lw : Addr) (wvs : List Value) (ws : List Int) (kw : Nat) (hW : oW.data = .cell (some (.ref lw))) (hlw : (lw, W.listOf wvs.toArray kw) ∈ big) (hwI : IntsAre wvs ws) (hw5 : ws.length ≤ 5)
  (hret : ∀ ps v h' tk' m', ((∀ k ∈ ws, 0 ≤ k ∧ k < (n : Int)) ∧ ∃ t, v = .str (⟨(ws.map fun k => (bs.getD (ns.idxOf k) 0).toNat).toArray⟩ : PySem.Str) t) ∨ (¬ (∀ k ∈ ws, 0 ≤ k ∧ k < (n : Int)) ∧ v = .none) → Fr h₀ L h' m' → m' (Str.ofString "text") = some v → News h₀ L h' ((cW, oW) :: (cS, oS) :: (cC, oC) :: (cF, oF) :: (cN, oN) :: (cB, oB) :: (cT, oT) :: (331, tabObj ps) :: (d, o) :: (c, oc) :: big) → Q .next { s with heap := h', toks := tk' })
  :
  wpAny (model prog w) (ktrTop dp un gd (Str.ofString "law") ({ kind := PySem.ScopeKind.function, names := [(PySem.Str.ofString "script", PySem.NameKind.local), (PySem.Str.ofString "tin", PySem.NameKind.cell), (PySem.Str.ofString "table", PySem.NameKind.cell), (PySem.Str.ofString "number", PySem.NameKind.cell), (PySem.Str.ofString "firsts", PySem.NameKind.cell), (PySem.Str.ofString "due", PySem.NameKind.local), (PySem.Str.ofString "is_let", PySem.NameKind.local), (PySem.Str.ofString "signs", PySem.NameKind.local), (PySem.Str.ofString "text", PySem.NameKind.local), (PySem.Str.ofString "classes", PySem.NameKind.cell), (PySem.Str.ofString "some", PySem.NameKind.cell), (PySem.Str.ofString "word", PySem.NameKind.cell), (PySem.Str.ofString "_law_tin", PySem.NameKind.globalImplicit), (PySem.Str.ofString "Classes", PySem.NameKind.globalImplicit), (PySem.Str.ofString "_law_sets", PySem.NameKind.globalImplicit), (PySem.Str.ofString "_law_bit", PySem.NameKind.globalImplicit), (PySem.Str.ofString "range", PySem.NameKind.globalImplicit), (PySem.Str.ofString "_law_told", PySem.NameKind.globalImplicit)], isGenerator := false, isCoroutine := false, more := [(PySem.Str.ofString "fast", (PySem.Const.str "script")), (PySem.Str.ofString "fast", (PySem.Const.str "tin")), (PySem.Str.ofString "fast", (PySem.Const.str "table")), (PySem.Str.ofString "fast", (PySem.Const.str "number")), (PySem.Str.ofString "fast", (PySem.Const.str "firsts")), (PySem.Str.ofString "fast", (PySem.Const.str "turn")), (PySem.Str.ofString "fast", (PySem.Const.str "due")), (PySem.Str.ofString "fast", (PySem.Const.str "is_let")), (PySem.Str.ofString "fast", (PySem.Const.str "signs")), (PySem.Str.ofString "fast", (PySem.Const.str "code")), (PySem.Str.ofString "fast", (PySem.Const.str "text")), (PySem.Str.ofString "fast", (PySem.Const.str "classes")), (PySem.Str.ofString "fast", (PySem.Const.str "some")), (PySem.Str.ofString "fast", (PySem.Const.str "word"))] } : PySem.Scope) L fa (.ref 333) (lawCl cT cB cN cF cC cS cW) []) (exec (lawSt 12) (envX (Str.ofString "law") ({ kind := PySem.ScopeKind.function, names := [(PySem.Str.ofString "script", PySem.NameKind.local), (PySem.Str.ofString "tin", PySem.NameKind.cell), (PySem.Str.ofString "table", PySem.NameKind.cell), (PySem.Str.ofString "number", PySem.NameKind.cell), (PySem.Str.ofString "firsts", PySem.NameKind.cell), (PySem.Str.ofString "due", PySem.NameKind.local), (PySem.Str.ofString "is_let", PySem.NameKind.local), (PySem.Str.ofString "signs", PySem.NameKind.local), (PySem.Str.ofString "text", PySem.NameKind.local), (PySem.Str.ofString "classes", PySem.NameKind.cell), (PySem.Str.ofString "some", PySem.NameKind.cell), (PySem.Str.ofString "word", PySem.NameKind.cell), (PySem.Str.ofString "_law_tin", PySem.NameKind.globalImplicit), (PySem.Str.ofString "Classes", PySem.NameKind.globalImplicit), (PySem.Str.ofString "_law_sets", PySem.NameKind.globalImplicit), (PySem.Str.ofString "_law_bit", PySem.NameKind.globalImplicit), (PySem.Str.ofString "range", PySem.NameKind.globalImplicit), (PySem.Str.ofString "_law_told", PySem.NameKind.globalImplicit)], isGenerator := false, isCoroutine := false, more := [(PySem.Str.ofString "fast", (PySem.Const.str "script")), (PySem.Str.ofString "fast", (PySem.Const.str "tin")), (PySem.Str.ofString "fast", (PySem.Const.str "table")), (PySem.Str.ofString "fast", (PySem.Const.str "number")), (PySem.Str.ofString "fast", (PySem.Const.str "firsts")), (PySem.Str.ofString "fast", (PySem.Const.str "turn")), (PySem.Str.ofString "fast", (PySem.Const.str "due")), (PySem.Str.ofString "fast", (PySem.Const.str "is_let")), (PySem.Str.ofString "fast", (PySem.Const.str "signs")), (PySem.Str.ofString "fast", (PySem.Const.str "code")), (PySem.Str.ofString "fast", (PySem.Const.str "text")), (PySem.Str.ofString "fast", (PySem.Const.str "classes")), (PySem.Str.ofString "fast", (PySem.Const.str "some")), (PySem.Str.ofString "fast", (PySem.Const.str "word"))] } : PySem.Scope) L fa (.ref 333) (lawCl cT cB cN cF cC cS cW))) Q E s := by
  have hCA9 := hCA
  obtain ⟨q1, q2, q3, q4, q5, q6, q7⟩ := hCA
  obtain ⟨u0, u1, u2, u3, u4, u5, u6, u7⟩ := hDO
  obtain ⟨v0, v1, v2, v3, v4, v5, v6, v7⟩ := hCO
  obtain ⟨z0, z1, z2, z3, z4, z5, z6, z7, z8, z9⟩ := hBO
  obtain ⟨dx, lb, ln, bvs, nvs, y1, y2, y3, t1, t2, t3, t4, nd, kb, kn, hx, hdx, hlb, hln, hbI, hnI⟩ := hCl
  have hC9 := hX.ok
  have h64 := hC9.c64
  have hwl := hwI.length
  show wpAny _ _ (exec (.Assign _ _ _) _) _ _ _
  k_steps
  unfold Stop
  k_dflt (apply told_text12 (Q := fun _ _ => True) (oT := oT) (oB := oB) (oF := oF) (oN := oN) (oS := oS) (P := _) (Bd := _) (Sc := _) (pos := _); (case XB => exact XB); (case TB => exact TB); (case B => k_asm); (case F => k_asm); (case X => k_asm); (case T => k_asm); (case hdp => exact hdp); (case hun => exact hun); (case hCH => exact hCH); (case hCA => exact hCA9); (case N => k_asm); (case hf => k_mem); (case hlam => rfl); (case hcm => k_mem); (case hcd => assumption); (case hcq => assumption); (case hmC => k_mem); (case hC => exact hC); (case hC9 => exact hC9); (case hmM => k_mem); (case hM => exact hW); (case hlm => k_mem); (case hmI => exact hwI); (case hm64 => omega); (case hx => k_mem); (case hdx => k_mem); (case hlb => k_mem); (case hln => k_mem); (case hbI => exact hbI); (case hnI => exact hnI))
  · intro t8 h8 tk8 tx hall htx F8 N8
    k_steps
    (rename Fr _ _ _ _ => lF); (rename News _ _ _ _ => lN)
    exact hret _ _ _ _ _ (.inl ⟨hall, t8, by rw [htx]⟩) lF (if_pos rfl) (fun p hp => lN p (List.mem_cons_of_mem _ (List.mem_cons_of_mem _ hp)))
  · intro h8 tk8 hbad F8 N8
    k_steps
    (rename Fr _ _ _ _ => lF); (rename News _ _ _ _ => lN)
    exact hret _ _ _ _ _ (.inr ⟨hbad, rfl⟩) lF (if_pos rfl) (fun p hp => lN p (List.mem_cons_of_mem _ (List.mem_cons_of_mem _ hp)))

set_option maxRecDepth 100000 in
set_option maxHeartbeats 8000000 in
theorem st13 {prog : Program} {w : World} {p : Program} {loose : List PySem.Str} {mean : ExcName → Option Value} {mg mb : PySem.Str → Option Value}
  (dp un : Nat) (gd : Option (List Code)) (fa : Addr) (A₀ : Around) (base h₀ : Heap) (L : Addr) (m : PySem.Str → Option Value) (s : Shared) (Q : Flow → Shared → Prop) (E : Value → Shared → Prop)
  (XB : (Mine.hd.heap_39 w.params).In base) (TB : Top p loose mean mg mb base) (B : Below A₀ base [] h₀) (F : Fr h₀ L s.heap m) (X : (Mine.hd.heap_39 w.params).In h₀) (T : Top p loose mean mg mb h₀) (hdp : dp ≤ 400) (hun : un ≤ 3000)
  (hCH : CodeHd h₀ 333 331)
  (cT cB cN cF cC cS cW : Addr) (oT oB oN oF oC oS oW : Obj) (hCA : CellsAt cT cB cN cF cC cS cW)
  (ps : Array Value) (d c : Addr) (o oc : Obj) (big : List (Addr × Obj)) (N : News h₀ L s.heap ((cW, oW) :: (cS, oS) :: (cC, oC) :: (cF, oF) :: (cN, oN) :: (cB, oB) :: (cT, oT) :: (331, tabObj ps) :: (d, o) :: (c, oc) :: big)) (hDO : KeyOff cT cB cN cF cC cS cW d) (hCO : KeyOff cT cB cN cF cC cS cW c) (hdc : @Ne Nat d c) (hBO : BigOff cT cB cN cF cC cS cW d c big)
  (hT : oT.data = .cell (some (.ref d))) (hTI : TinAt prog w c o oc) (hlo : (d == sysModules) = false)
  (lw : Addr) (wvs : List Value) (ws : List Int) (kw : Nat) (hW : oW.data = .cell (some (.ref lw))) (hlw : (lw, W.listOf wvs.toArray kw) ∈ big) (hwI : IntsAre wvs ws) (hw5 : ws.length ≤ 5)
  (v : Value) (hv : (∃ tx t, v = .str tx t) ∨ (v = .none ∧ ws.any (· == (-1)) = true)) (hm : m (Str.ofString "text") = some v)
  (hret : ∀ h' tk', (∃ tx t, v = .str tx t) → Fr h₀ L h' m → News h₀ L h' ((cW, oW) :: (cS, oS) :: (cC, oC) :: (cF, oF) :: (cN, oN) :: (cB, oB) :: (cT, oT) :: (331, tabObj ps) :: (d, o) :: (c, oc) :: big) → Q .next { s with heap := h', toks := tk' })
  (hend : ∀ h' tk' m', Fr h₀ L h' m' → GrownAt 331 h' → Q (.ret (.bool true)) { s with heap := h', toks := tk' })
  :
  wpAny (model prog w) (ktrTop dp un gd (Str.ofString "law") ({ kind := PySem.ScopeKind.function, names := [(PySem.Str.ofString "script", PySem.NameKind.local), (PySem.Str.ofString "tin", PySem.NameKind.cell), (PySem.Str.ofString "table", PySem.NameKind.cell), (PySem.Str.ofString "number", PySem.NameKind.cell), (PySem.Str.ofString "firsts", PySem.NameKind.cell), (PySem.Str.ofString "due", PySem.NameKind.local), (PySem.Str.ofString "is_let", PySem.NameKind.local), (PySem.Str.ofString "signs", PySem.NameKind.local), (PySem.Str.ofString "text", PySem.NameKind.local), (PySem.Str.ofString "classes", PySem.NameKind.cell), (PySem.Str.ofString "some", PySem.NameKind.cell), (PySem.Str.ofString "word", PySem.NameKind.cell), (PySem.Str.ofString "_law_tin", PySem.NameKind.globalImplicit), (PySem.Str.ofString "Classes", PySem.NameKind.globalImplicit), (PySem.Str.ofString "_law_sets", PySem.NameKind.globalImplicit), (PySem.Str.ofString "_law_bit", PySem.NameKind.globalImplicit), (PySem.Str.ofString "range", PySem.NameKind.globalImplicit), (PySem.Str.ofString "_law_told", PySem.NameKind.globalImplicit)], isGenerator := false, isCoroutine := false, more := [(PySem.Str.ofString "fast", (PySem.Const.str "script")), (PySem.Str.ofString "fast", (PySem.Const.str "tin")), (PySem.Str.ofString "fast", (PySem.Const.str "table")), (PySem.Str.ofString "fast", (PySem.Const.str "number")), (PySem.Str.ofString "fast", (PySem.Const.str "firsts")), (PySem.Str.ofString "fast", (PySem.Const.str "turn")), (PySem.Str.ofString "fast", (PySem.Const.str "due")), (PySem.Str.ofString "fast", (PySem.Const.str "is_let")), (PySem.Str.ofString "fast", (PySem.Const.str "signs")), (PySem.Str.ofString "fast", (PySem.Const.str "code")), (PySem.Str.ofString "fast", (PySem.Const.str "text")), (PySem.Str.ofString "fast", (PySem.Const.str "classes")), (PySem.Str.ofString "fast", (PySem.Const.str "some")), (PySem.Str.ofString "fast", (PySem.Const.str "word"))] } : PySem.Scope) L fa (.ref 333) (lawCl cT cB cN cF cC cS cW) []) (exec (lawSt 13) (envX (Str.ofString "law") ({ kind := PySem.ScopeKind.function, names := [(PySem.Str.ofString "script", PySem.NameKind.local), (PySem.Str.ofString "tin", PySem.NameKind.cell), (PySem.Str.ofString "table", PySem.NameKind.cell), (PySem.Str.ofString "number", PySem.NameKind.cell), (PySem.Str.ofString "firsts", PySem.NameKind.cell), (PySem.Str.ofString "due", PySem.NameKind.local), (PySem.Str.ofString "is_let", PySem.NameKind.local), (PySem.Str.ofString "signs", PySem.NameKind.local), (PySem.Str.ofString "text", PySem.NameKind.local), (PySem.Str.ofString "classes", PySem.NameKind.cell), (PySem.Str.ofString "some", PySem.NameKind.cell), (PySem.Str.ofString "word", PySem.NameKind.cell), (PySem.Str.ofString "_law_tin", PySem.NameKind.globalImplicit), (PySem.Str.ofString "Classes", PySem.NameKind.globalImplicit), (PySem.Str.ofString "_law_sets", PySem.NameKind.globalImplicit), (PySem.Str.ofString "_law_bit", PySem.NameKind.globalImplicit), (PySem.Str.ofString "range", PySem.NameKind.globalImplicit), (PySem.Str.ofString "_law_told", PySem.NameKind.globalImplicit)], isGenerator := false, isCoroutine := false, more := [(PySem.Str.ofString "fast", (PySem.Const.str "script")), (PySem.Str.ofString "fast", (PySem.Const.str "tin")), (PySem.Str.ofString "fast", (PySem.Const.str "table")), (PySem.Str.ofString "fast", (PySem.Const.str "number")), (PySem.Str.ofString "fast", (PySem.Const.str "firsts")), (PySem.Str.ofString "fast", (PySem.Const.str "turn")), (PySem.Str.ofString "fast", (PySem.Const.str "due")), (PySem.Str.ofString "fast", (PySem.Const.str "is_let")), (PySem.Str.ofString "fast", (PySem.Const.str "signs")), (PySem.Str.ofString "fast", (PySem.Const.str "code")), (PySem.Str.ofString "fast", (PySem.Const.str "text")), (PySem.Str.ofString "fast", (PySem.Const.str "classes")), (PySem.Str.ofString "fast", (PySem.Const.str "some")), (PySem.Str.ofString "fast", (PySem.Const.str "word"))] } : PySem.Scope) L fa (.ref 333) (lawCl cT cB cN cF cC cS cW))) Q E s := by
  obtain ⟨q1, q2, q3, q4, q5, q6, q7⟩ := hCA
  obtain ⟨u0, u1, u2, u3, u4, u5, u6, u7⟩ := hDO
  obtain ⟨v0, v1, v2, v3, v4, v5, v6, v7⟩ := hCO
  obtain ⟨z0, z1, z2, z3, z4, z5, z6, z7, z8, z9⟩ := hBO
  have em := map_one hm
  rw [em] at F
  rcases hv with ⟨tx, t, rfl⟩ | ⟨rfl, hany⟩
  · show wpAny _ _ (exec (.If _ _ _ _) _) _ _ _
    k_steps
    (rename Fr _ _ _ _ => lF); (rename News _ _ _ _ => lN)
    rw [← em] at lF
    exact hret _ _ ⟨_, _, rfl⟩ lF lN
  · show wpAny _ _ (exec (.If _ _ _ _) _) _ _ _
    k_steps
    unfold Stop
    (rename News _ _ _ _ => lN)
    refine in_list_ints (lN.isList (by k_mem)) hwI ?_
    rw [hany]
    k_steps
    (rename Fr _ _ _ _ => lF)
    exact hend _ _ _ lF (GrownAt.of lN (by k_mem))
section
local macro_rules | `(tactic| walk_at "compareOp Eq ref ref") => `(tactic| (k_here; k_dflt (refine Stop.out ?_)))
set_option maxRecDepth 100000 in
set_option maxHeartbeats 8000000 in
theorem st14 {prog : Program} {w : World} {p : Program} {loose : List PySem.Str} {mean : ExcName → Option Value} {mg mb : PySem.Str → Option Value}
  (dp un : Nat) (gd : Option (List Code)) (fa : Addr) (A₀ : Around) (base h₀ : Heap) (L : Addr) (m : PySem.Str → Option Value) (s : Shared) (Q : Flow → Shared → Prop) (E : Value → Shared → Prop)
  (XB : (Mine.hd.heap_39 w.params).In base) (TB : Top p loose mean mg mb base) (B : Below A₀ base [] h₀) (F : Fr h₀ L s.heap m) (X : (Mine.hd.heap_39 w.params).In h₀) (T : Top p loose mean mg mb h₀) (hdp : dp ≤ 400) (hun : un ≤ 3000)
  (hCH : CodeHd h₀ 333 331)
  (cT cB cN cF cC cS cW : Addr) (oT oB oN oF oC oS oW : Obj) (hCA : CellsAt cT cB cN cF cC cS cW)
  (ps : Array Value) (d c : Addr) (o oc : Obj) (big : List (Addr × Obj)) (N : News h₀ L s.heap ((cW, oW) :: (cS, oS) :: (cC, oC) :: (cF, oF) :: (cN, oN) :: (cB, oB) :: (cT, oT) :: (331, tabObj ps) :: (d, o) :: (c, oc) :: big)) (hDO : KeyOff cT cB cN cF cC cS cW d) (hCO : KeyOff cT cB cN cF cC cS cW c) (hdc : @Ne Nat d c) (hBO : BigOff cT cB cN cF cC cS cW d c big)
  (hT : oT.data = .cell (some (.ref d))) (hTI : TinAt prog w c o oc) (hlo : (d == sysModules) = false)
  (x : Addr) (bs ns : List Int) (n : Nat) (hC : oC.data = .cell (some (.ref x))) (hCl : ClAt big x bs ns n) (hX : ClsX bs ns n)
  (lw : Addr) (wvs : List Value) (ws : List Int) (kw : Nat) (hW : oW.data = .cell (some (.ref lw))) (hlw : (lw, W.listOf wvs.toArray kw) ∈ big) (hwI : IntsAre wvs ws) (hw5 : ws.length ≤ 5)
  (t : Tok) (hall : ∀ k ∈ ws, 0 ≤ k ∧ k < (n : Int)) (hm : m (Str.ofString "text") = some (.str (⟨(ws.map fun k => (bs.getD (ns.idxOf k) 0).toNat).toArray⟩ : PySem.Str) t))
  (hend : ∀ h' tk' m', Fr h₀ L h' m' → GrownAt 331 h' → Q (.ret (.bool true)) { s with heap := h', toks := tk' })
  :
  wpAny (model prog w) (ktrTop dp un gd (Str.ofString "law") ({ kind := PySem.ScopeKind.function, names := [(PySem.Str.ofString "script", PySem.NameKind.local), (PySem.Str.ofString "tin", PySem.NameKind.cell), (PySem.Str.ofString "table", PySem.NameKind.cell), (PySem.Str.ofString "number", PySem.NameKind.cell), (PySem.Str.ofString "firsts", PySem.NameKind.cell), (PySem.Str.ofString "due", PySem.NameKind.local), (PySem.Str.ofString "is_let", PySem.NameKind.local), (PySem.Str.ofString "signs", PySem.NameKind.local), (PySem.Str.ofString "text", PySem.NameKind.local), (PySem.Str.ofString "classes", PySem.NameKind.cell), (PySem.Str.ofString "some", PySem.NameKind.cell), (PySem.Str.ofString "word", PySem.NameKind.cell), (PySem.Str.ofString "_law_tin", PySem.NameKind.globalImplicit), (PySem.Str.ofString "Classes", PySem.NameKind.globalImplicit), (PySem.Str.ofString "_law_sets", PySem.NameKind.globalImplicit), (PySem.Str.ofString "_law_bit", PySem.NameKind.globalImplicit), (PySem.Str.ofString "range", PySem.NameKind.globalImplicit), (PySem.Str.ofString "_law_told", PySem.NameKind.globalImplicit)], isGenerator := false, isCoroutine := false, more := [(PySem.Str.ofString "fast", (PySem.Const.str "script")), (PySem.Str.ofString "fast", (PySem.Const.str "tin")), (PySem.Str.ofString "fast", (PySem.Const.str "table")), (PySem.Str.ofString "fast", (PySem.Const.str "number")), (PySem.Str.ofString "fast", (PySem.Const.str "firsts")), (PySem.Str.ofString "fast", (PySem.Const.str "turn")), (PySem.Str.ofString "fast", (PySem.Const.str "due")), (PySem.Str.ofString "fast", (PySem.Const.str "is_let")), (PySem.Str.ofString "fast", (PySem.Const.str "signs")), (PySem.Str.ofString "fast", (PySem.Const.str "code")), (PySem.Str.ofString "fast", (PySem.Const.str "text")), (PySem.Str.ofString "fast", (PySem.Const.str "classes")), (PySem.Str.ofString "fast", (PySem.Const.str "some")), (PySem.Str.ofString "fast", (PySem.Const.str "word"))] } : PySem.Scope) L fa (.ref 333) (lawCl cT cB cN cF cC cS cW) []) (exec (lawSt 14) (envX (Str.ofString "law") ({ kind := PySem.ScopeKind.function, names := [(PySem.Str.ofString "script", PySem.NameKind.local), (PySem.Str.ofString "tin", PySem.NameKind.cell), (PySem.Str.ofString "table", PySem.NameKind.cell), (PySem.Str.ofString "number", PySem.NameKind.cell), (PySem.Str.ofString "firsts", PySem.NameKind.cell), (PySem.Str.ofString "due", PySem.NameKind.local), (PySem.Str.ofString "is_let", PySem.NameKind.local), (PySem.Str.ofString "signs", PySem.NameKind.local), (PySem.Str.ofString "text", PySem.NameKind.local), (PySem.Str.ofString "classes", PySem.NameKind.cell), (PySem.Str.ofString "some", PySem.NameKind.cell), (PySem.Str.ofString "word", PySem.NameKind.cell), (PySem.Str.ofString "_law_tin", PySem.NameKind.globalImplicit), (PySem.Str.ofString "Classes", PySem.NameKind.globalImplicit), (PySem.Str.ofString "_law_sets", PySem.NameKind.globalImplicit), (PySem.Str.ofString "_law_bit", PySem.NameKind.globalImplicit), (PySem.Str.ofString "range", PySem.NameKind.globalImplicit), (PySem.Str.ofString "_law_told", PySem.NameKind.globalImplicit)], isGenerator := false, isCoroutine := false, more := [(PySem.Str.ofString "fast", (PySem.Const.str "script")), (PySem.Str.ofString "fast", (PySem.Const.str "tin")), (PySem.Str.ofString "fast", (PySem.Const.str "table")), (PySem.Str.ofString "fast", (PySem.Const.str "number")), (PySem.Str.ofString "fast", (PySem.Const.str "firsts")), (PySem.Str.ofString "fast", (PySem.Const.str "turn")), (PySem.Str.ofString "fast", (PySem.Const.str "due")), (PySem.Str.ofString "fast", (PySem.Const.str "is_let")), (PySem.Str.ofString "fast", (PySem.Const.str "signs")), (PySem.Str.ofString "fast", (PySem.Const.str "code")), (PySem.Str.ofString "fast", (PySem.Const.str "text")), (PySem.Str.ofString "fast", (PySem.Const.str "classes")), (PySem.Str.ofString "fast", (PySem.Const.str "some")), (PySem.Str.ofString "fast", (PySem.Const.str "word"))] } : PySem.Scope) L fa (.ref 333) (lawCl cT cB cN cF cC cS cW))) Q E s := by
  obtain ⟨q1, q2, q3, q4, q5, q6, q7⟩ := hCA
  obtain ⟨u0, u1, u2, u3, u4, u5, u6, u7⟩ := hDO
  obtain ⟨v0, v1, v2, v3, v4, v5, v6, v7⟩ := hCO
  obtain ⟨z0, z1, z2, z3, z4, z5, z6, z7, z8, z9⟩ := hBO
  obtain ⟨dx, lb, ln, bvs, nvs, y1, y2, y3, t1, t2, t3, t4, nd, kb, kn, hx, hdx, hlb, hln, hbI, hnI⟩ := hCl
  have hC9 := hX.ok
  have hback := word_back hC9 hall
  have htz : (⟨(ws.map fun k => (bs.getD (ns.idxOf k) 0).toNat).toArray⟩ : PySem.Str).cps.size ≤ 64 := by simp; omega
  generalize (⟨(ws.map fun k => (bs.getD (ns.idxOf k) 0).toNat).toArray⟩ : PySem.Str) = tx at hm hback htz
  have em := map_one hm
  rw [em] at F
  show wpAny _ _ (exec (.Return _ _) _) _ _ _
  k_steps
  unfold Stop
  (rename News _ _ _ _ => lN)
  refine notin_list_ints (lN.isList (by k_mem)) hwI ?_
  rw [any_minus_false hall]
  k_steps
  unfold Stop
  k_dflt (apply word_base; (case B => k_asm); (case F => k_asm); (case X => k_asm); (case T => k_asm); (case hk => first | exact rfl | assumption); (case hdp => first | omega | ktr_room); (case hun => first | omega | units_room); (case N => k_asm); (case hx => k_mem); (case hdx => k_mem); (case hlb => k_mem); (case hln => k_mem); (case hbI => exact hbI); (case hnI => exact hnI); (case hC => exact hC9); (case hlt => exact htz))
  intro l zs8 k8 h8 tk8 F8 N8 n8 I8
  rw [hback] at I8
  k_steps
  unfold Stop
  (rename News _ _ _ _ => lN)
  refine eq_intsK (lN.isList (by k_mem)) I8 (lN.isList (by k_mem)) hwI (by units_room) ?_
  rw [decide_eq_true rfl]
  (rename Fr _ _ _ _ => lF)
  exact hend _ _ _ lF (GrownAt.of lN (by k_mem))
end

end

theorem lawBody_eq : lawBody = [lawSt 0, lawSt 1, lawSt 2, lawSt 3, lawSt 4, lawSt 5, lawSt 6, lawSt 7, lawSt 8, lawSt 9, lawSt 10, lawSt 11, lawSt 12, lawSt 13, lawSt 14] := rfl
set_option maxHeartbeats 8000000 in
theorem law_body {prog : Program} {w : World} {p : Program} {loose : List PySem.Str} {mean : ExcName → Option Value} {mg mb : PySem.Str → Option Value}
  (dp un : Nat) (gd : Option (List Code)) (fa : Addr) (A₀ : Around) (base h₀ : Heap) (L : Addr) (m : PySem.Str → Option Value) (s : Shared) (Q : Flow → Shared → Prop) (E : Value → Shared → Prop)
  (XB : (Mine.hd.heap_39 w.params).In base) (TB : Top p loose mean mg mb base) (B : Below A₀ base [] h₀) (F : Fr h₀ L s.heap m) (X : (Mine.hd.heap_39 w.params).In h₀) (T : Top p loose mean mg mb h₀) (hdp : dp ≤ 400) (hun : un ≤ 3000)
  (hCH : CodeHd h₀ 333 331)
  (cT cB cN cF cC cS cW : Addr) (oT oB oN oF oC oS oW : Obj) (hCA : CellsAt cT cB cN cF cC cS cW)
  (N : News h₀ L s.heap [(cW, oW), (cS, oS), (cC, oC), (cF, oF), (cN, oN), (cB, oB), (cT, oT), (331, tabObj #[])])
  (hT : oT.data = .cell none) (hB : oB.data = .cell none) (hN : oN.data = .cell none) (hF : oF.data = .cell none) (hC : oC.data = .cell none) (hS : oS.data = .cell none) (hW : oW.data = .cell none)
  (l : Addr) (vs : List Value) (zs : List Int) (hm : m (Str.ofString "script") = some (.ref l)) (hl : h₀.IsList l vs.toArray) (hI : IntsAre vs zs) (hlay : PyData.layable0 (.list (zs.map .int)) = true) (h63 : zs.length ≤ 63)
  (hE : PassesOwn (model prog w) (ktrTop dp un gd (Str.ofString "law") ({ kind := PySem.ScopeKind.function, names := [(PySem.Str.ofString "script", PySem.NameKind.local), (PySem.Str.ofString "tin", PySem.NameKind.cell), (PySem.Str.ofString "table", PySem.NameKind.cell), (PySem.Str.ofString "number", PySem.NameKind.cell), (PySem.Str.ofString "firsts", PySem.NameKind.cell), (PySem.Str.ofString "due", PySem.NameKind.local), (PySem.Str.ofString "is_let", PySem.NameKind.local), (PySem.Str.ofString "signs", PySem.NameKind.local), (PySem.Str.ofString "text", PySem.NameKind.local), (PySem.Str.ofString "classes", PySem.NameKind.cell), (PySem.Str.ofString "some", PySem.NameKind.cell), (PySem.Str.ofString "word", PySem.NameKind.cell), (PySem.Str.ofString "_law_tin", PySem.NameKind.globalImplicit), (PySem.Str.ofString "Classes", PySem.NameKind.globalImplicit), (PySem.Str.ofString "_law_sets", PySem.NameKind.globalImplicit), (PySem.Str.ofString "_law_bit", PySem.NameKind.globalImplicit), (PySem.Str.ofString "range", PySem.NameKind.globalImplicit), (PySem.Str.ofString "_law_told", PySem.NameKind.globalImplicit)], isGenerator := false, isCoroutine := false, more := [(PySem.Str.ofString "fast", (PySem.Const.str "script")), (PySem.Str.ofString "fast", (PySem.Const.str "tin")), (PySem.Str.ofString "fast", (PySem.Const.str "table")), (PySem.Str.ofString "fast", (PySem.Const.str "number")), (PySem.Str.ofString "fast", (PySem.Const.str "firsts")), (PySem.Str.ofString "fast", (PySem.Const.str "turn")), (PySem.Str.ofString "fast", (PySem.Const.str "due")), (PySem.Str.ofString "fast", (PySem.Const.str "is_let")), (PySem.Str.ofString "fast", (PySem.Const.str "signs")), (PySem.Str.ofString "fast", (PySem.Const.str "code")), (PySem.Str.ofString "fast", (PySem.Const.str "text")), (PySem.Str.ofString "fast", (PySem.Const.str "classes")), (PySem.Str.ofString "fast", (PySem.Const.str "some")), (PySem.Str.ofString "fast", (PySem.Const.str "word"))] } : PySem.Scope) L fa (.ref 333) (lawCl cT cB cN cF cC cS cW) []) (envX (Str.ofString "law") ({ kind := PySem.ScopeKind.function, names := [(PySem.Str.ofString "script", PySem.NameKind.local), (PySem.Str.ofString "tin", PySem.NameKind.cell), (PySem.Str.ofString "table", PySem.NameKind.cell), (PySem.Str.ofString "number", PySem.NameKind.cell), (PySem.Str.ofString "firsts", PySem.NameKind.cell), (PySem.Str.ofString "due", PySem.NameKind.local), (PySem.Str.ofString "is_let", PySem.NameKind.local), (PySem.Str.ofString "signs", PySem.NameKind.local), (PySem.Str.ofString "text", PySem.NameKind.local), (PySem.Str.ofString "classes", PySem.NameKind.cell), (PySem.Str.ofString "some", PySem.NameKind.cell), (PySem.Str.ofString "word", PySem.NameKind.cell), (PySem.Str.ofString "_law_tin", PySem.NameKind.globalImplicit), (PySem.Str.ofString "Classes", PySem.NameKind.globalImplicit), (PySem.Str.ofString "_law_sets", PySem.NameKind.globalImplicit), (PySem.Str.ofString "_law_bit", PySem.NameKind.globalImplicit), (PySem.Str.ofString "range", PySem.NameKind.globalImplicit), (PySem.Str.ofString "_law_told", PySem.NameKind.globalImplicit)], isGenerator := false, isCoroutine := false, more := [(PySem.Str.ofString "fast", (PySem.Const.str "script")), (PySem.Str.ofString "fast", (PySem.Const.str "tin")), (PySem.Str.ofString "fast", (PySem.Const.str "table")), (PySem.Str.ofString "fast", (PySem.Const.str "number")), (PySem.Str.ofString "fast", (PySem.Const.str "firsts")), (PySem.Str.ofString "fast", (PySem.Const.str "turn")), (PySem.Str.ofString "fast", (PySem.Const.str "due")), (PySem.Str.ofString "fast", (PySem.Const.str "is_let")), (PySem.Str.ofString "fast", (PySem.Const.str "signs")), (PySem.Str.ofString "fast", (PySem.Const.str "code")), (PySem.Str.ofString "fast", (PySem.Const.str "text")), (PySem.Str.ofString "fast", (PySem.Const.str "classes")), (PySem.Str.ofString "fast", (PySem.Const.str "some")), (PySem.Str.ofString "fast", (PySem.Const.str "word"))] } : PySem.Scope) L fa (.ref 333) (lawCl cT cB cN cF cC cS cW)) E)
  (hend : ∀ h' tk' m', Fr h₀ L h' m' → GrownAt 331 h' → Q (.ret (.bool true)) { s with heap := h', toks := tk' })
  :
  wpAny (model prog w) (ktrTop dp un gd (Str.ofString "law") ({ kind := PySem.ScopeKind.function, names := [(PySem.Str.ofString "script", PySem.NameKind.local), (PySem.Str.ofString "tin", PySem.NameKind.cell), (PySem.Str.ofString "table", PySem.NameKind.cell), (PySem.Str.ofString "number", PySem.NameKind.cell), (PySem.Str.ofString "firsts", PySem.NameKind.cell), (PySem.Str.ofString "due", PySem.NameKind.local), (PySem.Str.ofString "is_let", PySem.NameKind.local), (PySem.Str.ofString "signs", PySem.NameKind.local), (PySem.Str.ofString "text", PySem.NameKind.local), (PySem.Str.ofString "classes", PySem.NameKind.cell), (PySem.Str.ofString "some", PySem.NameKind.cell), (PySem.Str.ofString "word", PySem.NameKind.cell), (PySem.Str.ofString "_law_tin", PySem.NameKind.globalImplicit), (PySem.Str.ofString "Classes", PySem.NameKind.globalImplicit), (PySem.Str.ofString "_law_sets", PySem.NameKind.globalImplicit), (PySem.Str.ofString "_law_bit", PySem.NameKind.globalImplicit), (PySem.Str.ofString "range", PySem.NameKind.globalImplicit), (PySem.Str.ofString "_law_told", PySem.NameKind.globalImplicit)], isGenerator := false, isCoroutine := false, more := [(PySem.Str.ofString "fast", (PySem.Const.str "script")), (PySem.Str.ofString "fast", (PySem.Const.str "tin")), (PySem.Str.ofString "fast", (PySem.Const.str "table")), (PySem.Str.ofString "fast", (PySem.Const.str "number")), (PySem.Str.ofString "fast", (PySem.Const.str "firsts")), (PySem.Str.ofString "fast", (PySem.Const.str "turn")), (PySem.Str.ofString "fast", (PySem.Const.str "due")), (PySem.Str.ofString "fast", (PySem.Const.str "is_let")), (PySem.Str.ofString "fast", (PySem.Const.str "signs")), (PySem.Str.ofString "fast", (PySem.Const.str "code")), (PySem.Str.ofString "fast", (PySem.Const.str "text")), (PySem.Str.ofString "fast", (PySem.Const.str "classes")), (PySem.Str.ofString "fast", (PySem.Const.str "some")), (PySem.Str.ofString "fast", (PySem.Const.str "word"))] } : PySem.Scope) L fa (.ref 333) (lawCl cT cB cN cF cC cS cW) []) (execs lawBody (envX (Str.ofString "law") ({ kind := PySem.ScopeKind.function, names := [(PySem.Str.ofString "script", PySem.NameKind.local), (PySem.Str.ofString "tin", PySem.NameKind.cell), (PySem.Str.ofString "table", PySem.NameKind.cell), (PySem.Str.ofString "number", PySem.NameKind.cell), (PySem.Str.ofString "firsts", PySem.NameKind.cell), (PySem.Str.ofString "due", PySem.NameKind.local), (PySem.Str.ofString "is_let", PySem.NameKind.local), (PySem.Str.ofString "signs", PySem.NameKind.local), (PySem.Str.ofString "text", PySem.NameKind.local), (PySem.Str.ofString "classes", PySem.NameKind.cell), (PySem.Str.ofString "some", PySem.NameKind.cell), (PySem.Str.ofString "word", PySem.NameKind.cell), (PySem.Str.ofString "_law_tin", PySem.NameKind.globalImplicit), (PySem.Str.ofString "Classes", PySem.NameKind.globalImplicit), (PySem.Str.ofString "_law_sets", PySem.NameKind.globalImplicit), (PySem.Str.ofString "_law_bit", PySem.NameKind.globalImplicit), (PySem.Str.ofString "range", PySem.NameKind.globalImplicit), (PySem.Str.ofString "_law_told", PySem.NameKind.globalImplicit)], isGenerator := false, isCoroutine := false, more := [(PySem.Str.ofString "fast", (PySem.Const.str "script")), (PySem.Str.ofString "fast", (PySem.Const.str "tin")), (PySem.Str.ofString "fast", (PySem.Const.str "table")), (PySem.Str.ofString "fast", (PySem.Const.str "number")), (PySem.Str.ofString "fast", (PySem.Const.str "firsts")), (PySem.Str.ofString "fast", (PySem.Const.str "turn")), (PySem.Str.ofString "fast", (PySem.Const.str "due")), (PySem.Str.ofString "fast", (PySem.Const.str "is_let")), (PySem.Str.ofString "fast", (PySem.Const.str "signs")), (PySem.Str.ofString "fast", (PySem.Const.str "code")), (PySem.Str.ofString "fast", (PySem.Const.str "text")), (PySem.Str.ofString "fast", (PySem.Const.str "classes")), (PySem.Str.ofString "fast", (PySem.Const.str "some")), (PySem.Str.ofString "fast", (PySem.Const.str "word"))] } : PySem.Scope) L fa (.ref 333) (lawCl cT cB cN cF cC cS cW))) Q E s := by
  rw [lawBody_eq]
  refine wpAny_execs_cons (st0 dp un gd fa A₀ base h₀ L m _ _ E XB TB B F X T hdp hun hCH cT cB cN cF cC cS cW oT oB oN oF oC oS oW hCA N hT l vs zs hm hl hI hlay h63 ?_)
  intro d c o oc oT h1 tk1 F1 N1 hT1 T1 lo hDO hCO hdc
  have BO0 : BigOff cT cB cN cF cC cS cW d c [] := ⟨fun _ h => (nomatch h), fun _ h => (nomatch h), fun _ h => (nomatch h), fun _ h => (nomatch h), fun _ h => (nomatch h), fun _ h => (nomatch h), fun _ h => (nomatch h), fun _ h => (nomatch h), fun _ h => (nomatch h), fun _ h => (nomatch h)⟩
  show wpAny _ _ (execs _ _) Q E _
  refine wpAny_execs_cons (st1 dp un gd fa A₀ base h₀ L m _ _ E XB TB B F1 X T hdp hun hCH cT cB cN cF cC cS cW oT oB oN oF oC oS oW hCA #[] d c o oc [] N1 hDO hCO hdc BO0 hT1 T1 lo hC ?_)
  intro x bs ns cnt o oc oC big h2 tk2 F2 N2 hC2 T2 BO2 CL2 X2 h30
  show wpAny _ _ (execs _ _) Q E _
  refine wpAny_execs_cons (st2 dp un gd fa A₀ base h₀ L m _ _ E XB TB B F2 X T hdp hun hCH cT cB cN cF cC cS cW oT oB oN oF oC oS oW hCA #[] d c o oc big N2 hDO hCO hdc BO2 hT1 T2 lo x bs ns cnt hC2 CL2 X2 h30 ?_)
  intro x bs ns cnt o oc oC big h3 tk3 F3 N3 hC3 T3 BO3 CL3 X3
  obtain ⟨n, rfl⟩ := Int.eq_ofNat_of_zero_le (Int.le_of_lt X3.ok.cpos)
  show wpAny _ _ (execs _ _) Q E _
  refine wpAny_execs_cons (st3 dp un gd fa A₀ base h₀ L m _ _ E XB TB B F3 X T hdp hun hCH cT cB cN cF cC cS cW oT oB oN oF oC oS oW hCA #[] d c o oc big N3 hDO hCO hdc BO3 hT1 T3 lo x bs ns n hC3 CL3 X3 none hB ?_)
  intro big4 l4 ys4 k4 oB4 h4 tk4 sub4 F4 N4' hB4 BO4 m4 I4
  have N4 := N4' _ rfl
  have CL4 := CL3.mono sub4
  show wpAny _ _ (execs _ _) Q E _
  refine wpAny_execs_cons (st4 dp un gd fa A₀ base h₀ L m _ _ E XB TB B F4 X T hdp hun hCH cT cB cN cF cC cS cW oT oB4 oN oF oC oS oW hCA #[] d c o oc big4 N4 hDO hCO hdc BO4 hT1 T3 lo x bs ns n hC3 CL4 X3 l4 ys4 k4 hB4 m4 I4 none hF ?_)
  intro big5 l5 ys5 k5 oF5 h5 tk5 sub5 F5 N5' hF5 BO5 m5 I5
  have N5 := N5' _ rfl
  have CL5 := CL4.mono sub5
  show wpAny _ _ (execs _ _) Q E _
  refine wpAny_execs_cons (st5 dp un gd fa A₀ base h₀ L m _ _ E XB TB B F5 X T hdp hun hCH cT cB cN cF cC cS cW oT oB4 oN oF5 oC oS oW hCA #[] d c o oc big5 N5 hDO hCO hdc BO5 hT1 T3 lo x bs ns n hC3 CL5 X3 none hS ?_)
  intro big6 l6 ys6 zs6 k6 o6 oc6 oS6 h6 tk6 sub6 F6 N6' hS6 T6 BO6 m6 I6 z6
  have N6 := N6' _ rfl
  have CL6 := CL5.mono sub6
  show wpAny _ _ (execs _ _) Q E _
  refine wpAny_execs_cons (st6 dp un gd fa A₀ base h₀ L m _ _ E XB TB B F6 X T hdp hun hCH cT cB cN cF cC cS cW oT oB4 oN oF5 oC oS6 oW hCA d c o6 oc6 big6 N6 hDO hCO hdc BO6 x bs ns n hC3 CL6 X3 l5 ys5 k5 hF5 (sub6 _ m5) I5 l6 ys6 zs6 k6 hS6 m6 I6 z6 none hN ?_ hE)
  intro c₁ big7 oN7 v7 h7 tk7 m7 sub7 F7 N7 hN7 BO7
  have CL7 := CL6.mono sub7
  show wpAny _ _ (execs _ _) Q E _
  refine wpAny_execs_cons (st7 dp un gd fa A₀ base h₀ L m7 _ _ E XB TB B F7 X T hdp hun hCH cT cB cN cF cC cS cW oT oB4 oN7 oF5 oC oS6 oW hCA _ d c o6 oc6 big7 N7 hDO hCO hdc BO7 hT1 T6 lo x bs ns n hC3 CL7 X3 l6 ys6 zs6 k6 hS6 (sub7 _ m6) I6 z6 ?_)
  intro h8 tk8 m8 b8 hb8 F8 hm8 N8
  show wpAny _ _ (execs _ _) Q E _
  refine wpAny_execs_cons (st8 dp un gd fa A₀ base h₀ L m8 _ _ E XB TB B F8 X T hdp hun hCH cT cB cN cF cC cS cW oT oB4 oN7 oF5 oC oS6 oW hCA c₁ d c o6 oc6 big7 N8 hDO hCO hdc BO7 x bs ns n hC3 CL7 X3 l5 ys5 k5 hF5 (sub7 _ (sub6 _ m5)) I5 l6 ys6 zs6 k6 hS6 (sub7 _ m6) I6 z6 b8 hb8 hm8 ?_)
  intro c₂ h9 tk9 F9 N9
  show wpAny _ _ (execs _ _) Q E _
  refine wpAny_execs_cons (st9 dp un gd fa A₀ base h₀ L m8 _ _ E XB TB B F9 X T hdp hun hCH cT cB cN cF cC cS cW oT oB4 oN7 oF5 oC oS6 oW hCA _ d c o6 oc6 big7 N9 hDO hCO hdc BO7 hT1 T6 lo ?_)
  intro big10 l10 ys10 cs10 k10 o10 oc10 h10 tk10 m10 sub10 F10 hm10 N10' BO10 T10 mm10 I10 z10 r10
  have N10 := N10' _ rfl
  have CL10 := CL7.mono sub10
  show wpAny _ _ (execs _ _) Q E _
  refine wpAny_execs_cons (st10 dp un gd fa A₀ base h₀ L m10 _ _ E XB TB B F10 X T hdp hun hCH cT cB cN cF cC cS cW oT oB4 oN7 oF5 oC oS6 oW hCA _ d c o10 oc10 big10 N10 hDO hCO hdc BO10 hT1 T10 lo x bs ns n hC3 CL10 X3 none hW l10 ys10 cs10 k10 hm10 mm10 I10 z10 r10 ?_)
  intro big11 l11 ys11 k11 oW11 h11 tk11 sub11 F11 N11' hW11 BO11 mm11 I11
  have N11 := N11' _ rfl
  have CL11 := CL10.mono sub11
  show wpAny _ _ (execs _ _) Q E _
  refine wpAny_execs_cons (st11 dp un gd fa A₀ base h₀ L m10 _ _ E XB TB B F11 X T hdp hun hCH cT cB cN cF cC cS cW oT oB4 oN7 oF5 oC oS6 oW11 hCA _ d c o10 oc10 big11 N11 hDO hCO hdc BO11 hT1 T10 lo x bs ns n X3 l4 ys4 k4 hB4 (sub11 _ (sub10 _ (sub7 _ (sub6 _ (sub5 _ m4))))) I4 l10 ys10 cs10 k10 hm10 (sub11 _ mm10) I10 z10 r10 l11 ys11 k11 hW11 mm11 I11 ?_)
  intro h12 tk12 F12 N12
  have w5 : (cs10.map fun k => ofVal bs ns k).length ≤ 5 := by rw [List.length_map]; exact z10
  show wpAny _ _ (execs _ _) Q E _
  refine wpAny_execs_cons (st12 dp un gd fa A₀ base h₀ L m10 _ _ E XB TB B F12 X T hdp hun hCH cT cB cN cF cC cS cW oT oB4 oN7 oF5 oC oS6 oW11 hCA c₁ c₂ d c o10 oc10 big11 N12 hDO hCO hdc BO11 x bs ns n hC3 CL11 X3 l11 ys11 _ k11 hW11 mm11 I11 w5 ?_)
  intro ps13 v13 h13 tk13 m13 hv13 F13 hm13 N13
  have hr13 : ∀ k ∈ cs10.map (fun k => ofVal bs ns k), k = -1 ∨ (0 ≤ k ∧ k < (n : Int)) := fun k hk => by
    obtain ⟨q, -, rfl⟩ := List.mem_map.mp hk
    exact ofVal_rng X3.ok q
  have hv9 : (∃ tx t, v13 = .str tx t) ∨ (v13 = .none ∧ (cs10.map fun k => ofVal bs ns k).any (· == (-1)) = true) := by
    rcases hv13 with ⟨-, t, e⟩ | ⟨hb, e⟩
    · exact .inl ⟨_, t, e⟩
    · exact .inr ⟨e, any_minus_true hr13 hb⟩
  show wpAny _ _ (execs _ _) Q E _
  refine wpAny_execs_cons (st13 dp un gd fa A₀ base h₀ L m13 _ _ E XB TB B F13 X T hdp hun hCH cT cB cN cF cC cS cW oT oB4 oN7 oF5 oC oS6 oW11 hCA ps13 d c o10 oc10 big11 N13 hDO hCO hdc BO11 hT1 T10 lo l11 ys11 _ k11 hW11 mm11 I11 w5 v13 hv9 hm13 ?_ ?_)
  · intro h14 tk14 hs14 F14 N14
    show wpAny _ _ (execs _ _) Q E _
    rcases hv13 with ⟨hall, t, rfl⟩ | ⟨-, rfl⟩
    · refine wpAny_execs_cons (st14 dp un gd fa A₀ base h₀ L m13 _ _ E XB TB B F14 X T hdp hun hCH cT cB cN cF cC cS cW oT oB4 oN7 oF5 oC oS6 oW11 hCA ps13 d c o10 oc10 big11 N14 hDO hCO hdc BO11 hT1 T10 lo x bs ns n hC3 CL11 X3 l11 ys11 _ k11 hW11 mm11 I11 w5 t hall hm13 ?_)
      intro h15 tk15 m15 F15 G15
      exact hend h15 tk15 m15 F15 G15
    · obtain ⟨tx, t, e⟩ := hs14
      cases e
  · intro h14 tk14 m14 F14 G14
    exact hend h14 tk14 m14 F14 G14


end Mine
set_option maxRecDepth 100000 in
set_option maxHeartbeats 8000000 in
theorem PySem.Challenge.cw_qd0060_01_holds : PySem.Challenge.rw_qd0060_01.Holds := by
  refine Mine.hd (by rfl) (by rfl) (by rfl) ?_
  (k_go0; (all_goals try k_fold))
  k_dflt (apply Mine.law_body; (case F => k_asm); (case N => k_asm); (case hm => rfl); (case XB => k_asm); (case X => k_asm); (case B => k_asm); (case T => k_asm); (case TB => k_asm); (case hCH => exact codeHd); (case hT => assumption); (case hB => assumption); (case hN => assumption); (case hF => assumption); (case hC => assumption); (case hS => assumption); (case hW => assumption); (case hl => exact lifted); (case hI => assumption); (case hlay => assumption); (case hdp => decide); (case hun => decide))
  case hCA => constructor <;> omega
  case h63 => omega
  case hE => passes_own
  case hend =>
    intro h' tk' m' F9 G9
    refine ⟨goodW_bool F9 (by assumption) (raisesW_false ?_) ?_, ⟨G9, trivial⟩⟩
    · wrow_none_raised
    · wrow_post
