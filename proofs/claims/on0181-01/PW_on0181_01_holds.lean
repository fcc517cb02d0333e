import PyProof.Rows.All
import Wide.All
import OpenK.AllK
import Wide.FinOn
import Lean
import PySem.Challenge.RW_on0181_01
open PySem PySem.W PyProof.Rows
set_option Elab.async false
set_option maxRecDepth 100000
set_option linter.unusedVariables false
set_option linter.unusedSimpArgs false
set_option maxHeartbeats 8000000
namespace Mine
/-- the row's statements, by their number -/
noncomputable def stAt : Nat → List Stmt → Stmt
  | _, [] => .Pass ⟨0, 0, 0, 0⟩
  | 0, s :: _ => s
  | n + 1, _ :: r => stAt n r
noncomputable def topS (i : Nat) : Stmt := stAt i PySem.Challenge.pw_on0181_01.main.body
noncomputable def inS (i j : Nat) : Stmt := match topS i with
  | .ClassDef _ _ _ b _ _ _ _ _ _ _ => stAt j b
  | s => s
noncomputable def parOf : Stmt → Arguments
  | .FunctionDef _ p _ _ _ _ _ _ _ _ => p
  | _ => { posonlyargs := [], args := [], vararg := none, kwonlyargs := [], kw_defaults := [], kwarg := none, defaults := [] }
noncomputable def bodOf : Stmt → List Stmt
  | .FunctionDef _ _ b _ _ _ _ _ _ _ => b
  | _ => []
noncomputable def scoOf : Stmt → Scope
  | .FunctionDef _ _ _ _ _ _ s _ _ _ => s
  | _ => { kind := .function, names := [], isGenerator := false, isCoroutine := false }
noncomputable def viewK : Program := { PySem.Challenge.pw_on0181_01 with main := { PySem.Challenge.pw_on0181_01.main with body := [topS 0, topS 2, topS 3, topS 5, topS 6, topS 8, topS 10, topS 11, topS 12, topS 13, topS 14, topS 15, topS 16, topS 17, topS 18] } }
noncomputable def addrK : List Addr := 2 :: 3 :: 15 :: 17 :: 18 :: 20 :: 21 :: 22 :: 29 :: 31 :: 32 :: 34 :: 35 :: 36 :: 37 :: 38 :: 39 :: 42 :: 49 :: 50 :: 52 :: 53 :: 55 :: 56 :: 57 :: 58 :: 59 :: 69 :: 71 :: 72 :: 74 :: 75 :: 76 :: 77 :: 78 :: 79 :: 80 :: 90 :: 92 :: 93 :: 95 :: 96 :: 97 :: 99 :: 100 :: 102 :: 103 :: 104 :: 106 :: 107 :: 109 :: 110 :: 111 :: 113 :: 114 :: 116 :: 117 :: 118 :: 120 :: 121 :: 123 :: 124 :: 125 :: 127 :: 128 :: 130 :: 131 :: 132 :: 134 :: 135 :: 137 :: 138 :: 139 :: 142 :: 143 :: 144 :: 146 :: 147 :: 149 :: 150 :: 151 :: 153 :: 154 :: 156 :: 157 :: 158 :: 160 :: 161 :: 163 :: 164 :: 165 :: 168 :: 169 :: 170 :: 171 :: 172 :: 173 :: 174 :: 184 :: 186 :: 187 :: 189 :: 190 :: 191 :: 193 :: 194 :: 196 :: 197 :: 198 :: 200 :: 201 :: 203 :: 204 :: 205 :: 206 :: 207 :: 208 :: 209 :: 212 :: 214 :: 215 :: 217 :: 218 :: 219 :: 221 :: 222 :: 224 :: 225 :: 226 :: 228 :: 229 :: 231 :: 232 :: 233 :: 236 :: 237 :: 238 :: 240 :: 241 :: 243 :: 244 :: 245 :: 248 :: 249 :: 250 :: 253 :: 254 :: 255 :: 258 :: 259 :: 260 :: 262 :: 263 :: 265 :: 266 :: []
noncomputable def heapK : Params → Frag := fun P =>
  (nat_lit 2, { cls := Value.none, data := Data.dict #[{ hash := PyData.keyHash P (Str.ofString "type.__subclasses__.Exception.0"), key := Value.str (Str.ofString "type.__subclasses__.Exception.0") 221, val := Value.int 38 0 }, { hash := PyData.keyHash P (Str.ofString "type.__subclasses__.Exception.n"), key := Value.str (Str.ofString "type.__subclasses__.Exception.n") 222, val := Value.int 1 0 }] 2 }) ::
  (nat_lit 3, { cls := Value.type "dict", data := Data.dict #[{ hash := PyData.keyHash P (Str.ofString "__name__"), key := Value.str (Str.ofString "__name__") 165, val := Value.str (Str.ofString "law_on0181_01") 470 }, { hash := PyData.keyHash P (Str.ofString "__doc__"), key := Value.str (Str.ofString "__doc__") 166, val := Value.none }, { hash := PyData.keyHash P (Str.ofString "__package__"), key := Value.str (Str.ofString "__package__") 167, val := Value.none }, { hash := PyData.keyHash P (Str.ofString "__loader__"), key := Value.str (Str.ofString "__loader__") 168, val := Value.builtin "__main__.__loader__#opaque" }, { hash := PyData.keyHash P (Str.ofString "__spec__"), key := Value.str (Str.ofString "__spec__") 169, val := Value.none }, { hash := PyData.keyHash P (Str.ofString "__annotations__"), key := Value.str (Str.ofString "__annotations__") 170, val := Value.ref 6 }, { hash := PyData.keyHash P (Str.ofString "__builtins__"), key := Value.str (Str.ofString "__builtins__") 171, val := Value.ref 4 }, { hash := PyData.keyHash P (Str.ofString "__file__"), key := Value.str (Str.ofString "__file__") 173, val := Value.str (Str.ofString "/claim/cut.py") 172 }, { hash := PyData.keyHash P (Str.ofString "__cached__"), key := Value.str (Str.ofString "__cached__") 174, val := Value.none }, { hash := PyData.keyHash P (Str.ofString "_wall"), key := Value.str (Str.ofString "_wall") 193, val := Value.ref 21 }, { hash := PyData.keyHash P (Str.ofString "MarkupError"), key := Value.str (Str.ofString "MarkupError") 224, val := Value.ref 38 }, { hash := PyData.keyHash P (Str.ofString "DtdFault"), key := Value.str (Str.ofString "DtdFault") 251, val := Value.ref 59 }, { hash := PyData.keyHash P (Str.ofString "Notation"), key := Value.str (Str.ofString "Notation") 286, val := Value.ref 78 }, { hash := PyData.keyHash P (Str.ofString "Dtd"), key := Value.str (Str.ofString "Dtd") 418, val := Value.ref 172 }, { hash := PyData.keyHash P (Str.ofString "AttributeRule"), key := Value.str (Str.ofString "AttributeRule") 469, val := Value.ref 207 }, { hash := PyData.keyHash P (Str.ofString "_law_pool"), key := Value.str (Str.ofString "_law_pool") 480, val := Value.ref 218 }, { hash := PyData.keyHash P (Str.ofString "_law_take"), key := Value.str (Str.ofString "_law_take") 489, val := Value.ref 225 }, { hash := PyData.keyHash P (Str.ofString "_law_one"), key := Value.str (Str.ofString "_law_one") 497, val := Value.ref 232 }, { hash := PyData.keyHash P (Str.ofString "_law_rule"), key := Value.str (Str.ofString "_law_rule") 503, val := Value.ref 237 }, { hash := PyData.keyHash P (Str.ofString "_law_is_refused"), key := Value.str (Str.ofString "_law_is_refused") 512, val := Value.ref 244 }, { hash := PyData.keyHash P (Str.ofString "_law_declared"), key := Value.str (Str.ofString "_law_declared") 518, val := Value.ref 249 }, { hash := PyData.keyHash P (Str.ofString "_law_texts"), key := Value.str (Str.ofString "_law_texts") 524, val := Value.ref 254 }, { hash := PyData.keyHash P (Str.ofString "_law_told_right"), key := Value.str (Str.ofString "_law_told_right") 530, val := Value.ref 259 }, { hash := PyData.keyHash P (Str.ofString "law"), key := Value.str (Str.ofString "law") 543, val := Value.ref 266 }] 24 }) ::
  (nat_lit 15, { cls := Value.type "tuple", data := Data.seq #[] }) ::
  (nat_lit 17, { cls := Value.type "tuple", data := Data.seq #[Value.str (Str.ofString "k") 190] }) ::
  (nat_lit 18, { cls := Value.type "tuple", data := Data.seq #[] }) ::
  (nat_lit 20, { cls := Value.type "code", data := Data.fields #[Value.str (Str.ofString "_wall") 187, Value.str (Str.ofString "_wall") 188, Value.str (Str.ofString "/claim/cut.py") 189, Value.int 1 0, Value.int 1 0, Value.int 0 0, Value.int 0 0, Value.int 3 0, Value.ref 15, Value.bool true, Value.int 181 0, Value.ref 16, Value.none, Value.ref 17, Value.ref 18, Value.ref 19, Value.int 191 0, Value.int 1 0, Value.str (Str.ofString "/claim/cut.py") 192] }) ::
  (nat_lit 21, { cls := Value.type "function", data := Data.func { name := Str.ofString "_wall", qualname := Str.ofString "_wall", params := Mine.parOf (Mine.topS 0), body := FuncBody.stmts (Mine.bodOf (Mine.topS 0)), scope := Mine.scoOf (Mine.topS 0), globals := 3, closure := [], defaults := Value.none, kwdefaults := Value.none, pyModule := Value.str (Str.ofString "__main__") 164, code := Value.ref 20 } }) ::
  (nat_lit 22, { cls := Value.type "tuple", data := Data.seq #[Value.type "Exception"] }) ::
  (nat_lit 29, { cls := Value.type "tuple", data := Data.seq #[] }) ::
  (nat_lit 31, { cls := Value.type "tuple", data := Data.seq #[Value.str (Str.ofString "self") 211, Value.str (Str.ofString "message") 212] }) ::
  (nat_lit 32, { cls := Value.type "tuple", data := Data.seq #[] }) ::
  (nat_lit 34, { cls := Value.type "code", data := Data.fields #[Value.str (Str.ofString "__init__") 208, Value.str (Str.ofString "MarkupError.__init__") 209, Value.str (Str.ofString "/claim/cut.py") 210, Value.int 7 0, Value.int 2 0, Value.int 0 0, Value.int 0 0, Value.int 3 0, Value.ref 29, Value.bool true, Value.int 181 0, Value.ref 30, Value.none, Value.ref 31, Value.ref 32, Value.ref 33, Value.int 213 0, Value.int 7 0, Value.str (Str.ofString "/claim/cut.py") 214] }) ::
  (nat_lit 35, { cls := Value.type "function", data := Data.func { name := Str.ofString "__init__", qualname := Str.ofString "MarkupError.__init__", params := Mine.parOf (Mine.inS 2 0), body := FuncBody.stmts (Mine.bodOf (Mine.inS 2 0)), scope := Mine.scoOf (Mine.inS 2 0), globals := 3, closure := [], defaults := Value.none, kwdefaults := Value.none, pyModule := Value.str (Str.ofString "markupmill.errors") 194, code := Value.ref 34 } }) ::
  (nat_lit 36, { cls := Value.type "tuple", data := Data.seq #[Value.str (Str.ofString "message") 216] }) ::
  (nat_lit 37, { cls := Value.type "dict", data := Data.dict #[{ hash := PyData.keyHash P (Str.ofString "__module__"), key := Value.str (Str.ofString "__module__") 203, val := Value.str (Str.ofString "markupmill.errors") 194 }, { hash := PyData.keyHash P (Str.ofString "__firstlineno__"), key := Value.str (Str.ofString "__firstlineno__") 207, val := Value.int 5 206 }, { hash := PyData.keyHash P (Str.ofString "__init__"), key := Value.str (Str.ofString "__init__") 215, val := Value.ref 35 }, { hash := PyData.keyHash P (Str.ofString "__static_attributes__"), key := Value.str (Str.ofString "__static_attributes__") 217, val := Value.ref 36 }, { hash := PyData.keyHash P (Str.ofString "__weakref__"), key := Value.str (Str.ofString "__weakref__") 219, val := Value.ref 39 }, { hash := PyData.keyHash P (Str.ofString "__doc__"), key := Value.str (Str.ofString "__doc__") 220, val := Value.none }] 3 }) ::
  (nat_lit 38, { cls := Value.type "type", data := Data.cls { name := Str.ofString "MarkupError", bases := [Value.type "Exception"], mro := [Value.ref 38, Value.type "Exception", Value.type "BaseException", Value.type "object"], ns := 37, qualname := Str.ofString "MarkupError", subclasses := [Value.ref 59] }, slots := #[some (Value.ref 22), none, some (Value.str (Str.ofString "MarkupError") 196), some (Value.str (Str.ofString "MarkupError") 204), some (Value.builtin "Exception.__new__"), some (Value.bool true)] }) ::
  (nat_lit 39, { cls := Value.type "getset_descriptor", data := Data.fields #[Value.str (Str.ofString "__weakref__") 218, Value.ref 38, Value.builtin "ExceptionGroup.__weakref__", Value.none] }) ::
  (nat_lit 42, { cls := Value.type "tuple", data := Data.seq #[Value.ref 38] }) ::
  (nat_lit 49, { cls := Value.type "tuple", data := Data.seq #[Value.int 0 237] }) ::
  (nat_lit 50, { cls := Value.type "tuple", data := Data.seq #[] }) ::
  (nat_lit 52, { cls := Value.type "tuple", data := Data.seq #[Value.str (Str.ofString "self") 241, Value.str (Str.ofString "message") 242, Value.str (Str.ofString "place") 243] }) ::
  (nat_lit 53, { cls := Value.type "tuple", data := Data.seq #[] }) ::
  (nat_lit 55, { cls := Value.type "code", data := Data.fields #[Value.str (Str.ofString "__init__") 238, Value.str (Str.ofString "DtdFault.__init__") 239, Value.str (Str.ofString "/claim/cut.py") 240, Value.int 12 0, Value.int 3 0, Value.int 0 0, Value.int 0 0, Value.int 3 0, Value.ref 50, Value.bool true, Value.int 181 0, Value.ref 51, Value.none, Value.ref 52, Value.ref 53, Value.ref 54, Value.int 244 0, Value.int 12 0, Value.str (Str.ofString "/claim/cut.py") 245] }) ::
  (nat_lit 56, { cls := Value.type "function", data := Data.func { name := Str.ofString "__init__", qualname := Str.ofString "DtdFault.__init__", params := Mine.parOf (Mine.inS 3 0), body := FuncBody.stmts (Mine.bodOf (Mine.inS 3 0)), scope := Mine.scoOf (Mine.inS 3 0), globals := 3, closure := [], defaults := Value.ref 49, kwdefaults := Value.none, pyModule := Value.str (Str.ofString "markupmill.errors") 194, code := Value.ref 55 } }) ::
  (nat_lit 57, { cls := Value.type "tuple", data := Data.seq #[Value.str (Str.ofString "place") 247] }) ::
  (nat_lit 58, { cls := Value.type "dict", data := Data.dict #[{ hash := PyData.keyHash P (Str.ofString "__module__"), key := Value.str (Str.ofString "__module__") 232, val := Value.str (Str.ofString "markupmill.errors") 194 }, { hash := PyData.keyHash P (Str.ofString "__firstlineno__"), key := Value.str (Str.ofString "__firstlineno__") 236, val := Value.int 10 235 }, { hash := PyData.keyHash P (Str.ofString "__init__"), key := Value.str (Str.ofString "__init__") 246, val := Value.ref 56 }, { hash := PyData.keyHash P (Str.ofString "__static_attributes__"), key := Value.str (Str.ofString "__static_attributes__") 248, val := Value.ref 57 }, { hash := PyData.keyHash P (Str.ofString "__doc__"), key := Value.str (Str.ofString "__doc__") 249, val := Value.none }] 2 }) ::
  (nat_lit 59, { cls := Value.type "type", data := Data.cls { name := Str.ofString "DtdFault", bases := [Value.ref 38], mro := [Value.ref 59, Value.ref 38, Value.type "Exception", Value.type "BaseException", Value.type "object"], ns := 58, qualname := Str.ofString "DtdFault" }, slots := #[some (Value.ref 42), none, some (Value.str (Str.ofString "DtdFault") 225), some (Value.str (Str.ofString "DtdFault") 233), some (Value.builtin "Exception.__new__"), some (Value.bool true)] }) ::
  (nat_lit 69, { cls := Value.type "tuple", data := Data.seq #[] }) ::
  (nat_lit 71, { cls := Value.type "tuple", data := Data.seq #[Value.str (Str.ofString "self") 269, Value.str (Str.ofString "name") 270, Value.str (Str.ofString "public") 271, Value.str (Str.ofString "system") 272] }) ::
  (nat_lit 72, { cls := Value.type "tuple", data := Data.seq #[] }) ::
  (nat_lit 74, { cls := Value.type "code", data := Data.fields #[Value.str (Str.ofString "__init__") 266, Value.str (Str.ofString "Notation.__init__") 267, Value.str (Str.ofString "/claim/cut.py") 268, Value.int 18 0, Value.int 4 0, Value.int 0 0, Value.int 0 0, Value.int 3 0, Value.ref 69, Value.bool true, Value.int 181 0, Value.ref 70, Value.none, Value.ref 71, Value.ref 72, Value.ref 73, Value.int 273 0, Value.int 18 0, Value.str (Str.ofString "/claim/cut.py") 274] }) ::
  (nat_lit 75, { cls := Value.type "function", data := Data.func { name := Str.ofString "__init__", qualname := Str.ofString "Notation.__init__", params := Mine.parOf (Mine.inS 5 0), body := FuncBody.stmts (Mine.bodOf (Mine.inS 5 0)), scope := Mine.scoOf (Mine.inS 5 0), globals := 3, closure := [], defaults := Value.none, kwdefaults := Value.none, pyModule := Value.str (Str.ofString "markupmill.dtd") 252, code := Value.ref 74 } }) ::
  (nat_lit 76, { cls := Value.type "tuple", data := Data.seq #[Value.str (Str.ofString "name") 276, Value.str (Str.ofString "public") 277, Value.str (Str.ofString "system") 278] }) ::
  (nat_lit 77, { cls := Value.type "dict", data := Data.dict #[{ hash := PyData.keyHash P (Str.ofString "__module__"), key := Value.str (Str.ofString "__module__") 261, val := Value.str (Str.ofString "markupmill.dtd") 252 }, { hash := PyData.keyHash P (Str.ofString "__firstlineno__"), key := Value.str (Str.ofString "__firstlineno__") 265, val := Value.int 16 264 }, { hash := PyData.keyHash P (Str.ofString "__init__"), key := Value.str (Str.ofString "__init__") 275, val := Value.ref 75 }, { hash := PyData.keyHash P (Str.ofString "__static_attributes__"), key := Value.str (Str.ofString "__static_attributes__") 279, val := Value.ref 76 }, { hash := PyData.keyHash P (Str.ofString "__dict__"), key := Value.str (Str.ofString "__dict__") 281, val := Value.ref 79 }, { hash := PyData.keyHash P (Str.ofString "__weakref__"), key := Value.str (Str.ofString "__weakref__") 283, val := Value.ref 80 }, { hash := PyData.keyHash P (Str.ofString "__doc__"), key := Value.str (Str.ofString "__doc__") 284, val := Value.none }] 4 }) ::
  (nat_lit 78, { cls := Value.type "type", data := Data.cls { name := Str.ofString "Notation", bases := [Value.type "object"], mro := [Value.ref 78, Value.type "object"], ns := 77, qualname := Str.ofString "Notation" }, slots := #[none, none, some (Value.str (Str.ofString "Notation") 254), some (Value.str (Str.ofString "Notation") 262), some (Value.builtin "object.__new__"), some (Value.bool true)] }) ::
  (nat_lit 79, { cls := Value.type "getset_descriptor", data := Data.fields #[Value.str (Str.ofString "__dict__") 280, Value.ref 78, Value.builtin "function.__dict__", Value.builtin "function.__dict__#set"] }) ::
  (nat_lit 80, { cls := Value.type "getset_descriptor", data := Data.fields #[Value.str (Str.ofString "__weakref__") 282, Value.ref 78, Value.builtin "ExceptionGroup.__weakref__", Value.none] }) ::
  (nat_lit 90, { cls := Value.type "tuple", data := Data.seq #[] }) ::
  (nat_lit 92, { cls := Value.type "tuple", data := Data.seq #[Value.str (Str.ofString "self") 302, Value.str (Str.ofString "root") 303] }) ::
  (nat_lit 93, { cls := Value.type "tuple", data := Data.seq #[] }) ::
  (nat_lit 95, { cls := Value.type "code", data := Data.fields #[Value.str (Str.ofString "__init__") 299, Value.str (Str.ofString "Dtd.__init__") 300, Value.str (Str.ofString "/claim/cut.py") 301, Value.int 24 0, Value.int 2 0, Value.int 0 0, Value.int 0 0, Value.int 3 0, Value.ref 90, Value.bool true, Value.int 181 0, Value.ref 91, Value.none, Value.ref 92, Value.ref 93, Value.ref 94, Value.int 304 0, Value.int 24 0, Value.str (Str.ofString "/claim/cut.py") 305] }) ::
  (nat_lit 96, { cls := Value.type "function", data := Data.func { name := Str.ofString "__init__", qualname := Str.ofString "Dtd.__init__", params := Mine.parOf (Mine.inS 6 0), body := FuncBody.stmts (Mine.bodOf (Mine.inS 6 0)), scope := Mine.scoOf (Mine.inS 6 0), globals := 3, closure := [], defaults := Value.none, kwdefaults := Value.none, pyModule := Value.str (Str.ofString "markupmill.dtd") 252, code := Value.ref 95 } }) ::
  (nat_lit 97, { cls := Value.type "tuple", data := Data.seq #[] }) ::
  (nat_lit 99, { cls := Value.type "tuple", data := Data.seq #[Value.str (Str.ofString "self") 310, Value.str (Str.ofString "name") 311, Value.str (Str.ofString "model") 312, Value.str (Str.ofString "place") 313] }) ::
  (nat_lit 100, { cls := Value.type "tuple", data := Data.seq #[] }) ::
  (nat_lit 102, { cls := Value.type "code", data := Data.fields #[Value.str (Str.ofString "declare_element") 307, Value.str (Str.ofString "Dtd.declare_element") 308, Value.str (Str.ofString "/claim/cut.py") 309, Value.int 30 0, Value.int 4 0, Value.int 0 0, Value.int 0 0, Value.int 3 0, Value.ref 97, Value.bool true, Value.int 181 0, Value.ref 98, Value.none, Value.ref 99, Value.ref 100, Value.ref 101, Value.int 314 0, Value.int 30 0, Value.str (Str.ofString "/claim/cut.py") 315] }) ::
  (nat_lit 103, { cls := Value.type "function", data := Data.func { name := Str.ofString "declare_element", qualname := Str.ofString "Dtd.declare_element", params := Mine.parOf (Mine.inS 6 1), body := FuncBody.stmts (Mine.bodOf (Mine.inS 6 1)), scope := Mine.scoOf (Mine.inS 6 1), globals := 3, closure := [], defaults := Value.none, kwdefaults := Value.none, pyModule := Value.str (Str.ofString "markupmill.dtd") 252, code := Value.ref 102 } }) ::
  (nat_lit 104, { cls := Value.type "tuple", data := Data.seq #[] }) ::
  (nat_lit 106, { cls := Value.type "tuple", data := Data.seq #[Value.str (Str.ofString "self") 320, Value.str (Str.ofString "element") 321, Value.str (Str.ofString "name") 322, Value.str (Str.ofString "rule") 323, Value.str (Str.ofString "rules") 324] }) ::
  (nat_lit 107, { cls := Value.type "tuple", data := Data.seq #[] }) ::
  (nat_lit 109, { cls := Value.type "code", data := Data.fields #[Value.str (Str.ofString "declare_attribute") 317, Value.str (Str.ofString "Dtd.declare_attribute") 318, Value.str (Str.ofString "/claim/cut.py") 319, Value.int 35 0, Value.int 4 0, Value.int 0 0, Value.int 0 0, Value.int 3 0, Value.ref 104, Value.bool true, Value.int 181 0, Value.ref 105, Value.none, Value.ref 106, Value.ref 107, Value.ref 108, Value.int 325 0, Value.int 35 0, Value.str (Str.ofString "/claim/cut.py") 326] }) ::
  (nat_lit 110, { cls := Value.type "function", data := Data.func { name := Str.ofString "declare_attribute", qualname := Str.ofString "Dtd.declare_attribute", params := Mine.parOf (Mine.inS 6 2), body := FuncBody.stmts (Mine.bodOf (Mine.inS 6 2)), scope := Mine.scoOf (Mine.inS 6 2), globals := 3, closure := [], defaults := Value.none, kwdefaults := Value.none, pyModule := Value.str (Str.ofString "markupmill.dtd") 252, code := Value.ref 109 } }) ::
  (nat_lit 111, { cls := Value.type "tuple", data := Data.seq #[] }) ::
  (nat_lit 113, { cls := Value.type "tuple", data := Data.seq #[Value.str (Str.ofString "self") 331, Value.str (Str.ofString "name") 332, Value.str (Str.ofString "public") 333, Value.str (Str.ofString "system") 334, Value.str (Str.ofString "place") 335] }) ::
  (nat_lit 114, { cls := Value.type "tuple", data := Data.seq #[] }) ::
  (nat_lit 116, { cls := Value.type "code", data := Data.fields #[Value.str (Str.ofString "declare_notation") 328, Value.str (Str.ofString "Dtd.declare_notation") 329, Value.str (Str.ofString "/claim/cut.py") 330, Value.int 43 0, Value.int 5 0, Value.int 0 0, Value.int 0 0, Value.int 3 0, Value.ref 111, Value.bool true, Value.int 181 0, Value.ref 112, Value.none, Value.ref 113, Value.ref 114, Value.ref 115, Value.int 336 0, Value.int 43 0, Value.str (Str.ofString "/claim/cut.py") 337] }) ::
  (nat_lit 117, { cls := Value.type "function", data := Data.func { name := Str.ofString "declare_notation", qualname := Str.ofString "Dtd.declare_notation", params := Mine.parOf (Mine.inS 6 3), body := FuncBody.stmts (Mine.bodOf (Mine.inS 6 3)), scope := Mine.scoOf (Mine.inS 6 3), globals := 3, closure := [], defaults := Value.none, kwdefaults := Value.none, pyModule := Value.str (Str.ofString "markupmill.dtd") 252, code := Value.ref 116 } }) ::
  (nat_lit 118, { cls := Value.type "tuple", data := Data.seq #[] }) ::
  (nat_lit 120, { cls := Value.type "tuple", data := Data.seq #[Value.str (Str.ofString "self") 342, Value.str (Str.ofString "name") 343] }) ::
  (nat_lit 121, { cls := Value.type "tuple", data := Data.seq #[] }) ::
  (nat_lit 123, { cls := Value.type "code", data := Data.fields #[Value.str (Str.ofString "model") 339, Value.str (Str.ofString "Dtd.model") 340, Value.str (Str.ofString "/claim/cut.py") 341, Value.int 48 0, Value.int 2 0, Value.int 0 0, Value.int 0 0, Value.int 3 0, Value.ref 118, Value.bool true, Value.int 181 0, Value.ref 119, Value.none, Value.ref 120, Value.ref 121, Value.ref 122, Value.int 344 0, Value.int 48 0, Value.str (Str.ofString "/claim/cut.py") 345] }) ::
  (nat_lit 124, { cls := Value.type "function", data := Data.func { name := Str.ofString "model", qualname := Str.ofString "Dtd.model", params := Mine.parOf (Mine.inS 6 4), body := FuncBody.stmts (Mine.bodOf (Mine.inS 6 4)), scope := Mine.scoOf (Mine.inS 6 4), globals := 3, closure := [], defaults := Value.none, kwdefaults := Value.none, pyModule := Value.str (Str.ofString "markupmill.dtd") 252, code := Value.ref 123 } }) ::
  (nat_lit 125, { cls := Value.type "tuple", data := Data.seq #[] }) ::
  (nat_lit 127, { cls := Value.type "tuple", data := Data.seq #[Value.str (Str.ofString "self") 350, Value.str (Str.ofString "element") 351] }) ::
  (nat_lit 128, { cls := Value.type "tuple", data := Data.seq #[] }) ::
  (nat_lit 130, { cls := Value.type "code", data := Data.fields #[Value.str (Str.ofString "rules") 347, Value.str (Str.ofString "Dtd.rules") 348, Value.str (Str.ofString "/claim/cut.py") 349, Value.int 51 0, Value.int 2 0, Value.int 0 0, Value.int 0 0, Value.int 3 0, Value.ref 125, Value.bool true, Value.int 181 0, Value.ref 126, Value.none, Value.ref 127, Value.ref 128, Value.ref 129, Value.int 352 0, Value.int 51 0, Value.str (Str.ofString "/claim/cut.py") 353] }) ::
  (nat_lit 131, { cls := Value.type "function", data := Data.func { name := Str.ofString "rules", qualname := Str.ofString "Dtd.rules", params := Mine.parOf (Mine.inS 6 5), body := FuncBody.stmts (Mine.bodOf (Mine.inS 6 5)), scope := Mine.scoOf (Mine.inS 6 5), globals := 3, closure := [], defaults := Value.none, kwdefaults := Value.none, pyModule := Value.str (Str.ofString "markupmill.dtd") 252, code := Value.ref 130 } }) ::
  (nat_lit 132, { cls := Value.type "tuple", data := Data.seq #[] }) ::
  (nat_lit 134, { cls := Value.type "tuple", data := Data.seq #[Value.str (Str.ofString "self") 358, Value.str (Str.ofString "element") 359, Value.str (Str.ofString "name") 360] }) ::
  (nat_lit 135, { cls := Value.type "tuple", data := Data.seq #[] }) ::
  (nat_lit 137, { cls := Value.type "code", data := Data.fields #[Value.str (Str.ofString "rule") 355, Value.str (Str.ofString "Dtd.rule") 356, Value.str (Str.ofString "/claim/cut.py") 357, Value.int 54 0, Value.int 3 0, Value.int 0 0, Value.int 0 0, Value.int 3 0, Value.ref 132, Value.bool true, Value.int 181 0, Value.ref 133, Value.none, Value.ref 134, Value.ref 135, Value.ref 136, Value.int 361 0, Value.int 54 0, Value.str (Str.ofString "/claim/cut.py") 362] }) ::
  (nat_lit 138, { cls := Value.type "function", data := Data.func { name := Str.ofString "rule", qualname := Str.ofString "Dtd.rule", params := Mine.parOf (Mine.inS 6 6), body := FuncBody.stmts (Mine.bodOf (Mine.inS 6 6)), scope := Mine.scoOf (Mine.inS 6 6), globals := 3, closure := [], defaults := Value.none, kwdefaults := Value.none, pyModule := Value.str (Str.ofString "markupmill.dtd") 252, code := Value.ref 137 } }) ::
  (nat_lit 139, { cls := Value.type "tuple", data := Data.seq #[] }) ::
  (nat_lit 142, { cls := Value.type "code", data := Data.fields #[Value.str (Str.ofString "names_of_kind") 364, Value.str (Str.ofString "Dtd.names_of_kind") 365, Value.str (Str.ofString "/claim/cut.py") 366, Value.int 57 0, Value.int 3 0, Value.int 0 0, Value.int 0 0, Value.int 3 0, Value.ref 139, Value.bool true, Value.int 181 0, Value.ref 140, Value.none, Value.none, Value.none, Value.ref 141, Value.int 367 0, Value.int 57 0, Value.str (Str.ofString "/claim/cut.py") 368] }) ::
  (nat_lit 143, { cls := Value.type "function", data := Data.func { name := Str.ofString "names_of_kind", qualname := Str.ofString "Dtd.names_of_kind", params := Mine.parOf (Mine.inS 6 7), body := FuncBody.stmts (Mine.bodOf (Mine.inS 6 7)), scope := Mine.scoOf (Mine.inS 6 7), globals := 3, closure := [], defaults := Value.none, kwdefaults := Value.none, pyModule := Value.str (Str.ofString "markupmill.dtd") 252, code := Value.ref 142 } }) ::
  (nat_lit 144, { cls := Value.type "tuple", data := Data.seq #[] }) ::
  (nat_lit 146, { cls := Value.type "tuple", data := Data.seq #[Value.str (Str.ofString "self") 373, Value.str (Str.ofString "element") 374, Value.str (Str.ofString "names") 375] }) ::
  (nat_lit 147, { cls := Value.type "tuple", data := Data.seq #[] }) ::
  (nat_lit 149, { cls := Value.type "code", data := Data.fields #[Value.str (Str.ofString "id_name") 370, Value.str (Str.ofString "Dtd.id_name") 371, Value.str (Str.ofString "/claim/cut.py") 372, Value.int 61 0, Value.int 2 0, Value.int 0 0, Value.int 0 0, Value.int 3 0, Value.ref 144, Value.bool true, Value.int 181 0, Value.ref 145, Value.none, Value.ref 146, Value.ref 147, Value.ref 148, Value.int 376 0, Value.int 61 0, Value.str (Str.ofString "/claim/cut.py") 377] }) ::
  (nat_lit 150, { cls := Value.type "function", data := Data.func { name := Str.ofString "id_name", qualname := Str.ofString "Dtd.id_name", params := Mine.parOf (Mine.inS 6 8), body := FuncBody.stmts (Mine.bodOf (Mine.inS 6 8)), scope := Mine.scoOf (Mine.inS 6 8), globals := 3, closure := [], defaults := Value.none, kwdefaults := Value.none, pyModule := Value.str (Str.ofString "markupmill.dtd") 252, code := Value.ref 149 } }) ::
  (nat_lit 151, { cls := Value.type "tuple", data := Data.seq #[] }) ::
  (nat_lit 153, { cls := Value.type "tuple", data := Data.seq #[Value.str (Str.ofString "self") 382, Value.str (Str.ofString "found") 383, Value.str (Str.ofString "element") 384] }) ::
  (nat_lit 154, { cls := Value.type "tuple", data := Data.seq #[] }) ::
  (nat_lit 156, { cls := Value.type "code", data := Data.fields #[Value.str (Str.ofString "faults") 379, Value.str (Str.ofString "Dtd.faults") 380, Value.str (Str.ofString "/claim/cut.py") 381, Value.int 65 0, Value.int 1 0, Value.int 0 0, Value.int 0 0, Value.int 3 0, Value.ref 151, Value.bool true, Value.int 181 0, Value.ref 152, Value.none, Value.ref 153, Value.ref 154, Value.ref 155, Value.int 385 0, Value.int 65 0, Value.str (Str.ofString "/claim/cut.py") 386] }) ::
  (nat_lit 157, { cls := Value.type "function", data := Data.func { name := Str.ofString "faults", qualname := Str.ofString "Dtd.faults", params := Mine.parOf (Mine.inS 6 9), body := FuncBody.stmts (Mine.bodOf (Mine.inS 6 9)), scope := Mine.scoOf (Mine.inS 6 9), globals := 3, closure := [], defaults := Value.none, kwdefaults := Value.none, pyModule := Value.str (Str.ofString "markupmill.dtd") 252, code := Value.ref 156 } }) ::
  (nat_lit 158, { cls := Value.type "tuple", data := Data.seq #[] }) ::
  (nat_lit 160, { cls := Value.type "tuple", data := Data.seq #[Value.str (Str.ofString "self") 391, Value.str (Str.ofString "element") 392, Value.str (Str.ofString "found") 393, Value.str (Str.ofString "kind") 394, Value.str (Str.ofString "rules") 395, Value.str (Str.ofString "name") 396, Value.str (Str.ofString "rule") 397] }) ::
  (nat_lit 161, { cls := Value.type "tuple", data := Data.seq #[] }) ::
  (nat_lit 163, { cls := Value.type "code", data := Data.fields #[Value.str (Str.ofString "element_faults") 388, Value.str (Str.ofString "Dtd.element_faults") 389, Value.str (Str.ofString "/claim/cut.py") 390, Value.int 71 0, Value.int 2 0, Value.int 0 0, Value.int 0 0, Value.int 3 0, Value.ref 158, Value.bool true, Value.int 181 0, Value.ref 159, Value.none, Value.ref 160, Value.ref 161, Value.ref 162, Value.int 398 0, Value.int 71 0, Value.str (Str.ofString "/claim/cut.py") 399] }) ::
  (nat_lit 164, { cls := Value.type "function", data := Data.func { name := Str.ofString "element_faults", qualname := Str.ofString "Dtd.element_faults", params := Mine.parOf (Mine.inS 6 10), body := FuncBody.stmts (Mine.bodOf (Mine.inS 6 10)), scope := Mine.scoOf (Mine.inS 6 10), globals := 3, closure := [], defaults := Value.none, kwdefaults := Value.none, pyModule := Value.str (Str.ofString "markupmill.dtd") 252, code := Value.ref 163 } }) ::
  (nat_lit 165, { cls := Value.type "tuple", data := Data.seq #[] }) ::
  (nat_lit 168, { cls := Value.type "code", data := Data.fields #[Value.str (Str.ofString "notation_faults") 401, Value.str (Str.ofString "Dtd.notation_faults") 402, Value.str (Str.ofString "/claim/cut.py") 403, Value.int 85 0, Value.int 4 0, Value.int 0 0, Value.int 0 0, Value.int 3 0, Value.ref 165, Value.bool true, Value.int 181 0, Value.ref 166, Value.none, Value.none, Value.none, Value.ref 167, Value.int 404 0, Value.int 85 0, Value.str (Str.ofString "/claim/cut.py") 405] }) ::
  (nat_lit 169, { cls := Value.type "function", data := Data.func { name := Str.ofString "notation_faults", qualname := Str.ofString "Dtd.notation_faults", params := Mine.parOf (Mine.inS 6 11), body := FuncBody.stmts (Mine.bodOf (Mine.inS 6 11)), scope := Mine.scoOf (Mine.inS 6 11), globals := 3, closure := [], defaults := Value.none, kwdefaults := Value.none, pyModule := Value.str (Str.ofString "markupmill.dtd") 252, code := Value.ref 168 } }) ::
  (nat_lit 170, { cls := Value.type "tuple", data := Data.seq #[Value.str (Str.ofString "attributes") 407, Value.str (Str.ofString "elements") 408, Value.str (Str.ofString "notations") 409, Value.str (Str.ofString "root") 410] }) ::
  (nat_lit 171, { cls := Value.type "dict", data := Data.dict #[{ hash := PyData.keyHash P (Str.ofString "__module__"), key := Value.str (Str.ofString "__module__") 294, val := Value.str (Str.ofString "markupmill.dtd") 252 }, { hash := PyData.keyHash P (Str.ofString "__firstlineno__"), key := Value.str (Str.ofString "__firstlineno__") 298, val := Value.int 22 297 }, { hash := PyData.keyHash P (Str.ofString "__init__"), key := Value.str (Str.ofString "__init__") 306, val := Value.ref 96 }, { hash := PyData.keyHash P (Str.ofString "declare_element"), key := Value.str (Str.ofString "declare_element") 316, val := Value.ref 103 }, { hash := PyData.keyHash P (Str.ofString "declare_attribute"), key := Value.str (Str.ofString "declare_attribute") 327, val := Value.ref 110 }, { hash := PyData.keyHash P (Str.ofString "declare_notation"), key := Value.str (Str.ofString "declare_notation") 338, val := Value.ref 117 }, { hash := PyData.keyHash P (Str.ofString "model"), key := Value.str (Str.ofString "model") 346, val := Value.ref 124 }, { hash := PyData.keyHash P (Str.ofString "rules"), key := Value.str (Str.ofString "rules") 354, val := Value.ref 131 }, { hash := PyData.keyHash P (Str.ofString "rule"), key := Value.str (Str.ofString "rule") 363, val := Value.ref 138 }, { hash := PyData.keyHash P (Str.ofString "names_of_kind"), key := Value.str (Str.ofString "names_of_kind") 369, val := Value.ref 143 }, { hash := PyData.keyHash P (Str.ofString "id_name"), key := Value.str (Str.ofString "id_name") 378, val := Value.ref 150 }, { hash := PyData.keyHash P (Str.ofString "faults"), key := Value.str (Str.ofString "faults") 387, val := Value.ref 157 }, { hash := PyData.keyHash P (Str.ofString "element_faults"), key := Value.str (Str.ofString "element_faults") 400, val := Value.ref 164 }, { hash := PyData.keyHash P (Str.ofString "notation_faults"), key := Value.str (Str.ofString "notation_faults") 406, val := Value.ref 169 }, { hash := PyData.keyHash P (Str.ofString "__static_attributes__"), key := Value.str (Str.ofString "__static_attributes__") 411, val := Value.ref 170 }, { hash := PyData.keyHash P (Str.ofString "__dict__"), key := Value.str (Str.ofString "__dict__") 413, val := Value.ref 173 }, { hash := PyData.keyHash P (Str.ofString "__weakref__"), key := Value.str (Str.ofString "__weakref__") 415, val := Value.ref 174 }, { hash := PyData.keyHash P (Str.ofString "__doc__"), key := Value.str (Str.ofString "__doc__") 416, val := Value.none }] 4 }) ::
  (nat_lit 172, { cls := Value.type "type", data := Data.cls { name := Str.ofString "Dtd", bases := [Value.type "object"], mro := [Value.ref 172, Value.type "object"], ns := 171, qualname := Str.ofString "Dtd" }, slots := #[none, none, some (Value.str (Str.ofString "Dtd") 287), some (Value.str (Str.ofString "Dtd") 295), some (Value.builtin "object.__new__"), some (Value.bool true)] }) ::
  (nat_lit 173, { cls := Value.type "getset_descriptor", data := Data.fields #[Value.str (Str.ofString "__dict__") 412, Value.ref 172, Value.builtin "function.__dict__", Value.builtin "function.__dict__#set"] }) ::
  (nat_lit 174, { cls := Value.type "getset_descriptor", data := Data.fields #[Value.str (Str.ofString "__weakref__") 414, Value.ref 172, Value.builtin "ExceptionGroup.__weakref__", Value.none] }) ::
  (nat_lit 184, { cls := Value.type "tuple", data := Data.seq #[] }) ::
  (nat_lit 186, { cls := Value.type "tuple", data := Data.seq #[Value.str (Str.ofString "self") 436, Value.str (Str.ofString "kind") 437, Value.str (Str.ofString "choices") 438, Value.str (Str.ofString "mode") 439, Value.str (Str.ofString "value") 440] }) ::
  (nat_lit 187, { cls := Value.type "tuple", data := Data.seq #[] }) ::
  (nat_lit 189, { cls := Value.type "code", data := Data.fields #[Value.str (Str.ofString "__init__") 433, Value.str (Str.ofString "AttributeRule.__init__") 434, Value.str (Str.ofString "/claim/cut.py") 435, Value.int 94 0, Value.int 5 0, Value.int 0 0, Value.int 0 0, Value.int 3 0, Value.ref 184, Value.bool true, Value.int 181 0, Value.ref 185, Value.none, Value.ref 186, Value.ref 187, Value.ref 188, Value.int 441 0, Value.int 94 0, Value.str (Str.ofString "/claim/cut.py") 442] }) ::
  (nat_lit 190, { cls := Value.type "function", data := Data.func { name := Str.ofString "__init__", qualname := Str.ofString "AttributeRule.__init__", params := Mine.parOf (Mine.inS 8 0), body := FuncBody.stmts (Mine.bodOf (Mine.inS 8 0)), scope := Mine.scoOf (Mine.inS 8 0), globals := 3, closure := [], defaults := Value.none, kwdefaults := Value.none, pyModule := Value.str (Str.ofString "markupmill.attribute_rules") 419, code := Value.ref 189 } }) ::
  (nat_lit 191, { cls := Value.type "tuple", data := Data.seq #[] }) ::
  (nat_lit 193, { cls := Value.type "tuple", data := Data.seq #[Value.str (Str.ofString "self") 447] }) ::
  (nat_lit 194, { cls := Value.type "tuple", data := Data.seq #[] }) ::
  (nat_lit 196, { cls := Value.type "code", data := Data.fields #[Value.str (Str.ofString "row") 444, Value.str (Str.ofString "AttributeRule.row") 445, Value.str (Str.ofString "/claim/cut.py") 446, Value.int 100 0, Value.int 1 0, Value.int 0 0, Value.int 0 0, Value.int 3 0, Value.ref 191, Value.bool true, Value.int 181 0, Value.ref 192, Value.none, Value.ref 193, Value.ref 194, Value.ref 195, Value.int 448 0, Value.int 100 0, Value.str (Str.ofString "/claim/cut.py") 449] }) ::
  (nat_lit 197, { cls := Value.type "function", data := Data.func { name := Str.ofString "row", qualname := Str.ofString "AttributeRule.row", params := Mine.parOf (Mine.inS 8 1), body := FuncBody.stmts (Mine.bodOf (Mine.inS 8 1)), scope := Mine.scoOf (Mine.inS 8 1), globals := 3, closure := [], defaults := Value.none, kwdefaults := Value.none, pyModule := Value.str (Str.ofString "markupmill.attribute_rules") 419, code := Value.ref 196 } }) ::
  (nat_lit 198, { cls := Value.type "tuple", data := Data.seq #[] }) ::
  (nat_lit 200, { cls := Value.type "tuple", data := Data.seq #[Value.str (Str.ofString "self") 454] }) ::
  (nat_lit 201, { cls := Value.type "tuple", data := Data.seq #[] }) ::
  (nat_lit 203, { cls := Value.type "code", data := Data.fields #[Value.str (Str.ofString "has_value") 451, Value.str (Str.ofString "AttributeRule.has_value") 452, Value.str (Str.ofString "/claim/cut.py") 453, Value.int 103 0, Value.int 1 0, Value.int 0 0, Value.int 0 0, Value.int 3 0, Value.ref 198, Value.bool true, Value.int 181 0, Value.ref 199, Value.none, Value.ref 200, Value.ref 201, Value.ref 202, Value.int 455 0, Value.int 103 0, Value.str (Str.ofString "/claim/cut.py") 456] }) ::
  (nat_lit 204, { cls := Value.type "function", data := Data.func { name := Str.ofString "has_value", qualname := Str.ofString "AttributeRule.has_value", params := Mine.parOf (Mine.inS 8 2), body := FuncBody.stmts (Mine.bodOf (Mine.inS 8 2)), scope := Mine.scoOf (Mine.inS 8 2), globals := 3, closure := [], defaults := Value.none, kwdefaults := Value.none, pyModule := Value.str (Str.ofString "markupmill.attribute_rules") 419, code := Value.ref 203 } }) ::
  (nat_lit 205, { cls := Value.type "tuple", data := Data.seq #[Value.str (Str.ofString "choices") 458, Value.str (Str.ofString "kind") 459, Value.str (Str.ofString "mode") 460, Value.str (Str.ofString "value") 461] }) ::
  (nat_lit 206, { cls := Value.type "dict", data := Data.dict #[{ hash := PyData.keyHash P (Str.ofString "__module__"), key := Value.str (Str.ofString "__module__") 428, val := Value.str (Str.ofString "markupmill.attribute_rules") 419 }, { hash := PyData.keyHash P (Str.ofString "__firstlineno__"), key := Value.str (Str.ofString "__firstlineno__") 432, val := Value.int 92 431 }, { hash := PyData.keyHash P (Str.ofString "__init__"), key := Value.str (Str.ofString "__init__") 443, val := Value.ref 190 }, { hash := PyData.keyHash P (Str.ofString "row"), key := Value.str (Str.ofString "row") 450, val := Value.ref 197 }, { hash := PyData.keyHash P (Str.ofString "has_value"), key := Value.str (Str.ofString "has_value") 457, val := Value.ref 204 }, { hash := PyData.keyHash P (Str.ofString "__static_attributes__"), key := Value.str (Str.ofString "__static_attributes__") 462, val := Value.ref 205 }, { hash := PyData.keyHash P (Str.ofString "__dict__"), key := Value.str (Str.ofString "__dict__") 464, val := Value.ref 208 }, { hash := PyData.keyHash P (Str.ofString "__weakref__"), key := Value.str (Str.ofString "__weakref__") 466, val := Value.ref 209 }, { hash := PyData.keyHash P (Str.ofString "__doc__"), key := Value.str (Str.ofString "__doc__") 467, val := Value.none }] 4 }) ::
  (nat_lit 207, { cls := Value.type "type", data := Data.cls { name := Str.ofString "AttributeRule", bases := [Value.type "object"], mro := [Value.ref 207, Value.type "object"], ns := 206, qualname := Str.ofString "AttributeRule" }, slots := #[none, none, some (Value.str (Str.ofString "AttributeRule") 421), some (Value.str (Str.ofString "AttributeRule") 429), some (Value.builtin "object.__new__"), some (Value.bool true)] }) ::
  (nat_lit 208, { cls := Value.type "getset_descriptor", data := Data.fields #[Value.str (Str.ofString "__dict__") 463, Value.ref 207, Value.builtin "function.__dict__", Value.builtin "function.__dict__#set"] }) ::
  (nat_lit 209, { cls := Value.type "getset_descriptor", data := Data.fields #[Value.str (Str.ofString "__weakref__") 465, Value.ref 207, Value.builtin "ExceptionGroup.__weakref__", Value.none] }) ::
  (nat_lit 212, { cls := Value.type "tuple", data := Data.seq #[] }) ::
  (nat_lit 214, { cls := Value.type "tuple", data := Data.seq #[Value.str (Str.ofString "script") 475, Value.str (Str.ofString "script_cell") 476, Value.str (Str.ofString "large") 477] }) ::
  (nat_lit 215, { cls := Value.type "tuple", data := Data.seq #[] }) ::
  (nat_lit 217, { cls := Value.type "code", data := Data.fields #[Value.str (Str.ofString "_law_pool") 472, Value.str (Str.ofString "_law_pool") 473, Value.str (Str.ofString "/claim/cut.py") 474, Value.int 106 0, Value.int 1 0, Value.int 0 0, Value.int 0 0, Value.int 3 0, Value.ref 212, Value.bool true, Value.int 181 0, Value.ref 213, Value.none, Value.ref 214, Value.ref 215, Value.ref 216, Value.int 478 0, Value.int 106 0, Value.str (Str.ofString "/claim/cut.py") 479] }) ::
  (nat_lit 218, { cls := Value.type "function", data := Data.func { name := Str.ofString "_law_pool", qualname := Str.ofString "_law_pool", params := Mine.parOf (Mine.topS 10), body := FuncBody.stmts (Mine.bodOf (Mine.topS 10)), scope := Mine.scoOf (Mine.topS 10), globals := 3, closure := [], defaults := Value.none, kwdefaults := Value.none, pyModule := Value.str (Str.ofString "law_on0181_01") 470, code := Value.ref 217 } }) ::
  (nat_lit 219, { cls := Value.type "tuple", data := Data.seq #[] }) ::
  (nat_lit 221, { cls := Value.type "tuple", data := Data.seq #[Value.str (Str.ofString "source") 484, Value.str (Str.ofString "top") 485, Value.str (Str.ofString "digit") 486] }) ::
  (nat_lit 222, { cls := Value.type "tuple", data := Data.seq #[] }) ::
  (nat_lit 224, { cls := Value.type "code", data := Data.fields #[Value.str (Str.ofString "_law_take") 481, Value.str (Str.ofString "_law_take") 482, Value.str (Str.ofString "/claim/cut.py") 483, Value.int 110 0, Value.int 2 0, Value.int 0 0, Value.int 0 0, Value.int 3 0, Value.ref 219, Value.bool true, Value.int 181 0, Value.ref 220, Value.none, Value.ref 221, Value.ref 222, Value.ref 223, Value.int 487 0, Value.int 110 0, Value.str (Str.ofString "/claim/cut.py") 488] }) ::
  (nat_lit 225, { cls := Value.type "function", data := Data.func { name := Str.ofString "_law_take", qualname := Str.ofString "_law_take", params := Mine.parOf (Mine.topS 11), body := FuncBody.stmts (Mine.bodOf (Mine.topS 11)), scope := Mine.scoOf (Mine.topS 11), globals := 3, closure := [], defaults := Value.none, kwdefaults := Value.none, pyModule := Value.str (Str.ofString "law_on0181_01") 470, code := Value.ref 224 } }) ::
  (nat_lit 226, { cls := Value.type "tuple", data := Data.seq #[] }) ::
  (nat_lit 228, { cls := Value.type "tuple", data := Data.seq #[Value.str (Str.ofString "source") 493, Value.str (Str.ofString "things") 494] }) ::
  (nat_lit 229, { cls := Value.type "tuple", data := Data.seq #[] }) ::
  (nat_lit 231, { cls := Value.type "code", data := Data.fields #[Value.str (Str.ofString "_law_one") 490, Value.str (Str.ofString "_law_one") 491, Value.str (Str.ofString "/claim/cut.py") 492, Value.int 117 0, Value.int 2 0, Value.int 0 0, Value.int 0 0, Value.int 3 0, Value.ref 226, Value.bool true, Value.int 181 0, Value.ref 227, Value.none, Value.ref 228, Value.ref 229, Value.ref 230, Value.int 495 0, Value.int 117 0, Value.str (Str.ofString "/claim/cut.py") 496] }) ::
  (nat_lit 232, { cls := Value.type "function", data := Data.func { name := Str.ofString "_law_one", qualname := Str.ofString "_law_one", params := Mine.parOf (Mine.topS 12), body := FuncBody.stmts (Mine.bodOf (Mine.topS 12)), scope := Mine.scoOf (Mine.topS 12), globals := 3, closure := [], defaults := Value.none, kwdefaults := Value.none, pyModule := Value.str (Str.ofString "law_on0181_01") 470, code := Value.ref 231 } }) ::
  (nat_lit 233, { cls := Value.type "tuple", data := Data.seq #[] }) ::
  (nat_lit 236, { cls := Value.type "code", data := Data.fields #[Value.str (Str.ofString "_law_rule") 498, Value.str (Str.ofString "_law_rule") 499, Value.str (Str.ofString "/claim/cut.py") 500, Value.int 119 0, Value.int 1 0, Value.int 0 0, Value.int 0 0, Value.int 3 0, Value.ref 233, Value.bool true, Value.int 181 0, Value.ref 234, Value.none, Value.none, Value.none, Value.ref 235, Value.int 501 0, Value.int 119 0, Value.str (Str.ofString "/claim/cut.py") 502] }) ::
  (nat_lit 237, { cls := Value.type "function", data := Data.func { name := Str.ofString "_law_rule", qualname := Str.ofString "_law_rule", params := Mine.parOf (Mine.topS 13), body := FuncBody.stmts (Mine.bodOf (Mine.topS 13)), scope := Mine.scoOf (Mine.topS 13), globals := 3, closure := [], defaults := Value.none, kwdefaults := Value.none, pyModule := Value.str (Str.ofString "law_on0181_01") 470, code := Value.ref 236 } }) ::
  (nat_lit 238, { cls := Value.type "tuple", data := Data.seq #[] }) ::
  (nat_lit 240, { cls := Value.type "tuple", data := Data.seq #[Value.str (Str.ofString "deed") 507, Value.str (Str.ofString "place") 508, Value.str (Str.ofString "fault") 509] }) ::
  (nat_lit 241, { cls := Value.type "tuple", data := Data.seq #[] }) ::
  (nat_lit 243, { cls := Value.type "code", data := Data.fields #[Value.str (Str.ofString "_law_is_refused") 504, Value.str (Str.ofString "_law_is_refused") 505, Value.str (Str.ofString "/claim/cut.py") 506, Value.int 124 0, Value.int 2 0, Value.int 0 0, Value.int 0 0, Value.int 3 0, Value.ref 238, Value.bool true, Value.int 181 0, Value.ref 239, Value.none, Value.ref 240, Value.ref 241, Value.ref 242, Value.int 510 0, Value.int 124 0, Value.str (Str.ofString "/claim/cut.py") 511] }) ::
  (nat_lit 244, { cls := Value.type "function", data := Data.func { name := Str.ofString "_law_is_refused", qualname := Str.ofString "_law_is_refused", params := Mine.parOf (Mine.topS 14), body := FuncBody.stmts (Mine.bodOf (Mine.topS 14)), scope := Mine.scoOf (Mine.topS 14), globals := 3, closure := [], defaults := Value.none, kwdefaults := Value.none, pyModule := Value.str (Str.ofString "law_on0181_01") 470, code := Value.ref 243 } }) ::
  (nat_lit 245, { cls := Value.type "tuple", data := Data.seq #[] }) ::
  (nat_lit 248, { cls := Value.type "code", data := Data.fields #[Value.str (Str.ofString "_law_declared") 513, Value.str (Str.ofString "_law_declared") 514, Value.str (Str.ofString "/claim/cut.py") 515, Value.int 130 0, Value.int 4 0, Value.int 0 0, Value.int 0 0, Value.int 3 0, Value.ref 245, Value.bool true, Value.int 181 0, Value.ref 246, Value.none, Value.none, Value.none, Value.ref 247, Value.int 516 0, Value.int 130 0, Value.str (Str.ofString "/claim/cut.py") 517] }) ::
  (nat_lit 249, { cls := Value.type "function", data := Data.func { name := Str.ofString "_law_declared", qualname := Str.ofString "_law_declared", params := Mine.parOf (Mine.topS 15), body := FuncBody.stmts (Mine.bodOf (Mine.topS 15)), scope := Mine.scoOf (Mine.topS 15), globals := 3, closure := [], defaults := Value.none, kwdefaults := Value.none, pyModule := Value.str (Str.ofString "law_on0181_01") 470, code := Value.ref 248 } }) ::
  (nat_lit 250, { cls := Value.type "tuple", data := Data.seq #[] }) ::
  (nat_lit 253, { cls := Value.type "code", data := Data.fields #[Value.str (Str.ofString "_law_texts") 519, Value.str (Str.ofString "_law_texts") 520, Value.str (Str.ofString "/claim/cut.py") 521, Value.int 149 0, Value.int 1 0, Value.int 0 0, Value.int 0 0, Value.int 3 0, Value.ref 250, Value.bool true, Value.int 181 0, Value.ref 251, Value.none, Value.none, Value.none, Value.ref 252, Value.int 522 0, Value.int 149 0, Value.str (Str.ofString "/claim/cut.py") 523] }) ::
  (nat_lit 254, { cls := Value.type "function", data := Data.func { name := Str.ofString "_law_texts", qualname := Str.ofString "_law_texts", params := Mine.parOf (Mine.topS 16), body := FuncBody.stmts (Mine.bodOf (Mine.topS 16)), scope := Mine.scoOf (Mine.topS 16), globals := 3, closure := [], defaults := Value.none, kwdefaults := Value.none, pyModule := Value.str (Str.ofString "law_on0181_01") 470, code := Value.ref 253 } }) ::
  (nat_lit 255, { cls := Value.type "tuple", data := Data.seq #[] }) ::
  (nat_lit 258, { cls := Value.type "code", data := Data.fields #[Value.str (Str.ofString "_law_told_right") 525, Value.str (Str.ofString "_law_told_right") 526, Value.str (Str.ofString "/claim/cut.py") 527, Value.int 164 0, Value.int 2 0, Value.int 0 0, Value.int 0 0, Value.int 3 0, Value.ref 255, Value.bool true, Value.int 181 0, Value.ref 256, Value.none, Value.none, Value.none, Value.ref 257, Value.int 528 0, Value.int 164 0, Value.str (Str.ofString "/claim/cut.py") 529] }) ::
  (nat_lit 259, { cls := Value.type "function", data := Data.func { name := Str.ofString "_law_told_right", qualname := Str.ofString "_law_told_right", params := Mine.parOf (Mine.topS 17), body := FuncBody.stmts (Mine.bodOf (Mine.topS 17)), scope := Mine.scoOf (Mine.topS 17), globals := 3, closure := [], defaults := Value.none, kwdefaults := Value.none, pyModule := Value.str (Str.ofString "law_on0181_01") 470, code := Value.ref 258 } }) ::
  (nat_lit 260, { cls := Value.type "tuple", data := Data.seq #[] }) ::
  (nat_lit 262, { cls := Value.type "tuple", data := Data.seq #[Value.str (Str.ofString "script") 534, Value.str (Str.ofString "source") 535, Value.str (Str.ofString "dtd") 536, Value.str (Str.ofString "rows") 537, Value.str (Str.ofString "first") 538, Value.str (Str.ofString "second") 539, Value.str (Str.ofString "turn") 540] }) ::
  (nat_lit 263, { cls := Value.type "tuple", data := Data.seq #[] }) ::
  (nat_lit 265, { cls := Value.type "code", data := Data.fields #[Value.str (Str.ofString "law") 531, Value.str (Str.ofString "law") 532, Value.str (Str.ofString "/claim/cut.py") 533, Value.int 181 0, Value.int 1 0, Value.int 0 0, Value.int 0 0, Value.int 3 0, Value.ref 260, Value.bool true, Value.int 181 0, Value.ref 261, Value.none, Value.ref 262, Value.ref 263, Value.ref 264, Value.int 541 0, Value.int 181 0, Value.str (Str.ofString "/claim/cut.py") 542] }) ::
  (nat_lit 266, { cls := Value.type "function", data := Data.func { name := Str.ofString "law", qualname := Str.ofString "law", params := Mine.parOf (Mine.topS 18), body := FuncBody.stmts (Mine.bodOf (Mine.topS 18)), scope := Mine.scoOf (Mine.topS 18), globals := 3, closure := [], defaults := Value.none, kwdefaults := Value.none, pyModule := Value.str (Str.ofString "law_on0181_01") 470, code := Value.ref 265 } }) :: []
theorem runK (w : World) (os : OsState) : (topFrom treeTable PySem.Challenge.rw_on0181_01.row.prog w 3934 ⟨boot_heap w.params, Array.mk [], boot_drawn, boot_toks, os⟩).map (fun s => (openSeen viewK [Str.ofString "DtdFault"] (importedModules PySem.Challenge.rw_on0181_01.row.prog.main.body) (fun s => xlAt viewK [] s && recOk (RowW.records PySem.Challenge.rw_on0181_01.row.toRowW) s) true s, Hook.obs (kmHook heapK addrK (fun _ => by kernel_rfl) [246]) s)) =
    some (openGood viewK [Str.ofString "DtdFault"], Hook.val (kmHook heapK addrK (fun _ => by kernel_rfl) [246]) w) := by
  unfold topFrom
  rw [PySem.W.Fast.te14082659384304107361, PySem.W.Fast.te4187177175401517315]
  kernel_rfl
theorem bmap {α β γ : Type} {o : Option α} {a : α} {f : α → Option β} {g : β → γ} {r : Option γ} (h : o = some a) (k : (f a).map g = r) : (o.bind f).map g = r := by subst h; exact k
theorem leftK : LeftO PySem.Challenge.rw_on0181_01.row.prog viewK [Str.ofString "DtdFault"] (fun s => xlAt viewK [] s && recOk (RowW.records PySem.Challenge.rw_on0181_01.row.toRowW) s) (Hook.obs (kmHook heapK addrK (fun _ => by kernel_rfl) [246])) (Hook.val (kmHook heapK addrK (fun _ => by kernel_rfl) [246])) 3934 := fun w => by
  obtain ⟨⟨h, gs, d, k, os⟩, e, e'⟩ := Option.map_eq_some_iff.mp (boot_open (p := PySem.Challenge.rw_on0181_01.row.prog) (N := 3934) (by kernel_rfl) (by kernel_rfl) (fun s => by kernel_rfl) w)
  obtain ⟨rfl, rfl, rfl, rfl⟩ : h = boot_heap w.params ∧ gs = Array.mk [] ∧ d = boot_drawn ∧ k = boot_toks := by simpa using e'
  unfold openEnds
  exact bmap e (runK w os)
theorem headK (hc : ∀ {d : DefRec} {kwd : List (Str × PySem.Expr)}, defOf viewK PySem.Challenge.rw_on0181_01.row.name = some (d, kwd) → WalkO viewK [Str.ofString "DtdFault"] (XL viewK []) (kmHook heapK addrK (fun _ => by kernel_rfl) [246]).says PySem.Challenge.rw_on0181_01.row.toRowW d kwd fun f vs => call f vs) : PySem.Challenge.rw_on0181_01.Holds := by
  w_on
  refine holds_law (by decide +kernel) fun said => ?_
  refine holds_open (q := viewK) (loose := [Str.ofString "DtdFault"]) (Xt := fun s => xlAt viewK [] s && recOk (RowW.records PySem.Challenge.rw_on0181_01.row.toRowW) s) (XP := XL viewK []) (Yf := Hook.obs (kmHook heapK addrK (fun _ => by kernel_rfl) [246])) (Ya := Hook.val (kmHook heapK addrK (fun _ => by kernel_rfl) [246])) (YP := Hook.says (kmHook heapK addrK (fun _ => by kernel_rfl) [246])) (N := 3934) leftK (Hook.of _) (Hook.keeps _) (fun s e => xl_of s (Bool.and_eq_true_iff.mp e).1) XL.keeps (by rfl) (by rfl) (by rfl) (fun s e => recFacts_of (Bool.and_eq_true_iff.mp e).2) (by rfl) (by first | assumption | decide +kernel) (by decide +kernel) ⟨rfl, rfl, rfl, rfl, rfl, by decide +kernel⟩ ?hw (hc rfl)
  case hw => w_witness2
end Mine
open PySem PySem.W PyProof.Rows PySem.Calls PySem.Spec PyProof.Rows.LCg
set_option maxHeartbeats 8000000
namespace Mine
abbrev PR : Program := PySem.Challenge.rw_on0181_01.row.prog

def Kp (h h' : Heap) : Prop := ∀ b o, h.get? b = some o → h'.get? b = some o
theorem Kp.refl (h : Heap) : Kp h h := fun _ _ e => e
theorem Kp.trans {a b c : Heap} (x : Kp a b) (y : Kp b c) : Kp a c := fun d o e => y d o (x d o e)
theorem fr_kp {h₀ h h' : Heap} {L : Addr} {m : Str → Option Value} (F : Fr h₀ L h m) (k : Kp h h') : Fr h₀ L h' m := ⟨F.ns.keeps k, fun b o e => k b o (F.keep b o e), F.above⟩
theorem news_kp {h₀ h h' : Heap} {L : Addr} {news : List (Addr × Obj)} (N : News h₀ L h news) (k : Kp h h') : News h₀ L h' news := fun p hp => ⟨k _ _ (N p hp).1, (N p hp).2⟩
theorem none_kp {h h' : Heap} {a : Addr} (k : Kp h h') (e : h'.get? a = none) : h.get? a = none := by
  cases q : h.get? a with
  | none => rfl
  | some o => rw [k a o q] at e; cases e
theorem ns_some {h : Heap} {L : Addr} {m : Str → Option Value} (n : h.Ns L m) : ∃ o, h.get? L = some o := let ⟨o, _, _, e, _⟩ := n; ⟨o, e⟩
theorem news_new {h₀ h h' : Heap} {L r : Addr} {o : Obj} {m : Str → Option Value} {news : List (Addr × Obj)} (F : Fr h₀ L h m) (N : News h₀ L h news) (k : Kp h h') (e : h'.get? r = some o) (hn : h.get? r = none) :
    News h₀ L h' ((r, o) :: news) := fun p hp => by
  rcases List.mem_cons.mp hp with rfl | hp
  · refine ⟨e, fun q => ?_, none_kp F.keep hn⟩
    obtain ⟨ol, hl⟩ := ns_some F.ns
    have q' : r = L := q
    rw [q', hl] at hn; cases hn
  · exact ⟨k _ _ (N p hp).1, (N p hp).2⟩

theorem enter {prog : Program} {w : World} {A : Around} {s : Shared} {K : Frag} {f : Addr} {pos : List Value} {kw : List (Str × Value)} (binds : List (Str × Value)) {Q E : Value → Shared → Prop}
    {name qual : Str} {params : Arguments} {body : List Stmt} {scope : Scope} {dV kV doc pm cdv ct oc : Value} {an od : Option Addr} {osl : Array (Option Value)}
    (X : K.In s.heap) (hlim : s.heap.NoLimit)
    (ho : K.lookup f = some ⟨oc, od, .func (fnOf name qual params body scope dV kV doc pm an cdv ct), osl⟩) (hcd : codeIn K cdv qual = true) (hroom : A.depth < recursionLimit)
    (hbind : BindsTo s (fnOf name qual params body scope dV kV doc pm an cdv ct) ⟨pos, kw⟩ binds) (hloc : ∀ y ∈ binds, scope.names.lookup y.1 = some .local)
    (h : ∀ L h₁, Fr s.heap L h₁ (fun y => binds.reverse.lookup y) → News s.heap L h₁ [] →
      wpAny (model prog w) (A.deeper (envOf qual scope L f cdv)) (execs body (envOf qual scope L f cdv))
        (fun fl s' => Q (match fl with | .ret v => v | _ => .none) s') (fun _ _ => False)
        { s with heap := h₁, toks := s.toks + binds.length })
    (hcell : ∀ x ∈ scope.names, x.2 ≠ .cell) (hco : scope.isCoroutine = false) (hgen : scope.isGenerator = false) (hk : scope.kind = .function) :
    wpAny (model prog w) A (call (.ref f) pos kw) Q E s := by
  refine wpAny_call ?_
  refine codeAny_call_def (fd := fnOf name qual params body scope dV kV doc pm an cdv ct) (body := body) (binds := binds) hroom (X _ _ ho) rfl hlim (codeRec_of X hcd) rfl hbind hcell hloc (fun h₁ hns hk₁ => ?_) hco hgen hk
  exact wpAny_mono (h s.heap.objs.size h₁ ⟨hns, hk₁, Nat.le_refl _⟩ News.nil) (fun fl s' x => x) (fun _ _ y => y.elim)

theorem inst_base {h₀ h : Heap} {L x C dx : Addr} {od : Obj} {sl : Array (Option Value)} {m : Str → Option Value} (F : Fr h₀ L h m) (h1 : h₀.get? x = some ⟨.ref C, some dx, .plain, sl⟩) (h2 : h₀.get? dx = some od) :
    InstAt h x ⟨.ref C, some dx, .plain, sl⟩ C (some od) := ⟨F.keep _ _ h1, rfl, rfl, F.keep _ _ h2⟩

/- str dicts -/
def SD (w : World) (h : Heap) (a : Addr) (kvs : List (Str × Value)) : Prop := (a == sysModules) = false ∧ h.DictOf (strKind PR w) a kvs
theorem SD.kp {w : World} {h h' : Heap} {a : Addr} {kvs : List (Str × Value)} (x : SD w h a kvs) (k : Kp h h') : SD w h' a kvs := ⟨x.1, x.2.keep k⟩

end Mine
set_option maxHeartbeats 8000000
namespace Mine

/-- where a pure piece of a turn ends: the frame, and what stood in the ledger -/
def CEnd (h₀ : Heap) (C : Addr) (m₂ : Str → Option Value) (keep : List (Addr × Obj)) (s s' : Shared) : Prop :=
  ∃ h' tk all, s' = { s with heap := h', toks := tk } ∧ Fr h₀ C h' m₂ ∧ News h₀ C h' all ∧ ∀ p ∈ keep, p ∈ all
theorem CEnd.intro {h₀ : Heap} {C : Addr} {m₂ : Str → Option Value} {keep all : List (Addr × Obj)} {s : Shared} {h' : Heap} {tk : Nat} (F : Fr h₀ C h' m₂) (N : News h₀ C h' all) (sub : ∀ p ∈ keep, p ∈ all) : CEnd h₀ C m₂ keep s { s with heap := h', toks := tk } :=
  ⟨h', tk, all, rfl, F, N, sub⟩
/-- one turn's tests and element, pure; J over (items so far, ledger) -/
def CTurn (prog : Program) (w : World) (A : Around) (h₀ : Heap) (C : Addr) (m₂ : Str → Option Value) (cenv : Env) (ifs : List Expr) (elt : Expr) (J : List Value → List (Addr × Obj) → Prop) (keep : List (Addr × Obj)) (I D L : Addr) (ys : List Value) (nw : List (Addr × Obj)) (E' : Value → Shared → Prop) (s : Shared) : Prop :=
  wpAny (model prog w) A (forIn ifs true fun c r => if r = true then do let ok ← isTrue c cenv (eval c cenv); pure (ForInStep.yield ok) else pure (ForInStep.yield r))
    (fun ok s₃ => if ok = true then wpAny (model prog w) A (eval elt cenv) (fun y s₄ => ∃ add, CEnd h₀ C m₂ (add ++ keep) s s₄ ∧ (∀ p ∈ add, p.1 ≠ I ∧ p.1 ≠ D ∧ p.1 ≠ L) ∧ J (ys ++ [y]) (add ++ nw)) E' s₃
      else CEnd h₀ C m₂ keep s s₃ ∧ J ys nw) E' s

section
variable {prog : Program} {w : World} {A : Around} {E : Value → Shared → Prop} {s : Shared} {h₀ : Heap} {L : Addr} {m : Str → Option Value} {env : Env}

theorem comp_tests {elt target iter : Expr} {ifs : List Expr} {scope : Scope} {pos : Pos} {it acc : Value} {env : Env} {R : Result → Shared → Prop} (I : Nat → Shared → Prop)
    (turn : ∀ n s, I n s → wpAny (model prog w) A (pyNext it) (fun r s₁ => match r with
      | none => R (.ok .next) s₁
      | some v => wpAny (model prog w) A (letOwnedTupleGo target it v) (fun _ s₀ => wpAny (model prog w) A (assign target env v) (fun _ s₂ =>
          wpAny (model prog w) A (forIn ifs true fun c r => if r = true then do let ok ← isTrue c env (eval c env); pure (ForInStep.yield ok) else pure (ForInStep.yield r)) (fun ok s₃ =>
            if ok = true then wpAny (model prog w) A (eval elt env) (fun x s₄ =>
              wpAny (model prog w) A (call (.builtin "list.append") [acc, x]) (fun _ s₅ => ∃ m, m < n ∧ I m s₅) (notedBy (model prog w) A env fun e s' => R (.error e) s') s₄) (notedBy (model prog w) A env fun e s' => R (.error e) s') s₃
            else ∃ m, m < n ∧ I m s₃) (notedBy (model prog w) A env fun e s' => R (.error e) s') s₂) (notedBy (model prog w) A env fun e s' => R (.error e) s') s₀) (notedBy (model prog w) A env fun e s' => R (.error e) s') s₁) (notedBy (model prog w) A env fun e s' => R (.error e) s') s)
    (n : Nat) {s : Shared} (h : I n s) :
    codeAny (model prog w) A (.compLoop (.ListComp elt [⟨target, iter, ifs, 0⟩] scope pos) 0 it acc env) R s := by
  refine codeAny_loop rfl I (fun n s hI => ?_) n h
  show wpAny _ A ((compTurn (.ListComp elt [⟨target, iter, ifs, 0⟩] scope pos) 0 it acc env).onRaise (fun x => do noteFrame x env; theTreesLotGoes x)) _ _ s
  refine wpAny_noted ?_
  rw [compTurn_list]
  refine wpAny_bind (wpAny_standAt (wpAny_bind (wpAny_mono (turn n s hI) (fun r s₁ h₁ => ?_) fun _ _ h' => h')))
  cases r with
  | none => exact wpAny_pure h₁
  | some v =>
    refine wpAny_bind (wpAny_mono h₁ (fun _ s₀ h₀' => ?_) fun _ _ h' => h')
    refine wpAny_bind (wpAny_mono h₀' (fun _ s₂ h₂ => ?_) fun _ _ h' => h')
    refine wpAny_bind (wpAny_mono h₂ (fun ok s₃ h₃ => ?_) fun _ _ h' => h')
    cases ok with
    | false =>
      simp only [Bool.false_eq_true, if_false] at h₃ ⊢
      exact wpAny_pure ⟨rfl, h₃⟩
    | true =>
      simp only [if_true] at h₃ ⊢
      exact wpAny_bind (wpAny_bind (wpAny_mono h₃ (fun x s₄ h₄ => wpAny_bind (wpAny_mono h₄ (fun _ s₅ h₅ => wpAny_pure (wpAny_pure ⟨rfl, h₅⟩)) fun _ _ h' => h')) fun _ _ h' => h'))
end
section
variable {prog : Program} {w : World} {A : Around} {E : Value → Shared → Prop} {h₀ : Heap} {L : Addr} {m : Str → Option Value} {env : Env}

theorem comp_block {elt target iter : Expr} {ifs : List Expr} {scope : Scope} {cl : List (Str × Addr)} {pos : Pos} {s₂ : Shared} {I : Addr} {fp : List Addr} {n : Nat} {P : Nat → Value → Prop} {St : Nat → Heap → Prop} {news : List (Addr × Obj)}
    {Bd : Nat → Value → (Str → Option Value) → Prop} {J : Nat → List Value → List (Addr × Obj) → Prop} {RR : Value → Addr → Result → Shared → Prop}
    (W : Walks prog w A I fp [I] n P St) (hgo : ∀ i v s (Q : Unit → Shared → Prop) (E' : Value → Shared → Prop), P i v → Kp h₀ s.heap → St (i + 1) s.heap → Q () s → wpAny (model prog w) A (letOwnedTupleGo target (.ref I) v) Q E' s)
    (hasg : ∀ i v C s m₁ (Q : Unit → Shared → Prop) (E' : Value → Shared → Prop), P i v → Kp h₀ s.heap → s.heap.Ns C m₁ →
      (∀ h' tk m₂, h'.Ns C m₂ → Bd i v m₂ → (∀ c o, c ≠ C → s.heap.get? c = some o → h'.get? c = some o) → Q () { s with heap := h', toks := tk }) → wpAny (model prog w) A (assign target (compEnvC scope cl C env) v) Q E' s)
    (hsz : n ≤ sizeLine) (hcell : ∀ y ∈ scope.names, y.2 ≠ .cell) (hkind : scope.kind = .function) (hIo : ∀ i h, St i h → ∃ o, h.get? I = some o) (srcs : List (Addr × Obj)) (hSt : ∀ i h h' oI, St i h → h.get? I = some oI → h'.get? I = some oI → Kp h₀ h' → (∀ p ∈ srcs, h'.get? p.1 = some p.2) → St i h') (hJs : ∀ i ys nw, J i ys nw → ∀ p ∈ srcs, p ∈ nw) (hst : St 0 s₂.heap) (hfp : ∀ b ∈ fp, b < s₂.heap.objs.size)
    (F : Fr h₀ L s₂.heap m) (N : News h₀ L s₂.heap news) (hIL : L ≠ I) (hI₀ : h₀.get? I = none) (off : ∀ p ∈ news, p.1 ≠ I)
    (hJ : J 0 [] news)
    (turn : ∀ i v I oI D oL C m₂ h tk ys nw E', i < n → ys.length ≤ i → P i v → Bd i v m₂ → J i ys nw → Fr h₀ C h m₂ → News h₀ C h ((I, oI) :: (D, lst ys) :: (L, oL) :: nw) →
      CTurn prog w A h₀ C m₂ (compEnvC scope cl C env) ifs elt (J (i + 1)) ((I, oI) :: (D, lst ys) :: (L, oL) :: nw) I D L ys nw E' { s₂ with heap := h, toks := tk })
    (hRR : ∀ D C h tk m' ys nw, Fr h₀ L h m → News h₀ L h ((D, lst ys) :: nw) → h.Ns C m' → h₀.get? C = none → C ≠ L → C ≠ D → (∀ p ∈ nw, p.1 ≠ C ∧ p.1 ≠ D) → J n ys nw → RR (.ref D) C (.ok .next) { s₂ with heap := h, toks := tk }) :
    wpAny (model prog w) A (newList []) (fun acc s₃ => wpAny (model prog w) A (newFunctionEnv scope env.globals cl [] env.qual none .none (some env)) (fun cenv s₄ =>
      codeAny (model prog w) A (.compStart (.ListComp elt [⟨target, iter, ifs, 0⟩] scope pos) 0 (.ref I) acc { cenv with scope := relabel scope env }) (RR acc cenv.locals) s₄) E s₃) E s₂ := by
  refine wpAny_newObj_type (wpAny_newFunctionEnv hcell (by intro y hy; simp at hy) (fun h₁ hns₁ hsb₁ => ?_) hkind)
  dsimp only at hns₁ hsb₁ ⊢
  generalize hH2 : s₂.heap.push { cls := .type "list", dict := none, data := .seq ([] : List Value).toArray } = H2 at hns₁ hsb₁ ⊢
  have hC : H2.objs.size = s₂.heap.objs.size + 1 := by rw [← hH2, Heap.size_push]
  have hDC : s₂.heap.objs.size ≠ H2.objs.size := by rw [hC]; exact Nat.ne_of_lt (Nat.lt_succ_self _)
  have below : ∀ b, b < s₂.heap.objs.size → b ≠ H2.objs.size ∧ b ≠ s₂.heap.objs.size := fun b hb => ⟨by rw [hC]; exact Nat.ne_of_lt (Nat.lt_succ_of_lt hb), Nat.ne_of_lt hb⟩
  have hDf : s₂.heap.objs.size ∉ fp := fun hm => Nat.lt_irrefl _ (hfp _ hm)
  have hCf : H2.objs.size ∉ fp := fun hm => by have := hfp _ hm; rw [hC] at this; exact Nat.lt_irrefl _ (Nat.lt_of_succ_lt this)
  have hIf : I ∈ fp := W.sub I (List.mem_singleton.mpr rfl)
  have hIlt : I < s₂.heap.objs.size := hfp I hIf
  have old : ∀ b o, s₂.heap.get? b = some o → h₁.get? b = some o := fun b o e => hsb₁.extBut b o (below b (Heap.lt_size e)).1 (Heap.get?_push_of_some _ (hH2 ▸ Heap.get?_push_of_some _ e))
  have hacc : h₁.get? s₂.heap.objs.size = some (lst []) := hsb₁.extBut _ _ hDC (Heap.get?_push_of_some _ (hH2 ▸ Heap.get?_push_size _ rfl))
  have hst₁ : St 0 h₁ := W.frame _ _ _ hst fun b _ o e => old b o e
  have fresh : ∀ a, s₂.heap.objs.size ≤ a → s₂.heap.get? a = none := fun a ha => by
    cases e : s₂.heap.get? a with
    | none => rfl
    | some o' => exact absurd (Heap.lt_size e) (Nat.not_lt.mpr ha)
  have fresh₀ : ∀ a, s₂.heap.objs.size ≤ a → h₀.get? a = none := fun a ha => none_kp F.keep (fresh a ha)
  have hD₀ : h₀.get? s₂.heap.objs.size = none := fresh₀ _ (Nat.le_refl _)
  have hC₀ : h₀.get? H2.objs.size = none := fresh₀ _ (by rw [hC]; exact Nat.le_succ _)
  have hLlt : L < s₂.heap.objs.size := F.ns.lt
  have hDL : s₂.heap.objs.size ≠ L := Ne.symm (below L hLlt).2
  have hCL : H2.objs.size ≠ L := Ne.symm (below L hLlt).1
  have hCI : I ≠ H2.objs.size := (below I hIlt).1
  have hDI : I ≠ s₂.heap.objs.size := (below I hIlt).2
  have aboveC : h₀.objs.size ≤ H2.objs.size := by rw [hC]; exact Nat.le_succ_of_le (Nat.le_of_lt (Nat.lt_of_le_of_lt F.above hLlt))
  have off₀ : ∀ p ∈ news, p.1 ≠ I ∧ p.1 ≠ H2.objs.size ∧ p.1 ≠ s₂.heap.objs.size := fun p hp => ⟨off p hp, (below _ (Heap.lt_size (N p hp).1)).1, (below _ (Heap.lt_size (N p hp).1)).2⟩
  have loop : ∀ s₃ : Shared, s₃ = { s₂ with heap := h₁, toks := s₂.toks + ([] : List (Str × Value)).length } →
      codeAny (model prog w) A (.compLoop (.ListComp elt [⟨target, iter, ifs, 0⟩] scope pos) 0 (.ref I) (.ref s₂.heap.objs.size) (compEnvC scope cl H2.objs.size env))
        (RR (.ref s₂.heap.objs.size) H2.objs.size) s₃ := by
    rintro s₃ rfl
    refine comp_tests
      (fun k s' => ∃ h' tk i ys m' nw, s' = { s₂ with heap := h', toks := tk } ∧ i ≤ n ∧ k = n + 1 - i ∧ ys.length ≤ i ∧ St i h' ∧ Fr h₀ L h' m ∧ h'.Ns H2.objs.size m' ∧ News h₀ L h' ((s₂.heap.objs.size, lst ys) :: nw) ∧
        (∀ p ∈ nw, p.1 ≠ I ∧ p.1 ≠ H2.objs.size ∧ p.1 ≠ s₂.heap.objs.size) ∧ J i ys nw) ?_ (n + 1)
      ⟨h₁, _, 0, [], _, news, rfl, Nat.zero_le _, rfl, Nat.le_refl _, hst₁, F.keeps old, hns₁, fun p hp => ?_, off₀, hJ⟩
    · rintro k s' ⟨h', tk, i, ys, m', nw, rfl, hi, rfl, hyl, hst', F', hn', N', off', hJ'⟩
      by_cases hlt : i < n
      · refine W.item i _ _ _ hlt hst' fun v h₂ tk₂ hPv hst₂ hk₂ => ?_
        have F₂ : Fr h₀ L h₂ m := fr_but F' hk₂ hIL hI₀
        refine hgo i v _ _ _ hPv F₂.keep hst₂ ?_
        have hn₂ : h₂.Ns H2.objs.size m' := hn'.at' fun o e => hk₂ _ o (by simpa using Ne.symm hCI) e
        refine hasg i v _ _ m' _ _ hPv F₂.keep hn₂ fun h₃ tk₃ m₃ hn₃ hBd hs₃ => ?_
        have hst₃ : St (i + 1) h₃ := W.frame _ _ _ hst₂ fun b hb o e => hs₃ b o (fun q => hCf (by have q' : b = H2.objs.size := q; rw [← q']; exact hb)) e
        obtain ⟨oI, heI⟩ := hIo _ _ hst₃
        have F₃ : Fr h₀ L h₃ m := ⟨F₂.ns.at' fun o e => hs₃ _ o (Ne.symm hCL) e, fun b o e => hs₃ b o (fun q => by rw [q, hC₀] at e; cases e) (F₂.keep b o e), F₂.above⟩
        have FC : Fr h₀ H2.objs.size h₃ m₃ := ⟨hn₃, F₃.keep, aboveC⟩
        have N₂ : News h₀ L h₂ ((s₂.heap.objs.size, lst ys) :: nw) := news_but N' hk₂ fun p hp => by
          rcases List.mem_cons.mp hp with rfl | hp
          · exact Ne.symm hDI
          · exact (off' p hp).1
        have N₃ : News h₀ L h₃ ((s₂.heap.objs.size, lst ys) :: nw) := fun p hp => by
          refine ⟨hs₃ _ _ ?_ (N₂ p hp).1, (N₂ p hp).2⟩
          rcases List.mem_cons.mp hp with rfl | hp
          · exact hDC
          · exact (off' p hp).2.1
        obtain ⟨oL, heL⟩ := ns_some F₃.ns
        have zD : h₃.get? s₂.heap.objs.size = some (lst ys) := (N₃ _ List.mem_cons_self).1
        have hL₀ : h₀.get? L = none := Heap.get?_none_of_le F₃.above
        have NC : News h₀ H2.objs.size h₃ ((I, oI) :: (s₂.heap.objs.size, lst ys) :: (L, oL) :: nw) := fun p hp => by
          rcases List.mem_cons.mp hp with rfl | hp
          · exact ⟨heI, hCI, hI₀⟩
          rcases List.mem_cons.mp hp with rfl | hp
          · exact ⟨zD, hDC, hD₀⟩
          rcases List.mem_cons.mp hp with rfl | hp
          · exact ⟨heL, Ne.symm hCL, hL₀⟩
          · exact ⟨(N₃ p (List.mem_cons_of_mem _ hp)).1, (off' p hp).2.1, (N₃ p (List.mem_cons_of_mem _ hp)).2.2⟩
        obtain ⟨oL', esL, epL, heL', hdL, hkL, hfL⟩ := F₃.ns
        have eoL : oL' = oL := by rw [heL] at heL'; exact (Option.some.inj heL').symm
        subst eoL
        refine wpAny_mono (turn i v I oI s₂.heap.objs.size oL' H2.objs.size m₃ h₃ tk₃ ys nw _ hlt hyl hPv hBd hJ' FC NC) (fun ok s₄ h₄ => ?_) fun _ _ e => e
        cases ok with
        | false =>
          simp only [Bool.false_eq_true, if_false] at h₄ ⊢
          obtain ⟨⟨h₄, tk₄, all, rfl, F₄, N₄, sub⟩, hJ₄⟩ := h₄
          have z1 := (N₄ _ (sub _ (List.mem_cons_self))).1
          have z2 := (N₄ _ (sub _ (List.mem_cons_of_mem _ List.mem_cons_self))).1
          have z3 := (N₄ _ (sub _ (List.mem_cons_of_mem _ (List.mem_cons_of_mem _ List.mem_cons_self)))).1
          have hst₄ : St (i + 1) h₄ := hSt _ _ _ _ hst₃ heI z1 F₄.keep fun p hp => (N₄ _ (sub _ (List.mem_cons_of_mem _ (List.mem_cons_of_mem _ (List.mem_cons_of_mem _ (hJs _ _ _ hJ' p hp)))))).1
          exact ⟨n + 1 - (i + 1), by omega, h₄, tk₄, i + 1, ys, _, nw, rfl, hlt, rfl, Nat.le_succ_of_le hyl, hst₄, ⟨⟨oL', esL, epL, z3, hdL, hkL, hfL⟩, F₄.keep, F₃.above⟩, F₄.ns,
            fun p hp => by
              rcases List.mem_cons.mp hp with rfl | hp
              · exact ⟨z2, hDL, hD₀⟩
              · exact ⟨(N₄ _ (sub _ (List.mem_cons_of_mem _ (List.mem_cons_of_mem _ (List.mem_cons_of_mem _ hp))))).1, (N₃ p (List.mem_cons_of_mem _ hp)).2⟩, off', hJ₄⟩
        | true =>
          simp only [if_true] at h₄ ⊢
          refine wpAny_mono h₄ (fun y s₅ h₅ => ?_) fun _ _ e => e
          obtain ⟨add, ⟨h₅, tk₅, all, rfl, F₅, N₅, sub'⟩, hadd, hJ₅⟩ := h₅
          have sub : ∀ p ∈ ((I, oI) :: (s₂.heap.objs.size, lst ys) :: (L, oL') :: nw), p ∈ all := fun p hp => sub' p (List.mem_append.mpr (.inr hp))
          have z1 := (N₅ _ (sub _ (List.mem_cons_self))).1
          have z2 := (N₅ _ (sub _ (List.mem_cons_of_mem _ List.mem_cons_self))).1
          have z3 := (N₅ _ (sub _ (List.mem_cons_of_mem _ (List.mem_cons_of_mem _ List.mem_cons_self)))).1
          have hst₅ : St (i + 1) h₅ := hSt _ _ _ _ hst₃ heI z1 F₅.keep fun p hp => (N₅ _ (sub _ (List.mem_cons_of_mem _ (List.mem_cons_of_mem _ (List.mem_cons_of_mem _ (hJs _ _ _ hJ' p hp)))))).1
          have offA : ∀ p ∈ add ++ nw, p.1 ≠ I ∧ p.1 ≠ H2.objs.size ∧ p.1 ≠ s₂.heap.objs.size := fun p hp => by
            rcases List.mem_append.mp hp with hp | hp
            · exact ⟨(hadd p hp).1, (N₅ _ (sub' p (List.mem_append.mpr (.inl hp)))).2.1, (hadd p hp).2.1⟩
            · exact off' p hp
          have N₆ : News h₀ L h₅ (add ++ nw) := fun p hp => by
            rcases List.mem_append.mp hp with hp | hp
            · have z := N₅ _ (sub' p (List.mem_append.mpr (.inl hp)))
              exact ⟨z.1, (hadd p hp).2.2, z.2.2⟩
            · exact ⟨(N₅ _ (sub _ (List.mem_cons_of_mem _ (List.mem_cons_of_mem _ (List.mem_cons_of_mem _ hp))))).1, (N₃ p (List.mem_cons_of_mem _ hp)).2⟩
          have F₆ : Fr h₀ L h₅ m := ⟨⟨oL', esL, epL, z3, hdL, hkL, hfL⟩, F₅.keep, F₃.above⟩
          refine append_at (hsz := by show ys.toArray.size ≤ sizeLine; rw [List.size_toArray]; omega) z2 fun h₆ hs₆ hD₆ => ?_
          refine ⟨n + 1 - (i + 1), by omega, h₆, tk₅, i + 1, ys ++ [y], _, add ++ nw, rfl, hlt, rfl, by rw [List.length_append, List.length_singleton]; omega,
            W.frame _ _ _ hst₅ fun b hb o e => hs₆.extBut b o (fun q => hDf (q ▸ hb)) e, F₆.change hs₆ hDL hD₀, F₅.ns.sameBut hs₆ (Ne.symm hDC), fun p hp => ?_, offA, hJ₅⟩
          rcases List.mem_cons.mp hp with rfl | hp
          · exact ⟨hD₆.trans (congrArg some (lst_snoc ys y)), hDL, hD₀⟩
          · exact ⟨hs₆.extBut _ _ (offA p hp).2.2 (N₆ p hp).1, (N₆ p hp).2⟩
      · obtain rfl : i = n := Nat.le_antisymm hi (Nat.not_lt.mp hlt)
        refine W.done _ _ _ hst' fun h₂ tk₂ hk₂ => ?_
        exact hRR _ _ h₂ tk₂ _ ys nw (fr_but F' hk₂ hIL hI₀) (news_but N' hk₂ fun p hp => by
          rcases List.mem_cons.mp hp with rfl | hp
          · exact Ne.symm hDI
          · exact (off' p hp).1) (hn'.at' fun o e => hk₂ _ o (by simpa using Ne.symm hCI) e) hC₀ hCL (Ne.symm hDC) (fun p hp => (off' p hp).2) hJ'
    · rcases List.mem_cons.mp hp with rfl | hp
      · exact ⟨hacc, hDL, hD₀⟩
      · exact ⟨old _ _ (N p hp).1, (N p hp).2⟩
  exact codeAny_compStart_list (loop _ rfl) (W.self 0 _ _ _ hst₁ (loop _ rfl))
end

/-- what an iteration meets -/
inductive SrcK (prog : Program) (w : World) (h₀ : Heap) (news : List (Addr × Obj)) : Value → Nat → (Nat → Value → Prop) → Prop
  | list {ax its} : SrcAt h₀ ax its news → SrcK prog w h₀ news (.ref ax) its.size (fun i v => its[i]? = some v)
  | tup {ax its} : h₀.IsTuple ax its → SrcK prog w h₀ news (.ref ax) its.size (fun i v => its[i]? = some v)
  | dict {d kvs} : (d == sysModules) = false → (h₀.DictOf (strKind prog w) d kvs ∨ ∃ o, (d, o) ∈ news ∧ o.IsDictOf (strKind prog w) kvs) → SrcK prog w h₀ news (.ref d) kvs.length (fun i v => ∃ k x, kvs[i]? = some (k, x) ∧ (strKind prog w).is k v = true)

section
variable {prog : Program} {w : World} {A : Around} {E : Value → Shared → Prop} {s : Shared} {h₀ : Heap} {L : Addr} {m : Str → Option Value} {env : Env} {news : List (Addr × Obj)}

theorem src_list {ax : Addr} {its : Array Value} {Q : Value → Shared → Prop} (hh : A.handled = none) (F : Fr h₀ L s.heap m) (N : News h₀ L s.heap news) (S : SrcAt h₀ ax its news)
    (h : ∀ I fp (St : Nat → Heap → Prop) h', Walks prog w A I fp [I] its.size (fun i v => its[i]? = some v) St → (∀ i h, St i h → ∃ o, h.get? I = some o) → (∀ i h, St i h → ∃ a, h.IsListIter I a i) → St 0 h' → (∀ b ∈ fp, b < h'.objs.size) →
      Fr h₀ L h' m → News h₀ L h' news → L ≠ I → h₀.get? I = none → (∀ p ∈ news, p.1 ≠ I) → L ∉ fp → (∀ b ∈ fp, b ≠ I → ∀ o, h'.get? b = some o → s.heap.get? b = some o) → (∀ srcs : List (Addr × Obj), (∀ p ∈ srcs, p ∈ news) → (∀ i h h' oI, St i h → h.get? I = some oI → h'.get? I = some oI → Kp h₀ h' → (∀ p ∈ srcs, h'.get? p.1 = some p.2) → St i h') → Q (.ref I) { s with heap := h' })) :
    wpAny (model prog w) A (pyIter (.ref ax)) Q E s := by
  have hl := S.list F.keep N
  have hlt : ax < s.heap.objs.size := by obtain ⟨_, e, _⟩ := hl; exact Heap.lt_size e
  refine wpAny_pyIter_list hl ?_
  have up : ∀ b o, s.heap.get? b = some o → (s.heap.push { cls := .type "list_iterator", data := .fields #[.ref ax, .int 0 0] }).get? b = some o := fun b o e => Heap.get?_push_of_some _ e
  obtain ⟨srcs, hsub, hkeep⟩ : ∃ srcs : List (Addr × Obj), (∀ p ∈ srcs, p ∈ news) ∧ ∀ h' : Heap, Kp h₀ h' → (∀ p ∈ srcs, h'.get? p.1 = some p.2) → h'.IsList ax its := by
    rcases S with S | ⟨o, hm, hc, n, hd⟩
    · exact ⟨[], (fun _ hp => nomatch hp), fun h' k _ => S.at fun o e => k _ o e⟩
    · exact ⟨[(ax, o)], (fun p hp => by rw [List.mem_singleton.mp hp]; exact hm), fun h' _ k => ⟨o, k (ax, o) (.head _), hc, n, hd⟩⟩
  refine h s.heap.objs.size _ _ _ (Walks.list hh s.heap.objs.size ax (Nat.ne_of_lt hlt) its) (fun i h st => by obtain ⟨o, e, _⟩ := st.1; exact ⟨o, e⟩) (fun i h st => ⟨_, st.1⟩) ⟨⟨_, Heap.get?_push_size _ rfl, rfl, rfl⟩, hl.push _⟩ (fun b hb => ?_)
    (F.keeps up) (N.grown up) (Nat.ne_of_lt F.ns.lt) (next_is_new F) (fun p hp => Nat.ne_of_lt (Heap.lt_size (N p hp).1)) ?_ ?_ srcs hsub (fun i h h' oI st e e' k1 k2 => ⟨by obtain ⟨o, q, r⟩ := st.1; rw [e] at q; cases q; exact ⟨oI, e', r⟩, hkeep h' k1 k2⟩)
  · show b < (s.heap.push _).objs.size
    rw [Heap.size_push]
    rcases List.mem_cons.mp hb with rfl | hb
    · exact Nat.lt_succ_self _
    · rw [List.mem_singleton.mp hb]; exact Nat.lt_succ_of_lt hlt
  · intro hm
    rcases List.mem_cons.mp hm with e | hm
    · exact absurd F.ns.lt (by rw [e]; exact Nat.lt_irrefl _)
    · have e := List.mem_singleton.mp hm
      rcases S with ⟨o, ho, _⟩ | ⟨o, ho, _⟩
      · exact absurd (Nat.lt_of_lt_of_le (Heap.lt_size ho) F.above) (by rw [e]; exact Nat.lt_irrefl _)
      · exact (N _ ho).2.1 e.symm
  · intro b hb hne o e
    rcases List.mem_cons.mp hb with rfl | hb
    · exact absurd rfl hne
    · rw [List.mem_singleton.mp hb] at e ⊢
      obtain ⟨o', e', _⟩ := hl
      have := up _ _ e'
      rw [e] at this; cases this; exact e'

theorem src_k {xv : Value} {n : Nat} {P : Nat → Value → Prop} {Q : Value → Shared → Prop} (hh : A.handled = none) (F : Fr h₀ L s.heap m) (N : News h₀ L s.heap news) (S : SrcK prog w h₀ news xv n P)
    (h : ∀ I fp (St : Nat → Heap → Prop) h', Walks prog w A I fp [I] n P St → (∀ i h, St i h → ∃ o, h.get? I = some o) → St 0 h' → (∀ b ∈ fp, b < h'.objs.size) →
      Fr h₀ L h' m → News h₀ L h' news → L ≠ I → h₀.get? I = none → (∀ p ∈ news, p.1 ≠ I) → L ∉ fp → (∀ b ∈ fp, b ≠ I → ∀ o, h'.get? b = some o → s.heap.get? b = some o) → (∀ srcs : List (Addr × Obj), (∀ p ∈ srcs, p ∈ news) → (∀ i h h' oI, St i h → h.get? I = some oI → h'.get? I = some oI → Kp h₀ h' → (∀ p ∈ srcs, h'.get? p.1 = some p.2) → St i h') → Q (.ref I) { s with heap := h' })) :
    wpAny (model prog w) A (pyIter xv) Q E s := by
  cases S with
  | list S => exact src_list hh F N S fun I fp St h' W a b c d e f g i j k l srcs q1 q2 => h I fp St h' W a c d e f g i j k l srcs q1 q2
  | @tup ax its S =>
    have hl : s.heap.IsTuple ax its := S.at fun o e => F.keep _ o e
    have hlt : ax < h₀.objs.size := by obtain ⟨_, e, _⟩ := S; exact Heap.lt_size e
    have hlt' : ax < s.heap.objs.size := by obtain ⟨_, e, _⟩ := hl; exact Heap.lt_size e
    refine wpAny_pyIter_tuple hl ?_
    have up : ∀ b o, s.heap.get? b = some o → (s.heap.push { cls := .type "tuple_iterator", data := .fields #[.ref ax, .int 0 0] }).get? b = some o := fun b o e => Heap.get?_push_of_some _ e
    refine h s.heap.objs.size _ _ _ (Walks.tuple hh s.heap.objs.size ax (Nat.ne_of_lt hlt') its) (fun i h st => by obtain ⟨o, e, _⟩ := st.1; exact ⟨o, e⟩) ⟨⟨_, Heap.get?_push_size _ rfl, rfl, rfl⟩, hl.at fun o e => up _ o e⟩ (fun b hb => ?_)
      (F.keeps up) (N.grown up) (Nat.ne_of_lt F.ns.lt) (next_is_new F) (fun p hp => Nat.ne_of_lt (Heap.lt_size (N p hp).1)) ?_ ?_ [] (fun _ hp => nomatch hp) (fun i h h' oI st e e' k1 _ => ⟨by obtain ⟨o, q, r⟩ := st.1; rw [e] at q; cases q; exact ⟨oI, e', r⟩, S.at fun o q => k1 _ o q⟩)
    · show b < (s.heap.push _).objs.size
      rw [Heap.size_push]
      rcases List.mem_cons.mp hb with rfl | hb
      · exact Nat.lt_succ_self _
      · rw [List.mem_singleton.mp hb]; exact Nat.lt_succ_of_lt hlt'
    · intro hm
      rcases List.mem_cons.mp hm with e | hm
      · exact absurd F.ns.lt (by rw [e]; exact Nat.lt_irrefl _)
      · have e := List.mem_singleton.mp hm
        exact absurd (Nat.lt_of_lt_of_le hlt F.above) (by rw [e]; exact Nat.lt_irrefl _)
    · intro b hb hne o e
      rcases List.mem_cons.mp hb with rfl | hb
      · exact absurd rfl hne
      · rw [List.mem_singleton.mp hb] at e ⊢
        obtain ⟨o', e', _⟩ := hl
        have := up _ _ e'
        rw [e] at this; cases this; exact e'
  | @dict d kvs lo S =>
    obtain ⟨ep, srcs, hsub, hkeep⟩ : ∃ ep, ∃ srcs : List (Addr × Obj), (∀ p ∈ srcs, p ∈ news) ∧ ∀ h' : Heap, Kp h₀ h' → (∀ p ∈ srcs, h'.get? p.1 = some p.2) → h'.DictAt (strKind prog w) d kvs ep := by
      rcases S with S | ⟨o, hm, es, ep, hc, hd, hk, hp, hn⟩
      · obtain ⟨ep, hdk⟩ := S.dictAt
        exact ⟨ep, [], (fun _ hp => nomatch hp), fun h' k _ => hdk.at' fun o e => k _ o e⟩
      · exact ⟨ep, [(d, o)], (fun p hp => by rw [List.mem_singleton.mp hp]; exact hm), fun h' _ k => ⟨o, es, k (d, o) (.head _), hc, hd, hk, hp, hn⟩⟩
    have hd := hkeep s.heap F.keep fun p hp => (N p (hsub p hp)).1
    have hlt' : d < s.heap.objs.size := by obtain ⟨_, _, e, _⟩ := hd; exact Heap.lt_size e
    have hne : d ≠ L := by
      rcases S with ⟨_, _, _, e, _⟩ | ⟨o, hm, _⟩
      · exact Nat.ne_of_lt (Nat.lt_of_lt_of_le (Heap.lt_size e) F.above)
      · exact (N _ hm).2.1
    refine wpAny_pyIter_dict lo hd ?_
    have up : ∀ b o, s.heap.get? b = some o → (s.heap.push { cls := .type "dict_keyiterator", data := .fields #[.ref d, .int 0 0, .int kvs.length 0, .int ep 0] }).get? b = some o := fun b o e => Heap.get?_push_of_some _ e
    refine h s.heap.objs.size _ _ _ (Walks.dictKeys hh s.heap.objs.size d (Nat.ne_of_lt hlt') kvs ep) (fun i h st => by obtain ⟨o, e, _⟩ := st.1; exact ⟨o, e⟩) ⟨⟨_, Heap.get?_push_size _ rfl, rfl, rfl⟩, hd.at' fun o e => up _ o e⟩ (fun b hb => ?_)
      (F.keeps up) (N.grown up) (Nat.ne_of_lt F.ns.lt) (next_is_new F) (fun p hp => Nat.ne_of_lt (Heap.lt_size (N p hp).1)) ?_ ?_ srcs hsub (fun i h h' oI st e e' k1 k2 => ⟨by obtain ⟨o, q, r⟩ := st.1; rw [e] at q; cases q; exact ⟨oI, e', r⟩, hkeep h' k1 k2⟩)
    · show b < (s.heap.push _).objs.size
      rw [Heap.size_push]
      rcases List.mem_cons.mp hb with rfl | hb
      · exact Nat.lt_succ_self _
      · rw [List.mem_singleton.mp hb]; exact Nat.lt_succ_of_lt hlt'
    · intro hm
      rcases List.mem_cons.mp hm with e | hm
      · exact absurd F.ns.lt (by rw [e]; exact Nat.lt_irrefl _)
      · exact hne (List.mem_singleton.mp hm).symm
    · intro b hb hne o e
      rcases List.mem_cons.mp hb with rfl | hb
      · exact absurd rfl hne
      · rw [List.mem_singleton.mp hb] at e ⊢
        obtain ⟨o', _, e', _⟩ := hd
        have := up _ _ e'
        rw [e] at this; cases this; exact e'
end

section
variable {prog : Program} {w : World} {A : Around} {E : Value → Shared → Prop} {s : Shared} {h₀ : Heap} {L : Addr} {m : Str → Option Value} {env : Env}

/-- the turns of a comprehension with a name for its target -/
def LcN (prog : Program) (w : World) (A : Around) (h₀ : Heap) (L : Addr) (m : Str → Option Value) (env : Env) (elt : Expr) (x : Str) (ifs : List Expr) (scope : Scope) (cl : List (Str × Addr)) (Fin : Shared → List Value → List (Addr × Obj) → Prop) (xv : Value) (s₁ : Shared) : Prop :=
  ∃ (news : List (Addr × Obj)) (n : Nat) (P : Nat → Value → Prop) (J : Nat → List Value → List (Addr × Obj) → Prop), A.handled = none ∧ Fr h₀ L s₁.heap m ∧ News h₀ L s₁.heap news ∧ SrcK prog w h₀ news xv n P ∧ n ≤ sizeLine ∧ J 0 [] news ∧ (∀ i ys nw, J i ys nw → ∀ p ∈ news, p ∈ nw) ∧
    (∀ i v I oI D oL C m₂ h tk ys nw E', i < n → ys.length ≤ i → P i v → m₂ x = some v → J i ys nw → Fr h₀ C h m₂ → News h₀ C h ((I, oI) :: (D, lst ys) :: (L, oL) :: nw) →
      CTurn prog w A h₀ C m₂ (compEnvC scope cl C env) ifs elt (J (i + 1)) ((I, oI) :: (D, lst ys) :: (L, oL) :: nw) I D L ys nw E' { s₁ with heap := h, toks := tk }) ∧
    (∀ ys nw, J n ys nw → Fin s₁ ys nw)
def FinE' (h₀ : Heap) (L : Addr) (m : Str → Option Value) (Q : Value → Shared → Prop) (s : Shared) (ys : List Value) (news : List (Addr × Obj)) : Prop :=
  ∀ D h tk, Fr h₀ L h m → News h₀ L h ((D, lst ys) :: news) → (∀ p ∈ news, p.1 ≠ D) → Q (.ref D) { s with heap := h, toks := tk }
def FinA' (h₀ : Heap) (L : Addr) (m : Str → Option Value) (y : Str) (Q : Flow → Shared → Prop) (s : Shared) (ys : List Value) (news : List (Addr × Obj)) : Prop :=
  ∀ D h tk, Fr h₀ L h (fun z => if z = y then some (.ref D) else m z) → News h₀ L h ((D, lst ys) :: news) → (∀ p ∈ news, p.1 ≠ D) → Q .next { s with heap := h, toks := tk }

theorem lc_block {elt target iter : Expr} {ifs : List Expr} {scope : Scope} {cl : List (Str × Addr)} {pos : Pos} {s₁ s₂ : Shared} {x : Str} {px : Pos} {xv : Value} {news : List (Addr × Obj)} {n : Nat} {P : Nat → Value → Prop} {J : Nat → List Value → List (Addr × Obj) → Prop} {RR : Value → Addr → Result → Shared → Prop}
    (htg : target = .Name x px) (hh : A.handled = none) (F : Fr h₀ L s₁.heap m) (N : News h₀ L s₁.heap news) (S : SrcK prog w h₀ news xv n P) (hsz : n ≤ sizeLine) (hJ : J 0 [] news) (hJs : ∀ i ys nw, J i ys nw → ∀ p ∈ news, p ∈ nw)
    (hcell : ∀ y ∈ scope.names, y.2 ≠ .cell) (hkind : scope.kind = .function) (hx : scope.names.lookup x = some .local)
    (turn : ∀ i v I oI D oL C m₂ h tk ys nw E', i < n → ys.length ≤ i → P i v → m₂ x = some v → J i ys nw → Fr h₀ C h m₂ → News h₀ C h ((I, oI) :: (D, lst ys) :: (L, oL) :: nw) →
      CTurn prog w A h₀ C m₂ (compEnvC scope cl C env) ifs elt (J (i + 1)) ((I, oI) :: (D, lst ys) :: (L, oL) :: nw) I D L ys nw E' { s₁ with heap := h, toks := tk })
    (hRR : ∀ D C h tk m' ys nw, Fr h₀ L h m → News h₀ L h ((D, lst ys) :: nw) → h.Ns C m' → h₀.get? C = none → C ≠ L → C ≠ D → (∀ p ∈ nw, p.1 ≠ C ∧ p.1 ≠ D) → J n ys nw → RR (.ref D) C (.ok .next) { s₁ with heap := h, toks := tk }) :
    wpAny (model prog w) A (pyIter xv) (fun it s₂ => wpAny (model prog w) A (newList []) (fun acc s₃ => wpAny (model prog w) A (newFunctionEnv scope env.globals cl [] env.qual none .none (some env)) (fun cenv s₄ =>
      codeAny (model prog w) A (.compStart (.ListComp elt [⟨target, iter, ifs, 0⟩] scope pos) 0 it acc { cenv with scope := relabel scope env }) (RR acc cenv.locals) s₄) E s₃) E s₂) E s₁ := by
  subst htg
  refine src_k hh F N S fun I fp St h' W hIo hst hfp F' N' hIL hI₀ off _ _ srcs hsub hSt => ?_
  exact comp_block (Bd := fun _ v m₂ => m₂ x = some v) (J := J) W (fun _ _ _ _ _ _ _ _ hq => wpAny_of_eq (rfl : letOwnedTupleGo (.Name x px) _ _ = pure ()) hq) (fun i v C s m₁ Q' E' _ _ hn hk =>
      wpAny_assign_Name (wpAny_storeName_local (lookup_relabel_local hx) hn (fun h₃ hn₃ hs₃ => hk h₃ _ _ hn₃ (by simp) fun c o hc e => hs₃.extBut c o hc e) (by simp [compEnvC, relabel, hkind]))) hsz hcell hkind hIo srcs hSt (fun i ys nw hj p hp => hJs i ys nw hj p (hsub p hp)) hst hfp F' N' hIL hI₀ off hJ
    (fun i v I oI D oL C m₂ h tk ys nw E' a b c d e f g => turn i v I oI D oL C m₂ h tk ys nw E' a b c d e f g) hRR

theorem lc_name {elt iter : Expr} {x : Str} {px : Pos} {ifs : List Expr} {scope : Scope} {cl : List (Str × Addr)} {pos : Pos} {Q : Value → Shared → Prop} (F₀ : Fr h₀ L s.heap m)
    (hclos : closureFor scope env = pure cl) (hcell : ∀ y ∈ scope.names, y.2 ≠ .cell) (hkind : scope.kind = .function)
    (hnames : ∀ y ∈ scope.names, y.2 = .local → scope.names.lookup y.1 = some .local) (hx : scope.names.lookup x = some .local)
    (h : wpAny (model prog w) A (eval iter env) (LcN prog w A h₀ L m env elt x ifs scope cl (FinE' h₀ L m Q)) E s)
    (hs : ∀ x, foldedSetIterable iter env x = pure x := by intro _; rfl) :
    wpAny (model prog w) A (eval (.ListComp elt [⟨.Name x px, iter, ifs, 0⟩] scope pos) env) Q E s := by
  rw [eval_ListComp]
  refine wpAny_comprehension_free (use := none) rfl hs hclos hkind hnames (wpAny_mono h (fun xv s₁ h₁ => ?_) fun _ _ e => e)
  obtain ⟨news, n, P, J, hh, F, N, S, hsz, hJ, hJs, turn, fin⟩ := h₁
  refine lc_block (s₂ := s) rfl hh F N S hsz hJ hJs hcell hkind hx turn ?_
  intro D C h tk m' ys nw F₂ N₂ hn hC₀ hCL hCD offC fJ
  refine ⟨m', hn, fun h'' hs'' => fin ys nw fJ D h'' tk (F₂.change hs'' hCL hC₀) (fun p hp => ?_) fun p hp => (offC p hp).2⟩
  refine ⟨hs''.extBut _ _ ?_ (N₂ p hp).1, (N₂ p hp).2⟩
  rcases List.mem_cons.mp hp with rfl | hp
  · exact Ne.symm hCD
  · exact (offC p hp).1

theorem lc_name_assign {elt iter : Expr} {x y : Str} {px py : Pos} {ifs : List Expr} {scope : Scope} {cl : List (Str × Addr)} {pos spos : Pos} {Q : Flow → Shared → Prop} (F₀ : Fr h₀ L s.heap m) (hLe : env.locals = L)
    (hsw : swapsWith (.ListComp elt [⟨.Name x px, iter, ifs, 0⟩] scope pos) (some (.Name y py)) spos.line env = pure true)
    (hclos : closureFor scope env = pure cl) (hcell : ∀ z ∈ scope.names, z.2 ≠ .cell) (hkind : scope.kind = .function)
    (hnames : ∀ z ∈ scope.names, z.2 = .local → scope.names.lookup z.1 = some .local) (hx : scope.names.lookup x = some .local)
    (hy : env.kindOf y = some .local) (hp : (env.scope.kind == .class || (env.scope.kind == .module && env.locals != env.globals)) = false)
    (h : wpAny (model prog w) A (eval iter env) (LcN prog w A h₀ L m env elt x ifs scope cl (FinA' h₀ L m y Q)) E s)
    (hs : ∀ x, foldedSetIterable iter env x = pure x := by intro _; rfl) :
    wpAny (model prog w) A (exec (.Assign [.Name y py] (.ListComp elt [⟨.Name x px, iter, ifs, 0⟩] scope pos) spos) env) Q E s := by
  subst hLe
  rw [exec_Assign_Name_used _ _ _ _ hsw]
  refine wpAny_bind (wpAny_standAt (wpAny_bind ?_))
  show wpAny _ A (do let _ ← comprehension (.ListComp elt [⟨.Name x px, iter, ifs, 0⟩] scope pos) scope env _ (newList []) false (eval iter env) (some (assign (.Name y py) env))) _ _ s
  refine wpAny_bind (wpAny_mono (wpAny_comprehension_free (use := some (assign (.Name y py) env)) (Q := fun _ s' => Q .next s') rfl hs hclos hkind hnames
    (wpAny_mono h (fun xv s₁ h₁ => ?_) fun _ _ e => e)) (fun _ s' hq => wpAny_pure (wpAny_pure hq)) fun _ _ e => e)
  obtain ⟨news, n, P, J, hh, F, N, S, hsz, hJ, hJs, turn, fin⟩ := h₁
  refine lc_block (s₂ := s) rfl hh F N S hsz hJ hJs hcell hkind hx turn ?_
  intro D C h' tk m' ys nw F₂ N₂ hn hC₀ hCL hCD offC fJ
  show wpAny _ A (assign (.Name y py) env (.ref D)) _ _ _
  refine wpAny_assign_Name (wpAny_storeName_local hy F₂.ns (fun h₂ hn₂ hs₂ => ?_) hp)
  have hL₀ : h₀.get? env.locals = none := Heap.get?_none_of_le F₂.above
  have F₃ : Fr h₀ env.locals h₂ (fun z => if z = y then some (.ref D) else m z) := ⟨hn₂, fun b o e => hs₂.extBut b o (fun q => by rw [q, hL₀] at e; cases e) (F₂.keep b o e), F₂.above⟩
  refine ⟨m', hn.sameBut hs₂ hCL, fun h'' hs'' => fin ys nw fJ D h'' _ (F₃.change hs'' hCL hC₀) (fun p hp => ?_) fun p hp => (offC p hp).2⟩
  have z : h₂.get? p.1 = some p.2 := hs₂.extBut _ _ (N₂ p hp).2.1 (N₂ p hp).1
  refine ⟨hs''.extBut _ _ ?_ z, (N₂ p hp).2⟩
  rcases List.mem_cons.mp hp with rfl | hp
  · exact Ne.symm hCD
  · exact (offC p hp).1

/-- the turns over a list of pairs that stood before, two names for the target -/
def LcP (prog : Program) (w : World) (A : Around) (h₀ : Heap) (L : Addr) (m : Str → Option Value) (env : Env) (elt : Expr) (x y : Str) (ifs : List Expr) (scope : Scope) (cl : List (Str × Addr)) (Fin : Shared → List Value → List (Addr × Obj) → Prop) (xv : Value) (s₁ : Shared) : Prop :=
  ∃ (news : List (Addr × Obj)) (ax : Addr) (its : Array Value) (J : Nat → List Value → List (Addr × Obj) → Prop), xv = .ref ax ∧ A.handled = none ∧ Fr h₀ L s₁.heap m ∧ News h₀ L s₁.heap news ∧ SrcAt h₀ ax its news ∧ its.size ≤ sizeLine ∧ J 0 [] news ∧ (∀ i ys nw, J i ys nw → ∀ p ∈ news, p ∈ nw) ∧ (∀ (i : Nat) (v : Value), its[i]? = some v → ∃ (T : Addr) (a b : Value), v = Value.ref T ∧ h₀.IsTuple T #[a, b]) ∧
    (∀ (i : Nat) (v : Value) (T : Addr) (a b : Value) I oI D oL C m₂ h tk ys nw E', i < its.size → ys.length ≤ i → its[i]? = some v → v = Value.ref T → h₀.IsTuple T #[a, b] → m₂ x = some a → m₂ y = some b → J i ys nw → Fr h₀ C h m₂ → News h₀ C h ((I, oI) :: (D, lst ys) :: (L, oL) :: nw) →
      CTurn prog w A h₀ C m₂ (compEnvC scope cl C env) ifs elt (J (i + 1)) ((I, oI) :: (D, lst ys) :: (L, oL) :: nw) I D L ys nw E' { s₁ with heap := h, toks := tk }) ∧
    (∀ ys nw, J its.size ys nw → Fin s₁ ys nw)

theorem lc_pair {elt iter : Expr} {x y : Str} {px py tp : Pos} {kk : Nat} {ifs : List Expr} {scope : Scope} {cl : List (Str × Addr)} {pos : Pos} {Q : Value → Shared → Prop} (F₀ : Fr h₀ L s.heap m)
    (hclos : closureFor scope env = pure cl) (hcell : ∀ y ∈ scope.names, y.2 ≠ .cell) (hkind : scope.kind = .function)
    (hnames : ∀ y ∈ scope.names, y.2 = .local → scope.names.lookup y.1 = some .local) (hx : scope.names.lookup x = some .local) (hy : scope.names.lookup y = some .local) (hxy : x ≠ y)
    (h : wpAny (model prog w) A (eval iter env) (LcP prog w A h₀ L m env elt x y ifs scope cl (FinE' h₀ L m Q)) E s)
    (hs : ∀ x, foldedSetIterable iter env x = pure x := by intro _; rfl) :
    wpAny (model prog w) A (eval (.ListComp elt [⟨.Tuple [.Name x px, .Name y py] kk tp, iter, ifs, 0⟩] scope pos) env) Q E s := by
  rw [eval_ListComp]
  refine wpAny_comprehension_free (use := none) rfl hs hclos hkind hnames (wpAny_mono h (fun xv s₁ h₁ => ?_) fun _ _ e => e)
  obtain ⟨news, ax, its, J, rfl, hh, F, N, S, hsz, hJ, hJs, hP, turn, fin⟩ := h₁
  refine src_list hh F N S fun I fp St h' W hIo hIt hst hfp F' N' hIL hI₀ off _ _ srcs hsub hSt => ?_
  refine comp_block (Bd := fun i v m₂ => ∃ (T : Addr) (a b : Value), v = Value.ref T ∧ h₀.IsTuple T #[a, b] ∧ m₂ x = some a ∧ m₂ y = some b) (J := J) W (fun i v s Q' E' hPv _ st hq => ?_) (fun i v C s m₁ Q' E' hPv hk₀ hn hk => ?_) hsz hcell hkind hIo srcs hSt (fun i ys nw hj p hp => hJs i ys nw hj p (hsub p hp)) hst hfp F' N' hIL hI₀ off hJ
    (fun i v I oI D oL C m₂ h tk ys nw E' a b c d e f g => ?_) ?_
  · obtain ⟨T, _, _, rfl, _⟩ := hP i v hPv
    obtain ⟨_, hit⟩ := hIt _ _ st
    exact wpAny_letOwnedTupleGo_listiter hit hq
  · obtain ⟨T, a, b, rfl, hT⟩ := hP i v hPv
    have hT' : s.heap.IsTuple T #[a, b] := hT.at fun o e => hk₀ _ o e
    have kx : (compEnvC scope cl C env).kindOf x = some .local := lookup_relabel_local hx
    have ky : (compEnvC scope cl C env).kindOf y = some .local := lookup_relabel_local hy
    refine kcp_assign hh hT' kx ky (by simp [compEnvC, relabel, hkind]) hn fun h₃ tk₃ hn₃ hs₃ => hk h₃ tk₃ _ hn₃ ⟨T, a, b, rfl, hT, ?_, ?_⟩ hs₃
    · simp [hxy]
    · simp
  · obtain ⟨T, x', y', rfl, hT, hx', hy'⟩ := d
    exact turn i _ T x' y' I oI D oL C m₂ h tk ys nw E' a b c rfl hT hx' hy' e f g
  · intro D C h tk m' ys nw F₂ N₂ hn hC₀ hCL hCD offC fJ
    refine ⟨m', hn, fun h'' hs'' => fin ys nw fJ D h'' tk (F₂.change hs'' hCL hC₀) (fun p hp => ?_) fun p hp => (offC p hp).2⟩
    refine ⟨hs''.extBut _ _ ?_ (N₂ p hp).1, (N₂ p hp).2⟩
    rcases List.mem_cons.mp hp with rfl | hp
    · exact Ne.symm hCD
    · exact (offC p hp).1

theorem finE_mono {Q : Value → Shared → Prop} {s : Shared} {ys : List Value} {nw nw' : List (Addr × Obj)} (hs : ∀ q ∈ nw, q ∈ nw') (h : FinE' h₀ L m Q s ys nw) : FinE' h₀ L m Q s ys nw' :=
  fun D h' tk F N off => h D h' tk F (fun p hp => N p (by rcases List.mem_cons.mp hp with rfl | hp; exact .head _; exact .tail _ (hs p hp))) fun p hp => off p (hs p hp)
theorem finA_mono {y : Str} {Q : Flow → Shared → Prop} {s : Shared} {ys : List Value} {nw nw' : List (Addr × Obj)} (hs : ∀ q ∈ nw, q ∈ nw') (h : FinA' h₀ L m y Q s ys nw) : FinA' h₀ L m y Q s ys nw' :=
  fun D h' tk F N off => h D h' tk F (fun p hp => N p (by rcases List.mem_cons.mp hp with rfl | hp; exact .head _; exact .tail _ (hs p hp))) fun p hp => off p (hs p hp)

/-- a turn whose element is a plain value -/
def VTurn (prog : Program) (w : World) (A : Around) (h₀ : Heap) (C : Addr) (m₂ : Str → Option Value) (cenv : Env) (ifs : List Expr) (elt : Expr) (J : List Value → Prop) (keep : List (Addr × Obj)) (ys : List Value) (E' : Value → Shared → Prop) (s : Shared) : Prop :=
  wpAny (model prog w) A (forIn ifs true fun c r => if r = true then do let ok ← isTrue c cenv (eval c cenv); pure (ForInStep.yield ok) else pure (ForInStep.yield r))
    (fun ok s₃ => if ok = true then wpAny (model prog w) A (eval elt cenv) (fun y s₄ => CEnd h₀ C m₂ keep s s₄ ∧ J (ys ++ [y])) E' s₃
      else CEnd h₀ C m₂ keep s s₃ ∧ J ys) E' s
theorem VTurn.c {C : Addr} {m₂ : Str → Option Value} {cenv : Env} {ifs : List Expr} {elt : Expr} {J : List Value → Prop} {J' : List Value → List (Addr × Obj) → Prop} {keep : List (Addr × Obj)} {I D L : Addr} {ys : List Value} {nw : List (Addr × Obj)} {E' : Value → Shared → Prop}
    (h : VTurn prog w A h₀ C m₂ cenv ifs elt J keep ys E' s) (hJ : ∀ ys, J ys → J' ys nw) : CTurn prog w A h₀ C m₂ cenv ifs elt J' keep I D L ys nw E' s := by
  refine wpAny_mono h (fun ok s₃ h₃ => ?_) fun _ _ e => e
  cases ok with
  | false => simp only [Bool.false_eq_true, if_false] at h₃ ⊢; exact ⟨h₃.1, hJ _ h₃.2⟩
  | true =>
    simp only [if_true] at h₃ ⊢
    exact wpAny_mono h₃ (fun y s₄ h₄ => ⟨[], h₄.1, (fun _ hp => nomatch hp), hJ _ h₄.2⟩) fun _ _ e => e

theorem lcN_val {elt : Expr} {x : Str} {ifs : List Expr} {scope : Scope} {cl : List (Str × Addr)} {Fin : Shared → List Value → List (Addr × Obj) → Prop} {xv : Value} {s₁ : Shared} {news : List (Addr × Obj)} {n : Nat} {P : Nat → Value → Prop} (Jx : Nat → List Value → Prop)
    (hm : ∀ s ys nw nw', (∀ q ∈ nw, q ∈ nw') → Fin s ys nw → Fin s ys nw')
    (hh : A.handled = none) (F : Fr h₀ L s₁.heap m) (N : News h₀ L s₁.heap news) (S : SrcK prog w h₀ news xv n P) (hsz : n ≤ sizeLine) (h0 : Jx 0 [])
    (turn : ∀ i v I oI D oL C m₂ h tk ys nw E', i < n → P i v → m₂ x = some v → Jx i ys → (∀ q ∈ news, q ∈ nw) → Fr h₀ C h m₂ → News h₀ C h ((I, oI) :: (D, lst ys) :: (L, oL) :: nw) →
      VTurn prog w A h₀ C m₂ (compEnvC scope cl C env) ifs elt (Jx (i + 1)) ((I, oI) :: (D, lst ys) :: (L, oL) :: nw) ys E' { s₁ with heap := h, toks := tk })
    (fin : ∀ ys, Jx n ys → Fin s₁ ys news) : LcN prog w A h₀ L m env elt x ifs scope cl Fin xv s₁ :=
  ⟨news, n, P, fun i ys nw => (∀ q ∈ news, q ∈ nw) ∧ Jx i ys, hh, F, N, S, hsz, ⟨fun _ h => h, h0⟩, fun _ _ _ h => h.1,
    fun i v I oI D oL C m₂ h tk ys nw E' a _ c d e f g => (turn i v I oI D oL C m₂ h tk ys nw E' a c d e.2 e.1 f g).c fun _ hj => ⟨e.1, hj⟩, fun ys nw h => hm _ _ _ _ h.1 (fin ys h.2)⟩

theorem lcP_val {elt : Expr} {x y : Str} {ifs : List Expr} {scope : Scope} {cl : List (Str × Addr)} {Fin : Shared → List Value → List (Addr × Obj) → Prop} {ax : Addr} {s₁ : Shared} {news : List (Addr × Obj)} {its : Array Value} (Jx : Nat → List Value → Prop)
    (hm : ∀ s ys nw nw', (∀ q ∈ nw, q ∈ nw') → Fin s ys nw → Fin s ys nw')
    (hh : A.handled = none) (F : Fr h₀ L s₁.heap m) (N : News h₀ L s₁.heap news) (S : SrcAt h₀ ax its news) (hsz : its.size ≤ sizeLine) (h0 : Jx 0 [])
    (hP : ∀ (i : Nat) (v : Value), its[i]? = some v → ∃ (T : Addr) (a b : Value), v = Value.ref T ∧ h₀.IsTuple T #[a, b])
    (turn : ∀ (i : Nat) (v : Value) (T : Addr) (a b : Value) I oI D oL C m₂ h tk ys nw E', i < its.size → its[i]? = some v → v = Value.ref T → h₀.IsTuple T #[a, b] → m₂ x = some a → m₂ y = some b → Jx i ys → (∀ q ∈ news, q ∈ nw) → Fr h₀ C h m₂ → News h₀ C h ((I, oI) :: (D, lst ys) :: (L, oL) :: nw) →
      VTurn prog w A h₀ C m₂ (compEnvC scope cl C env) ifs elt (Jx (i + 1)) ((I, oI) :: (D, lst ys) :: (L, oL) :: nw) ys E' { s₁ with heap := h, toks := tk })
    (fin : ∀ ys, Jx its.size ys → Fin s₁ ys news) : LcP prog w A h₀ L m env elt x y ifs scope cl Fin (.ref ax) s₁ :=
  ⟨news, ax, its, fun i ys nw => (∀ q ∈ news, q ∈ nw) ∧ Jx i ys, rfl, hh, F, N, S, hsz, ⟨fun _ h => h, h0⟩, fun _ _ _ h => h.1, hP,
    fun i v T a b I oI D oL C m₂ h tk ys nw E' q1 _ q2 q3 q4 q5 q6 q7 q8 q9 => (turn i v T a b I oI D oL C m₂ h tk ys nw E' q1 q2 q3 q4 q5 q6 q7.2 q7.1 q8 q9).c fun _ hj => ⟨q7.1, hj⟩, fun ys nw h => hm _ _ _ _ h.1 (fin ys h.2)⟩
end
end Mine
set_option maxHeartbeats 8000000
namespace Mine

/- plain data of the law -/
structure Rule where
  kind : Str
  choices : List Str
  mode : Str
  value : Option Str
abbrev Rules := List (Str × Rule)
abbrev AllRules := List (Str × Rules)
def look {α : Type} (l : List (Str × α)) (x : Str) : Option α := (l.find? fun e => e.1 = x).map (·.2)
def rulesOf (σ : AllRules) (x : Str) : Rules := (look σ x).getD []
def ValIs : Option Str → Value → Prop
  | none, v => v = .none
  | some x, v => ∃ t, v = .str x t
def valD : Option Str → PyData
  | none => .none
  | some x => .str x
def Rule.data (r : Rule) : PyData := .tuple [.str r.kind, .tuple (r.choices.map .str), .str r.mode, valD r.value]

/- heap facts that grow with the heap -/
def RuleObj (h : Heap) (x : Addr) (r : Rule) : Prop := ∃ (dx ch : Addr) (vs : List Value) (k1 k2 k3 k4 : Int) (t1 t2 t3 t4 tk tm : Tok) (vv : Value) (n : Nat),
  h.get? x = some ⟨.ref 207, some dx, .plain, #[]⟩ ∧
  h.get? dx = some (dictOf [⟨k1, .str "kind" t1, .str r.kind tk⟩, ⟨k2, .str "choices" t2, .ref ch⟩, ⟨k3, .str "mode" t3, .str r.mode tm⟩, ⟨k4, .str "value" t4, vv⟩] n) ∧
  h.IsTuple ch vs.toArray ∧ StrsAre vs r.choices ∧ ValIs r.value vv
theorem RuleObj.kp {h h' : Heap} {x : Addr} {r : Rule} (y : RuleObj h x r) (k : Kp h h') : RuleObj h' x r :=
  let ⟨dx, ch, vs, k1, k2, k3, k4, t1, t2, t3, t4, tk, tm, vv, n, a, b, c, d, e⟩ := y
  ⟨dx, ch, vs, k1, k2, k3, k4, t1, t2, t3, t4, tk, tm, vv, n, k _ _ a, k _ _ b, c.at fun o q => k _ o q, d, e⟩

theorem paired_mono {α β : Type} {F G : α → β → Prop} (hm : ∀ a b, F a b → G a b) {l₁ : List α} {l₂ : List β} (p : Paired F l₁ l₂) : Paired G l₁ l₂ := Paired.mono hm p
theorem paired_get {α β : Type} {F : α → β → Prop} : ∀ {l₁ : List α} {l₂ : List β}, Paired F l₁ l₂ → ∀ (i : Nat) (a : α), l₁[i]? = some a → ∃ b, l₂[i]? = some b ∧ F a b
  | _, _, .nil, i, a, h => by simp at h
  | _, _, .cons f p, 0, a, h => by simp at h; subst h; exact ⟨_, rfl, f⟩
  | _, _, .cons f p, i + 1, a, h => by simp at h; simpa using paired_get p i a h
theorem paired_append {α β : Type} {F : α → β → Prop} : ∀ {l₁ : List α} {l₂ : List β} {m₁ : List α} {m₂ : List β}, Paired F l₁ l₂ → Paired F m₁ m₂ → Paired F (l₁ ++ m₁) (l₂ ++ m₂)
  | _, _, _, _, .nil, q => q
  | _, _, _, _, .cons f p, q => .cons f (paired_append p q)

/-- a str dict whose entries stand for the rows of a table -/
def Tab {α : Type} (w : World) (h : Heap) (G : Value → α → Prop) (d : Addr) (l : List (Str × α)) : Prop :=
  ∃ kvs, SD w h d kvs ∧ Paired (fun kv e => kv.1 = e.1 ∧ G kv.2 e.2) kvs l
theorem look_paired {α : Type} {G : Value → α → Prop} {kvs : List (Str × Value)} {l : List (Str × α)} (p : Paired (fun kv e => kv.1 = e.1 ∧ G kv.2 e.2) kvs l) (x : Str) :
    (look l x = none ∧ valueAt kvs x = none) ∨ ∃ e v, look l x = some e ∧ valueAt kvs x = some v ∧ G v e := by
  induction p with
  | nil => exact .inl ⟨rfl, rfl⟩
  | @cons kv e kvs l f p ih =>
    obtain ⟨h1, h2⟩ := f
    unfold look valueAt at ih ⊢
    by_cases hx : e.1 = x
    · exact .inr ⟨e.2, kv.2, by simp [hx], by simp [h1, hx], h2⟩
    · have hx' : ¬ kv.1 = x := by rw [h1]; exact hx
      simpa [hx, hx'] using ih

def RuleRef (h : Heap) (v : Value) (r : Rule) : Prop := ∃ x, v = .ref x ∧ RuleObj h x r
def Inner (w : World) (h : Heap) (d : Addr) (rs : Rules) : Prop := Tab w h (RuleRef h) d rs
theorem Inner.kp {w : World} {h h' : Heap} {d : Addr} {rs : Rules} (y : Inner w h d rs) (k : Kp h h') : Inner w h' d rs :=
  let ⟨kvs, a, p⟩ := y; ⟨kvs, a.kp k, Paired.mono (fun _ _ ⟨e, x, hx, q⟩ => ⟨e, x, hx, q.kp k⟩) p⟩
def InnerRef (w : World) (h : Heap) (v : Value) (rs : Rules) : Prop := ∃ d, v = .ref d ∧ Inner w h d rs
def Attrs (w : World) (h : Heap) (d : Addr) (σ : AllRules) : Prop := Tab w h (InnerRef w h) d σ
theorem Attrs.kp {w : World} {h h' : Heap} {d : Addr} {σ : AllRules} (y : Attrs w h d σ) (k : Kp h h') : Attrs w h' d σ :=
  let ⟨kvs, a, p⟩ := y; ⟨kvs, a.kp k, Paired.mono (fun _ _ ⟨e, x, hx, q⟩ => ⟨e, x, hx, q.kp k⟩) p⟩

/-- the Dtd object: its four fields -/
structure DtdAt (h : Heap) (D E At Nt : Addr) : Prop where
  it : ∃ (dD : Addr) (k1 k2 k3 k4 : Int) (t1 t2 t3 t4 t5 : Tok) (n : Nat), h.get? D = some ⟨.ref 172, some dD, .plain, #[]⟩ ∧
    h.get? dD = some (dictOf [⟨k1, .str "root" t1, .str "a" t5⟩, ⟨k2, .str "elements" t2, .ref E⟩, ⟨k3, .str "attributes" t3, .ref At⟩, ⟨k4, .str "notations" t4, .ref Nt⟩] n)
theorem DtdAt.kp {h h' : Heap} {D E At Nt : Addr} (y : DtdAt h D E At Nt) (k : Kp h h') : DtdAt h' D E At Nt :=
  let ⟨dD, k1, k2, k3, k4, t1, t2, t3, t4, t5, n, a, b⟩ := y.it; ⟨dD, k1, k2, k3, k4, t1, t2, t3, t4, t5, n, k _ _ a, k _ _ b⟩

theorem isStr_key {prog : Program} {w : World} {k : Str} {v : Value} (h : (strKind prog w).is k v = true) : ∃ t, v = .str k t := by
  have h' : v.isStr k = true := by rw [W.isStr_of]; exact h
  cases v <;> simp [Value.isStr] at h'
  exact ⟨_, by rw [h']⟩
theorem ExactNew {w : World} {h₀ h : Heap} {L d : Addr} {o : Obj} {news : List (Addr × Obj)} {kvs : List (Str × Value)} (N : News h₀ L h news) (hm : (d, o) ∈ news) (lo : (d == sysModules) = false) (hd : o.IsDictOf (strKind PR w) kvs) : SD w h d kvs :=
  ⟨lo, Heap.dictOf_iff.mpr ⟨o, (N _ hm).1, hd⟩⟩
theorem SD.fr {w : World} {h₀ h : Heap} {L d : Addr} {m : Str → Option Value} {kvs : List (Str × Value)} (T : SD w h₀ d kvs) (F : Fr h₀ L h m) : SD w h d kvs := T.kp fun b o e => F.keep b o e

section
variable {w : World} {A : Around} {E : Value → Shared → Prop} {s : Shared} {d : Addr} {kvs : List (Str × Value)}
theorem sd_mget {pl : Sem Bool} {Q : Value × List Value → Shared → Prop} (T' : SD w s.heap d kvs) (h : Q (.builtin "dict.get", [.ref d]) s) :
    wpAny (model PR w) A (getMethod (.ref d) "get" pl) Q E s :=
  getMethod_builtin T'.2.typeIs PySem.F.plainAttrs_dict PySem.F.slot_dict_get PySem.F.type_dict_get T'.2.mapOf.noDict h
theorem sd_get1 {x : Str} {t : Tok} {Q : Value → Shared → Prop} (T' : SD w s.heap d kvs) (h : Q ((valueAt kvs x).getD .none) { s with toks := s.toks + 1 }) :
    wpAny (model PR w) A (call (.builtin "dict.get") [.ref d, .str x t]) Q E s :=
  call_meetsIn PySem.F.slot_dict_get T'.2.typeIs PySem.F.entry_dict_get (PySem.F.args_dict_get_2 _ _) (meets_dict_get (strKind PR w) d (strKind_is PR w x t) T'.1) ⟨_, T'.2.mapOf, h⟩
theorem sd_get2 {x : Str} {t : Tok} {dflt : Value} {Q : Value → Shared → Prop} (T' : SD w s.heap d kvs) (h : Q ((valueAt kvs x).getD dflt) { s with toks := s.toks + 1 }) :
    wpAny (model PR w) A (call (.builtin "dict.get") [.ref d, .str x t, dflt]) Q E s :=
  call_meetsIn PySem.F.slot_dict_get T'.2.typeIs PySem.F.entry_dict_get (PySem.F.args_dict_get_3 _ _ _) (meets_dict_get_default (strKind PR w) d (strKind_is PR w x t) T'.1 dflt) ⟨_, T'.2.mapOf, h⟩
theorem sd_get1v {x : Str} {t : Tok} {v : Value} {Q : Value → Shared → Prop} (T' : SD w s.heap d kvs) (hv : valueAt kvs x = some v) (h : Q v { s with toks := s.toks + 1 }) :
    wpAny (model PR w) A (call (.builtin "dict.get") [.ref d, .str x t]) Q E s := sd_get1 T' (by rw [hv]; exact h)
theorem sd_get1n {x : Str} {t : Tok} {Q : Value → Shared → Prop} (T' : SD w s.heap d kvs) (hv : valueAt kvs x = none) (h : Q .none { s with toks := s.toks + 1 }) :
    wpAny (model PR w) A (call (.builtin "dict.get") [.ref d, .str x t]) Q E s := sd_get1 T' (by rw [hv]; exact h)
theorem sd_get2v {x : Str} {t : Tok} {v dflt : Value} {Q : Value → Shared → Prop} (T' : SD w s.heap d kvs) (hv : valueAt kvs x = some v) (h : Q v { s with toks := s.toks + 1 }) :
    wpAny (model PR w) A (call (.builtin "dict.get") [.ref d, .str x t, dflt]) Q E s := sd_get2 T' (by rw [hv]; exact h)
theorem sd_get2n {x : Str} {t : Tok} {dflt : Value} {Q : Value → Shared → Prop} (T' : SD w s.heap d kvs) (hv : valueAt kvs x = none) (h : Q dflt { s with toks := s.toks + 1 }) :
    wpAny (model PR w) A (call (.builtin "dict.get") [.ref d, .str x t, dflt]) Q E s := sd_get2 T' (by rw [hv]; exact h)
theorem sd_item {value slice : Expr} {x : Str} {t : Tok} {v : Value} {Q : Value → Shared → Prop} (T' : SD w s.heap d kvs) (hv : valueAt kvs x = some v) (h : Q v { s with toks := s.toks + 1 })
    (hs : subscripted slice false (.ref d) (.str x t) = operate [.ref d, .str x t] (getItem (.ref d) (.str x t)) := by with_unfolding_all rfl) (hg : ∀ r, letTemporaryGo value (.ref d) r = pure () := by intro _; with_unfolding_all rfl) :
    wpAny (model PR w) A (subscriptTail value slice (.ref d) (.str x t)) Q E s :=
  subscriptTail_builtin T'.2.typeIs slot_dict_getitem.lookup (wpAny_getItem_of (strKind_is PR w x t) T'.2.mapOf hv h) hs hg
theorem sd_in {x : Str} {t : Tok} {Q : Value → Shared → Prop} (T' : SD w s.heap d kvs) (h : Q (.bool (valueAt kvs x).isSome) { s with toks := s.toks + 1 }) :
    wpAny (model PR w) A (compareOp .In (.str x t) (.ref d)) Q E s := wpAny_in_of (strKind_is PR w x t) T'.1 T'.2.mapOf h
theorem sd_notin {x : Str} {t : Tok} {Q : Value → Shared → Prop} (T' : SD w s.heap d kvs) (h : Q (.bool (!(valueAt kvs x).isSome)) { s with toks := s.toks + 1 }) :
    wpAny (model PR w) A (compareOp .NotIn (.str x t) (.ref d)) Q E s := wpAny_notIn_of (strKind_is PR w x t) T'.1 T'.2.mapOf h
theorem sd_len {Q : Value → Shared → Prop} (T' : SD w s.heap d kvs) (hfit : (kvs.length : Int) < 2 ^ 63) (h : Q (.int kvs.length (s.toks + 1)) { s with toks := s.toks + 1 + 1 }) :
    wpAny (model PR w) A (call (.builtin "len") [.ref d]) Q E s := call_len_dict T'.1 T'.2 hfit h
end

/- entering a def whose names are captured -/
theorem enterC {prog : Program} {w : World} {A : Around} {s : Shared} {K : Frag} {f : Addr} {pos : List Value} {kw : List (Str × Value)} (binds : List (Str × Value)) {Q E : Value → Shared → Prop}
    {name qual : Str} {params : Arguments} {body : List Stmt} {scope : Scope} {dV kV doc pm cdv ct oc : Value} {an od : Option Addr} {osl : Array (Option Value)}
    (X : K.In s.heap) (hlim : s.heap.NoLimit)
    (ho : K.lookup f = some ⟨oc, od, .func (fnOf name qual params body scope dV kV doc pm an cdv ct), osl⟩) (hcd : codeIn K cdv qual = true) (hroom : A.depth < recursionLimit)
    (hbind : BindsTo s (fnOf name qual params body scope dV kV doc pm an cdv ct) ⟨pos, kw⟩ binds)
    (hkind : (binds.all fun y => scope.names.lookup y.1 == some .local || scope.names.lookup y.1 == some .cell) = true)
    (hnd : ((cellsFrom 0 scope.names []).map (·.1)).Nodup)
    (h : ∀ L h₁ tk cells, Fr s.heap L h₁ (bindL (envOfC qual scope L f cdv).kindOf binds fun _ => none) → News s.heap L h₁ cells →
      CellsAre (bindC (envOfC qual scope L f cdv).kindOf binds fun _ => none) (cellsFrom (L + 1) scope.names []) cells →
      wpAny (model prog w) (A.deeper (envOfC qual scope L f cdv)) (execs body (envOfC qual scope L f cdv))
        (fun fl s' => Q (match fl with | .ret v => v | _ => .none) s') (fun _ _ => False)
        { s with heap := h₁, toks := tk })
    (hco : scope.isCoroutine = false) (hgen : scope.isGenerator = false) (hk : scope.kind = .function) :
    wpAny (model prog w) A (call (.ref f) pos kw) Q E s := by
  refine wpAny_call ?_
  refine codeAny_call_function hroom (X _ _ ho) rfl hco hgen rfl (codeRec_of X hcd) (hbind _ _ _ _ ?_)
  refine wpAny_newFunctionEnv_cells hk (kindsX hkind _) fun env' he s' x => ?_
  subst he
  refine ⟨hlim.keeps x.toInCall.keep, codeAny_func ?_⟩
  obtain ⟨h₁, tk, rfl, _⟩ := x.done
  have hk₁ := x.toInCall.keep
  obtain ⟨cells, NC, Y⟩ := Cl.news (h₀ := s.heap) (Nat.le_refl _) fun n c hm => ⟨x.cell n c (lookup_of_mem_nodup (cellsFrom_names scope.names 0 (s.heap.objs.size + 1) [] [] rfl ▸ hnd) hm), x.above n c hm⟩
  exact wpAny_mono (h s.heap.objs.size h₁ tk cells ⟨x.toInCall.ns, hk₁, Nat.le_refl _⟩ NC Y) (fun fl s' x => x) (fun _ _ y => y.elim)

def AllNe (d : Addr) : List (Addr × Obj) → Prop
  | [] => True
  | p :: r => @Ne Nat p.1 d ∧ AllNe d r
theorem allNe_of {d : Addr} : ∀ {l : List (Addr × Obj)}, (∀ p ∈ l, p.1 ≠ d) → AllNe d l
  | [], _ => trivial
  | p :: _, h => ⟨h p (.head _), allNe_of fun q hq => h q (.tail _ hq)⟩
theorem ne_new {h₀ h : Heap} {L d : Addr} {news : List (Addr × Obj)} (N : News h₀ L h news) (hn : h.get? d = none) : ∀ p ∈ news, p.1 ≠ d := fun p hp q => by
  have := (N p hp).1
  rw [q, hn] at this; cases this
theorem namesTake {α : Type} {l : List α} {i : Nat} {a : α} (h : l[i]? = some a) : l.take (i + 1) = l.take i ++ [a] := by
  rw [List.take_add_one, h]; rfl
theorem strs_snoc {ys : List Value} {xs : List Str} {x : Str} {t : Tok} (h : StrsAre ys xs) : StrsAre (ys ++ [.str x t]) (xs ++ [x]) := StrsAre.append' h (.cons x t .nil)
theorem valueAt_get : ∀ {kvs : List (Str × Value)} {i : Nat} {k : Str} {v : Value}, (kvs.map (·.1)).Nodup → kvs[i]? = some (k, v) → valueAt kvs k = some v
  | [], _, _, _, _, h => by simp at h
  | e :: r, 0, k, v, _, h => by simp at h; subst h; simp [valueAt]
  | e :: r, i + 1, k, v, hn, h => by
    simp only [List.map_cons, List.nodup_cons] at hn
    have hr : r[i]? = some (k, v) := by simpa using h
    have hm : k ∈ r.map (·.1) := List.mem_map.mpr ⟨(k, v), List.mem_of_getElem? hr, rfl⟩
    have hne : ¬ e.1 = k := fun q => hn.1 (q ▸ hm)
    have ih := valueAt_get hn.2 hr
    unfold valueAt at ih ⊢
    simpa [hne] using ih
theorem SD.nodup {w : World} {h : Heap} {d : Addr} {kvs : List (Str × Value)} (T : SD w h d kvs) : (kvs.map (·.1)).Nodup := let ⟨_, _, _, _, _, _, _, _, _, n⟩ := T; n
theorem fewer {n k : Nat} (h : n ≤ k) (hk : k ≤ 1000 := by omega) : n ≤ sizeLine := Nat.le_trans (Nat.le_trans h hk) (by decide)
/- names inside a comprehension -/
section
variable {M : Model} {A : Around} {E : Value → Shared → Prop} {s : Shared} {K : Frag} {h₀ : Heap} {C : Addr} {m₂ mg mb : Str → Option Value} {news : List (Addr × Obj)} {scope : Scope} {cl : List (Str × Addr)} {env : Env} {p : Program} {loose : List Str} {x : Str} {pos : Pos} {v : Value} {Q : Value → Shared → Prop}
theorem cx_L (F : Fr h₀ C s.heap m₂) (hx : m₂ x = some v) (h : Q v s)
    (hk : (compEnvC scope cl C env).scope.kind = .function := by rfl) (hl : (compEnvC scope cl C env).kindOf x = some .local := by rfl) (hd : (x == ("__debug__" : Str)) = false := by decide) :
    wpAny M A (eval (.Name x pos) (compEnvC scope cl C env)) Q E s := ldVarK F.ns hx h hk hl hd
theorem cx_C {c : Addr} {o : Obj} (N : News h₀ C s.heap news) (hc : cl.lookup x = some c) (hm : (c, o) ∈ news) (hd : o.data = .cell (some v)) (h : Q v s)
    (hk : (compEnvC scope cl C env).scope.kind = .function := by rfl) (hl : (compEnvC scope cl C env).kindOf x = some .cell := by rfl) (hb : (x == ("__debug__" : Str)) = false := by decide) :
    wpAny M A (eval (.Name x pos) (compEnvC scope cl C env)) Q E s := wpAny_Name (wpAny_loadName_cell hk hl hc ⟨o, N.get hm, hd⟩ h) hb
theorem cx_K (F : Fr h₀ C s.heap m₂) (X : K.In h₀) (T : TopRead p loose mg mb h₀) (e : nsIn K mainGlobals x = some (some v)) (h : Q v s) (hg : env.globals = mainGlobals := by rfl)
    (hk : (compEnvC scope cl C env).scope.kind = .function := by rfl) (hx : (compEnvC scope cl C env).kindOf x = some .globalImplicit := by rfl) (hd : (x == ("__debug__" : Str)) = false := by decide) :
    wpAny M A (eval (.Name x pos) (compEnvC scope cl C env)) Q E s :=
  Name_function_global hk hx (loadGlobal_global (env := compEnvC scope cl C env) (show s.heap.Ns env.globals mg from hg ▸ (T.keeps F.keep).g) (mg_of X T.g e) h) hd
theorem cx_B (F : Fr h₀ C s.heap m₂) (X : K.In h₀) (T : TopRead p loose mg mb h₀) (e : nsIn K mainGlobals x = some none) (hv : bootBuiltins x = some v) (hn : x ≠ "__name__") (h : Q v s) (hg : env.globals = mainGlobals := by rfl) (hb : env.builtins = builtinsNs := by rfl)
    (hk : (compEnvC scope cl C env).scope.kind = .function := by rfl) (hx : (compEnvC scope cl C env).kindOf x = some .globalImplicit := by rfl) (hd : (x == ("__debug__" : Str)) = false := by decide) :
    wpAny M A (eval (.Name x pos) (compEnvC scope cl C env)) Q E s :=
  Name_function_global hk hx (loadGlobal_builtin (env := compEnvC scope cl C env) (show s.heap.Ns env.globals mg from hg ▸ (T.keeps F.keep).g) (mg_none_of X T.g e) (show s.heap.Ns env.builtins mb from hb ▸ (T.keeps F.keep).b) ((T.builtins x hn).trans hv) h) hd
end

/- reading lists of texts -/
theorem reads_strs {h₀ h : Heap} {L a : Addr} {news : List (Addr × Obj)} {ys : List Value} {xs : List Str} {n : Nat} (N : News h₀ L h news) (hm : (a, ({ cls := .type "list", data := .seq ys.toArray n } : Obj)) ∈ news) (S : StrsAre ys xs) :
    Reads h (.ref a) (.list (xs.map .str)) [a] := reads_list_at (N.get hm) rfl rfl (by simpa using S.reads h)
theorem shaped_strs {xs : List Str} (h : ∀ x ∈ xs, PyData.strOk x = true) : SeqAt.shaped (.list (xs.map .str)) = true := by
  have h1 : ∀ xs : List Str, (∀ x ∈ xs, PyData.strOk x = true) → PyData.canLayAll0 (xs.map PyData.str) = true := by
    intro xs
    induction xs with
    | nil => intro _; rfl
    | cons x r ih => intro h; simp [PyData.canLayAll0, PyData.canLay0, h x (.head _), ih fun y hy => h y (.tail _ hy)]
  have h2 : ∀ xs : List Str, PyData.depthAll (xs.map PyData.str) = 0 := by
    intro xs
    induction xs with
    | nil => rfl
    | cons x r ih => simp [PyData.depthAll, PyData.depth, ih]
  simp [SeqAt.shaped, PyData.canLay0, PyData.depth, h1 xs h, h2 xs]
theorem eqvAll_strs : ∀ xs ys : List Str, PyData.eqvAll (xs.map PyData.str) (ys.map PyData.str) = decide (xs = ys)
  | [], [] => by simp [PyData.eqvAll]
  | [], _ :: _ => by simp [PyData.eqvAll]
  | _ :: _, [] => by simp [PyData.eqvAll]
  | a :: r, b :: t => by
    simp only [List.map_cons, PyData.eqvAll, PyData.eqv, eqvAll_strs r t]
    by_cases h : a = b <;> by_cases h' : r = t <;> simp [h, h']
section
variable {prog : Program} {w : World} {A : Around} {E : Value → Shared → Prop} {s : Shared} {h₀ : Heap} {L a b : Addr} {news : List (Addr × Obj)} {xs ys : List Value} {us vs : List Str} {n k : Nat} {Q : Value → Shared → Prop}
theorem ne_strs (N : News h₀ L s.heap news) (ha : (a, ({ cls := .type "list", data := .seq xs.toArray n } : Obj)) ∈ news) (hb : (b, ({ cls := .type "list", data := .seq ys.toArray k } : Obj)) ∈ news) (hx : StrsAre xs us) (hy : StrsAre ys vs)
    (ou : ∀ x ∈ us, PyData.strOk x = true) (ov : ∀ x ∈ vs, PyData.strOk x = true) (hu : A.units + 64 < cLine) (h : Q (.bool (!decide (us = vs))) s) : wpAny (model prog w) A (compareOp .NotEq (.ref a) (.ref b)) Q E s :=
  ne_dataH (reads_strs N ha hx) (reads_strs N hb hy) (shaped_strs ou) (shaped_strs ov) hu (by simp only [PyData.eqv, eqvAll_strs]; exact h)
theorem eq_strs (N : News h₀ L s.heap news) (ha : (a, ({ cls := .type "list", data := .seq xs.toArray n } : Obj)) ∈ news) (hb : (b, ({ cls := .type "list", data := .seq ys.toArray k } : Obj)) ∈ news) (hx : StrsAre xs us) (hy : StrsAre ys vs)
    (ou : ∀ x ∈ us, PyData.strOk x = true) (ov : ∀ x ∈ vs, PyData.strOk x = true) (hu : A.units + 64 < cLine) (h : Q (.bool (decide (us = vs))) s) : wpAny (model prog w) A (compareOp .Eq (.ref a) (.ref b)) Q E s :=
  eq_dataH (reads_strs N ha hx) (reads_strs N hb hy) (shaped_strs ou) (shaped_strs ov) hu (by simp only [PyData.eqv, eqvAll_strs]; exact h)
end
theorem item_strs0 {prog : Program} {w : World} {A : Around} {E : Value → Shared → Prop} {s : Shared} {h₀ : Heap} {L l : Addr} {news : List (Addr × Obj)} {ys : List Value} {xs : List Str} {n : Nat} {u : Tok} {value slice : Expr} {Q : Value → Shared → Prop}
    (N : News h₀ L s.heap news) (hm : (l, ({ cls := .type "list", data := .seq ys.toArray n } : Obj)) ∈ news) (S : StrsAre ys xs) (hne : decide (xs = []) = false) (h : ∀ y r t, xs = y :: r → Q (.str y t) s)
    (hs : subscripted slice false (.ref l) (.int 0 u) = operate [.ref l, .int 0 u] (getItem (.ref l) (.int 0 u)) := by with_unfolding_all rfl) :
    wpAny (model prog w) A (subscriptTail value slice (.ref l) (.int 0 u)) Q E s := by
  have hl : s.heap.IsList l ys.toArray := ⟨_, N.get hm, rfl, _, rfl⟩
  cases S with
  | nil => simp at hne
  | cons y t S =>
    have q : wpAny (model prog w) A (getItem (.ref l) (.int 0 u)) Q E s := wpAny_getItem_list hl (by decide) (by decide) (by rfl) (h y _ t rfl)
    exact tail_any hl.typeIs slot_list_getitem.lookup q hs
theorem ok_nil : ∀ x ∈ ([] : List Str), PyData.strOk x = true := fun _ h => nomatch h

abbrev lsn (ys : List Value) (n : Nat) : Obj := { cls := .type "list", data := .seq ys.toArray n }
def NotObj (h : Heap) (v : Value) (x : Str) : Prop := ∃ (a dx : Addr) (k1 k2 k3 : Int) (t1 t2 t3 u1 u2 u3 : Tok) (n : Nat), v = .ref a ∧ h.get? a = some ⟨.ref 78, some dx, .plain, #[]⟩ ∧
  h.get? dx = some (dictOf [⟨k1, .str "name" t1, .str x u1⟩, ⟨k2, .str "public" t2, .str "p" u2⟩, ⟨k3, .str "system" t3, .str "s" u3⟩] n)
theorem NotObj.kp {h h' : Heap} {v : Value} {x : Str} (y : NotObj h v x) (k : Kp h h') : NotObj h' v x :=
  let ⟨a, dx, k1, k2, k3, t1, t2, t3, u1, u2, u3, n, e, p, q⟩ := y; ⟨a, dx, k1, k2, k3, t1, t2, t3, u1, u2, u3, n, e, k _ _ p, k _ _ q⟩
def NotsAt (w : World) (h : Heap) (d : Addr) (nots : List Str) : Prop := ∃ kvs, SD w h d kvs ∧ Paired (fun kv x => kv.1 = x ∧ NotObj h kv.2 x) kvs nots
theorem NotsAt.kp {w : World} {h h' : Heap} {d : Addr} {nots : List Str} (y : NotsAt w h d nots) (k : Kp h h') : NotsAt w h' d nots :=
  let ⟨kvs, a, p⟩ := y; ⟨kvs, a.kp k, Paired.mono (fun _ _ ⟨e, q⟩ => ⟨e, q.kp k⟩) p⟩
theorem nots_has {h : Heap} {kvs : List (Str × Value)} {nots : List Str} (p : Paired (fun kv x => kv.1 = x ∧ NotObj h kv.2 x) kvs nots) (x : Str) : (valueAt kvs x).isSome = nots.contains x := by
  induction p with
  | nil => rfl
  | @cons kv e kvs l f p ih =>
    obtain ⟨h1, _⟩ := f
    unfold valueAt at ih ⊢
    by_cases hx : e = x
    · subst hx; simp [h1]
    · have hx' : ¬ kv.1 = x := by rw [h1]; exact hx
      have hx2 : ¬ x = e := fun q => hx q.symm
      simp only [List.find?_cons, hx', decide_false, ih, List.contains_cons, beq_iff_eq, hx2, Bool.false_or, beq_eq_false_iff_ne.mpr hx2]
/-- the models: a dict whose values stand for data -/
def ModsAt (w : World) (h : Heap) (d : Addr) (kvs : List (Str × Value)) (mo : Str → Option PyData) : Prop :=
  SD w h d kvs ∧ ∀ x, (mo x = none ∧ valueAt kvs x = none) ∨ ∃ (e : PyData) (a : Addr) (as : List Addr), mo x = some e ∧ valueAt kvs x = some (.ref a) ∧ Reads h (.ref a) e as ∧ SeqAt.shaped e = true
theorem ModsAt.kp {w : World} {h h' : Heap} {d : Addr} {kvs : List (Str × Value)} {mo : Str → Option PyData} (y : ModsAt w h d kvs mo) (k : Kp h h') : ModsAt w h' d kvs mo :=
  ⟨y.1.kp k, fun x => (y.2 x).elim .inl fun ⟨e, v, as, a, b, c, q⟩ => .inr ⟨e, v, as, a, b, Reads.keeps k c, q⟩⟩
/-- is the element's model ('empty',) -/
def emptyD : PyData := .tuple [.str "empty"]
def isEmptyM (mo : Str → Option PyData) (x : Str) : Bool := match mo x with
  | none => false
  | some e => PyData.eqv e emptyD

/-- a short text of legal signs -/
def Sh (x : Str) : Prop := PyData.strOk x = true ∧ x.length ≤ 1000
theorem len_app {x y : Str} {a b : Nat} (hx : x.length ≤ a) (hy : y.length ≤ b) : (x ++ y).length ≤ a + b := by rw [Str.length_append]; omega
theorem add_strS {prog : Program} {w : World} {A : Around} {E : Value → Shared → Prop} {s : Shared} {x y : Str} {t u : Tok} {a b : Nat} {Q : Value → Shared → Prop} (hx : x.length ≤ a) (hy : y.length ≤ b) (hk : a + b ≤ sizeLine) (h : ∀ t' tk, Q (.str (x ++ y) t') { s with toks := tk }) :
    wpAny (model prog w) A (binaryOp .Add (.str x t) (.str y u)) Q E s := add_str h (Nat.le_trans (Nat.add_le_add hx hy) hk)
theorem ok_app {x y : Str} (hx : PyData.strOk x = true) (hy : PyData.strOk y = true) : PyData.strOk (x ++ y) = true := by
  unfold PyData.strOk at *
  rw [Str.cps_append, Array.all_append, hx, hy]; rfl
theorem push_obj (zs : List Value) (v : Value) (n : Nat) : W.listOf (zs.toArray.push v) n = lsn (zs ++ [v]) n := by simp [W.listOf]
theorem len_strs {prog : Program} {w : World} {A : Around} {E : Value → Shared → Prop} {s : Shared} {h₀ : Heap} {L a : Addr} {news : List (Addr × Obj)} {ys : List Value} {xs : List Str} {n : Nat} {Q : Value → Shared → Prop}
    (N : News h₀ L s.heap news) (hm : (a, ({ cls := .type "list", data := .seq ys.toArray n } : Obj)) ∈ news) (S : StrsAre ys xs) (hl : xs.length ≤ 1000) (h : Q (.int xs.length (s.toks + 1)) { s with toks := s.toks + 1 + 1 }) :
    wpAny (model prog w) A (call (.builtin "len") [.ref a]) Q E s := by
  have hL : s.heap.IsList a ys.toArray := ⟨_, N.get hm, rfl, _, rfl⟩
  have e : ys.toArray.size = xs.length := by rw [List.size_toArray]; exact StrsAre.length S
  exact call_len_list hL (by rw [e]; omega) (by rw [e]; exact h)
theorem append_L {prog : Program} {w : World} {A : Around} {E : Value → Shared → Prop} {s : Shared} {h₀ : Heap} {L D : Addr} {m : Str → Option Value} {news news' : List (Addr × Obj)} {ys : List Value} {n : Nat} {x : Value} {Q : Value → Shared → Prop}
    (F : Fr h₀ L s.heap m) (N : News h₀ L s.heap news) (U : Upd D (lsn ys n) (lsn (ys ++ [x]) (n + 1)) news news') (hl : ys.length ≤ 10000000)
    (h : ∀ h', Fr h₀ L h' m → News h₀ L h' news' → Q .none { s with heap := h' }) : wpAny (model prog w) A (call (.builtin "list.append") [.ref D, x]) Q E s := by
  rw [← push_obj] at U
  exact append_K F N U h (Nat.le_trans (by rw [List.size_toArray]; exact hl) (by decide))
end Mine
set_option maxHeartbeats 800000
namespace Mine

/-- what a loop goes over, and what of the ledger it rests on -/
inductive SrcX (prog : Program) (w : World) (h₀ : Heap) : List (Addr × Obj) → Value → Nat → (Nat → Value → Prop) → Prop
  | list {ax its} : h₀.IsList ax its → SrcX prog w h₀ [] (.ref ax) its.size (fun i v => its[i]? = some v)
  | listN {ax its k} : SrcX prog w h₀ [(ax, { cls := .type "list", data := .seq its k })] (.ref ax) its.size (fun i v => its[i]? = some v)
  | tupN {ax its} : SrcX prog w h₀ [(ax, { cls := .type "tuple", data := .seq its })] (.ref ax) its.size (fun i v => its[i]? = some v)
  | dict {d kvs} : (d == sysModules) = false → h₀.DictOf (strKind prog w) d kvs → SrcX prog w h₀ [] (.ref d) kvs.length (fun i v => ∃ k x, kvs[i]? = some (k, x) ∧ (strKind prog w).is k v = true)
  | dictN {d o kvs} : (d == sysModules) = false → o.IsDictOf (strKind prog w) kvs → SrcX prog w h₀ [(d, o)] (.ref d) kvs.length (fun i v => ∃ k x, kvs[i]? = some (k, x) ∧ (strKind prog w).is k v = true)

section
variable {prog : Program} {w : World} {A : Around} {E : Value → Shared → Prop} {s : Shared} {h₀ : Heap} {L : Addr} {m : Str → Option Value} {env : Env} {news srcs : List (Addr × Obj)}

theorem src_push {ax : Addr} (oI : Obj) (F : Fr h₀ L s.heap m) (N : News h₀ L s.heap news) (hne : ax ≠ L) :
    Fr h₀ L (s.heap.push oI) m ∧ News h₀ L (s.heap.push oI) news ∧ L ≠ s.heap.objs.size ∧ h₀.get? s.heap.objs.size = none ∧ (∀ p ∈ news, p.1 ≠ s.heap.objs.size) ∧ L ∉ [s.heap.objs.size, ax] := by
  have up : ∀ b o, s.heap.get? b = some o → (s.heap.push oI).get? b = some o := fun b o e => Heap.get?_push_of_some _ e
  refine ⟨F.keeps up, N.grown up, Nat.ne_of_lt F.ns.lt, next_is_new F, fun p hp => Nat.ne_of_lt (Heap.lt_size (N p hp).1), fun hm => ?_⟩
  rcases List.mem_cons.mp hm with e | hm
  · exact absurd F.ns.lt (by rw [e]; exact Nat.lt_irrefl _)
  · exact hne (List.mem_singleton.mp hm).symm
theorem base_ne {a : Addr} {o : Obj} (F : Fr h₀ L s.heap m) (e : h₀.get? a = some o) : a ≠ L := Nat.ne_of_lt (Nat.lt_of_lt_of_le (Heap.lt_size e) F.above)

theorem src_x {xv : Value} {n : Nat} {P : Nat → Value → Prop} {Q : Value → Shared → Prop} (hh : A.handled = none) (F : Fr h₀ L s.heap m) (N : News h₀ L s.heap news) (S : SrcX prog w h₀ srcs xv n P) (hsub : ∀ p ∈ srcs, p ∈ news)
    (h : ∀ I fp (St : Nat → Heap → Prop) h', Walks prog w A I fp [I] n P St → (∀ i h, St i h → ∃ o, h.get? I = some o) → St 0 h' →
      Fr h₀ L h' m → News h₀ L h' news → L ≠ I → h₀.get? I = none → (∀ p ∈ news, p.1 ≠ I) → L ∉ fp →
      (∀ i h h' oI, St i h → h.get? I = some oI → h'.get? I = some oI → Kp h₀ h' → (∀ p ∈ srcs, h'.get? p.1 = some p.2) → St i h') →
      ((∃ ax its, xv = .ref ax ∧ (h₀.IsList ax its ∨ ∃ k, (ax, ({ cls := .type "list", data := .seq its k } : Obj)) ∈ srcs)) → ∀ i h, St i h → ∃ a, h.IsListIter I a i) → Q (.ref I) { s with heap := h' }) :
    wpAny (model prog w) A (pyIter xv) Q E s := by
  have N' : News h₀ L s.heap srcs := fun p hp => N p (hsub p hp)
  have ax_lt : ∀ {ax : Addr} {o : Obj}, s.heap.get? ax = some o → ax ≠ s.heap.objs.size := fun e => Nat.ne_of_lt (Heap.lt_size e)
  cases S with
  | @list ax its S =>
    have hl : s.heap.IsList ax its := S.at fun o e => F.keep _ o e
    obtain ⟨oa, ea, _⟩ := id hl
    obtain ⟨ob, eb, _⟩ := id S
    obtain ⟨p1, p2, p3, p4, p5, p6⟩ := src_push (ax := ax) { cls := .type "list_iterator", data := .fields #[.ref ax, .int 0 0] } F N (base_ne F eb)
    refine wpAny_pyIter_list hl (h _ _ _ _ (Walks.list hh s.heap.objs.size ax (ax_lt ea) its) (fun i h st => by obtain ⟨o, e, _⟩ := st.1; exact ⟨o, e⟩) ⟨⟨_, Heap.get?_push_size _ rfl, rfl, rfl⟩, hl.push _⟩ p1 p2 p3 p4 p5 p6
      (fun i h h' oI st e e' k1 _ => ⟨by obtain ⟨o, q, r⟩ := st.1; rw [e] at q; cases q; exact ⟨oI, e', r⟩, S.at fun o q => k1 _ o q⟩) fun _ i h st => ⟨_, st.1⟩)
  | @listN ax its k =>
    have ea := (N' _ (.head _)).1
    have hl : s.heap.IsList ax its := ⟨_, ea, rfl, _, rfl⟩
    obtain ⟨p1, p2, p3, p4, p5, p6⟩ := src_push (ax := ax) { cls := .type "list_iterator", data := .fields #[.ref ax, .int 0 0] } F N (N' _ (.head _)).2.1
    refine wpAny_pyIter_list hl (h _ _ _ _ (Walks.list hh s.heap.objs.size ax (ax_lt ea) its) (fun i h st => by obtain ⟨o, e, _⟩ := st.1; exact ⟨o, e⟩) ⟨⟨_, Heap.get?_push_size _ rfl, rfl, rfl⟩, hl.push _⟩ p1 p2 p3 p4 p5 p6
      (fun i h h' oI st e e' _ k2 => ⟨by obtain ⟨o, q, r⟩ := st.1; rw [e] at q; cases q; exact ⟨oI, e', r⟩, ⟨_, k2 _ (.head _), rfl, _, rfl⟩⟩) fun _ i h st => ⟨_, st.1⟩)
  | @tupN ax its =>
    have ea := (N' _ (.head _)).1
    have hl : s.heap.IsTuple ax its := ⟨_, ea, rfl, _, rfl⟩
    obtain ⟨p1, p2, p3, p4, p5, p6⟩ := src_push (ax := ax) { cls := .type "tuple_iterator", data := .fields #[.ref ax, .int 0 0] } F N (N' _ (.head _)).2.1
    refine wpAny_pyIter_tuple hl (h _ _ _ _ (Walks.tuple hh s.heap.objs.size ax (ax_lt ea) its) (fun i h st => by obtain ⟨o, e, _⟩ := st.1; exact ⟨o, e⟩) ⟨⟨_, Heap.get?_push_size _ rfl, rfl, rfl⟩, hl.at fun o e => Heap.get?_push_of_some _ e⟩ p1 p2 p3 p4 p5 p6
      (fun i h h' oI st e e' _ k2 => ⟨by obtain ⟨o, q, r⟩ := st.1; rw [e] at q; cases q; exact ⟨oI, e', r⟩, ⟨_, k2 _ (.head _), rfl, _, rfl⟩⟩) fun z => ?_)
    obtain ⟨ax', its', e, ⟨o, e1, e2, _⟩ | ⟨k, hm⟩⟩ := z
    · cases e
      rw [F.keep _ _ e1] at ea; cases ea; exact absurd e2 (by simp)
    · cases e; exact absurd (List.mem_singleton.mp hm) (by simp)
  | @dict d kvs lo S =>
    obtain ⟨ep, hdk⟩ := S.dictAt
    have hd := hdk.at' fun o e => F.keep _ o e
    obtain ⟨oa, _, ea, hc, _⟩ := id hd
    obtain ⟨ob, _, eb, _⟩ := id hdk
    obtain ⟨p1, p2, p3, p4, p5, p6⟩ := src_push (ax := d) { cls := .type "dict_keyiterator", data := .fields #[.ref d, .int 0 0, .int kvs.length 0, .int ep 0] } F N (base_ne F eb)
    refine wpAny_pyIter_dict lo hd (h _ _ _ _ (Walks.dictKeys hh s.heap.objs.size d (ax_lt ea) kvs ep) (fun i h st => by obtain ⟨o, e, _⟩ := st.1; exact ⟨o, e⟩) ⟨⟨_, Heap.get?_push_size _ rfl, rfl, rfl⟩, hd.at' fun o e => Heap.get?_push_of_some _ e⟩ p1 p2 p3 p4 p5 p6
      (fun i h h' oI st e e' k1 _ => ⟨by obtain ⟨o, q, r⟩ := st.1; rw [e] at q; cases q; exact ⟨oI, e', r⟩, hdk.at' fun o q => k1 _ o q⟩) fun z => ?_)
    obtain ⟨ax', its', e, ⟨o, e1, e2, _⟩ | ⟨k, hm⟩⟩ := z
    · cases e
      rw [F.keep _ _ e1] at ea; cases ea; rw [hc.1] at e2; exact absurd e2 (by simp)
    · nomatch hm
  | @dictN d o kvs lo S =>
    obtain ⟨es, ep, hc, hdd, hk, hp, hn⟩ := S
    have ea := (N' _ (.head _)).1
    have hd : s.heap.DictAt (strKind prog w) d kvs ep := ⟨_, es, ea, hc, hdd, hk, hp, hn⟩
    obtain ⟨p1, p2, p3, p4, p5, p6⟩ := src_push (ax := d) { cls := .type "dict_keyiterator", data := .fields #[.ref d, .int 0 0, .int kvs.length 0, .int ep 0] } F N (N' _ (.head _)).2.1
    refine wpAny_pyIter_dict lo hd (h _ _ _ _ (Walks.dictKeys hh s.heap.objs.size d (ax_lt ea) kvs ep) (fun i h st => by obtain ⟨o, e, _⟩ := st.1; exact ⟨o, e⟩) ⟨⟨_, Heap.get?_push_size _ rfl, rfl, rfl⟩, hd.at' fun o e => Heap.get?_push_of_some _ e⟩ p1 p2 p3 p4 p5 p6
      (fun i h h' oI st e e' _ k2 => ⟨by obtain ⟨o, q, r⟩ := st.1; rw [e] at q; cases q; exact ⟨oI, e', r⟩, ⟨_, es, k2 _ (.head _), hc, hdd, hk, hp, hn⟩⟩) fun z => ?_)
    obtain ⟨ax', its', e, ⟨o, e1, e2, _⟩ | ⟨k, hm⟩⟩ := z
    · cases e
      have ea' : s.heap.get? d = some _ := ea
      rw [F.keep _ _ e1] at ea'; cases ea'; rw [hc.1] at e2; exact absurd e2 (by simp)
    · cases e
      have q := List.mem_singleton.mp hm
      simp only [Prod.mk.injEq, true_and] at q
      have q2 := hc.1
      rw [← q] at q2
      exact absurd q2 (by simp)

/-- where a turn of a for ends -/
def FEnd (h₀ : Heap) (L I : Addr) (oI : Obj) (J : (Str → Option Value) → List (Addr × Obj) → Prop) (s₁ : Shared) (Q : Flow → Shared → Prop) (f : Flow) (s' : Shared) : Prop :=
  match f with
  | .ret v => Q (.ret v) s'
  | .brk => Q .next s'
  | _ => ∃ h' tk' m₂ nw₂ all, s' = { s₁ with heap := h', toks := tk' } ∧ Fr h₀ L h' m₂ ∧ News h₀ L h' all ∧ (I, oI) ∈ all ∧ (∀ p ∈ nw₂, p ∈ all ∧ p.1 ≠ I) ∧ J m₂ nw₂
theorem FEnd.intro {I : Addr} {oI : Obj} {J : (Str → Option Value) → List (Addr × Obj) → Prop} {s₁ : Shared} {Q : Flow → Shared → Prop} {h' : Heap} {tk' : Nat} {m₂ : Str → Option Value} {all : List (Addr × Obj)} (nw₂ : List (Addr × Obj))
    (F : Fr h₀ L h' m₂) (N : News h₀ L h' all) (hI : (I, oI) ∈ all) (hs : ∀ p ∈ nw₂, p ∈ all ∧ p.1 ≠ I) (hJ : J m₂ nw₂) : FEnd h₀ L I oI J s₁ Q .next { s₁ with heap := h', toks := tk' } :=
  ⟨h', tk', m₂, nw₂, all, rfl, F, N, hI, hs, hJ⟩

def FoAt (prog : Program) (w : World) (A : Around) (h₀ : Heap) (L : Addr) (env : Env) (target : Expr) (body : List Stmt) (Q : Flow → Shared → Prop) (E : Value → Shared → Prop) (xv : Value) (s₁ : Shared) : Prop :=
  ∃ (news srcs : List (Addr × Obj)) (n : Nat) (P : Nat → Value → Prop) (m : Str → Option Value) (J : Nat → (Str → Option Value) → List (Addr × Obj) → Prop), A.handled = none ∧ Fr h₀ L s₁.heap m ∧ News h₀ L s₁.heap news ∧ SrcX prog w h₀ srcs xv n P ∧ J 0 m news ∧ (∀ i m nw, J i m nw → ∀ p ∈ srcs, p ∈ nw) ∧
    ((∃ x px, target = .Name x px) ∨ ((∃ es k tp, target = .Tuple es k tp) ∧ (∃ ax its, xv = .ref ax ∧ (h₀.IsList ax its ∨ ∃ k, (ax, ({ cls := .type "list", data := .seq its k } : Obj)) ∈ srcs)) ∧ ∀ i v, P i v → ∃ T, v = .ref T)) ∧
    (∀ i v I oI m₁ nw h tk, i < n → P i v → J i m₁ nw → Fr h₀ L h m₁ → News h₀ L h ((I, oI) :: nw) → (∀ p ∈ nw, p.1 ≠ I) →
      wpAny (model prog w) A (assign target env v) (fun _ s₃ => wpAny (model prog w) A (execs body env) (FEnd h₀ L I oI (J (i + 1)) s₁ Q) E s₃) E { s₁ with heap := h, toks := tk }) ∧
    (∀ h tk m₁ nw, Fr h₀ L h m₁ → News h₀ L h nw → J n m₁ nw → Q .next { s₁ with heap := h, toks := tk })

theorem for_rule {target iter : Expr} {body : List Stmt} {pos : Pos} {Q : Flow → Shared → Prop} (F₀ : Fr h₀ L s.heap m) (hLe : env.locals = L)
    (h : wpAny (model prog w) A (eval iter env) (FoAt prog w A h₀ L env target body Q E) E s)
    (hs : ∀ x, foldedSetIterable iter env x = pure x := by intro _; rfl)
    (hE : PassesOwn (model prog w) A env E := by passes_own) :
    wpAny (model prog w) A (exec (.For target iter body [] pos) env) Q E s := by
  subst hLe
  refine wpAny_For (wpAny_mono h (fun xv s₁ h₁ => ?_) fun _ _ e => e) hs
  obtain ⟨news, srcs, n, P, m, J, hh, F, N, S, hJ, hJs, htg, turn, fin⟩ := h₁
  refine src_x hh F N S (hJs _ _ _ hJ) fun I fp St h' W hIo hst F' N' hLI hI₀ off hLf hSt hL => ?_
  have hgo : ∀ i v (s : Shared) (Q' : Unit → Shared → Prop) (E' : Value → Shared → Prop), P i v → St (i + 1) s.heap → Q' () s → wpAny (model prog w) A (letOwnedTupleGo target (.ref I) v) Q' E' s := by
    intro i v s Q' E' hP st hq
    rcases htg with ⟨x, px, rfl⟩ | ⟨⟨es, k, tp, rfl⟩, hl, hT⟩
    · exact wpAny_of_eq rfl hq
    · obtain ⟨T, rfl⟩ := hT i v hP
      obtain ⟨a, hit⟩ := hL hl _ _ st
      exact wpAny_letOwnedTupleGo_listiter hit hq
  have hLw : env.locals ≠ I := hLI
  refine codeAny_forLoop_any
    (fun k s' => ∃ h' tk m' nw i, s' = { s₁ with heap := h', toks := tk } ∧ St i h' ∧ Fr h₀ env.locals h' m' ∧ News h₀ env.locals h' nw ∧ (∀ p ∈ nw, p.1 ≠ I) ∧ J i m' nw ∧ i ≤ n ∧ k = n + 1 - i) ?_ (n + 1)
    ⟨h', s₁.toks, m, news, 0, rfl, hst, F', N', off, hJ, Nat.zero_le _, rfl⟩
  rintro k s' ⟨h', tk, m', nw, i, rfl, hst', F₁, N₁, hnw', hJ', hi, rfl⟩
  by_cases hlt : i < n
  · refine W.item i _ _ _ hlt hst' fun v h₂ tk₂ hP hst₂ hk₂ => ?_
    refine hgo i v _ _ _ hP hst₂ ?_
    have F₂ : Fr h₀ env.locals h₂ m' := fr_but F₁ hk₂ hLw hI₀
    have N₂ : News h₀ env.locals h₂ nw := news_but N₁ hk₂ hnw'
    obtain ⟨oI, heI⟩ := hIo _ _ hst₂
    have N₃ : News h₀ env.locals h₂ ((I, oI) :: nw) := fun p hp => by
      rcases List.mem_cons.mp hp with rfl | hp
      · exact ⟨heI, Ne.symm hLw, hI₀⟩
      · exact N₂ p hp
    refine wpAny_mono (turn i v I oI m' nw h₂ tk₂ hlt hP hJ' F₂ N₃ hnw') (fun _ s₃ h₃ => wpAny_mono h₃ (fun f s₄ h₄ => ?_) hE) hE
    have step : (∃ h' tk' m₂ nw₂ all, s₄ = { s₁ with heap := h', toks := tk' } ∧ Fr h₀ env.locals h' m₂ ∧ News h₀ env.locals h' all ∧ (I, oI) ∈ all ∧ (∀ p ∈ nw₂, p ∈ all ∧ p.1 ≠ I) ∧ J (i + 1) m₂ nw₂) →
        ∃ k, k < n + 1 - i ∧ ∃ h' tk m' nw i, s₄ = { s₁ with heap := h', toks := tk } ∧ St i h' ∧ Fr h₀ env.locals h' m' ∧ News h₀ env.locals h' nw ∧ (∀ p ∈ nw, p.1 ≠ I) ∧ J i m' nw ∧ i ≤ n ∧ k = n + 1 - i := by
      rintro ⟨h₅, tk₅, m₂, nw₂, all, rfl, F₅, N₅, hI, hsub, hJ₅⟩
      exact ⟨n + 1 - (i + 1), by omega, h₅, tk₅, m₂, nw₂, i + 1, rfl, hSt _ _ _ _ hst₂ heI (N₅ _ hI).1 F₅.keep (fun p hp => (N₅ _ (hsub p (hJs _ _ _ hJ₅ p hp)).1).1), F₅, fun p hp => N₅ _ (hsub p hp).1, fun p hp => (hsub p hp).2, hJ₅, hlt, rfl⟩
    cases f with
    | ret v => exact h₄
    | brk => exact h₄
    | next => exact step h₄
    | cont => exact step h₄
  · obtain rfl : i = n := Nat.le_antisymm hi (Nat.not_lt.mp hlt)
    refine W.done _ _ _ hst' fun h₂ tk₂ hk₂ => wpAny_execs_nil ?_
    exact fin h₂ tk₂ m' nw (fr_but F₁ hk₂ hLw hI₀) (news_but N₁ hk₂ hnw') hJ'

theorem fo_intro {target : Expr} {body : List Stmt} {Q : Flow → Shared → Prop} {xv : Value} {s₁ : Shared} {n : Nat} {P : Nat → Value → Prop} (F : Fr h₀ L s₁.heap m) (N : News h₀ L s₁.heap news) (S : SrcX prog w h₀ srcs xv n P)
    (Jm : (Str → Option Value) → Nat → (Str → Option Value) → List (Addr × Obj) → Prop) (hh : A.handled = none) (h0 : Jm m 0 m news) (hJs : ∀ i m' nw, Jm m i m' nw → ∀ p ∈ srcs, p ∈ nw)
    (htg : (∃ x px, target = .Name x px) ∨ ((∃ es k tp, target = .Tuple es k tp) ∧ (∃ ax its, xv = .ref ax ∧ (h₀.IsList ax its ∨ ∃ k, (ax, ({ cls := .type "list", data := .seq its k } : Obj)) ∈ srcs)) ∧ ∀ i v, P i v → ∃ T, v = .ref T))
    (turn : ∀ i v I oI m₁ nw h tk, i < n → P i v → Jm m i m₁ nw → Fr h₀ L h m₁ → News h₀ L h ((I, oI) :: nw) → AllNe I nw →
      wpAny (model prog w) A (assign target env v) (fun _ s₃ => wpAny (model prog w) A (execs body env) (FEnd h₀ L I oI (Jm m (i + 1)) s₁ Q) E s₃) E { s₁ with heap := h, toks := tk })
    (fin : ∀ h tk m₁ nw, Fr h₀ L h m₁ → News h₀ L h nw → Jm m n m₁ nw → Q .next { s₁ with heap := h, toks := tk }) : FoAt prog w A h₀ L env target body Q E xv s₁ :=
  ⟨news, srcs, n, P, m, Jm m, hh, F, N, S, h0, hJs, htg, fun i v I oI m₁ nw h tk a b c d e f => turn i v I oI m₁ nw h tk a b c d e (allNe_of f), fin⟩
end
theorem upd_upd (x : Str) (a : Option Value) (u m : Str → Option Value) : (fun y => if y = x then a else (fun z => if z = x then u z else m z) y) = fun z => if z = x then a else m z := by
  funext z
  by_cases h : z = x <;> simp [h]
def MemAll (all : List (Addr × Obj)) : List (Addr × Obj) → Prop
  | [] => True
  | p :: r => p ∈ all ∧ MemAll all r
theorem memAll_ne {all : List (Addr × Obj)} {I : Addr} : ∀ {nw : List (Addr × Obj)}, MemAll all nw → AllNe I nw → ∀ p ∈ nw, p ∈ all ∧ p.1 ≠ I
  | [], _, _, _, h => nomatch h
  | p :: r, ⟨a, b⟩, ⟨c, d⟩, q, hq => by
    rcases List.mem_cons.mp hq with rfl | hq
    · exact ⟨a, c⟩
    · exact memAll_ne b d q hq
theorem FEnd.introK {h₀ : Heap} {L I : Addr} {oI : Obj} {J : (Str → Option Value) → List (Addr × Obj) → Prop} {s₁ : Shared} {Q : Flow → Shared → Prop} {h' : Heap} {tk' : Nat} {m₂ : Str → Option Value} {all : List (Addr × Obj)} (nw₂ : List (Addr × Obj))
    (F : Fr h₀ L h' m₂) (N : News h₀ L h' all) (hI : (I, oI) ∈ all) (hs : MemAll all nw₂) (hJ : J m₂ nw₂) (ho : AllNe I nw₂) : FEnd h₀ L I oI J s₁ Q .next { s₁ with heap := h', toks := tk' } :=
  FEnd.intro nw₂ F N hI (memAll_ne hs ho) hJ
end Mine
set_option maxHeartbeats 800000
namespace Mine
section
variable {prog : Program} {w : World} {A : Around} {E : Value → Shared → Prop} {s : Shared} {h₀ : Heap} {L : Addr} {m : Str → Option Value} {env : Env} {news srcs rest : List (Addr × Obj)}
/-- a loop whose turns end in a name for what comes behind them -/
theorem fo_introQ {target : Expr} {body : List Stmt} {Q : Flow → Shared → Prop} {xv : Value} {s₁ : Shared} {n : Nat} {P : Nat → Value → Prop} (F : Fr h₀ L s₁.heap m) (N : News h₀ L s₁.heap news) (S : SrcX prog w h₀ srcs xv n P)
    (Jm : (Str → Option Value) → Nat → (Str → Option Value) → List (Addr × Obj) → Prop) (hh : A.handled = none) (h0 : Jm m 0 m news) (hJs : ∀ i m' nw, Jm m i m' nw → ∀ p ∈ srcs, p ∈ nw)
    (htg : (∃ x px, target = .Name x px) ∨ ((∃ es k tp, target = .Tuple es k tp) ∧ (∃ ax its, xv = .ref ax ∧ (h₀.IsList ax its ∨ ∃ k, (ax, ({ cls := .type "list", data := .seq its k } : Obj)) ∈ srcs)) ∧ ∀ i v, P i v → ∃ T, v = .ref T))
    (turn : ∀ i v I oI m₁ nw h tk, i < n → P i v → Jm m i m₁ nw → Fr h₀ L h m₁ → News h₀ L h ((I, oI) :: nw) → AllNe I nw → ∀ Q9 : Flow → Shared → Prop, (∀ f s', FEnd h₀ L I oI (Jm m (i + 1)) s₁ Q f s' → Q9 f s') →
      wpAny (model prog w) A (assign target env v) (fun _ s₃ => wpAny (model prog w) A (execs body env) Q9 E s₃) E { s₁ with heap := h, toks := tk })
    (fin : ∀ h tk m₁ nw, Fr h₀ L h m₁ → News h₀ L h nw → Jm m n m₁ nw → Q .next { s₁ with heap := h, toks := tk }) : FoAt prog w A h₀ L env target body Q E xv s₁ :=
  fo_intro F N S Jm hh h0 hJs htg (fun i v I oI m₁ nw h tk a b c d e f => turn i v I oI m₁ nw h tk a b c d e f _ fun _ _ x => x) fin
theorem fo_litQ {target : Expr} {body : List Stmt} {Q : Flow → Shared → Prop} {s₁ : Shared} {ax : Addr} {its : Array Value} {k : Nat} (F : Fr h₀ L s₁.heap m) (N : News h₀ L s₁.heap ((ax, ({ cls := .type "list", data := .seq its k } : Obj)) :: rest))
    (Jm : (Str → Option Value) → Nat → (Str → Option Value) → List (Addr × Obj) → Prop) (hh : A.handled = none) (h0 : Jm m 0 m ((ax, ({ cls := .type "list", data := .seq its k } : Obj)) :: rest)) (hJs : ∀ i m' nw, Jm m i m' nw → ∃ r, nw = (ax, ({ cls := .type "list", data := .seq its k } : Obj)) :: r)
    (htg : ∃ x px, target = .Name x px)
    (turn : ∀ i v I oI m₁ nw h tk, i < its.size → its[i]? = some v → Jm m i m₁ nw → Fr h₀ L h m₁ → News h₀ L h ((I, oI) :: nw) → AllNe I nw → ∀ Q9 : Flow → Shared → Prop, (∀ f s', FEnd h₀ L I oI (Jm m (i + 1)) s₁ Q f s' → Q9 f s') →
      wpAny (model prog w) A (assign target env v) (fun _ s₃ => wpAny (model prog w) A (execs body env) Q9 E s₃) E { s₁ with heap := h, toks := tk })
    (fin : ∀ h tk m₁ nw, Fr h₀ L h m₁ → News h₀ L h nw → Jm m its.size m₁ nw → Q .next { s₁ with heap := h, toks := tk }) : FoAt prog w A h₀ L env target body Q E (.ref ax) s₁ :=
  fo_introQ (srcs := [(ax, ({ cls := .type "list", data := .seq its k } : Obj))]) F N .listN Jm hh h0 (fun i m' nw hj p hp => by
    obtain ⟨r, rfl⟩ := hJs i m' nw hj
    rw [List.mem_singleton.mp hp]; exact .head _) (.inl htg) turn fin
/-- what a part of a turn leaves -/
def Mid (P : Shared → Prop) (f : Flow) (s' : Shared) : Prop := f = .next ∧ P s'
theorem Mid.mk {P : Shared → Prop} {s' : Shared} (h : P s') : Mid P .next s' := ⟨rfl, h⟩
theorem news_all {h₀ h : Heap} {L : Addr} {all : List (Addr × Obj)} (N : News h₀ L h all) : ∀ {nw : List (Addr × Obj)}, MemAll all nw → News h₀ L h nw
  | [], _, _, hq => nomatch hq
  | p :: r, ⟨a, b⟩, q, hq => by
    rcases List.mem_cons.mp hq with rfl | hq
    · exact N _ a
    · exact news_all N b q hq
/-- what the first part of a turn leaves: two names, one list -/
def CutP (h₀ : Heap) (L : Addr) (s₁ : Shared) (M : Str → Option Value) (x y : Str) (a b : Value) (g : Obj → List (Addr × Obj)) (S : List Value → Prop) (s' : Shared) : Prop :=
  ∃ h' tk ys n, s' = { s₁ with heap := h', toks := tk } ∧ Fr h₀ L h' (fun z => if z = x then some a else if z = y then some b else M z) ∧ News h₀ L h' (g (lsn ys n)) ∧ S ys
theorem CutP.mk {h₀ h' : Heap} {L : Addr} {s₁ : Shared} {M : Str → Option Value} {x y : Str} {a b : Value} {g : Obj → List (Addr × Obj)} {S : List Value → Prop} {tk : Nat} {ys : List Value} {n : Nat} {all : List (Addr × Obj)}
    (F : Fr h₀ L h' (fun z => if z = x then some a else if z = y then some b else M z)) (N : News h₀ L h' all) (hm : MemAll all (g (lsn ys n))) (hS : S ys) : Mid (CutP h₀ L s₁ M x y a b g S) .next { s₁ with heap := h', toks := tk } :=
  ⟨rfl, h', tk, ys, n, rfl, F, news_all N hm, hS⟩
/-- a turn in two parts: its first statement | its first two, then the others -/
theorem turn_cut {h₁ : Heap} {tk₁ : Nat} {target : Expr} {v : Value} {st : Stmt} {r : List Stmt} {Q : Flow → Shared → Prop} {M : Str → Option Value} {g : Obj → List (Addr × Obj)} {D : Addr} {ys : List Value} {n : Nat}
    (F : Fr h₀ L h₁ M) (N : News h₀ L h₁ news) (hm : (D, lsn ys n) ∈ news) (U : UpdF D (lsn ys n) news g) (x y : Str) (a b : Value) (S : List Value → Prop)
    (h1 : wpAny (model prog w) A (assign target env v) (fun _ s₃ => wpAny (model prog w) A (exec st env) (Mid (CutP h₀ L s M x y a b g S)) E s₃) E { s with heap := h₁, toks := tk₁ })
    (h2 : ∀ h' tk zs n', Fr h₀ L h' (fun z => if z = x then some a else if z = y then some b else M z) → News h₀ L h' (g (lsn zs n')) → S zs → wpAny (model prog w) A (execs r env) Q E { s with heap := h', toks := tk }) :
    wpAny (model prog w) A (assign target env v) (fun _ s₃ => wpAny (model prog w) A (execs (st :: r) env) Q E s₃) E { s with heap := h₁, toks := tk₁ } :=
  wpAny_mono h1 (fun _ s₃ x => wpAny_execs_cons (wpAny_mono x (fun f s' y => by obtain ⟨rfl, h', tk, zs, n', rfl, F, N, z⟩ := y; exact h2 _ _ _ _ F N z) fun _ _ e => e)) fun _ _ e => e
theorem turn_cut2 {h₁ : Heap} {tk₁ : Nat} {target : Expr} {v : Value} {st st' : Stmt} {r : List Stmt} {Q : Flow → Shared → Prop} {M : Str → Option Value} {g : Obj → List (Addr × Obj)} {D : Addr} {ys : List Value} {n : Nat}
    (F : Fr h₀ L h₁ M) (N : News h₀ L h₁ news) (hm : (D, lsn ys n) ∈ news) (U : UpdF D (lsn ys n) news g) (x y : Str) (a b : Value) (S : List Value → Prop)
    (h1 : wpAny (model prog w) A (assign target env v) (fun _ s₃ => wpAny (model prog w) A (exec st env) (fun f s' => match f with | .next => wpAny (model prog w) A (exec st' env) (Mid (CutP h₀ L s M x y a b g S)) E s' | f => Mid (CutP h₀ L s M x y a b g S) f s') E s₃) E { s with heap := h₁, toks := tk₁ })
    (h2 : ∀ h' tk zs n', Fr h₀ L h' (fun z => if z = x then some a else if z = y then some b else M z) → News h₀ L h' (g (lsn zs n')) → S zs → wpAny (model prog w) A (execs r env) Q E { s with heap := h', toks := tk }) :
    wpAny (model prog w) A (assign target env v) (fun _ s₃ => wpAny (model prog w) A (execs (st :: st' :: r) env) Q E s₃) E { s with heap := h₁, toks := tk₁ } :=
  wpAny_mono h1 (fun _ s₃ x => wpAny_execs_cons (wpAny_mono x (fun f s' y => by
    cases f with
    | next => exact wpAny_execs_cons (wpAny_mono y (fun f s' y => by obtain ⟨rfl, h', tk, zs, n', rfl, F, N, z⟩ := y; exact h2 _ _ _ _ F N z) fun _ _ e => e)
    | ret v => cases y.1
    | brk => cases y.1
    | cont => cases y.1) fun _ _ e => e)) fun _ _ e => e
end
end Mine
theorem Mine.offMac : True := by
  w_top off
  trivial
theorem Mine.wordsMac1 : True := by
  k_with "M skip" => (first | with_reducible exact rfl | (refine Mine.ite_skip (by with_reducible assumption) ?_; k_extra "M skip"))
  k_with "M has" => (first | with_reducible exact Mine.ix0 | (with_reducible refine Mine.ixS ?_; k_extra "M has"))
  k_with "M ix" => ((fail_if_success (fail_if_success (k_extra "M has"))); first | exact ⟨0, rfl⟩ | exact ⟨1, rfl⟩ | exact ⟨2, rfl⟩ | exact ⟨3, rfl⟩ | exact ⟨4, rfl⟩ | exact ⟨5, rfl⟩ | exact ⟨6, rfl⟩ | exact ⟨7, rfl⟩ | exact ⟨8, rfl⟩ | exact ⟨9, rfl⟩ | exact ⟨10, rfl⟩ | exact ⟨11, rfl⟩ | exact ⟨12, rfl⟩ | exact ⟨13, rfl⟩ | exact ⟨14, rfl⟩ | exact ⟨15, rfl⟩ | exact ⟨16, rfl⟩ | exact ⟨17, rfl⟩ | exact ⟨18, rfl⟩ | exact ⟨19, rfl⟩ | exact ⟨20, rfl⟩ | exact ⟨21, rfl⟩ | exact ⟨22, rfl⟩ | exact ⟨23, rfl⟩ | exact ⟨24, rfl⟩ | exact ⟨25, rfl⟩ | exact ⟨26, rfl⟩ | exact ⟨27, rfl⟩ | exact ⟨28, rfl⟩ | exact ⟨29, rfl⟩ | exact ⟨30, rfl⟩ | exact ⟨31, rfl⟩ | exact ⟨32, rfl⟩ | exact ⟨33, rfl⟩)
  k_with "M lt1" => (first | exact Nat.lt_succ_self _ | (refine Nat.lt_succ_of_lt ?_; k_extra "M lt1"))
  k_with "M ne3" => ((with_reducible rename Mine.NeA _ _ => l9); first | (refine Mine.neA_r l9 ?_; k_extra "M ix") | (refine Mine.neA_l l9 ?_; k_extra "M ix") | (clear l9; k_extra "M ne3"))
  k_with "M ne" => (refine neN ?_; (try dsimp only); first
    | (refine Mine.neN_i ?_; with_reducible assumption)
    | (refine Mine.neN_s ?_; with_reducible assumption)
    | with_reducible assumption
    | (refine Ne.symm ?_; with_reducible assumption)
    | (refine Nat.ne_of_lt ?_; with_reducible assumption)
    | (refine Nat.ne_of_gt ?_; with_reducible assumption)
    | (refine Mine.ltA_r (by with_reducible assumption) ?_; k_extra "M ix")
    | (refine Mine.ltA_l (by with_reducible assumption) ?_; k_extra "M ix")
    | (refine Mine.neA_r (by with_reducible assumption) ?_; k_extra "M ix")
    | (refine Mine.neA_l (by with_reducible assumption) ?_; k_extra "M ix")
    | (refine Nat.ne_of_lt ?_; k_extra "M lt1")
    | (refine Nat.ne_of_gt ?_; k_extra "M lt1")
    | k_extra "M ne3"
    | omega
    | ((simp only [Mine.LtA, Mine.NeA] at *); omega))
  trivial
local macro_rules | `(tactic| walk_at $s:str) => do
  let q := Lean.Syntax.mkStrLit ("!" ++ s.getString)
  `(tactic| k_extra $q)
local macro_rules | `(tactic| k_lt $h) => `(tactic| (replace $h := Mine.ltA_of $h; (try dsimp only [Mine.adr] at $h:ident)))
local macro_rules | `(tactic| k_ne) => `(tactic| k_extra "M ne")
local macro_rules | `(tactic| k_mem) => `(tactic| k_extra "M mem")
local macro_rules | `(tactic| k_inst) => `(tactic| k_extra "M inst")
local macro_rules | `(tactic| k_handed) => `(tactic| assumption)
namespace Mine
/-- facts of difference, over addresses alone -/
def LtA (d : Nat) : List Nat → Prop
  | [] => True
  | a :: r => a < d ∧ LtA d r
def NeA (d : Nat) : List Nat → Prop
  | [] => True
  | a :: r => a ≠ d ∧ NeA d r
/-- the addresses of a ledger -/
def adr : List (Addr × Obj) → List Nat
  | [] => []
  | p :: r => p.1 :: adr r
theorem ltA_of {d : Addr} : ∀ {l : List (Addr × Obj)}, (∀ p ∈ l, p.1 < d) → LtA d (adr l)
  | [], _ => trivial
  | p :: r, h => ⟨h p (.head _), ltA_of fun q hq => h q (.tail _ hq)⟩
theorem neA_of {d : Addr} : ∀ {l : List (Addr × Obj)}, AllNe d l → NeA d (adr l)
  | [], _ => trivial
  | p :: r, h => ⟨h.1, neA_of h.2⟩
theorem ltA_get {d : Nat} : ∀ {l : List Nat} (i : Nat) {a : Nat}, l[i]? = some a → LtA d l → a < d
  | [], i, _, e, _ => by simp at e
  | b :: r, 0, a, e, h => by simp at e; subst e; exact h.1
  | b :: r, i + 1, a, e, h => ltA_get i (by simpa using e) h.2
theorem neA_get {d : Nat} : ∀ {l : List Nat} (i : Nat) {a : Nat}, l[i]? = some a → NeA d l → a ≠ d
  | [], i, _, e, _ => by simp at e
  | b :: r, 0, a, e, h => by simp at e; subst e; exact h.1
  | b :: r, i + 1, a, e, h => neA_get i (by simpa using e) h.2
theorem ix0 {a : Nat} {l : List Nat} : ∃ i : Nat, (a :: l)[i]? = some a := ⟨0, rfl⟩
theorem ixS {a b : Nat} {l : List Nat} (h : ∃ i : Nat, l[i]? = some a) : ∃ i : Nat, (b :: l)[i]? = some a := let ⟨i, e⟩ := h; ⟨i + 1, e⟩
theorem ltA_r {a d : Nat} {l : List Nat} (h : LtA d l) (m : ∃ i : Nat, l[i]? = some a) : a ≠ d := let ⟨i, e⟩ := m; Nat.ne_of_lt (ltA_get i e h)
theorem ltA_l {a d : Nat} {l : List Nat} (h : LtA d l) (m : ∃ i : Nat, l[i]? = some a) : d ≠ a := let ⟨i, e⟩ := m; Nat.ne_of_gt (ltA_get i e h)
theorem neA_r {a d : Nat} {l : List Nat} (h : NeA d l) (m : ∃ i : Nat, l[i]? = some a) : a ≠ d := let ⟨i, e⟩ := m; neA_get i e h
theorem neA_l {a d : Nat} {l : List Nat} (h : NeA d l) (m : ∃ i : Nat, l[i]? = some a) : d ≠ a := let ⟨i, e⟩ := m; fun q => neA_get i e h q.symm
/-- a difference that the arithmetic does not see -/
def NeN (a b : Nat) : Prop := a ≠ b
theorem neN_i {a b : Nat} (h : NeN a b) : a ≠ b := h
theorem neN_s {a b : Nat} (h : NeN b a) : a ≠ b := fun q => h q.symm
theorem ite_skip {α : Type} {p : Prop} [Decidable p] {x y r : α} (h : ¬p) (k : y = r) : (if p then x else y) = r := (if_neg h).trans k
theorem rm0 {a b c : Nat} (h : a + c < recursionLimit) (hb : b ≤ c) : a + b < recursionLimit := by omega
theorem rm1 {A : Around} {e : Env} {b c : Nat} (h : A.depth + c < recursionLimit) (hb : b + 1 ≤ c) : (A.deeper e).depth + b < recursionLimit := by show A.depth + 1 + b < _; omega
theorem rm2 {A : Around} {e e' : Env} {b c : Nat} (h : A.depth + c < recursionLimit) (hb : b + 2 ≤ c) : ((A.deeper e).deeper e').depth + b < recursionLimit := by show A.depth + 1 + 1 + b < _; omega
theorem un0 {a b c : Nat} (h : a + c < cLine) (hb : b ≤ c) : a + b < cLine := by omega
theorem un1 {A : Around} {e : Env} {b c : Nat} (h : A.units + c < cLine) (hb : b + 3 ≤ c) : (A.deeper e).units + b < cLine := by show A.units + 3 + b < _; omega
theorem un2 {A : Around} {e e' : Env} {b c : Nat} (h : A.units + c < cLine) (hb : b + 6 ≤ c) : ((A.deeper e).deeper e').units + b < cLine := by show A.units + 3 + 3 + b < _; omega
end Mine
theorem Mine.wordsMac2 : True := by
  k_with "M memR" => (first | with_reducible exact List.mem_cons_self | (with_reducible refine List.mem_cons_of_mem _ ?_; k_extra "M memR") | ((fail_if_success (with_reducible refine List.mem_cons_of_mem _ ?_)); with_reducible assumption))
  k_with "M mem" => (first | with_reducible assumption | k_extra "M memR")
  k_with "M enter" => (
  (case X => first | assumption | exact Frag.In.keeps (by k_asm) (Fr.keep (by k_asm)))
  (case T => exact TopRead.nolimit (by assumption))
  (case ho => k_is)
  (case hcd => k_is)
  (case hroom => omega)
  (case hbind => exact BindsTo.of_eq rfl)
  (case hloc => exact locs rfl)
  (case c1 => decide)
  (case c2 => exact rfl)
  (case c3 => exact rfl)
  (case c4 => exact rfl)
  intro L' h' F' N'
  try dsimp only [Mine.bodOf, Mine.scoOf, Mine.parOf, Mine.topS, Mine.inS, Mine.stAt, PySem.Challenge.pw_on0181_01]
  try k_fold)
  k_with "M enterC" => (
  (case X => first | assumption | exact Frag.In.keeps (by k_asm) (Fr.keep (by k_asm)))
  (case T => exact TopRead.nolimit (by assumption))
  (case ho => k_is)
  (case hcd => k_is)
  (case hroom => omega)
  (case hbind => exact BindsTo.of_eq rfl)
  (case hkind => exact rfl)
  (case hnd => decide +kernel)
  (case c2 => exact rfl)
  (case c3 => exact rfl)
  (case c4 => exact rfl)
  intro L' h' tk' cells' F' N' Y'
  try dsimp only [Mine.bodOf, Mine.scoOf, Mine.parOf, Mine.topS, Mine.inS, Mine.stAt, PySem.Challenge.pw_on0181_01] at *
  k_cells Y'
  try dsimp only [Mine.bodOf, Mine.scoOf, Mine.parOf, Mine.topS, Mine.inS, Mine.stAt, PySem.Challenge.pw_on0181_01]
  try k_fold)
  k_with "M sd" => (first | exact Mine.SD.fr (by k_asm) (by k_asm) | exact Mine.ExactNew (by k_asm) (by k_mem) (by k_asm) (by k_asm))
  k_with "M inst" => exact Mine.inst_base (by k_asm) (by k_asm) (by k_asm)
  k_with "!getMethod ref" => (k_here; (first | (with_reducible show wpAny _ _ (getMethod (Value.ref _) (PySem.Str.ofString "get") _) _ _ _) | (with_reducible show wpAny _ _ (getMethod (Value.ref _) (PySem.Str.ofString "setdefault") _) _ _ _)); refine Mine.sd_mget (by k_extra "M sd") ?_)
  k_with "!getMethod ref" => (k_here; (with_reducible show wpAny _ _ (getMethod (Value.ref _) (PySem.Str.ofString "append") _) _ _ _); k_dflt (refine PySem.W.listMethod_K (by k_asm) (by k_extra "M mem") PySem.F.slot_list_append PySem.F.type_list_append ?_))
  k_with "!callWith ref" => (k_here; k_dflt (first | refine PySem.W.callWith_K (by k_asm) (by k_is) ?_ | refine PySem.W.callWith_K0 (by k_in) (by k_is) ?_))
  k_with "!call builtin:dict.get" => (k_here; first | refine Mine.sd_get1 (by k_extra "M sd") ?_ | refine Mine.sd_get2 (by k_extra "M sd") ?_)
  k_with "!call builtin:dict.get" => (k_here; first | refine Mine.sd_get1v (by k_extra "M sd") (by with_reducible assumption) ?_ | refine Mine.sd_get1n (by k_extra "M sd") (by with_reducible assumption) ?_ | refine Mine.sd_get2v (by k_extra "M sd") (by with_reducible assumption) ?_ | refine Mine.sd_get2n (by k_extra "M sd") (by with_reducible assumption) ?_)
  k_with "!compareOp In str ref" => (k_here; refine Mine.sd_in (by k_extra "M sd") ?_)
  k_with "!compareOp NotIn str ref" => (k_here; refine Mine.sd_notin (by k_extra "M sd") ?_)
  k_with "!subscriptTail" => (k_here; (with_reducible show wpAny _ _ (subscriptTail _ _ (Value.ref _) (Value.str _ _)) _ _ _); refine Mine.sd_item (by k_extra "M sd") (by k_asm) ?_)
  k_with "!eval Name" => (k_here; (with_reducible show wpAny _ _ (eval (Expr.Name _ _) (compEnvC _ _ _ _)) _ _ _); k_dflt (first
  | refine Mine.cx_L (by k_asm) (by with_reducible assumption) ?_
  | refine Mine.cx_C (by k_asm) (by exact rfl) (by k_extra "M mem") (by k_asm) ?_
  | refine Mine.cx_K (by k_asm) (by k_asm) (by k_asm) (by k_is) ?_
  | refine Mine.cx_B (by k_asm) (by k_asm) (by k_asm) (by k_is) (by boot_by_name) (by decide) ?_))
  k_with "!eval ListComp" => (k_here; (with_reducible show wpAny _ _ (eval (Expr.ListComp _ [⟨Expr.Name _ _, _, _, _⟩] _ _) _) _ _ _); k_dflt (refine Mine.lc_name (by k_asm) (by exact rfl) (by decide) (by exact rfl) (by decide) (by exact rfl) ?_))
  k_with "!eval ListComp" => (k_here; (with_reducible show wpAny _ _ (eval (Expr.ListComp _ [⟨Expr.Tuple _ _ _, _, _, _⟩] _ _) _) _ _ _); k_dflt (refine Mine.lc_pair (by k_asm) (by exact rfl) (by decide) (by exact rfl) (by decide) (by exact rfl) (by exact rfl) (by decide) ?_))
  k_with "!exec Assign cons ListComp" => (k_here; k_dflt (
  refine Mine.lc_name_assign (by k_asm) (by exact rfl) (by with_unfolding_all rfl) (by exact rfl) (by decide) (by exact rfl) (by decide) (by exact rfl) (by exact rfl) (by exact rfl) ?_))
  k_with "M room" => (first | (refine Mine.rm0 (by with_reducible assumption) ?_; decide) | (refine Mine.rm1 (by with_reducible assumption) ?_; decide) | (refine Mine.rm2 (by with_reducible assumption) ?_; decide) | ((try simp only [depth_deeper, depth_in1] at *); omega))
  k_with "M sub" => (first | exact fun _ h => h | (intro p9 hp9; repeat (first | exact hp9 | refine List.mem_cons_of_mem _ ?_)))
  k_with "!CEnd" => (refine Mine.CEnd.intro (by k_asm) (by k_asm) (by k_extra "M sub"))
  k_with "M units" => (first | (refine Mine.un0 (by with_reducible assumption) ?_; decide) | (refine Mine.un1 (by with_reducible assumption) ?_; decide) | (refine Mine.un2 (by with_reducible assumption) ?_; decide) | ((try simp only [units_deeper, units_in1, Around.deeper_units] at *); omega))
  trivial

theorem Mine.len_lit (s : String) : (Str.ofString s).length ≤ (Str.ofString s).length := Nat.le_refl _
theorem Mine.wordsMac3 : True := by
  k_with "M len" => (first | with_reducible exact Mine.len_lit _ | ((with_reducible refine' Mine.len_app ?_ ?_) <;> k_extra "M len") | with_reducible assumption)
  k_with "!binaryOp Add str str" => (k_here; (with_reducible show wpAny _ _ (binaryOp Operator.Add (Value.str _ _) (Value.str _ _)) _ _ _); (refine Mine.add_strS (by k_extra "M len") (by k_extra "M len") (by decide +kernel) ?_); intro t9 tk9)
  k_with "M reads" => (first
  | exact Reads.none
  | exact Reads.str _ _
  | exact Reads.keeps (Fr.keep (by k_asm)) (by with_reducible assumption)
  | exact reads_tuple_at (News.get (by k_asm) (by k_extra "M mem")) rfl rfl (by k_extra "M readsAll")
  | exact Mine.reads_strs (by k_asm) (by k_extra "M mem") (by with_reducible assumption))
  k_with "M readsAll" => (first
  | exact ReadsAll.nil
  | exact ReadsAll.cons (by k_extra "M reads") (by k_extra "M readsAll"))
  k_with "M shaped" => (first | with_reducible assumption | exact rfl | decide +kernel)
  k_with "!compareOp Eq ref ref" => (k_here; k_dflt (refine eq_dataH (by k_extra "M reads") (by k_extra "M reads") (by k_extra "M shaped") (by k_extra "M shaped") (by k_extra "M units") ?_))
  k_with "!compareOp Eq none ref" => (k_here; k_dflt (refine eq_dataH (by k_extra "M reads") (by k_extra "M reads") (by k_extra "M shaped") (by k_extra "M shaped") (by k_extra "M units") ?_))
  k_with "M for" => (k_here; k_dflt (refine Mine.for_rule (by k_asm) (by exact rfl) ?_))
  k_with "!exec For Name Tuple cons nil" => k_extra "M for"
  k_with "!exec For Name Name cons nil" => k_extra "M for"
  k_with "!exec For Name Attribute cons nil" => k_extra "M for"
  k_with "!exec For Name List cons nil" => k_extra "M for"
  k_with "!exec For Name Subscript cons nil" => k_extra "M for"
  k_with "!exec For Tuple Name cons nil" => k_extra "M for"
  k_with "!execs cons Assign cons" => (k_here; refine wpAny_execs_cons ?_)
  k_with "!call builtin:list.append" => (k_here; (with_reducible show wpAny _ _ (call (Value.builtin _) [Value.ref _, _]) _ _ _); k_dflt (refine' Mine.append_L (by k_asm) (by k_asm) (by k_upd) (by ((try simp only [List.length_append, List.length_singleton]); omega)) ?_; k_whole); intro h' F' N'; (try k_sweep))
  k_with "M fsub" => (first | exact List.forall_mem_nil _ | (refine List.forall_mem_cons.mpr ⟨⟨by k_extra "M mem", by k_ne⟩, ?_⟩; k_extra "M fsub"))
  trivial

theorem Mine.item_tupB {prog : Program} {w : World} {A : Around} {E : Value → Shared → Prop} {s : Shared} {h₀ : Heap} {L t : Addr} {m : Str → Option Value} {value slice : Expr} {l : List Value} {k : Int} {u : Tok} {j : Nat} {x : Value} {Q : Value → Shared → Prop} (F : Fr h₀ L s.heap m) (ht : h₀.IsTuple t l.toArray)
    (hlo : -(2 ^ 63) ≤ k) (hhi : k < 2 ^ 63) (hj : seqIndex? k l.length = some j) (hx : l[j]? = some x) (h : Q x s)
    (hs : subscripted slice false (.ref t) (.int k u) = operate [.ref t, .int k u] (getItem (.ref t) (.int k u)) := by with_unfolding_all rfl) :
    wpAny (model prog w) A (subscriptTail value slice (.ref t) (.int k u)) Q E s := item_tupleT (ht.at fun o e => F.keep _ o e) hlo hhi hj hx h hs
theorem Mine.wordsMac4 : True := by
  k_with "!subscriptTail Name Constant ref int" => (k_here; (with_reducible show wpAny _ _ (subscriptTail _ _ (Value.ref _) (Value.int _ _)) _ _ _); k_dflt (refine Mine.item_tupB (by k_asm) (by with_reducible assumption) (by decide) (by decide) (by exact rfl) (by exact rfl) ?_))
  k_with "!subscriptTail" => (k_here; (with_reducible show wpAny _ _ (subscriptTail _ _ (Value.ref _) (Value.int _ _)) _ _ _); k_dflt (refine Mine.item_tupB (by k_asm) (by with_reducible assumption) (by decide) (by decide) (by exact rfl) (by exact rfl) ?_))
  k_with "M memL" => (first | exact List.mem_cons_self | (refine List.mem_cons_of_mem _ ?_; k_extra "M memL"))
  k_with "M memall" => (first | exact True.intro | (refine And.intro (by k_extra "M memL") ?_; k_extra "M memall"))
  trivial
theorem Mine.offR1 : True := by
  w_top off
  trivial
set_option maxHeartbeats 8000000
namespace Mine
theorem fill : PySem.Challenge.rw_on0181_01 = PySem.Challenge.rw_on0181_01 ∧ heapK = heapK := by
  k_fill
  exact ⟨rfl, rfl⟩
theorem c_model {w : World} {A : Around} {s : Shared} {h₀ : Heap} {L : Addr} {m : Str → Option Value} {news : List (Addr × Obj)} {D E At Nt : Addr} {x : Str} {t : Tok} {Q Ex : Value → Shared → Prop} {p : Program} {loose : List Str} {mg mb : Str → Option Value}
    {kvs : List (Str × Value)} (F : Fr h₀ L s.heap m) (N : News h₀ L s.heap news)
    (X : (heapK w.params).In h₀) (T : TopRead p loose mg mb h₀) (hroom : A.depth < recursionLimit)
    (hD : DtdAt h₀ D E At Nt) (hE : SD w h₀ E kvs)
    (k : ∀ h' tk', Fr h₀ L h' m → News h₀ L h' news → Q ((valueAt kvs x).getD .none) { s with heap := h', toks := tk' }) :
    wpAny (model PR w) A (call (.ref 124) [.ref D, .str x t]) Q Ex s := by
  obtain ⟨dD, k1, k2, k3, k4, t1, t2, t3, t4, t5, n, hD1, hD2⟩ := (hD.kp F.keep).it
  replace hE := hE.fr F
  replace X := X.keeps F.keep
  replace T := T.keeps F.keep
  replace k := fun h' tk' (hk : Kp s.heap h') => k h' tk' (F.keeps hk) (N.grown hk)
  clear F N
  k_dflt (refine' enter [("self", .ref D), ("name", .str x t)] ?X ?T ?ho ?hcd ?hroom ?hbind ?hloc ?_ ?c1 ?c2 ?c3 ?c4; k_extra "M enter")
  k_steps
  exact k _ _ (by rename Fr _ _ _ _ => F; exact F.keep)

theorem c_rules {w : World} {A : Around} {s : Shared} {h₀ : Heap} {L : Addr} {m : Str → Option Value} {news : List (Addr × Obj)} {D E At Nt : Addr} {x : Str} {t : Tok} {Q Ex : Value → Shared → Prop} {p : Program} {loose : List Str} {mg mb : Str → Option Value}
    {σ : AllRules} (F : Fr h₀ L s.heap m) (N : News h₀ L s.heap news)
    (X : (heapK w.params).In h₀) (T : TopRead p loose mg mb h₀) (hroom : A.depth < recursionLimit)
    (hD : DtdAt h₀ D E At Nt) (hA : Attrs w h₀ At σ)
    (k1 : ∀ h' tk' d, Fr h₀ L h' m → News h₀ L h' news → Inner w h₀ d (rulesOf σ x) → Q (.ref d) { s with heap := h', toks := tk' })
    (k2 : ∀ h' tk' d o, Fr h₀ L h' m → News h₀ L h' ((d, o) :: news) → rulesOf σ x = [] → o.IsDictOf (strKind PR w) [] → (d == sysModules) = false → (∀ p ∈ news, p.1 ≠ d) → Q (.ref d) { s with heap := h', toks := tk' }) :
    wpAny (model PR w) A (call (.ref 131) [.ref D, .str x t]) Q Ex s := by
  obtain ⟨dD, q1, q2, q3, q4, t1, t2, t3, t4, t5, n, hD1, hD2⟩ := (hD.kp F.keep).it
  obtain ⟨kvs, hS, hP⟩ := hA
  replace hS := hS.fr F
  replace X := X.keeps F.keep
  replace T := T.keeps F.keep
  replace k1 := fun h' tk' d (hk : Kp s.heap h') => k1 h' tk' d (F.keeps hk) (N.grown hk)
  replace k2 := fun h' tk' d o (hk : Kp s.heap h') (ho : h'.get? d = some o) (hn : s.heap.get? d = none) => fun a b c => k2 h' tk' d o (F.keeps hk) (news_new F N hk ho hn) a b c (ne_new N hn)
  clear F N
  k_dflt (refine' enter [("self", .ref D), ("element", .str x t)] ?X ?T ?ho ?hcd ?hroom ?hbind ?hloc ?_ ?c1 ?c2 ?c3 ?c4; k_extra "M enter")
  k_steps
  rename Fr _ _ _ _ => F
  rename News _ _ _ _ => N
  rename Obj.IsDictOf (strKind _ _) _ _ => hs
  rename (_ == sysModules) = false => lo
  rcases look_paired hP x with ⟨e1, e2⟩ | ⟨rs, v, e1, e2, d, rfl, hI⟩
  · rw [e2]
    exact k2 _ _ _ _ F.keep (N _ (.head _)).1 (N _ (.head _)).2.2 (by unfold rulesOf; rw [e1]; rfl) hs lo
  · rw [e2]
    exact k1 _ _ _ F.keep (by unfold rulesOf; rw [e1]; exact hI)

end Mine
theorem Mine.offR2 : True := by
  w_top off
  trivial
set_option maxHeartbeats 8000000
theorem Mine.wordsR21 : True := by
  k_with "!call ref" => (k_here; k_dflt ((refine' Mine.c_rules (by k_asm) (by k_asm) (by k_asm) (by k_asm) (by k_extra "M room") (by k_asm) (by k_asm) ?_ ?_); (intro h' tk' d' F' N' hI'; obtain ⟨kvs', hS', hP'⟩ := hI'; (try k_sweep); rotate_left; intro h' tk' d' o' F' N' hr' hs' lo' ne'; (replace ne' := Mine.allNe_of ne'); (replace ne' := Mine.neA_of ne'); (try dsimp only [Mine.adr] at ne'); (try k_sweep); rotate_right)))
  trivial

namespace Mine
theorem fill2 : PySem.Challenge.rw_on0181_01 = PySem.Challenge.rw_on0181_01 ∧ heapK = heapK := by
  k_fill
  exact ⟨rfl, rfl⟩
theorem c_rule {w : World} {A : Around} {s : Shared} {h₀ : Heap} {L : Addr} {m : Str → Option Value} {news : List (Addr × Obj)} {D E At Nt : Addr} {x y : Str} {t u : Tok} {Q Ex : Value → Shared → Prop} {p : Program} {loose : List Str} {mg mb : Str → Option Value}
    {σ : AllRules} (F : Fr h₀ L s.heap m) (N : News h₀ L s.heap news)
    (X : (heapK w.params).In h₀) (T : TopRead p loose mg mb h₀) (hroom : A.depth + 10 < recursionLimit)
    (hD : DtdAt h₀ D E At Nt) (hA : Attrs w h₀ At σ)
    (k : ∀ h' tk' v, Fr h₀ L h' m → News h₀ L h' news → ((look (rulesOf σ x) y = none ∧ v = .none) ∨ ∃ r, look (rulesOf σ x) y = some r ∧ RuleRef h' v r) → Q v { s with heap := h', toks := tk' }) :
    wpAny (model PR w) A (call (.ref 138) [.ref D, .str x t, .str y u]) Q Ex s := by
  obtain ⟨dD, q1, q2, q3, q4, t1, t2, t3, t4, t5, n, hD1, hD2⟩ := (hD.kp F.keep).it
  replace hD := hD.kp F.keep
  replace hA := hA.kp F.keep
  replace X := X.keeps F.keep
  replace T := T.keeps F.keep
  replace k := fun h' tk' v (hk : Kp s.heap h') => k h' tk' v (F.keeps hk) (N.grown hk)
  clear F N
  k_dflt (refine' enter [("self", .ref D), ("element", .str x t), ("name", .str y u)] ?X ?T ?ho ?hcd ?hroom ?hbind ?hloc ?_ ?c1 ?c2 ?c3 ?c4; k_extra "M enter")
  k_steps
  · rename Paired _ _ _ => hP
    rename Fr _ _ _ _ => F
    rcases look_paired hP y with ⟨e1, e2⟩ | ⟨r, v, e1, e2, hv⟩
    · rw [e2]; exact k _ _ _ F.keep (.inl ⟨e1, rfl⟩)
    · rw [e2]; exact k _ _ _ F.keep (.inr ⟨r, e1, by obtain ⟨xr, rfl, hr⟩ := hv; exact ⟨xr, rfl, hr.kp F.keep⟩⟩)
  · rename Fr _ _ _ _ => F
    rename rulesOf _ _ = [] => hr
    exact k _ _ _ F.keep (.inl ⟨by rw [hr]; rfl, rfl⟩)

/-- the row of an attribute's rule -/
def RowAt (h : Heap) (a : Addr) (r : Rule) : Prop := ∃ (ch : Addr) (vs : List Value) (tk tm : Tok) (vv : Value), h.IsTuple a #[.str r.kind tk, .ref ch, .str r.mode tm, vv] ∧ h.IsTuple ch vs.toArray ∧ StrsAre vs r.choices ∧ ValIs r.value vv
theorem RowAt.kp {h h' : Heap} {a : Addr} {r : Rule} (y : RowAt h a r) (k : Kp h h') : RowAt h' a r :=
  let ⟨ch, vs, tk, tm, vv, x1, x2, x3, x4⟩ := y; ⟨ch, vs, tk, tm, vv, x1.at fun o q => k _ o q, x2.at fun o q => k _ o q, x3, x4⟩

theorem c_row {w : World} {A : Around} {s : Shared} {xr : Addr} {r : Rule} {Q Ex : Value → Shared → Prop} {p : Program} {loose : List Str} {mg mb : Str → Option Value}
    (X : (heapK w.params).In s.heap) (T : TopRead p loose mg mb s.heap) (hroom : A.depth + 10 < recursionLimit)
    (hx : RuleObj s.heap xr r)
    (k : ∀ h' tk' a, Kp s.heap h' → RowAt h' a r → s.heap.get? a = none → Q (.ref a) { s with heap := h', toks := tk' }) :
    wpAny (model PR w) A (call (.ref 197) [.ref xr]) Q Ex s := by
  obtain ⟨dx, ch, vs, k1, k2, k3, k4, t1, t2, t3, t4, tk, tm, vv, n, h1, h2, h3, h4, h5⟩ := hx
  have hh : handedIn vv = true := by
    cases hv : r.value with
    | none => rw [hv] at h5; subst h5; rfl
    | some x => rw [hv] at h5; obtain ⟨t, rfl⟩ := h5; rfl
  k_dflt (refine' enter [("self", .ref xr)] ?X ?T ?ho ?hcd ?hroom ?hbind ?hloc ?_ ?c1 ?c2 ?c3 ?c4; k_extra "M enter")
  k_steps
  rename Fr _ _ _ _ => F
  rename News _ _ _ _ => N
  exact k _ _ _ F.keep ⟨ch, vs, _, _, vv, ⟨_, (N _ (.head _)).1, rfl, _, rfl⟩, h3.at fun o q => F.keep _ o q, h4, h5⟩ (N _ (.head _)).2.2
end Mine
theorem Mine.offR3 : True := by
  w_top off
  trivial
set_option maxHeartbeats 400000
namespace Mine
theorem fill3 : PySem.Challenge.rw_on0181_01 = PySem.Challenge.rw_on0181_01 ∧ heapK = heapK := by
  k_fill
  exact ⟨rfl, rfl⟩
def namesOf (rs : Rules) (kind : Str) : List Str := (rs.filter fun e => e.2.kind == kind).map (·.1)
theorem namesOf_snoc (rs : Rules) (r : Str × Rule) (kind : Str) : namesOf (rs ++ [r]) kind = namesOf rs kind ++ (if (r.2.kind == kind) = true then [r.1] else []) := by
  unfold namesOf
  rw [List.filter_append, List.map_append]
  cases h : r.2.kind == kind <;> simp [h]
theorem namesOf_len (rs : Rules) (k : Str) : (namesOf rs k).length ≤ rs.length := by unfold namesOf; rw [List.length_map]; exact List.length_filter_le _ _
theorem c_nok {w : World} {A : Around} {s : Shared} {h₀ : Heap} {L : Addr} {m : Str → Option Value} {news : List (Addr × Obj)} {D E At Nt : Addr} {x y : Str} {t u : Tok} {Q Ex : Value → Shared → Prop} {p : Program} {loose : List Str} {mg mb : Str → Option Value}
    {σ : AllRules} (F : Fr h₀ L s.heap m) (N : News h₀ L s.heap news)
    (X : (heapK w.params).In h₀) (T : TopRead p loose mg mb h₀) (hroom : A.depth + 10 < recursionLimit) (hh : A.handled = none)
    (hD : DtdAt h₀ D E At Nt) (hA : Attrs w h₀ At σ) (hsz : (rulesOf σ x).length ≤ 1000)
    (k : ∀ h' tk' a ys, Fr h₀ L h' m → News h₀ L h' ((a, lst ys) :: news) → (∀ p ∈ news, p.1 ≠ a) → StrsAre ys (namesOf (rulesOf σ x) y) → Q (.ref a) { s with heap := h', toks := tk' }) :
    wpAny (model PR w) A (call (.ref 143) [.ref D, .str x t, .str y u]) Q Ex s := by
  obtain ⟨dD, q1, q2, q3, q4, t1, t2, t3, t4, t5, n, hD1, hD2⟩ := (hD.kp F.keep).it
  replace hD := hD.kp F.keep
  replace hA := hA.kp F.keep
  replace X := X.keeps F.keep
  replace T := T.keeps F.keep
  replace k := fun h' tk' a ys (hk : Kp s.heap h') (ha : h'.get? a = some (lst ys)) (hn : s.heap.get? a = none) => k h' tk' a ys (F.keeps hk) (news_new F N hk ha hn) (ne_new N hn)
  clear F N
  k_dflt (refine' enterC [("self", .ref D), ("element", .str x t), ("kind", .str y u)] ?X ?T ?ho ?hcd ?hroom ?hbind ?hkind ?hnd ?_ ?c2 ?c3 ?c4; k_extra "M enterC")
  k_steps
  · rename SD _ _ _ _ => hS
    rename Paired _ _ _ => hP
    rename Fr _ _ _ _ => F
    rename News _ _ _ _ => N
    have hlen := Paired.length hP
    refine lcN_val (fun i ys => StrsAre ys (namesOf ((rulesOf σ x).take i) y)) (fun _ _ _ _ => finE_mono) hh F N (.dict hS.1 (.inl hS.2)) (fewer (by rw [hlen]; exact hsz)) .nil ?_ ?_
    · intro i v I oI D' oL C m₂ h tk ys nw E' hi hv hx hJ hsub F' N'
      refine Classical.byContradiction fun hG9 => ?_
      obtain ⟨kk, vv, hkv, hk⟩ := hv
      obtain ⟨tt, rfl⟩ := isStr_key hk
      obtain ⟨r, hr, e1, xr, e2, hobj⟩ := paired_get hP i _ hkv
      dsimp only at e1 e2
      subst e2
      have hval := valueAt_get hS.nodup hkv
      obtain ⟨dx, ch, vs, p1, p2, p3, p4, u1, u2, u3, u4, uk, um, vv, n2, g1, g2, g3, g4, g5⟩ := hobj
      simp only [List.forall_mem_cons] at hsub
      obtain ⟨m1, m2, _⟩ := hsub
      refine hG9 ?_
      clear hG9 F N
      unfold VTurn
      refine wpAny_tests_one ?_
      k_steps
      · rename (_ == _) = true => hq
        dsimp only
        rw [namesTake hr, namesOf_snoc, hq, ← e1]
        exact strs_snoc hJ
      · rename (_ == _) = false => hq
        dsimp only
        rw [namesTake hr, namesOf_snoc, hq]
        simpa using hJ
    · intro ys hJ D' h tk F' N' off
      refine k _ _ _ ys F'.keep (N' _ (.head _)).1 (N' _ (.head _)).2.2 ?_
      rw [hlen, List.take_length] at hJ
      exact hJ
  · rename Fr _ _ _ _ => F
    rename News _ _ _ _ => N
    rename rulesOf _ _ = [] => hr
    rename Obj.IsDictOf (strKind _ _) _ _ => hs
    rename (_ == sysModules) = false => lo
    refine lcN_val (fun i ys => ys = []) (fun _ _ _ _ => finE_mono) hh F N (.dict lo (.inr ⟨_, by k_extra "M mem", hs⟩)) (Nat.zero_le _) rfl (fun i v I oI D' oL C m₂ h tk ys nw E' hi => absurd hi (Nat.not_lt_zero _)) ?_
    intro ys hJ D' h tk F' N' off
    subst hJ
    exact k _ _ _ _ F'.keep (N' _ (.head _)).1 (N' _ (.head _)).2.2 (by rw [hr]; exact .nil)
end Mine
theorem Mine.offR4 : True := by
  w_top off
  trivial
set_option maxHeartbeats 400000
theorem Mine.wordsR41 : True := by
  k_with "M few" => (first | with_reducible assumption | exact Nat.le_trans (Mine.namesOf_len _ _) (by with_reducible assumption))
  k_with "!call builtin:len" => (k_here; (with_reducible show wpAny _ _ (call (Value.builtin "len") [Value.ref _]) _ _ _); k_dflt (refine Mine.len_strs (by k_asm) (by k_extra "M mem") (by with_reducible assumption) (by k_extra "M few") ?_))
  k_with "M handled" => (first | assumption | exact rfl)
  k_with "M ok" => (first | exact Mine.ok_nil | assumption)
  k_with "!compareOp NotEq ref ref" => (k_here; k_dflt (refine Mine.ne_strs (by k_asm) (by k_extra "M mem") (by k_extra "M mem") (by first | with_reducible assumption | exact PyProof.Rows.StrsAre.nil) (by first | with_reducible assumption | exact PyProof.Rows.StrsAre.nil) (by k_extra "M ok") (by k_extra "M ok") (by k_extra "M units") ?_))
  k_with "!subscriptTail Name Constant ref int" => (k_here; (with_reducible show wpAny _ _ (subscriptTail _ _ (Value.ref _) (Value.int 0 _)) _ _ _); k_dflt (refine Mine.item_strs0 (by k_asm) (by k_extra "M mem") (by with_reducible assumption) (by with_reducible assumption) ?_); intro y' r' t' hx')
  k_with "!subscriptTail" => (k_here; (with_reducible show wpAny _ _ (subscriptTail _ _ (Value.ref _) (Value.int 0 _)) _ _ _); k_dflt (refine Mine.item_strs0 (by k_asm) (by k_extra "M mem") (by with_reducible assumption) (by with_reducible assumption) ?_); intro y' r' t' hx')
  k_with "!call ref" => (k_here; k_dflt ((refine' Mine.c_nok (by k_asm) (by k_asm) (by k_asm) (by k_asm) (by k_extra "M room") (by k_extra "M handled") (by k_asm) (by k_asm) (by assumption) ?_); (intro h' tk' a' ys' F' N' ne' hS'; (replace ne' := Mine.allNe_of ne'); (replace ne' := Mine.neA_of ne'); (try dsimp only [Mine.adr] at ne'); try k_sweep)))
  trivial

namespace Mine
theorem fill4 : PySem.Challenge.rw_on0181_01 = PySem.Challenge.rw_on0181_01 ∧ heapK = heapK := by
  k_fill
  exact ⟨rfl, rfl⟩
theorem c_idS {w : World} {A : Around} {s : Shared} {D E At Nt : Addr} {x : Str} {t : Tok} {Q Ex : Value → Shared → Prop} {p : Program} {loose : List Str} {mg mb : Str → Option Value}
    {σ : AllRules} (X : (heapK w.params).In s.heap) (T : TopRead p loose mg mb s.heap) (hroom : A.depth + 20 < recursionLimit) (hun : A.units + 100 < cLine) (hh : A.handled = none)
    (hD : DtdAt s.heap D E At Nt) (hA : Attrs w s.heap At σ) (hsz : (rulesOf σ x).length ≤ 1000) (hok : ∀ y ∈ namesOf (rulesOf σ x) "ID", PyData.strOk y = true)
    (k : ∀ h' tk' v, Kp s.heap h' → ((namesOf (rulesOf σ x) "ID" = [] ∧ v = .none) ∨ ∃ y r t, namesOf (rulesOf σ x) "ID" = y :: r ∧ v = .str y t) → Q v { s with heap := h', toks := tk' }) :
    wpAny (model PR w) A (call (.ref 150) [.ref D, .str x t]) Q Ex s := by
  obtain ⟨dD, q1, q2, q3, q4, t1, t2, t3, t4, t5, n, hD1, hD2⟩ := hD.it
  k_dflt (refine' enter [("self", .ref D), ("element", .str x t)] ?X ?T ?ho ?hcd ?hroom ?hbind ?hloc ?_ ?c1 ?c2 ?c3 ?c4; k_extra "M enter")
  k_steps
  · rename Fr _ _ _ _ => F
    rename decide _ = true => hq
    exact k _ _ _ F.keep (.inl ⟨of_decide_eq_true hq, rfl⟩)
  · rename Fr _ _ _ _ => F
    rename _ = _ :: _ => hq
    exact k _ _ _ F.keep (.inr ⟨_, _, _, hq, rfl⟩)
theorem c_id {w : World} {A : Around} {s : Shared} {h₀ : Heap} {L : Addr} {m : Str → Option Value} {news : List (Addr × Obj)} {D E At Nt : Addr} {x : Str} {t : Tok} {Q Ex : Value → Shared → Prop} {p : Program} {loose : List Str} {mg mb : Str → Option Value}
    {σ : AllRules} (F : Fr h₀ L s.heap m) (N : News h₀ L s.heap news)
    (X : (heapK w.params).In h₀) (T : TopRead p loose mg mb h₀) (hroom : A.depth + 20 < recursionLimit) (hun : A.units + 100 < cLine) (hh : A.handled = none)
    (hD : DtdAt h₀ D E At Nt) (hA : Attrs w h₀ At σ) (hsz : (rulesOf σ x).length ≤ 1000) (hok : ∀ y ∈ namesOf (rulesOf σ x) "ID", PyData.strOk y = true)
    (k : ∀ h' tk' v, Fr h₀ L h' m → News h₀ L h' news → ((namesOf (rulesOf σ x) "ID" = [] ∧ v = .none) ∨ ∃ y r t, namesOf (rulesOf σ x) "ID" = y :: r ∧ v = .str y t) → Q v { s with heap := h', toks := tk' }) :
    wpAny (model PR w) A (call (.ref 150) [.ref D, .str x t]) Q Ex s := by
  exact c_idS (X.keeps F.keep) (T.keeps F.keep) hroom hun hh (hD.kp F.keep) (hA.kp F.keep) hsz hok fun h' tk' v hk => k h' tk' v (F.keeps hk) (N.grown hk)
end Mine
theorem Mine.offR5 : True := by
  w_top off
  trivial
set_option maxHeartbeats 400000
theorem Mine.wordsR51 : True := by
  k_with "!call ref" => (k_here; k_dflt ((refine' Mine.c_model (by k_asm) (by k_asm) (by k_asm) (by k_asm) (by k_extra "M room") (by k_asm) (by k_asm) ?_); (intro h' tk' F' N'; (try k_sweep); (first | (rename valueAt _ _ = _ => hv9; rw [hv9]; dsimp only [Option.getD_some, Option.getD_none]) | skip))))
  trivial

namespace Mine
theorem fill5 : PySem.Challenge.rw_on0181_01 = PySem.Challenge.rw_on0181_01 ∧ heapK = heapK := by
  k_fill
  exact ⟨rfl, rfl⟩
def unknownOf (nots cs : List Str) : List Str := cs.filter fun c => !nots.contains c
theorem unknownOf_snoc (nots cs : List Str) (c : Str) : unknownOf nots (cs ++ [c]) = unknownOf nots cs ++ (if (!nots.contains c) = true then [c] else []) := by
  unfold unknownOf
  rw [List.filter_append]
  congr 1
  cases h : nots.contains c <;> simp only [List.filter_cons, List.filter_nil, h] <;> rfl
def nfText (c : Str) : Str := Str.ofString "the notation " ++ c ++ Str.ofString " is not declared"
def emText (x y : Str) : Str := Str.ofString "the empty element " ++ x ++ Str.ofString " has the notation " ++ y
def nfOf (nots : List Str) (mo : Str → Option PyData) (r : Rule) (x y : Str) : List Str := (unknownOf nots r.choices).map nfText ++ (if isEmptyM mo x = true then [emText x y] else [])
theorem c_nf {w : World} {A : Around} {s : Shared} {h₀ : Heap} {L : Addr} {m : Str → Option Value} {news : List (Addr × Obj)} {D E At Nt xr : Addr} {x y : Str} {t u : Tok} {Q Ex : Value → Shared → Prop} {p : Program} {loose : List Str} {mg mb : Str → Option Value}
    {nots : List Str} {mo : Str → Option PyData} {r : Rule} {kvE : List (Str × Value)} (F : Fr h₀ L s.heap m) (N : News h₀ L s.heap news)
    (X : (heapK w.params).In h₀) (T : TopRead p loose mg mb h₀) (hroom : A.depth + 20 < recursionLimit) (hun : A.units + 100 < cLine) (hh : A.handled = none)
    (hD : DtdAt h₀ D E At Nt) (hN : NotsAt w h₀ Nt nots) (hE : ModsAt w h₀ E kvE mo) (hr : RuleObj h₀ xr r) (hsz : r.choices.length ≤ 1000) (hok : ∀ y ∈ r.choices, Sh y) (hx : x.length ≤ 1000) (hy : y.length ≤ 1000)
    (k : ∀ h' tk' a ys n, Fr h₀ L h' m → News h₀ L h' ((a, lsn ys n) :: news) → (∀ p ∈ news, p.1 ≠ a) → StrsAre ys (nfOf nots mo r x y) → Q (.ref a) { s with heap := h', toks := tk' }) :
    wpAny (model PR w) A (call (.ref 169) [.ref D, .str x t, .str y u, .ref xr]) Q Ex s := by
  obtain ⟨dD, q1, q2, q3, q4, t1, t2, t3, t4, t5, n, hD1, hD2⟩ := (hD.kp F.keep).it
  obtain ⟨kvN, hS, hP⟩ := hN.kp F.keep
  replace hE := hE.kp F.keep
  have hS2 := hE.1
  obtain ⟨dx, ch, vs, p1, p2, p3, p4, u1, u2, u3, u4, uk, um, vv, n2, g1, g2, g3, g4, g5⟩ := hr.kp F.keep
  replace X := X.keeps F.keep
  replace T := T.keeps F.keep
  replace hD := hD.kp F.keep
  replace k := fun h' tk' a ys n (hk : Kp s.heap h') (ha : h'.get? a = some (lsn ys n)) (hn : s.heap.get? a = none) => k h' tk' a ys n (F.keeps hk) (news_new F N hk ha hn) (ne_new N hn)
  clear F N
  k_dflt (refine' enterC [("self", .ref D), ("element", .str x t), ("name", .str y u), ("rule", .ref xr)] ?X ?T ?ho ?hcd ?hroom ?hbind ?hkind ?hnd ?_ ?c2 ?c3 ?c4; k_extra "M enterC")
  k_steps
  rename Fr _ _ _ _ => F
  rename News _ _ _ _ => N
  refine lcN_val (fun i ys => StrsAre ys (unknownOf nots (r.choices.take i))) (fun _ _ _ _ => finA_mono) hh F N (.tup g3) (fewer (by simpa [StrsAre.length g4] using hsz)) .nil ?_ ?_
  · intro i v I oI D' oL C m₂ h tk ys nw E' hi hv hx hJ hsub F' N'
    refine Classical.byContradiction fun hG9 => ?_
    obtain ⟨c, tc, rfl, hc⟩ := StrsAre.item g4 i v (by simpa using hv)
    simp only [List.forall_mem_cons] at hsub
    obtain ⟨m1, _⟩ := hsub
    refine hG9 ?_
    clear hG9 F N
    unfold VTurn
    refine wpAny_tests_one ?_
    k_steps
    · rename Option.isSome _ = true => hq
      dsimp only
      rw [nots_has hP] at hq
      rw [namesTake hc, unknownOf_snoc, hq]
      simpa using hJ
    · rename Option.isSome _ = false => hq
      dsimp only
      rw [nots_has hP] at hq
      rw [namesTake hc, unknownOf_snoc, hq]
      exact strs_snoc hJ
  · intro ys hJ D' h tk F' N' off
    replace hJ : StrsAre ys (unknownOf nots r.choices) := by
      rw [show vs.toArray.size = r.choices.length by simp [StrsAre.length g4], List.take_length] at hJ
      exact hJ
    generalize hun' : unknownOf nots r.choices = un at hJ
    have hlu : un.length ≤ 1000 := by rw [← hun']; exact Nat.le_trans (List.length_filter_le _ _) hsz
    clear F N
    dsimp only
    k_steps
    rename Fr _ _ _ _ => F
    rename News _ _ _ _ => N
    refine lcN_val (fun i zs => StrsAre zs ((un.take i).map nfText)) (fun _ _ _ _ => finA_mono) hh F N (.list (.inr ⟨_, by k_extra "M mem", rfl, _, rfl⟩)) (fewer (by simpa [StrsAre.length hJ] using hlu)) .nil ?_ ?_
    · intro i v I oI D' oL C m₂ h tk ys nw E' hi hv hx hJ2 hsub F' N'
      refine Classical.byContradiction fun hG9 => ?_
      obtain ⟨c, tc, rfl, hc⟩ := StrsAre.item hJ i v (by simpa using hv)
      have hcs : Sh c := hok c ((List.mem_filter.mp (show c ∈ unknownOf nots r.choices by rw [hun']; exact List.mem_of_getElem? hc)).1)
      have hcl := hcs.2
      refine hG9 ?_
      clear hG9 F N
      unfold VTurn
      refine wpAny_tests_nil ?_
      k_steps
      dsimp only
      rw [namesTake hc, List.map_append]
      exact strs_snoc hJ2
    · intro zs hJ2 D2 h tk F' N' off
      replace hJ2 : StrsAre zs (un.map nfText) := by
        rw [show ys.toArray.size = un.length by simp [StrsAre.length hJ], List.take_length] at hJ2
        exact hJ2
      have hzl : zs.length ≤ 1000 := by rw [StrsAre.length hJ2, List.length_map]; exact hlu
      clear F N
      replace off := allNe_of off
      replace off := neA_of off
      try dsimp only [Mine.adr] at off
      dsimp only
      rcases hE.2 x with ⟨e1, e2⟩ | ⟨e, v, as, e1, e2, e3, e4⟩
      · k_steps
        rename Fr _ _ _ _ => F
        rename News _ _ _ _ => N
        have z := N _ (List.mem_cons_of_mem _ List.mem_cons_self)
        exact k _ _ _ _ _ F.keep z.1 z.2.2 (by simpa [nfOf, isEmptyM, e1, hun'] using hJ2)
      · k_steps
        · rename Fr _ _ _ _ => F
          rename News _ _ _ _ => N
          rename _ = true => hq
          have z := N _ (List.mem_cons_of_mem _ List.mem_cons_self)
          exact k _ _ _ _ _ F.keep z.1 z.2.2 (by
            have hq' : PyData.eqv e emptyD = true := hq
            simpa [nfOf, isEmptyM, e1, hun', hq', emText] using strs_snoc hJ2)
        · rename Fr _ _ _ _ => F
          rename News _ _ _ _ => N
          rename _ = false => hq
          have z := N _ (List.mem_cons_of_mem _ List.mem_cons_self)
          exact k _ _ _ _ _ F.keep z.1 z.2.2 (by
            have hq' : PyData.eqv e emptyD = false := hq
            simpa [nfOf, isEmptyM, e1, hun', hq'] using hJ2)
end Mine
theorem Mine.offR6 : True := by
  w_top off
  trivial
set_option maxHeartbeats 2000000
namespace Mine
theorem nf_len {nots : List Str} {mo : Str → Option PyData} {r : Rule} {x y : Str} {ys : List Value} (h : StrsAre ys (nfOf nots mo r x y)) : ys.length ≤ r.choices.length + 1 := by
  rw [StrsAre.length h]
  unfold nfOf
  rw [List.length_append, List.length_map]
  have h1 : (unknownOf nots r.choices).length ≤ r.choices.length := List.length_filter_le _ _
  split
  · rw [List.length_singleton]; omega
  · rw [List.length_nil]; omega
theorem add_L {prog : Program} {w : World} {A : Around} {E : Value → Shared → Prop} {s : Shared} {h₀ : Heap} {L a b : Addr} {m : Str → Option Value} {news : List (Addr × Obj)} {xs ys : List Value} {n k : Nat} {Q : Value → Shared → Prop}
    (F : Fr h₀ L s.heap m) (N : News h₀ L s.heap news) (ha : (a, lsn xs n) ∈ news) (hb : (b, lsn ys k) ∈ news) (hz : xs.length + ys.length ≤ 10000000)
    (h : ∀ D h', Fr h₀ L h' m → News h₀ L h' ((D, lsn (xs ++ ys) 0) :: news) → AllNe D news → Q (.ref D) { s with heap := h' }) : wpAny (model prog w) A (binaryOp .Add (.ref a) (.ref b)) Q E s := by
  refine add_lists (vs := xs) (ws := ys) F N ⟨_, N.get ha, rfl, _, rfl⟩ ⟨_, N.get hb, rfl, _, rfl⟩ (fun h' F' N' => ?_) (Nat.le_trans hz (by decide))
  exact h _ h' F' N' (allNe_of fun p hp => Nat.ne_of_lt (Heap.lt_size (N p hp).1))
end Mine
theorem Mine.wordsR61 : True := by
  k_with "!binaryOp Add ref ref" => (k_here; (with_reducible show wpAny _ _ (binaryOp _ (Value.ref _) (Value.ref _)) _ _ _); k_dflt (refine' Mine.add_L (by k_asm) (by k_asm) (by k_extra "M mem") (by k_extra "M mem") (by ((try simp only [List.length_append, List.length_singleton]); omega)) ?_ ); intro D' h' F' N' ne'; (replace ne' := Mine.neA_of ne'); (try dsimp only [Mine.adr] at ne'); (try k_sweep))
  k_with "!call ref" => (k_here; k_dflt ((refine' Mine.c_nf (by k_asm) (by k_asm) (by k_asm) (by k_asm) (by k_extra "M room") (by k_extra "M units") (by k_extra "M handled") (by k_asm) (by k_asm) (by k_asm) (by k_asm) (by with_reducible assumption) (by with_reducible assumption) (by with_reducible assumption) (by with_reducible assumption) ?_); (intro h' tk' a' ys' n' F' N' ne' hS'; (have hnl' := Mine.nf_len hS'); (replace ne' := Mine.allNe_of ne'); (replace ne' := Mine.neA_of ne'); (try dsimp only [Mine.adr] at ne'); try k_sweep)))
  trivial

namespace Mine
theorem fill6 : PySem.Challenge.rw_on0181_01 = PySem.Challenge.rw_on0181_01 ∧ heapK = heapK := by
  k_fill
  exact ⟨rfl, rfl⟩
def twoText (x k : Str) : Str := x ++ Str.ofString " has two attributes of the kind " ++ k
def kinds2 : List Str := [Str.ofString "ID", Str.ofString "notation"]
theorem kinds2_len : ∀ k ∈ kinds2, k.length ≤ 1000 := by decide +kernel
def twoOf (rs : Rules) (x : Str) (ks : List Str) : List Str := (ks.filter fun k => decide ((namesOf rs k).length > 1)).map (twoText x)
theorem twoOf_snoc (rs : Rules) (x : Str) (ks : List Str) (k : Str) : twoOf rs x (ks ++ [k]) = twoOf rs x ks ++ (if (namesOf rs k).length > 1 then [twoText x k] else []) := by
  unfold twoOf
  rw [List.filter_append, List.map_append]
  congr 1
  by_cases h : (namesOf rs k).length > 1 <;> simp [h]
def RuleOk (e : Str × Rule) : Prop := e.1.length ≤ 1000 ∧ e.2.choices.length ≤ 100 ∧ ∀ c ∈ e.2.choices, Sh c
def idText (x y : Str) : Str := Str.ofString "the ID " ++ y ++ Str.ofString " of " ++ x ++ Str.ofString " has a default"
def idOf (x : Str) (e : Str × Rule) : List Str := if (e.2.kind == Str.ofString "ID" && !([Str.ofString "required", Str.ofString "implied"].any fun z => z == e.2.mode)) = true then [idText x e.1] else []
def ruleF (nots : List Str) (mo : Str → Option PyData) (x : Str) (e : Str × Rule) : List Str :=
  idOf x e ++ (if (e.2.kind == Str.ofString "notation") = true then nfOf nots mo e.2 x e.1 else [])
def efOf (nots : List Str) (mo : Str → Option PyData) (rs : Rules) (x : Str) : List Str := twoOf rs x kinds2 ++ rs.flatMap (ruleF nots mo x)
section
variable {nots : List Str} {mo : Str → Option PyData} {x : Str} {l : Rules} {i : Nat} {r : Str × Rule} {ys zs : List Value} {acc : List Str} {t : Tok}
theorem rf_c0 (h : (r.2.kind == Str.ofString "ID") = false) : (r.2.kind == Str.ofString "ID" && !([Str.ofString "required", Str.ofString "implied"].any fun z => z == r.2.mode)) = false := by rw [h]; rfl
theorem rf_c1 (h : (r.2.kind == Str.ofString "ID") = true) (h' : ([Str.ofString "required", Str.ofString "implied"].any fun z => z == r.2.mode) = true) : (r.2.kind == Str.ofString "ID" && !([Str.ofString "required", Str.ofString "implied"].any fun z => z == r.2.mode)) = false := by rw [h, h']; rfl
theorem rf_c2 (h : (r.2.kind == Str.ofString "ID") = true) (h' : ([Str.ofString "required", Str.ofString "implied"].any fun z => z == r.2.mode) = false) : (r.2.kind == Str.ofString "ID" && !([Str.ofString "required", Str.ofString "implied"].any fun z => z == r.2.mode)) = true := by rw [h, h']; rfl
theorem idN (hS : StrsAre ys acc) (hc : (r.2.kind == Str.ofString "ID" && !([Str.ofString "required", Str.ofString "implied"].any fun z => z == r.2.mode)) = false) : StrsAre ys (acc ++ idOf x r) := by
  unfold idOf; rw [hc, if_neg Bool.false_ne_true, List.append_nil]; exact hS
theorem idY (hS : StrsAre ys acc) (hc : (r.2.kind == Str.ofString "ID" && !([Str.ofString "required", Str.ofString "implied"].any fun z => z == r.2.mode)) = true) : StrsAre (ys ++ [.str (idText x r.1) t]) (acc ++ idOf x r) := by
  unfold idOf; rw [hc, if_pos rfl]; exact StrsAre.append' hS (.cons _ _ .nil)
theorem rf0 (hS : StrsAre ys (acc ++ (l.take i).flatMap (ruleF nots mo x) ++ idOf x r)) (hr : l[i]? = some r) (hd : (r.2.kind == Str.ofString "notation") = false) : StrsAre ys (acc ++ (l.take (i + 1)).flatMap (ruleF nots mo x)) := by
  rw [namesTake hr, List.flatMap_append, ← List.append_assoc]
  have e : ([r].flatMap (ruleF nots mo x)) = idOf x r := by
    rw [List.flatMap_singleton]
    unfold ruleF
    rw [if_neg (by rw [hd]; exact Bool.false_ne_true), List.append_nil]
  rw [e]; exact hS
theorem rf1 (hS : StrsAre ys (acc ++ (l.take i).flatMap (ruleF nots mo x) ++ idOf x r)) (hr : l[i]? = some r) (hd : (r.2.kind == Str.ofString "notation") = true) (hz : StrsAre zs (nfOf nots mo r.2 x r.1)) :
    StrsAre (ys ++ zs) (acc ++ (l.take (i + 1)).flatMap (ruleF nots mo x)) := by
  rw [namesTake hr, List.flatMap_append, ← List.append_assoc]
  have e : ([r].flatMap (ruleF nots mo x)) = idOf x r ++ nfOf nots mo r.2 x r.1 := by
    rw [List.flatMap_singleton]
    unfold ruleF
    rw [if_pos hd]
  rw [e, ← List.append_assoc]; exact StrsAre.append' hS hz
end
theorem upd3_init {a b c : Str} {w : Option Value} {m : Str → Option Value} (h : m c = w) : m = fun z => if z = a then m z else if z = b then m z else if z = c then w else m z := by
  funext z
  by_cases h1 : z = a
  · rw [if_pos h1]
  by_cases h2 : z = b
  · rw [if_neg h1, if_pos h2]
  by_cases h3 : z = c
  · rw [if_neg h1, if_neg h2, if_pos h3, h3, h]
  · rw [if_neg h1, if_neg h2, if_neg h3]
theorem upd3_at {a b c : Str} {w : Option Value} {M m : Str → Option Value} (h : M c = w) (hr : ∀ z, z ≠ a → z ≠ b → z ≠ c → M z = m z) : M = fun z => if z = a then M z else if z = b then M z else if z = c then w else m z := by
  funext z
  by_cases h1 : z = a
  · rw [if_pos h1]
  by_cases h2 : z = b
  · rw [if_neg h1, if_pos h2]
  by_cases h3 : z = c
  · rw [if_neg h1, if_neg h2, if_pos h3, h3, h]
  · rw [if_neg h1, if_neg h2, if_neg h3]; exact hr z h1 h2 h3
theorem c_ef {w : World} {A : Around} {s : Shared} {h₀ : Heap} {L : Addr} {m : Str → Option Value} {news : List (Addr × Obj)} {D E At Nt : Addr} {x : Str} {t : Tok} {Q Ex : Value → Shared → Prop} {p : Program} {loose : List Str} {mg mb : Str → Option Value}
    {nots : List Str} {mo : Str → Option PyData} {σ : AllRules} {kvE : List (Str × Value)} (F : Fr h₀ L s.heap m) (N : News h₀ L s.heap news)
    (X : (heapK w.params).In h₀) (T : TopRead p loose mg mb h₀) (hroom : A.depth + 30 < recursionLimit) (hun : A.units + 200 < cLine) (hh : A.handled = none)
    (hD : DtdAt h₀ D E At Nt) (hN : NotsAt w h₀ Nt nots) (hE : ModsAt w h₀ E kvE mo) (hA : Attrs w h₀ At σ) (hx : x.length ≤ 1000) (hsz : (rulesOf σ x).length ≤ 1000) (hro : ∀ e ∈ rulesOf σ x, RuleOk e)
    (k : ∀ h' tk' a ys n, Fr h₀ L h' m → News h₀ L h' ((a, lsn ys n) :: news) → (∀ p ∈ news, p.1 ≠ a) → StrsAre ys (efOf nots mo (rulesOf σ x) x) → ys.length ≤ 2 + 102 * (rulesOf σ x).length → Q (.ref a) { s with heap := h', toks := tk' }) :
    wpAny (model PR w) A (call (.ref 164) [.ref D, .str x t]) Q Ex s := by
  obtain ⟨dD, q1, q2, q3, q4, t1, t2, t3, t4, t5, n, hD1, hD2⟩ := (hD.kp F.keep).it
  replace hE := hE.kp F.keep
  replace hN := hN.kp F.keep
  replace hA := hA.kp F.keep
  replace X := X.keeps F.keep
  replace T := T.keeps F.keep
  replace hD := hD.kp F.keep
  replace k := fun h' tk' a ys n (hk : Kp s.heap h') (ha : h'.get? a = some (lsn ys n)) (hn : s.heap.get? a = none) => k h' tk' a ys n (F.keeps hk) (news_new F N hk ha hn) (ne_new N hn)
  clear F N
  k_dflt (refine' enter [("self", .ref D), ("element", .str x t)] ?X ?T ?ho ?hcd ?hroom ?hbind ?hloc ?_ ?c1 ?c2 ?c3 ?c4; k_extra "M enter")
  k_steps
  rename_i l' _ _ _ D' _ F N l1
  refine fo_introQ F N (srcs := [(D', { cls := Value.type "tuple", data := Data.seq #[Value.str (Str.ofString "ID") tk, Value.str (Str.ofString "notation") (tk + 1)] })]) .tupN
    (fun m₀ i m nw => ∃ (u : Str → Option Value) (ys : List Value) (n : Nat), m = (fun z => if z = Str.ofString "kind" then u z else m₀ z) ∧ nw = [(D', { cls := Value.type "tuple", data := Data.seq #[Value.str (Str.ofString "ID") tk, Value.str (Str.ofString "notation") (tk + 1)] }), (l', lsn ys n)] ∧ StrsAre ys (twoOf (rulesOf σ x) x (kinds2.take i)) ∧ ys.length ≤ i)
    hh ⟨_, [], 0, by funext z; exact (ite_self _).symm, rfl, .nil, Nat.le_refl _⟩ (fun i m' nw hj p hp => ?_) (.inl ⟨_, _, rfl⟩) ?_ ?_
  · obtain ⟨_, _, _, _, rfl, _⟩ := hj
    rw [List.mem_singleton.mp hp]; exact .head _
  · intro i v I oI m₁ nw h tk' hi hv hJ F' N' off Q9 hQ9
    refine Classical.byContradiction fun hG9 => ?_
    obtain ⟨u, ys, n, rfl, rfl, hS, hyl⟩ := hJ
    replace hi : i < 2 := hi
    replace off := neA_of off
    try dsimp only [Mine.adr] at off
    have hSk : StrsAre [Value.str (Str.ofString "ID") tk, Value.str (Str.ofString "notation") (tk + 1)] kinds2 := .cons _ _ (.cons _ _ .nil)
    obtain ⟨kk, tt, rfl, hk⟩ := StrsAre.item hSk i v (by simpa using hv)
    have hkl : kk.length ≤ 1000 := kinds2_len kk (List.mem_of_getElem? hk)
    refine hG9 ?_
    clear hG9 F N
    k_steps
    · rename (_ : Int) < _ => hq
      have hq' : (namesOf (rulesOf σ x) kk).length > 1 := by omega
      refine hQ9 _ _ ?_
      refine' FEnd.intro _ (by k_asm) (by k_asm) (by k_extra "M mem") ?s0 ⟨fun _ => _, _, _, upd_upd _ _ _ _, rfl, ?a0, ?b0⟩
      (case s0 => k_extra "M fsub")
      · rw [namesTake hk, twoOf_snoc, if_pos hq']
        exact strs_snoc hS
      · rw [List.length_append, List.length_singleton]; omega
    · rename ¬ ((_ : Int) < _) => hq
      have hq' : ¬ (namesOf (rulesOf σ x) kk).length > 1 := by omega
      refine hQ9 _ _ ?_
      refine' FEnd.intro _ (by k_asm) (by k_asm) (by k_extra "M mem") ?s1 ⟨fun _ => _, _, _, upd_upd _ _ _ _, rfl, ?a1, ?b1⟩
      (case s1 => k_extra "M fsub")
      · rw [namesTake hk, twoOf_snoc, if_neg hq', List.append_nil]
        exact hS
      · omega
  · intro h tk' m₁ nw F' N' hJ
    refine Classical.byContradiction fun hG9 => ?_
    obtain ⟨u, ys, n, rfl, rfl, hS, hyl⟩ := hJ
    replace hS : StrsAre ys (twoOf (rulesOf σ x) x kinds2) := hS
    replace hyl : ys.length ≤ 2 := hyl
    generalize htw : twoOf (rulesOf σ x) x kinds2 = tw at hS
    refine hG9 ?_
    clear hG9 F N
    k_steps
    · rename SD _ _ _ _ => hSd
      rename Paired _ _ _ => hP
      rename Fr _ _ _ _ => F
      rename News _ _ _ _ => N
      have hlen := Paired.length hP
      refine fo_introQ F (news := [(l', lsn ys n)]) (fun p hp => N p (by rw [List.mem_singleton.mp hp]; exact .tail _ (.head _))) (.dict hSd.1 hSd.2)
        (fun m₀ i m nw => ∃ (u v : Str → Option Value) (Fd : Addr) (ys : List Value) (n : Nat), m = (fun z => if z = Str.ofString "name" then u z else if z = Str.ofString "rule" then v z else if z = Str.ofString "found" then some (Value.ref Fd) else m₀ z) ∧ nw = [(Fd, lsn ys n)] ∧ StrsAre ys (tw ++ ((rulesOf σ x).take i).flatMap (ruleF nots mo x)) ∧ ys.length ≤ 2 + 102 * i)
        hh ⟨_, _, l', ys, n, upd3_init rfl, rfl, by simpa using hS, hyl⟩ (fun i m' nw hj p hp => nomatch hp) (.inl ⟨_, _, rfl⟩) ?_ ?_
      · intro i v I oI m₁ nw h tk' hi hv hJ F' N' off Q9 hQ9
        refine Classical.byContradiction fun hG9 => ?_
        obtain ⟨u, uv, Fd, ys, n, rfl, rfl, hS, hyl⟩ := hJ
        replace off := neA_of off
        try dsimp only [Mine.adr] at off
        obtain ⟨kk, vv, hkv, hk⟩ := hv
        obtain ⟨tt, rfl⟩ := isStr_key hk
        obtain ⟨r, hr, e1, xr, e2, hobj⟩ := paired_get hP i _ hkv
        dsimp only at e1 e2
        subst e2
        have hval := valueAt_get hSd.nodup hkv
        obtain ⟨dx, ch, vs, p1, p2, p3, p4, u1, u2, u3, u4, uk, um, vv, n2, g1, g2, g3, g4, g5⟩ := id hobj
        obtain ⟨o1, o2, o3⟩ := hro r (List.mem_of_getElem? hr)
        rw [← e1] at o1
        have o4 : r.2.choices.length ≤ 1000 := Nat.le_trans o2 (by decide)
        refine hG9 ?_
        clear hG9 F N
        refine turn_cut2 F' N' (D := Fd) (ys := ys) (n := n) (by k_extra "M memL") (by k_updF) (Str.ofString "rule") (Str.ofString "name") (.ref xr) (.str kk tt) (fun zs => StrsAre zs (tw ++ ((rulesOf σ x).take i).flatMap (ruleF nots mo x) ++ idOf x r) ∧ zs.length ≤ ys.length + 1) ?_ ?_
        · k_steps
          all_goals (
            rename Fr _ _ _ _ => F9
            rename News _ _ _ _ => N9
            refine CutP.mk F9 N9 (by k_extra "M memall") ⟨?_, ?_⟩
            · subst e1
              first
              | exact idN hS (by first | exact rf_c0 (by assumption) | exact rf_c1 (by assumption) (by assumption))
              | exact idY hS (rf_c2 (by assumption) (by assumption))
            · (try simp only [List.length_append, List.length_singleton]); omega)
        · intro h tk' zs n' F' N' hSz
          obtain ⟨hS, hzl⟩ := hSz
          have hyl' : zs.length ≤ 3 + 102 * i := by omega
          clear hyl hzl
          try dsimp only at N'
          k_steps
          all_goals (
            rename Fr _ _ _ _ => F9
            rename News _ _ _ _ => N9
            refine hQ9 _ _ ?_
            refine FEnd.intro _ F9 N9 (by k_extra "M mem") (by k_extra "M fsub") ⟨_, _, _, _, _, upd3_at rfl (fun z z1 z2 z3 => by k_extra "M skip"), rfl, ?_, ?_⟩
            · subst e1
              first
              | exact rf0 hS hr (by assumption)
              | exact rf1 hS hr (by assumption) (by assumption)
            · (try simp only [List.length_append, List.length_singleton]); omega)
      · intro h tk' m₁ nw F' N' hJ
        refine Classical.byContradiction fun hG9 => ?_
        obtain ⟨u, uv, Fd, ys, n, rfl, rfl, hS, hyl⟩ := hJ
        refine hG9 ?_
        clear hG9 F N
        k_steps
        dsimp only
        k_steps
        rw [hlen, List.take_length, ← htw] at hS
        exact k _ _ _ _ _ F'.keep (N' _ (.head _)).1 (N' _ (.head _)).2.2 hS (hlen ▸ hyl)
    · rename rulesOf _ _ = [] => hr
      rename Obj.IsDictOf (strKind _ _) _ _ => hs
      rename (_ == sysModules) = false => lo
      rename Fr _ _ _ _ => F
      rename News _ _ _ _ => N
      refine fo_introQ F N (.dictN lo hs) (fun m₀ i m nw => m = m₀ ∧ nw = _) hh ⟨rfl, rfl⟩ (fun i m' nw hj p hp => ?_) (.inl ⟨_, _, rfl⟩) (fun i v I oI m₁ nw h tk' hi => absurd hi (Nat.not_lt_zero _)) ?_
      · rw [hj.2, List.mem_singleton.mp hp]; k_extra "M mem"
      · intro h tk' m₁ nw F' N' hJ
        refine Classical.byContradiction fun hG9 => ?_
        obtain ⟨rfl, rfl⟩ := hJ
        refine hG9 ?_
        clear hG9 F N
        dsimp only
        k_steps
        rename Fr _ _ _ _ => F
        rename News _ _ _ _ => N
        have z := N (l', lsn ys n) (by k_extra "M mem")
        refine k _ _ _ _ _ F.keep z.1 z.2.2 (by rw [hr]; unfold efOf; rw [hr] at htw; rw [htw]; simpa using hS) (by omega)
end Mine
theorem Mine.offR7 : True := by
  w_top off
  trivial
set_option maxHeartbeats 400000
theorem Mine.wordsR71 : True := by
  k_with "!call ref" => (k_here; k_dflt ((refine' Mine.c_ef (by k_asm) (by k_asm) (by k_asm) (by k_asm) (by k_extra "M room") (by k_extra "M units") (by k_extra "M handled") (by k_asm) (by k_asm) (by k_asm) (by k_asm) (by with_reducible assumption) (by with_reducible assumption) (by with_reducible assumption) ?_); (intro h' tk' a' ys' n' F' N' ne' hS' hl'; (replace ne' := Mine.allNe_of ne'); (replace ne' := Mine.neA_of ne'); (try dsimp only [Mine.adr] at ne'); try k_sweep)))
  trivial

namespace Mine
theorem fill7 : PySem.Challenge.rw_on0181_01 = PySem.Challenge.rw_on0181_01 ∧ heapK = heapK := by
  k_fill
  exact ⟨rfl, rfl⟩
def faultsOf (nots : List Str) (mo : Str → Option PyData) (σ : AllRules) : List Str := σ.flatMap fun e => efOf nots mo (rulesOf σ e.1) e.1
theorem upd2_init {a c : Str} {w : Option Value} {m : Str → Option Value} (h : m c = w) : m = fun z => if z = a then m z else if z = c then w else m z := by
  funext z
  by_cases h1 : z = a
  · rw [if_pos h1]
  by_cases h3 : z = c
  · rw [if_neg h1, if_pos h3, h3, h]
  · rw [if_neg h1, if_neg h3]
theorem upd2_at {a c : Str} {w : Option Value} {M m : Str → Option Value} (h : M c = w) (hr : ∀ z, z ≠ a → z ≠ c → M z = m z) : M = fun z => if z = a then M z else if z = c then w else m z := by
  funext z
  by_cases h1 : z = a
  · rw [if_pos h1]
  by_cases h3 : z = c
  · rw [if_neg h1, if_pos h3, h3, h]
  · rw [if_neg h1, if_neg h3]; exact hr z h1 h3
theorem c_faults {w : World} {A : Around} {s : Shared} {h₀ : Heap} {L : Addr} {m : Str → Option Value} {news : List (Addr × Obj)} {D E At Nt : Addr} {Q Ex : Value → Shared → Prop} {p : Program} {loose : List Str} {mg mb : Str → Option Value}
    {nots : List Str} {mo : Str → Option PyData} {σ : AllRules} {kvE : List (Str × Value)} (F : Fr h₀ L s.heap m) (N : News h₀ L s.heap news)
    (X : (heapK w.params).In h₀) (T : TopRead p loose mg mb h₀) (hroom : A.depth + 40 < recursionLimit) (hun : A.units + 300 < cLine) (hh : A.handled = none)
    (hD : DtdAt h₀ D E At Nt) (hN : NotsAt w h₀ Nt nots) (hE : ModsAt w h₀ E kvE mo) (hA : Attrs w h₀ At σ) (hsz : σ.length ≤ 10) (hro : ∀ x, x.length ≤ 1000 → (rulesOf σ x).length ≤ 1000 ∧ ∀ e ∈ rulesOf σ x, RuleOk e) (hx : ∀ e ∈ σ, e.1.length ≤ 1000)
    (k : ∀ h' tk' a ys n, Fr h₀ L h' m → News h₀ L h' ((a, lsn ys n) :: news) → (∀ p ∈ news, p.1 ≠ a) → StrsAre ys (faultsOf nots mo σ) → ys.length ≤ 10000000 → Q (.ref a) { s with heap := h', toks := tk' }) :
    wpAny (model PR w) A (call (.ref 157) [.ref D]) Q Ex s := by
  obtain ⟨dD, q1, q2, q3, q4, t1, t2, t3, t4, t5, n, hD1, hD2⟩ := (hD.kp F.keep).it
  replace hE := hE.kp F.keep
  replace hN := hN.kp F.keep
  replace hA := hA.kp F.keep
  replace X := X.keeps F.keep
  replace T := T.keeps F.keep
  replace hD := hD.kp F.keep
  replace k := fun h' tk' a ys n (hk : Kp s.heap h') (ha : h'.get? a = some (lsn ys n)) (hn : s.heap.get? a = none) => k h' tk' a ys n (F.keeps hk) (news_new F N hk ha hn) (ne_new N hn)
  clear F N
  k_dflt (refine' enter [("self", .ref D)] ?X ?T ?ho ?hcd ?hroom ?hbind ?hloc ?_ ?c1 ?c2 ?c3 ?c4; k_extra "M enter")
  k_steps
  rename Fr _ _ _ _ => F
  rename News _ _ _ _ => N
  obtain ⟨kvs, hSd, hP⟩ := id hA
  have hlen := Paired.length hP
  refine fo_introQ F N (.dict hSd.1 hSd.2)
    (fun m₀ i m nw => ∃ (u : Str → Option Value) (Fd : Addr) (ys : List Value) (n : Nat), m = (fun z => if z = Str.ofString "element" then u z else if z = Str.ofString "found" then some (Value.ref Fd) else m₀ z) ∧ nw = [(Fd, lsn ys n)] ∧ StrsAre ys ((σ.take i).flatMap fun e => efOf nots mo (rulesOf σ e.1) e.1) ∧ ys.length ≤ 102002 * i)
    hh ⟨_, _, [], 0, upd2_init rfl, rfl, .nil, Nat.zero_le _⟩ (fun i m' nw hj p hp => nomatch hp) (.inl ⟨_, _, rfl⟩) ?_ ?_
  · intro i v I oI m₁ nw h tk' hi hv hJ F' N' off Q9 hQ9
    refine Classical.byContradiction fun hG9 => ?_
    obtain ⟨u, Fd, ys, n, rfl, rfl, hS, hyl⟩ := hJ
    replace off := neA_of off
    try dsimp only [Mine.adr] at off
    obtain ⟨kk, vv, hkv, hk⟩ := hv
    obtain ⟨tt, rfl⟩ := isStr_key hk
    obtain ⟨r, hr, e1, e2⟩ := paired_get hP i _ hkv
    have o1 := hx r (List.mem_of_getElem? hr)
    dsimp only at e1
    rw [← e1] at o1
    obtain ⟨o2, o3⟩ := hro kk o1
    refine hG9 ?_
    clear hG9 F N
    k_steps
    rename Fr _ _ _ _ => F9
    rename News _ _ _ _ => N9
    refine hQ9 _ _ ?_
    refine FEnd.intro _ F9 N9 (by k_extra "M mem") (by k_extra "M fsub") ⟨_, _, _, _, upd2_at rfl (fun z z1 z2 => by k_extra "M skip"), rfl, ?_, ?_⟩
    · rw [namesTake hr, List.flatMap_append, List.flatMap_singleton, ← e1]
      exact StrsAre.append' hS (by assumption)
    · simp only [List.length_append]; omega
  · intro h tk' m₁ nw F' N' hJ
    refine Classical.byContradiction fun hG9 => ?_
    obtain ⟨u, Fd, ys, n, rfl, rfl, hS, hyl⟩ := hJ
    refine hG9 ?_
    clear hG9 F N
    dsimp only
    k_steps
    rw [hlen, List.take_length] at hS
    exact k _ _ _ _ _ F'.keep (N' _ (.head _)).1 (N' _ (.head _)).2.2 hS (by omega)
end Mine
theorem Mine.offT0 : True := by
  w_top off
  trivial
set_option maxHeartbeats 400000
namespace Mine
theorem eqv_same {d : PyData} (h : SeqAt.shaped d = true) : PyData.eqv d d = true := SeqAt.eqv_refl d (SeqAt.canLay_of_shaped h)
section
variable {prog : Program} {w : World} {A : Around} {E : Value → Shared → Prop} {s : Shared} {a b : Value} {d : PyData} {as bs : List Addr} {Q : Value → Shared → Prop}
theorem ne_same (ra : Reads s.heap a d as) (rb : Reads s.heap b d bs) (hs : SeqAt.shaped d = true) (hu : A.units + 64 < cLine) (h : Q (.bool false) s) : wpAny (model prog w) A (compareOp .NotEq a b) Q E s :=
  ne_dataH ra rb hs hs hu (by rw [eqv_same hs]; exact h)
theorem eq_same (ra : Reads s.heap a d as) (rb : Reads s.heap b d bs) (hs : SeqAt.shaped d = true) (hu : A.units + 64 < cLine) (h : Q (.bool true) s) : wpAny (model prog w) A (compareOp .Eq a b) Q E s :=
  eq_dataH ra rb hs hs hu (by rw [eqv_same hs]; exact h)
end
theorem ne_mods {w : World} {A : Around} {E' : Value → Shared → Prop} {s : Shared} {h₀ : Heap} {L E M : Addr} {m : Str → Option Value} {kvE kvM : List (Str × Value)} {mo : Str → Option PyData} {x : Str} {Q : Value → Shared → Prop}
    (F : Fr h₀ L s.heap m) (hE : ModsAt w h₀ E kvE mo) (hM : ModsAt w h₀ M kvM mo) (hu : A.units + 64 < cLine) (h : Q (.bool false) s) :
    wpAny (model PR w) A (compareOp .NotEq ((valueAt kvE x).getD .none) ((valueAt kvM x).getD .none)) Q E' s := by
  rcases (hE.kp F.keep).2 x with ⟨e1, e2⟩ | ⟨e, a, as, e1, e2, e3, e4⟩
  · rcases (hM.kp F.keep).2 x with ⟨d1, d2⟩ | ⟨d, b, bs, d1, d2, d3, d4⟩
    · rw [e2, d2]; exact ne_same Reads.none Reads.none (by rfl) hu h
    · rw [e1] at d1; cases d1
  · rcases (hM.kp F.keep).2 x with ⟨d1, d2⟩ | ⟨d, b, bs, d1, d2, d3, d4⟩
    · rw [e1] at d1; cases d1
    · rw [e1] at d1; cases d1
      rw [e2, d2]; exact ne_same e3 d3 e4 hu h
/-- data that may be laid, not deep -/
def Good (k : Nat) (d : PyData) : Prop := PyData.canLay0 d = true ∧ d.depth ≤ k
theorem good_all : ∀ {ds : List PyData} {k : Nat}, (∀ d ∈ ds, Good k d) → PyData.canLayAll0 ds = true ∧ PyData.depthAll ds ≤ k
  | [], k, _ => ⟨rfl, Nat.zero_le _⟩
  | d :: r, k, h => by
    obtain ⟨a, b⟩ := good_all fun x hx => h x (.tail _ hx)
    obtain ⟨p, q⟩ := h d (.head _)
    exact ⟨by simp [PyData.canLayAll0, p, a], by simp [PyData.depthAll]; omega⟩
theorem good_list {ds : List PyData} {k : Nat} (h : ∀ d ∈ ds, Good k d) : Good (k + 1) (.list ds) := by
  obtain ⟨a, b⟩ := good_all h
  exact ⟨by simp [PyData.canLay0, a], by simp [PyData.depth, b]⟩
theorem good_tuple {ds : List PyData} {k : Nat} (h : ∀ d ∈ ds, Good k d) : Good (k + 1) (.tuple ds) := by
  obtain ⟨a, b⟩ := good_all h
  exact ⟨by simp [PyData.canLay0, a], by simp [PyData.depth, b]⟩
theorem good_str {x : Str} {k : Nat} (h : PyData.strOk x = true) : Good k (.str x) := ⟨by simp [PyData.canLay0, h], Nat.zero_le _⟩
theorem good_none {k : Nat} : Good k .none := ⟨rfl, Nat.zero_le _⟩
theorem Good.shaped {d : PyData} {k : Nat} (h : Good k d) (hk : k ≤ 64) : SeqAt.shaped d = true := by
  unfold SeqAt.shaped; rw [h.1, Bool.true_and]; exact decide_eq_true (Nat.le_trans h.2 hk)
/-- a rule of legal texts -/
def RuleGood (r : Rule) : Prop := PyData.strOk r.kind = true ∧ (∀ c ∈ r.choices, PyData.strOk c = true) ∧ PyData.strOk r.mode = true ∧ ∀ v, r.value = some v → PyData.strOk v = true
theorem RuleGood.data {r : Rule} (h : RuleGood r) : Good 2 r.data := by
  obtain ⟨a, b, c, d⟩ := h
  unfold Rule.data
  refine good_tuple fun x hx => ?_
  simp only [List.mem_cons, List.not_mem_nil, or_false] at hx
  rcases hx with rfl | rfl | rfl | rfl
  · exact good_str a
  · refine good_tuple fun y hy => ?_
    obtain ⟨z, hz, rfl⟩ := List.mem_map.mp hy
    exact good_str (b z hz)
  · exact good_str c
  · cases hv : r.value with
    | none => exact good_none
    | some v => exact good_str (d v hv)
/-- a tuple that stands for a rule's row, its choices in the base -/
def RowO (h : Heap) (o : Obj) (r : Rule) : Prop := ∃ (ch : Addr) (vs : List Value) (tk tm : Tok) (vv : Value) (n : Nat), o.cls = .type "tuple" ∧ o.data = .seq #[.str r.kind tk, .ref ch, .str r.mode tm, vv] n ∧ h.IsTuple ch vs.toArray ∧ StrsAre vs r.choices ∧ ValIs r.value vv
theorem val_reads {h : Heap} : ∀ {o : Option Str} {v : Value}, ValIs o v → Reads h v (valD o) []
  | none, _, rfl => Reads.none
  | some x, _, ⟨t, rfl⟩ => Reads.str _ _
theorem tup_reads {h : Heap} {a : Addr} {vs : List Value} {xs : List Str} (ht : h.IsTuple a vs.toArray) (S : StrsAre vs xs) : Reads h (.ref a) (.tuple (xs.map .str)) [] := by
  obtain ⟨o, e, c, n, d⟩ := ht
  exact reads_tuple_at e c d (by simpa using S.reads h)
theorem RowO.reads {h₀ h : Heap} {a : Addr} {o : Obj} {r : Rule} (x : RowO h₀ o r) (k : Kp h₀ h) (e : h.get? a = some o) : Reads h (.ref a) r.data [] := by
  obtain ⟨ch, vs, tk, tm, vv, n, c, d, ht, hS, hv⟩ := x
  have q := tup_reads (ht.at fun o q => k _ o q) hS
  exact reads_tuple_at e c d (.cons (Reads.str _ _) (.cons q (.cons (Reads.str _ _) (.cons (val_reads hv) .nil))))
theorem RowAt.o {h : Heap} {a : Addr} {r : Rule} (x : RowAt h a r) : ∃ o, h.get? a = some o ∧ RowO h o r := by
  obtain ⟨ch, vs, tk, tm, vv, ⟨o, e, c, n, d⟩, x2, x3, x4⟩ := x
  exact ⟨o, e, ch, vs, tk, tm, vv, n, c, d, x2, x3, x4⟩
theorem reads_rows {h : Heap} : ∀ {vs : List Value} {rs : Rules}, Paired (fun v (e : Str × Rule) => ∃ a, v = .ref a ∧ Reads h (.ref a) e.2.data []) vs rs → ReadsAll h vs (rs.map fun e => e.2.data) []
  | _, _, .nil => .nil
  | _, _, .cons ⟨a, e, q⟩ p => by subst e; exact .cons q (reads_rows p)
theorem rulesOf_len {σ : AllRules} {n : Nat} (h : ∀ e ∈ σ, e.2.length ≤ n) (x : Str) : (rulesOf σ x).length ≤ n := by
  unfold rulesOf look
  cases e : σ.find? fun e => e.1 = x with
  | none => simp
  | some r => exact h r (List.mem_of_find?_eq_some e)
theorem rulesOf_all {σ : AllRules} {P : Str × Rule → Prop} (h : ∀ e ∈ σ, ∀ r ∈ e.2, P r) (x : Str) : ∀ r ∈ rulesOf σ x, P r := by
  unfold rulesOf look
  cases e : σ.find? fun e => e.1 = x with
  | none => simp
  | some r => exact h r (List.mem_of_find?_eq_some e)
theorem names_paired {h : Heap} {G : Value → Rule → Prop} : ∀ {kvs : List (Str × Value)} {rs : Rules}, Paired (fun kv e => kv.1 = e.1 ∧ G kv.2 e.2) kvs rs → kvs.map (·.1) = rs.map (·.1)
  | _, _, .nil => rfl
  | _, _, .cons f p => by rw [List.map_cons, List.map_cons, f.1, names_paired (h := h) p]
theorem strs_keys {w : World} : ∀ {vs : List Value} {kvs : List (Str × Value)}, vs.length = kvs.length → (∀ (j : Nat) (v : Value), vs[j]? = some v → ∃ (k : Str) (x : Value), kvs[j]? = some (k, x) ∧ (PySem.strKind PR w).is k v = true) → StrsAre vs (kvs.map (·.1))
  | [], [], _, _ => .nil
  | [], _ :: _, h, _ => by simp at h
  | _ :: _, [], h, _ => by simp at h
  | v :: r, kv :: t, h, q => by
    obtain ⟨k, x, e, hk⟩ := q 0 v rfl
    simp at e; subst e
    obtain ⟨t', rfl⟩ := isStr_key hk
    exact .cons _ _ (strs_keys (by simpa using h) fun j v hv => by simpa using q (j + 1) v (by simpa using hv))
section
variable {w : World} {A : Around} {E : Value → Shared → Prop} {s : Shared} {h₀ : Heap} {L d : Addr} {m : Str → Option Value} {news : List (Addr × Obj)} {kvs : List (Str × Value)} {rs : Rules} {G : Value → Rule → Prop} {Q : Value → Shared → Prop}
theorem list_sd (hh : A.handled = none) (F : Fr h₀ L s.heap m) (N : News h₀ L s.heap news) (S : SD w s.heap d kvs) (P : Paired (fun kv e => kv.1 = e.1 ∧ G kv.2 e.2) kvs rs) (hsz : rs.length ≤ 1000)
    (h : ∀ D c h' tk vs, Fr h₀ L h' m → News h₀ L h' ((D, lsn vs c) :: news) → AllNe D news → StrsAre vs (rs.map (·.1)) → Q (.ref D) { s with heap := h', toks := tk }) :
    wpAny (model PR w) A (call (.type "list") [.ref d]) Q E s := by
  obtain ⟨lo, hD⟩ := S
  obtain ⟨ep, hDa⟩ := hD.dictAt
  refine kdl_N (kdl_dict (knd := PySem.strKind PR w) (ep := ep) lo) hh F N hDa (by rw [Paired.length P]; exact fewer hsz) fun D c h' tk vs F' N' l1 hl hp => ?_
  exact h D c h' tk vs F' N' (allNe_of fun p hp => Nat.ne_of_lt (l1 p hp)) (by rw [← names_paired (h := h₀) P]; exact strs_keys hl hp)
end
end Mine
theorem Mine.offT1 : True := by
  w_top off
  trivial
set_option maxHeartbeats 400000
namespace Mine
section
variable {prog : Program} {w : World} {A : Around} {h₀ : Heap} {L : Addr} {m : Str → Option Value} {env : Env}
/-- a turn whose element is an object just made -/
def OTurn (prog : Program) (w : World) (A : Around) (h₀ : Heap) (C : Addr) (m₂ : Str → Option Value) (cenv : Env) (elt : Expr) (G : Obj → Prop) (keep : List (Addr × Obj)) (I D L : Addr) (E' : Value → Shared → Prop) (s : Shared) : Prop :=
  wpAny (model prog w) A (eval elt cenv) (fun y s₄ => ∃ a o, y = .ref a ∧ CEnd h₀ C m₂ ((a, o) :: keep) s s₄ ∧ (a ≠ I ∧ a ≠ D ∧ a ≠ L) ∧ G o) E' s
def ObjsIn {β : Type} (G : Obj → β → Prop) (nw : List (Addr × Obj)) (ys : List Value) (l : List β) : Prop := Paired (fun v e => ∃ a o, v = .ref a ∧ (a, o) ∈ nw ∧ G o e) ys l
theorem OTurn.c {β : Type} {G : Obj → β → Prop} {l : List β} {i : Nat} {e : β} {news : List (Addr × Obj)} {C : Addr} {m₂ : Str → Option Value} {cenv : Env} {elt : Expr} {keep : List (Addr × Obj)} {I D L : Addr} {ys : List Value} {nw : List (Addr × Obj)} {E' : Value → Shared → Prop} {s : Shared}
    (h : OTurn prog w A h₀ C m₂ cenv elt (fun o => G o e) keep I D L E' s) (hl : l[i]? = some e) (hs : ∀ q ∈ news, q ∈ nw) (hJ : ObjsIn G nw ys (l.take i)) :
    CTurn prog w A h₀ C m₂ cenv [] elt (fun ys nw => (∀ q ∈ news, q ∈ nw) ∧ ObjsIn G nw ys (l.take (i + 1))) keep I D L ys nw E' s := by
  unfold CTurn
  refine wpAny_tests_nil ?_
  refine wpAny_mono h (fun y s₄ h₄ => ?_) fun _ _ e => e
  obtain ⟨a, o, rfl, hC, hne, hG⟩ := h₄
  refine ⟨[(a, o)], hC, (fun p hp => by rw [List.mem_singleton.mp hp]; exact hne), fun q hq => .tail _ (hs q hq), ?_⟩
  rw [namesTake hl]
  exact paired_append (Paired.mono (fun v e ⟨a, o, x, y, z⟩ => ⟨a, o, x, .tail _ y, z⟩) hJ) (.cons ⟨a, o, rfl, .head _, hG⟩ .nil)

theorem lcP_obj {β : Type} {elt : Expr} {x y : Str} {scope : Scope} {cl : List (Str × Addr)} {Fin : Shared → List Value → List (Addr × Obj) → Prop} {ax : Addr} {s₁ : Shared} {news : List (Addr × Obj)} {its : Array Value} (l : List β) (G : Obj → β → Prop)
    (hh : A.handled = none) (F : Fr h₀ L s₁.heap m) (N : News h₀ L s₁.heap news) (S : SrcAt h₀ ax its news) (hsz : its.size ≤ sizeLine) (hl : its.size = l.length)
    (hP : ∀ (i : Nat) (v : Value), its[i]? = some v → ∃ (T : Addr) (a b : Value), v = Value.ref T ∧ h₀.IsTuple T #[a, b])
    (turn : ∀ (i : Nat) (v : Value) (T : Addr) (a b : Value) (e : β) I oI D oL C m₂ h tk ys nw E', its[i]? = some v → l[i]? = some e → v = Value.ref T → h₀.IsTuple T #[a, b] → m₂ x = some a → m₂ y = some b → (∀ q ∈ news, q ∈ nw) → Fr h₀ C h m₂ → News h₀ C h ((I, oI) :: (D, lst ys) :: (L, oL) :: nw) →
      OTurn prog w A h₀ C m₂ (compEnvC scope cl C env) elt (fun o => G o e) ((I, oI) :: (D, lst ys) :: (L, oL) :: nw) I D L E' { s₁ with heap := h, toks := tk })
    (fin : ∀ ys nw, (∀ q ∈ news, q ∈ nw) → ObjsIn G nw ys l → Fin s₁ ys nw) : LcP prog w A h₀ L m env elt x y [] scope cl Fin (.ref ax) s₁ :=
  ⟨news, ax, its, fun i ys nw => (∀ q ∈ news, q ∈ nw) ∧ ObjsIn G nw ys (l.take i), rfl, hh, F, N, S, hsz, ⟨fun _ h => h, .nil⟩, fun _ _ _ h => h.1, hP,
    fun i v T a b I oI D oL C m₂ h tk ys nw E' q1 _ q2 q3 q4 q5 q6 q7 q8 q9 => by
      have hi : i < l.length := hl ▸ q1
      have he : l[i]? = some l[i] := List.getElem?_eq_getElem hi
      exact OTurn.c (turn i v T a b _ I oI D oL C m₂ h tk ys nw E' q2 he q3 q4 q5 q6 q7.1 q8 q9) he q7.1 q7.2, fun ys nw h => fin ys nw h.1 (by have := h.2; rw [hl, List.take_length] at this; exact this)⟩

theorem lcN_obj {β : Type} {elt : Expr} {x : Str} {scope : Scope} {cl : List (Str × Addr)} {Fin : Shared → List Value → List (Addr × Obj) → Prop} {xv : Value} {s₁ : Shared} {news : List (Addr × Obj)} {n : Nat} {P : Nat → Value → Prop} (l : List β) (G : Obj → β → Prop)
    (hh : A.handled = none) (F : Fr h₀ L s₁.heap m) (N : News h₀ L s₁.heap news) (S : SrcK prog w h₀ news xv n P) (hsz : n ≤ sizeLine) (hl : n = l.length)
    (turn : ∀ (i : Nat) (v : Value) (e : β) I oI D oL C m₂ h tk ys nw E', P i v → l[i]? = some e → m₂ x = some v → (∀ q ∈ news, q ∈ nw) → Fr h₀ C h m₂ → News h₀ C h ((I, oI) :: (D, lst ys) :: (L, oL) :: nw) →
      OTurn prog w A h₀ C m₂ (compEnvC scope cl C env) elt (fun o => G o e) ((I, oI) :: (D, lst ys) :: (L, oL) :: nw) I D L E' { s₁ with heap := h, toks := tk })
    (fin : ∀ ys nw, (∀ q ∈ news, q ∈ nw) → ObjsIn G nw ys l → Fin s₁ ys nw) : LcN prog w A h₀ L m env elt x [] scope cl Fin xv s₁ :=
  ⟨news, n, P, fun i ys nw => (∀ q ∈ news, q ∈ nw) ∧ ObjsIn G nw ys (l.take i), hh, F, N, S, hsz, ⟨fun _ h => h, .nil⟩, fun _ _ _ h => h.1,
    fun i v I oI D oL C m₂ h tk ys nw E' q1 _ q3 q4 q5 q6 q7 => by
      have hi : i < l.length := hl ▸ q1
      have he : l[i]? = some l[i] := List.getElem?_eq_getElem hi
      exact OTurn.c (turn i v _ I oI D oL C m₂ h tk ys nw E' q3 he q4 q5.1 q6 q7) he q5.1 q5.2, fun ys nw h => fin ys nw h.1 (by have := h.2; rw [hl, List.take_length] at this; exact this)⟩
end
theorem item_any0 {prog : Program} {w : World} {A : Around} {E : Value → Shared → Prop} {s : Shared} {h₀ : Heap} {L l : Addr} {news : List (Addr × Obj)} {ys : List Value} {n : Nat} {u : Tok} {v : Value} {value slice : Expr} {Q : Value → Shared → Prop}
    (N : News h₀ L s.heap news) (hm : (l, lsn ys n) ∈ news) (h0 : ys[0]? = some v) (h : Q v s)
    (hs : subscripted slice false (.ref l) (.int 0 u) = operate [.ref l, .int 0 u] (getItem (.ref l) (.int 0 u)) := by with_unfolding_all rfl) :
    wpAny (model prog w) A (subscriptTail value slice (.ref l) (.int 0 u)) Q E s := by
  have hl : s.heap.IsList l ys.toArray := ⟨_, N.get hm, rfl, _, rfl⟩
  exact tail_any hl.typeIs slot_list_getitem.lookup (wpAny_getItem_list hl (by decide) (by decide) (by simpa using h0) h) hs
def HeadIs (names : List Str) (v : Value) : Prop := (names = [] ∧ v = .none) ∨ ∃ y r t, names = y :: r ∧ v = .str y t
theorem head_of {zs : List Value} {names : List Str} (h : StrsAre zs names) : ∃ v, (zs ++ [Value.none])[0]? = some v ∧ HeadIs names v := by
  cases h with
  | nil => exact ⟨.none, rfl, .inl ⟨rfl, rfl⟩⟩
  | cons y t h => exact ⟨_, rfl, .inr ⟨_, _, _, rfl, rfl⟩⟩
theorem ne_heads {prog : Program} {w : World} {A : Around} {E : Value → Shared → Prop} {s : Shared} {names : List Str} {v u : Value} {Q : Value → Shared → Prop} (hv : HeadIs names v) (hu : HeadIs names u) (hok : ∀ x ∈ names, PyData.strOk x = true) (hun : A.units + 64 < cLine) (h : Q (.bool false) s) :
    wpAny (model prog w) A (compareOp .NotEq v u) Q E s := by
  rcases hv with ⟨e, rfl⟩ | ⟨y, r, t, e, rfl⟩
  · rcases hu with ⟨e', rfl⟩ | ⟨y', r', t', e', rfl⟩
    · exact ne_same Reads.none Reads.none (by rfl) hun h
    · rw [e] at e'; cases e'
  · rcases hu with ⟨e', rfl⟩ | ⟨y', r', t', e', rfl⟩
    · rw [e] at e'; cases e'
    · rw [e] at e'; cases e'
      exact ne_same (Reads.str _ _) (Reads.str _ _) ((good_str (k := 0) (hok y (by rw [e]; exact .head _))).shaped (by decide)) hun h
theorem objs_reads {β : Type} {G : Obj → β → Prop} {dt : β → PyData} {h₀ h : Heap} {L : Addr} {nw : List (Addr × Obj)} {ys : List Value} {l : List β} (N : News h₀ L h nw) (hG : ∀ a o e, h.get? a = some o → G o e → Reads h (.ref a) (dt e) []) (p : ObjsIn G nw ys l) : ReadsAll h ys (l.map dt) [] := by
  induction p with
  | nil => exact .nil
  | cons f _ ih =>
    obtain ⟨a, o, rfl, hm, hg⟩ := f
    exact .cons (hG a o _ (N _ hm).1 hg) ih
theorem list_reads {h₀ h : Heap} {L D : Addr} {news : List (Addr × Obj)} {ys : List Value} {n : Nat} {ds : List PyData} {as : List Addr} (N : News h₀ L h news) (hm : (D, lsn ys n) ∈ news) (R : ReadsAll h ys ds as) : Reads h (.ref D) (.list ds) (D :: as) :=
  reads_list_at (N.get hm) rfl rfl (by simpa using R)
theorem nots_at {w : World} {h : Heap} {d : Addr} {kvs : List (Str × Value)} {nots : List Str} (S : SD w h d kvs) (p : Paired (fun kv x => kv.1 = x ∧ NotObj h kv.2 x) kvs nots) {i : Nat} {x : Str} (hx : nots[i]? = some x) : ∃ v, valueAt kvs x = some v ∧ NotObj h v x := by
  have hl := Paired.length p
  have hi : i < kvs.length := by rw [hl]; exact (List.getElem?_eq_some_iff.mp hx).1
  have hkv : kvs[i]? = some kvs[i] := List.getElem?_eq_getElem hi
  obtain ⟨y, hy, e1, e2⟩ := paired_get p i _ hkv
  rw [hx] at hy
  obtain rfl : x = y := Option.some.inj hy
  exact ⟨kvs[i].2, valueAt_get S.nodup (by rw [hkv, ← e1]), e2⟩
theorem len_LE {prog : Program} {w : World} {A : Around} {E : Value → Shared → Prop} {s : Shared} {h₀ : Heap} {L a : Addr} {news : List (Addr × Obj)} {ys : List Value} {n k : Nat} {Q : Value → Shared → Prop}
    (N : News h₀ L s.heap news) (hm : (a, lsn ys n) ∈ news) (hk : ys.length = k) (hl : k ≤ 1000) (h : Q (.int k (s.toks + 1)) { s with toks := s.toks + 1 + 1 }) :
    wpAny (model prog w) A (call (.builtin "len") [.ref a]) Q E s := by
  have hL : s.heap.IsList a ys.toArray := ⟨_, N.get hm, rfl, _, rfl⟩
  have e : ys.toArray.size = k := by rw [List.size_toArray]; exact hk
  exact call_len_list hL (by rw [e]; omega) (by rw [e]; exact h)
theorem len_SE {w : World} {A : Around} {E : Value → Shared → Prop} {s : Shared} {h₀ : Heap} {L d : Addr} {m : Str → Option Value} {kvs : List (Str × Value)} {k : Nat} {Q : Value → Shared → Prop}
    (F : Fr h₀ L s.heap m) (S : SD w h₀ d kvs) (hk : kvs.length = k) (hl : k ≤ 1000) (h : Q (.int k (s.toks + 1)) { s with toks := s.toks + 1 + 1 }) :
    wpAny (model PR w) A (call (.builtin "len") [.ref d]) Q E s := by
  subst hk
  exact sd_len (S.fr F) (by omega) h
theorem faults_ok {nots : List Str} {mo : Str → Option PyData} {σ : AllRules} (hk : ∀ e ∈ σ, PyData.strOk e.1 = true) (hr : ∀ e ∈ σ, ∀ r ∈ e.2, PyData.strOk r.1 = true ∧ RuleOk r) : ∀ x ∈ faultsOf nots mo σ, PyData.strOk x = true := by
  intro x hx
  unfold faultsOf at hx
  obtain ⟨e, he, hx⟩ := List.mem_flatMap.mp hx
  have hek := hk e he
  have hrs := rulesOf_all hr e.1
  unfold efOf at hx
  rcases List.mem_append.mp hx with hx | hx
  · unfold twoOf at hx
    obtain ⟨k, hkk, rfl⟩ := List.mem_map.mp hx
    have hkk' := (List.mem_filter.mp hkk).1
    have hko : PyData.strOk k = true := by
      have : ∀ k ∈ kinds2, PyData.strOk k = true := by decide +kernel
      exact this k hkk'
    exact ok_app (ok_app hek (by decide +kernel)) hko
  · obtain ⟨r, hr, hx⟩ := List.mem_flatMap.mp hx
    obtain ⟨hr1, hr2⟩ := hrs r hr
    unfold ruleF at hx
    rcases List.mem_append.mp hx with hx | hx
    · unfold idOf at hx
      split at hx
      · rw [List.mem_singleton.mp hx]
        exact ok_app (ok_app (ok_app (ok_app (by decide +kernel) hr1) (by decide +kernel)) hek) (by decide +kernel)
      · nomatch hx
    · split at hx
      · unfold nfOf at hx
        rcases List.mem_append.mp hx with hx | hx
        · obtain ⟨c, hc, rfl⟩ := List.mem_map.mp hx
          have hc' := (hr2.2.2 c (List.mem_filter.mp hc).1).1
          exact ok_app (ok_app (by decide +kernel) hc') (by decide +kernel)
        · split at hx
          · rw [List.mem_singleton.mp hx]
            exact ok_app (ok_app (ok_app (by decide +kernel) hek) (by decide +kernel)) hr1
          · nomatch hx
      · nomatch hx
def RowN (o : Obj) (x : Str) : Prop := ∃ t u v n, o.cls = .type "tuple" ∧ o.data = .seq #[.str x t, .str (Str.ofString "p") u, .str (Str.ofString "s") v] n
def rowN (x : Str) : PyData := .tuple [.str x, .str (Str.ofString "p"), .str (Str.ofString "s")]
theorem RowN.reads {h : Heap} {a : Addr} {o : Obj} {x : Str} (e : h.get? a = some o) (r : RowN o x) : Reads h (.ref a) (rowN x) [] := by
  obtain ⟨t, u, v, n, c, d⟩ := r
  exact reads_tuple_at e c d (.cons (Reads.str _ _) (.cons (Reads.str _ _) (.cons (Reads.str _ _) .nil)))
theorem rowsN_shaped {nots : List Str} (h : ∀ x ∈ nots, PyData.strOk x = true) : SeqAt.shaped (.list (nots.map rowN)) = true :=
  (good_list (k := 1) fun d hd => by
    obtain ⟨x, hx, rfl⟩ := List.mem_map.mp hd
    refine good_tuple (k := 0) fun y hy => ?_
    simp only [List.mem_cons, List.not_mem_nil, or_false] at hy
    rcases hy with rfl | rfl | rfl
    · exact good_str (h x hx)
    · exact good_str (by decide +kernel)
    · exact good_str (by decide +kernel)).shaped (by decide)
end Mine
theorem Mine.offM0 : True := by
  w_top off
  trivial
set_option maxHeartbeats 400000
namespace Mine
def KpBut (S : List Addr) (h h' : Heap) : Prop := ∀ b o, b ∉ S → h.get? b = some o → h'.get? b = some o
theorem hide_kp (S : List Addr) (h : Heap) : Kp (hideAll h S) h := fun _ _ e => of_hideAll S e
theorem kpBut_of {S : List Addr} {h h' : Heap} (k : Kp (hideAll h S) h') : KpBut S h h' := fun b o hb e => k b o (hideAll_get S e hb)
theorem fr_kpBut {h₀ h h' : Heap} {L : Addr} {m : Str → Option Value} {S : List Addr} (F : Fr h₀ L h m) (k : KpBut S h h') (hS : ∀ a ∈ S, a ≠ L ∧ h₀.get? a = none) : Fr h₀ L h' m :=
  ⟨F.ns.at' fun o e => k _ o (fun q => (hS L q).1 rfl) e, fun b o e => k b o (fun q => by rw [(hS b q).2] at e; cases e) (F.keep b o e), F.above⟩
theorem news_kpBut {h₀ h h' : Heap} {L d : Addr} {o o' : Obj} {news : List (Addr × Obj)} {g : Obj → List (Addr × Obj)} (N : News h₀ L h news) (U : UpdF d o news g) (k : KpBut [d] h h') (e : h'.get? d = some o') : News h₀ L h' (g o') := by
  obtain ⟨pre, post, rfl, hg, a, c⟩ := U.split
  rw [hg]
  have D := N (d, o) (by simp)
  intro p hp
  have keep : ∀ q ∈ pre ++ (d, o) :: post, q.1 ≠ d → h'.get? q.1 = some q.2 ∧ q.1 ≠ L ∧ h₀.get? q.1 = none := fun q hq hne => ⟨k _ _ (by simpa using hne) (N q hq).1, (N q hq).2⟩
  rcases List.mem_append.mp hp with q | q
  · exact keep p (List.mem_append_left _ q) (a p q)
  · rcases List.mem_cons.mp q with rfl | q
    · exact ⟨e, D.2⟩
    · exact keep p (List.mem_append_right _ (.tail _ q)) (c p q)
theorem updF_mem {d : Addr} {o : Obj} {news : List (Addr × Obj)} {g : Obj → List (Addr × Obj)} (U : UpdF d o news g) : (d, o) ∈ news := by
  obtain ⟨pre, post, rfl, _, _, _⟩ := U.split; simp

/-- entering a def with some objects moved from the base into the ledger -/
theorem enterM {prog : Program} {w : World} {A : Around} {s : Shared} {K : Frag} {f : Addr} {pos : List Value} {kw : List (Str × Value)} (binds : List (Str × Value)) (news : List (Addr × Obj)) (hnews : ∀ p ∈ news, s.heap.get? p.1 = some p.2) {Q E : Value → Shared → Prop}
    {name qual : Str} {params : Arguments} {body : List Stmt} {scope : Scope} {dV kV doc pm cdv ct oc : Value} {an od : Option Addr} {osl : Array (Option Value)}
    (X : K.In s.heap) (hlim : s.heap.NoLimit)
    (ho : K.lookup f = some ⟨oc, od, .func (fnOf name qual params body scope dV kV doc pm an cdv ct), osl⟩) (hcd : codeIn K cdv qual = true) (hroom : A.depth < recursionLimit)
    (hbind : BindsTo s (fnOf name qual params body scope dV kV doc pm an cdv ct) ⟨pos, kw⟩ binds) (hloc : ∀ y ∈ binds, scope.names.lookup y.1 = some .local)
    (h : ∀ L h₁, Fr (hideAll s.heap (news.map (·.1))) L h₁ (fun y => binds.reverse.lookup y) → News (hideAll s.heap (news.map (·.1))) L h₁ news →
      wpAny (model prog w) (A.deeper (envOf qual scope L f cdv)) (execs body (envOf qual scope L f cdv))
        (fun fl s' => Q (match fl with | .ret v => v | _ => .none) s') (fun _ _ => False)
        { s with heap := h₁, toks := s.toks + binds.length })
    (hcell : ∀ x ∈ scope.names, x.2 ≠ .cell) (hco : scope.isCoroutine = false) (hgen : scope.isGenerator = false) (hk : scope.kind = .function) :
    wpAny (model prog w) A (call (.ref f) pos kw) Q E s := by
  refine wpAny_call ?_
  refine codeAny_call_def (fd := fnOf name qual params body scope dV kV doc pm an cdv ct) (body := body) (binds := binds) hroom (X _ _ ho) rfl hlim (codeRec_of X hcd) rfl hbind hcell hloc (fun h₁ hns hk₁ => ?_) hco hgen hk
  refine wpAny_mono (h s.heap.objs.size h₁ ⟨hns, fun b o e => hk₁ b o (of_hideAll _ e), Nat.le_of_eq (hideAll_size _ _)⟩ fun p hp => ⟨hk₁ _ _ (hnews p hp), Nat.ne_of_lt (Heap.lt_size (hnews p hp)), hideAll_none _ (List.mem_map_of_mem hp)⟩) (fun fl s' x => x) (fun _ _ y => y.elim)
end Mine
theorem Mine.offX0 : True := by
  w_top off
  trivial
set_option maxHeartbeats 800000
namespace Mine
/- an exception in flight, its dict kept in sight -/
theorem dict_mapFields (o : Obj) (f : Array Value → Array Value) : (o.mapFields f).dict = o.dict := by
  obtain ⟨c, d, dt, sl⟩ := o
  cases dt <;> rfl
def ExcObj (cls : Value) (dx : Addr) (o : Obj) : Prop := o.cls = cls ∧ o.dict = some dx
theorem ExcObj.map {cls : Value} {dx : Addr} {o : Obj} (x : ExcObj cls dx o) (f : Array Value → Array Value) : ExcObj cls dx (o.mapFields f) :=
  ⟨(Obj.cls_mapFields o f).trans x.1, (dict_mapFields o f).trans x.2⟩
def InAir (base : Heap) (l : List Env) (e dx : Addr) (cls fl : Value) (h : Heap) : Prop :=
  base.StaysIn h ∧ base.get? e = none ∧ h.FunFrames base l ∧
  ∃ oe vs T oT ts, h.get? e = some oe ∧ ExcObj cls dx oe ∧ oe.data = .fields vs ∧ vs[1]? = some (.ref T) ∧ base.get? T = none ∧ T ≠ e ∧ h.get? T = some oT ∧ oT.data = .fields ts ∧ ts[3]? = some fl
theorem InAir.obj {base h : Heap} {l : List Env} {e dx : Addr} {cls fl : Value} (x : InAir base l e dx cls fl h) : ∃ oe vs, h.get? e = some oe ∧ ExcObj cls dx oe ∧ oe.data = .fields vs :=
  let ⟨_, _, _, oe, vs, _, _, _, a, b, c, _⟩ := x; ⟨oe, vs, a, b, c⟩
theorem InAir.stays {base h : Heap} {l : List Env} {e dx : Addr} {cls fl : Value} (x : InAir base l e dx cls fl h) : base.StaysIn h := x.1
/-- what changes is records alone, and slots -/
theorem not_rec {h : Heap} {b T : Addr} {o oT : Obj} {ts : Array Value} (hb : h.get? b = some o) (hn : ∀ vs, o.data ≠ .fields vs) (hT : h.get? T = some oT) (hd : oT.data = .fields ts) : b ≠ T := fun q => by
  rw [q, hT] at hb
  cases hb
  exact hn ts hd
section
variable {M : Model} {A : Around} {E : Value → Shared → Prop} {s : Shared} {base : Heap} {env : Env} {outer : List Env} {L e dx : Addr} {cls fl : Value}

theorem air_entry {oe : Obj} {vs : Array Value} {head : Value} {hadNext : Bool} {Q : Unit → Shared → Prop}
    (hfr : A.frames = some (env :: outer)) (hl : s.heap.FunFrames base (env :: outer)) (hf : env.frame = some L)
    (he : s.heap.get? e = some oe) (hP : ExcObj cls dx oe) (hkb : base.StaysIn s.heap) (hen : base.get? e = none) (hd : oe.data = .fields vs) (hsz : 1 < vs.size)
    (h : ∀ h', InAir base (env :: outer) e dx cls (rawInt L) h' → s.heap.UpToSlots h' → Q () { s with heap := h' }) :
    wpAny M A (do let a ← frameOf env; let pl ← entryPlaceOf L hadNext; let b ← EntryCells.newEntry head a .none (rawInt L) .none pl; setField (.ref e) 1 b) Q E s := by
  have hout : e ∉ (env :: outer).filterMap (·.frame) := fun hm => by
    obtain ⟨_, o, ho, hnf⟩ := hl.mem hm
    rw [he] at ho
    cases ho
    exact hnf vs hd
  refine wpAny_bind (wpAny_frameOf_fun hfr hl hf fun g hs => ?_)
  refine wpAny_bind (wpAny_entryPlaceOf fun pl hpl => ?_)
  unfold EntryCells.newEntry newFields
  refine wpAny_bind (wpAny_newObj_type ?_ (hpl.sizeOk5 _ _ _ _ _))
  have eg : g.get? e = some oe := (hs.2.1 e hout).trans he
  have kg : base.StaysIn g := fun b o hb => (hs.2.1 b fun hm => by rw [(hl.mem hm).1] at hb; cases hb).trans (hkb b o hb)
  generalize hE : ({ cls := .type "traceback", dict := none, data := .fields ([head, .ref L, .none, rawInt L, .none] ++ (if pl.isEmpty then List.replicate 6 Value.none else pl)).toArray } : Obj) = en
  have ep : (g.push en).get? e = some oe := Heap.get?_push_of_some _ eg
  refine wpAny_setField ep hd hsz (h _ ?_ ?_)
  · have hne : g.objs.size ≠ e := Nat.ne_of_gt (Heap.lt_size eg)
    have hd3 := Obj.data_mapFields hd (·.setIfInBounds 1 (Value.ref g.objs.size))
    have eT : (g.push en).get? g.objs.size = some en := Heap.get?_push_size g (by rw [← hE]; rfl)
    refine ⟨fun b o hb => ?_, hen, hl.of_keeps fun b o hb hnf => ?_, _, _, g.objs.size, en, ([head, .ref L, .none, rawInt L, .none] ++ (if pl.isEmpty then List.replicate 6 Value.none else pl)).toArray,
      Heap.get?_update_self _ ep (Obj.isFreed_of_fields hd3), hP.map _, hd3, by simp [hsz], kg.fresh, hne, (Heap.get?_update_other _ _ (Ne.symm hne)).trans eT, by rw [← hE], ?_⟩
    · have hbe : b ≠ e := fun q => by rw [q, hen] at hb; cases hb
      rw [Heap.get?_update_other _ _ (Ne.symm hbe)]
      exact Heap.get?_push_of_some _ (kg b o hb)
    · obtain ⟨sl, hg⟩ := hs.2.2 b o hb
      exact ⟨_, (Heap.get?_update_other _ _ (Ne.symm (not_rec hb hnf he hd))).trans (Heap.get?_push_of_some _ hg), rfl⟩
    · first | (simp; done) | (rcases hpl with rfl | ⟨_, _, _, _, _, _, _, rfl⟩ <;> simp)
  · intro b o hb hnf
    obtain ⟨sl, hg⟩ := hs.2.2 b o hb
    exact ⟨sl, (Heap.get?_update_other _ _ (Ne.symm (not_rec hb hnf he hd))).trans (Heap.get?_push_of_some _ hg)⟩

theorem air_first {oe : Obj} {vs : Array Value} {Q : Unit → Shared → Prop}
    (hfr : A.frames = some (env :: outer)) (hl : s.heap.FunFrames base (env :: outer)) (hf : env.frame = some L)
    (he : s.heap.get? e = some oe) (hP : ExcObj cls dx oe) (hkb : base.StaysIn s.heap) (hen : base.get? e = none) (hd : oe.data = .fields vs) (h1 : vs[1]? = some .none)
    (h : ∀ h', InAir base (env :: outer) e dx cls (rawInt L) h' → s.heap.UpToSlots h' → Q () { s with heap := h' }) : wpAny M A (noteFrame (.ref e) env) Q E s := by
  unfold noteFrame
  simp only [hf]
  refine wpAny_bind (wpAny_field he hd h1 ?_)
  rw [if_neg (by decide)]
  exact air_entry hfr hl hf he hP hkb hen hd (Array.getElem?_eq_some_iff.mp h1).1 h

theorem air_note {Q : Unit → Shared → Prop} (hfr : A.frames = some (env :: outer)) (hf : env.frame = some L) (x : InAir base (env :: outer) e dx cls .none s.heap)
    (h : ∀ h', InAir base (env :: outer) e dx cls (rawInt L) h' → s.heap.UpToSlots h' → Q () { s with heap := h' }) : wpAny M A (noteFrame (.ref e) env) Q E s := by
  obtain ⟨hkb, hen, hl, oe, vs, T, oT, ts, he, hP, hd, h1, hnT, hTe, hT, hdT, h3⟩ := x
  unfold noteFrame
  simp only [hf]
  refine wpAny_bind (wpAny_field he hd h1 ?_)
  rw [if_pos (show (Value.ref T != Value.none) = true from by simp)]
  refine wpAny_bind (wpAny_field hT hdT h3 ?_)
  rw [if_neg (show ¬ ((Value.none == rawInt L) = true) from by simp [rawInt])]
  refine wpAny_bind (wpAny_setField hT hdT (Array.getElem?_eq_some_iff.mp h3).1 ?_)
  have other : ∀ b, b ≠ T → (s.heap.update T (Obj.mapFields (·.setIfInBounds 3 Value.none))).get? b = s.heap.get? b := fun b hb => Heap.get?_update_other _ _ (Ne.symm hb)
  refine air_entry hfr (hl.of_keeps fun b o hb hnf => ⟨o, (other b (not_rec hb hnf hT hdT)).trans hb, rfl⟩) hf ((other e (Ne.symm hTe)).trans he) hP
    (fun b o hb => (other b fun q => by rw [q, hnT] at hb; cases hb).trans (hkb b o hb)) hen hd (Array.getElem?_eq_some_iff.mp h1).1
    fun h' y u => h h' y fun b o hb hnf => u b o ((other b (not_rec hb hnf hT hdT)).trans hb) hnf

theorem air_again {l : List Env} {Q : Unit → Shared → Prop} (hf : env.frame = some L) (x : InAir base l e dx cls (rawInt L) s.heap) (h : Q () s) : wpAny M A (noteFrame (.ref e) env) Q E s := by
  obtain ⟨hkb, hen, hl, oe, vs, T, oT, ts, he, hP, hd, h1, hnT, hTe, hT, hdT, h3⟩ := x
  unfold noteFrame
  simp only [hf]
  refine wpAny_bind (wpAny_field he hd h1 ?_)
  rw [if_pos (show (Value.ref T != Value.none) = true from by simp)]
  refine wpAny_bind (wpAny_field hT hdT h3 ?_)
  rw [if_pos (show (rawInt L == rawInt L) = true from by simp)]
  exact wpAny_pure h

theorem air_land {l : List Env} {Q : Unit → Shared → Prop} (x : InAir base l e dx cls fl s.heap)
    (h : ∀ h', InAir base l e dx cls .none h' → s.heap.UpToSlots h' → Q () { s with heap := h' }) : wpAny M A (setFlight (.ref e) none) Q E s := by
  obtain ⟨hkb, hen, hl, oe, vs, T, oT, ts, he, hP, hd, h1, hnT, hTe, hT, hdT, h3⟩ := x
  have hz : 3 < ts.size := (Array.getElem?_eq_some_iff.mp h3).1
  have other : ∀ b, b ≠ T → (s.heap.update T (Obj.mapFields (·.setIfInBounds 3 ((none : Option Addr).elim Value.none fun f => rawInt f)))).get? b = s.heap.get? b :=
    fun b hb => Heap.get?_update_other _ _ (Ne.symm hb)
  unfold setFlight
  refine wpAny_bind (wpAny_field he hd h1 ?_)
  rw [if_pos (show (Value.ref T != Value.none) = true from by simp)]
  refine wpAny_setField hT hdT hz (h _ ⟨fun b o hb => (other b fun q => by rw [q, hnT] at hb; cases hb).trans (hkb b o hb), hen,
    hl.of_keeps fun b o hb hnf => ⟨o, (other b (not_rec hb hnf hT hdT)).trans hb, rfl⟩,
    oe, vs, T, _, _, (other e (Ne.symm hTe)).trans he, hP, hd, h1, hnT, hTe, Heap.get?_update_self _ hT (Obj.isFreed_of_fields (Obj.data_mapFields hdT _)), Obj.data_mapFields hdT _, by simp [hz]⟩ fun b o hb hnf => ⟨o.slots, (other b (not_rec hb hnf hT hdT)).trans hb⟩)

theorem InAir.drop {h : Heap} (x : InAir base (env :: outer) e dx cls fl h) : InAir base outer e dx cls fl h := ⟨x.1, x.2.1, x.2.2.1.2.2, x.2.2.2⟩

theorem air_leave_first {oe : Obj} {vs : Array Value} {Q : Unit → Shared → Prop}
    (hfr : A.frames = some (env :: outer)) (hl : s.heap.FunFrames base (env :: outer)) (hf : env.frame = some L)
    (he : s.heap.get? e = some oe) (hP : ExcObj cls dx oe) (hkb : base.StaysIn s.heap) (hen : base.get? e = none) (hd : oe.data = .fields vs) (h1 : vs[1]? = some .none)
    (h : ∀ h', InAir base outer e dx cls .none h' → s.heap.UpToSlots h' → Q () { s with heap := h' }) : wpAny M A (leaving env (.ref e)) Q E s := by
  unfold leaving
  exact wpAny_bind (air_first hfr hl hf he hP hkb hen hd h1 fun g x u => air_land x fun g' x' u' => h g' x'.drop (u.trans u'))
theorem air_leave {Q : Unit → Shared → Prop} (hfr : A.frames = some (env :: outer)) (hf : env.frame = some L) (x : InAir base (env :: outer) e dx cls .none s.heap)
    (h : ∀ h', InAir base outer e dx cls .none h' → s.heap.UpToSlots h' → Q () { s with heap := h' }) : wpAny M A (leaving env (.ref e)) Q E s := by
  unfold leaving
  exact wpAny_bind (air_note hfr hf x fun g x u => air_land x fun g' x' u' => h g' x'.drop (u.trans u'))
end
end Mine
theorem Mine.offM1 : True := by
  w_top off
  trivial
set_option maxHeartbeats 400000
theorem Mine.wordsM11 : True := by
  k_with "M enterM" => (
  (case X => first | assumption | exact Frag.In.keeps (by k_asm) (Fr.keep (by k_asm)))
  (case T => exact TopRead.nolimit (by assumption))
  (case ho => k_is)
  (case hcd => k_is)
  (case hroom => omega)
  (case hbind => exact BindsTo.of_eq rfl)
  (case hloc => exact locs rfl)
  (case c1 => decide)
  (case c2 => exact rfl)
  (case c3 => exact rfl)
  (case c4 => exact rfl))
  trivial

namespace Mine
theorem fillM1 : PySem.Challenge.rw_on0181_01 = PySem.Challenge.rw_on0181_01 ∧ heapK = heapK := by
  k_fill
  exact ⟨rfl, rfl⟩
def takeV (a b top : Int) : Int := if 0 < a then a.fmod top else ((((b * 39373 + 7).fmod 2147483647 * (b * 39373 + 7).fmod 2147483647).fmod 2147483629).fdiv 32).fmod top
theorem c_take {w : World} {A : Around} {s : Shared} {h₀ : Heap} {L : Addr} {m : Str → Option Value} {news : List (Addr × Obj)} {g : Obj → List (Addr × Obj)} {src : Addr} {a b top : Int} {ta tb t : Tok} {n : Nat} {Q Ex : Value → Shared → Prop} {p : Program} {loose : List Str} {mg mb : Str → Option Value}
    (F : Fr h₀ L s.heap m) (N : News h₀ L s.heap news)
    (X : (heapK w.params).In h₀) (T : TopRead p loose mg mb h₀) (hroom : A.depth + 5 < recursionLimit)
    (U : UpdF src (lsn [.int a ta, .int b tb] n) news g) (ha : 0 ≤ a) (hb : 0 ≤ b ∧ b < 2147483648) (ht : 0 < top ∧ top < 100)
    (k : ∀ h' tk' v t' a' b' ta' tb' n', Fr h₀ L h' m → News h₀ L h' (g (lsn [.int a' ta', .int b' tb'] n')) → v = takeV a b top → 0 ≤ v ∧ v < top → 0 ≤ a' → 0 ≤ b' ∧ b' < 2147483648 → Q (.int v t') { s with heap := h', toks := tk' }) :
    wpAny (model PR w) A (call (.ref 225) [.ref src, .int top t]) Q Ex s := by
  have hm := updF_mem U
  have hD := N _ hm
  have X0 := X
  have T0 := T
  replace X := X.keeps F.keep
  replace T := T.keeps F.keep
  k_dflt (refine' enterM [("source", .ref src), ("top", .int top t)] [(src, lsn [.int a ta, .int b tb] n)] ?hn ?X ?T ?ho ?hcd ?hroom ?hbind ?hloc ?_ ?c1 ?c2 ?c3 ?c4; k_extra "M enterM")
  case hn => intro p hp; rw [List.mem_singleton.mp hp]; exact hD.1
  have hk0 : Kp h₀ (hideAll s.heap ([(src, lsn [.int a ta, .int b tb] n)].map (·.1))) := fun x o e => hideAll_get _ (F.keep x o e) fun hm => by
    have hx : x = src := List.mem_singleton.mp hm
    rw [hx, hD.2.2] at e; cases e
  replace X := X0.keeps hk0
  replace T := T0.keeps hk0
  replace k := fun h' tk' v t' a' b' ta' tb' n' (K : Kp (hideAll s.heap ([(src, lsn [.int a ta, .int b tb] n)].map fun x : Addr × Obj => x.1)) h') (e : h'.get? src = some (lsn [.int a' ta', .int b' tb'] n')) => k h' tk' v t' a' b' ta' tb' n' (fr_kpBut F (kpBut_of (S := [src]) K) fun x hx => by rw [List.mem_singleton.mp hx]; exact hD.2) (news_kpBut N U (kpBut_of (S := [src]) K) e)
  generalize hideAll s.heap ([(src, lsn [.int a ta, .int b tb] n)].map (·.1)) = g0 at *
  clear F N X0 T0 hk0 U hm hD
  intro L' h' F' N'
  try dsimp only [Mine.bodOf, Mine.scoOf, Mine.parOf, Mine.topS, Mine.inS, Mine.stAt, PySem.Challenge.pw_on0181_01]
  try k_fold
  have e0 : [a, b].getD (Int.toNat 0) 0 = a := rfl
  k_steps
  · rename (0 < _) => hp
    have hp : 0 < a := hp
    have hv := Int.fmod_nonneg_of_pos a ht.1
    have hv2 := Int.fmod_lt_of_pos a ht.1
    refine k _ _ _ _ _ _ _ _ _ (Fr.keep (by assumption)) (News.get (by assumption) (.head _)) (by unfold takeV; rw [if_pos hp]; rfl) ⟨hv, hv2⟩ ?_ hb
    show 0 ≤ a.fdiv top
    exact Int.fdiv_nonneg ha (Int.le_of_lt ht.1)
  · have q : ∀ y : Int, 0 ≤ y.fmod 2147483647 ∧ y.fmod 2147483647 < 2147483647 := fun y => ⟨Int.fmod_nonneg_of_pos y (by decide), Int.fmod_lt_of_pos y (by decide)⟩
    have q1 := q (b * 39373 + 7)
    refine k _ _ _ _ _ _ _ _ _ (Fr.keep (by assumption)) (News.get (by assumption) (.head _)) (by unfold takeV; rw [if_neg (by assumption)]; rfl) ⟨Int.fmod_nonneg_of_pos _ ht.1, Int.fmod_lt_of_pos _ ht.1⟩ ha ?_
    exact ⟨q1.1, Int.lt_trans q1.2 (by decide)⟩
end Mine
theorem Mine.offM2 : True := by
  w_top off
  trivial
set_option maxHeartbeats 400000
theorem Mine.wordsM21 : True := by
  k_with "!call ref" => (k_here; k_dflt ((refine' Mine.c_take (by k_asm) (by k_asm) (by k_asm) (by k_asm) (by k_extra "M room") (by k_updF) (by with_reducible assumption) (by with_reducible assumption) (by first | with_reducible assumption | decide) ?_); (intro h' tk' v' t' a' b' ta' tb' n' F' N' _ hv' ha' hb'; (try dsimp only at N'); (try k_sweep))))
  trivial

namespace Mine
theorem len_B {prog : Program} {w : World} {A : Around} {E : Value → Shared → Prop} {s : Shared} {h₀ : Heap} {L a : Addr} {m : Str → Option Value} {ys : List Value} {Q : Value → Shared → Prop}
    (F : Fr h₀ L s.heap m) (hT : h₀.IsList a ys.toArray) (hl : 0 < ys.length ∧ ys.length < 100) (h : Q (.int ys.length (s.toks + 1)) { s with toks := s.toks + 1 + 1 }) :
    wpAny (model prog w) A (call (.builtin "len") [.ref a]) Q E s := by
  have hL : s.heap.IsList a ys.toArray := hT.at fun o e => F.keep _ o e
  have e : ys.toArray.size = ys.length := by rw [List.size_toArray]
  exact call_len_list hL (by rw [e]; omega) (by rw [e]; exact h)
theorem item_B {prog : Program} {w : World} {A : Around} {E : Value → Shared → Prop} {s : Shared} {h₀ : Heap} {L a : Addr} {m : Str → Option Value} {ys : List Value} {v : Int} {u : Tok} {value slice : Expr} {Q : Value → Shared → Prop}
    (F : Fr h₀ L s.heap m) (hT : h₀.IsList a ys.toArray) (hl : 0 < ys.length ∧ ys.length < 100) (hv : 0 ≤ v ∧ v < ys.length) (h : ∀ x, ys[v.toNat]? = some x → Q x s)
    (hs : subscripted slice false (.ref a) (.int v u) = operate [.ref a, .int v u] (getItem (.ref a) (.int v u)) := by with_unfolding_all rfl) :
    wpAny (model prog w) A (subscriptTail value slice (.ref a) (.int v u)) Q E s := by
  have hL : s.heap.IsList a ys.toArray := hT.at fun o e => F.keep _ o e
  have hlt : v.toNat < ys.length := by omega
  have hx : ys[v.toNat]? = some ys[v.toNat] := List.getElem?_eq_getElem hlt
  have q : wpAny (model prog w) A (getItem (.ref a) (.int v u)) Q E s := wpAny_getItem_list hL hv.1 (by omega) (by simpa using hx) (h _ hx)
  exact tail_any hL.typeIs slot_list_getitem.lookup q hs
end Mine
theorem Mine.wordsM22 : True := by
  k_with "!call builtin:len" => (k_here; (with_reducible show wpAny _ _ (call (Value.builtin "len") [Value.ref _]) _ _ _); k_dflt (refine Mine.len_B (by k_asm) (by with_reducible assumption) (by with_reducible assumption) ?_))
  k_with "!subscriptTail Name Constant ref int" => (k_here; (with_reducible show wpAny _ _ (subscriptTail _ _ (Value.ref _) (Value.int _ _)) _ _ _); k_dflt (refine Mine.item_B (by k_asm) (by with_reducible assumption) (by with_reducible assumption) (by with_reducible assumption) ?_); intro x' hx')
  k_with "!subscriptTail" => (k_here; (with_reducible show wpAny _ _ (subscriptTail _ _ (Value.ref _) (Value.int _ _)) _ _ _); k_dflt (refine Mine.item_B (by k_asm) (by with_reducible assumption) (by with_reducible assumption) (by with_reducible assumption) ?_); intro x' hx')
  trivial

namespace Mine
theorem fillM2 : PySem.Challenge.rw_on0181_01 = PySem.Challenge.rw_on0181_01 ∧ heapK = heapK := by
  k_fill
  exact ⟨rfl, rfl⟩
theorem c_one {w : World} {A : Around} {s : Shared} {h₀ : Heap} {L : Addr} {m : Str → Option Value} {news : List (Addr × Obj)} {g : Obj → List (Addr × Obj)} {src th : Addr} {a b : Int} {ta tb : Tok} {n : Nat} {ys : List Value} {Q Ex : Value → Shared → Prop} {p : Program} {loose : List Str} {mg mb : Str → Option Value}
    (F : Fr h₀ L s.heap m) (N : News h₀ L s.heap news)
    (X : (heapK w.params).In h₀) (T : TopRead p loose mg mb h₀) (hroom : A.depth + 10 < recursionLimit)
    (U : UpdF src (lsn [.int a ta, .int b tb] n) news g) (ha : 0 ≤ a) (hb : 0 ≤ b ∧ b < 2147483648) (hT : s.heap.IsList th ys.toArray) (hne : th ≠ src) (hl : 0 < ys.length ∧ ys.length < 100)
    (k : ∀ h' tk' v (i : Nat) a' b' ta' tb' n', Fr h₀ L h' m → News h₀ L h' (g (lsn [.int a' ta', .int b' tb'] n')) → ys[i]? = some v → 0 ≤ a' → 0 ≤ b' ∧ b' < 2147483648 → Q v { s with heap := h', toks := tk' }) :
    wpAny (model PR w) A (call (.ref 232) [.ref src, .ref th]) Q Ex s := by
  have hD := N _ (updF_mem U)
  have X0 := X
  have T0 := T
  replace X := X.keeps F.keep
  replace T := T.keeps F.keep
  k_dflt (refine' enterM [("source", .ref src), ("things", .ref th)] [(src, lsn [.int a ta, .int b tb] n)] ?hn ?X ?T ?ho ?hcd ?hroom ?hbind ?hloc ?_ ?c1 ?c2 ?c3 ?c4; k_extra "M enterM")
  case hn => intro p hp; rw [List.mem_singleton.mp hp]; exact hD.1
  have hk0 : Kp h₀ (hideAll s.heap ([(src, lsn [.int a ta, .int b tb] n)].map (·.1))) := fun x o e => hideAll_get _ (F.keep x o e) fun hm => by
    have hx : x = src := List.mem_singleton.mp hm
    rw [hx, hD.2.2] at e; cases e
  replace X := X0.keeps hk0
  replace T := T0.keeps hk0
  replace hT : (hideAll s.heap ([(src, lsn [.int a ta, .int b tb] n)].map (·.1))).IsList th ys.toArray := hT.at fun o e => hideAll_get _ e fun hm => hne (List.mem_singleton.mp hm)
  replace k := fun h' tk' v i a' b' ta' tb' n' (K : Kp (hideAll s.heap ([(src, lsn [.int a ta, .int b tb] n)].map fun x : Addr × Obj => x.1)) h') (e : h'.get? src = some (lsn [.int a' ta', .int b' tb'] n')) => k h' tk' v i a' b' ta' tb' n' (fr_kpBut F (kpBut_of (S := [src]) K) fun x hx => by rw [List.mem_singleton.mp hx]; exact hD.2) (news_kpBut N U (kpBut_of (S := [src]) K) e)
  generalize hideAll s.heap ([(src, lsn [.int a ta, .int b tb] n)].map (·.1)) = g0 at *
  clear F N X0 T0 hk0 U hD
  intro L' h' F' N'
  try dsimp only [Mine.bodOf, Mine.scoOf, Mine.parOf, Mine.topS, Mine.inS, Mine.stAt, PySem.Challenge.pw_on0181_01]
  try k_fold
  have hl' : 0 < (ys.length : Int) ∧ (ys.length : Int) < 100 := by omega
  k_steps
  exact k _ _ _ _ _ _ _ _ _ (Fr.keep (by assumption)) (News.get (by assumption) (.head _)) (by assumption) (by assumption) (by assumption)
end Mine
theorem Mine.offM3 : True := by
  w_top off
  trivial
set_option maxHeartbeats 800000
namespace Mine
theorem stored_none {kvs : List (Str × Value)} {k : Str} {v : Value} (h : (valueAt kvs k).isSome = false) : stored kvs k v = kvs ++ [(k, v)] := stored_absent (by cases q : valueAt kvs k with | none => rfl | some _ => rw [q] at h; cases h) v
/-- what a contract over hidden objects gives back to the caller -/
theorem back1 {h₀ h h' : Heap} {L d : Addr} {m : Str → Option Value} {news : List (Addr × Obj)} {g : Obj → List (Addr × Obj)} {o : Obj} (F : Fr h₀ L h m) (N : News h₀ L h news) (U : UpdF d o news g) (K : Kp (hideAll h [d]) h') :
    Fr h₀ L h' m ∧ ∀ o', h'.get? d = some o' → News h₀ L h' (g o') := by
  have D := N _ (updF_mem U)
  have kb : KpBut [d] h h' := kpBut_of K
  exact ⟨fr_kpBut F kb fun x hx => by rw [List.mem_singleton.mp hx]; exact D.2, fun o' e => news_kpBut N U kb e⟩
theorem kp_hide1 {h₀ h : Heap} {L d : Addr} {m : Str → Option Value} {news : List (Addr × Obj)} {o : Obj} (F : Fr h₀ L h m) (N : News h₀ L h news) (hm : (d, o) ∈ news) : Kp h₀ (hideAll h [d]) := fun b o e => hideAll_get _ (F.keep b o e) fun q => by
  rw [List.mem_singleton.mp q, (N _ hm).2.2] at e; cases e
end Mine
theorem Mine.wordsM31 : True := by
  k_with "!setItem ref str" => (k_here; (with_reducible show wpAny _ _ (setItem (Value.ref _) (Value.str _ _) _) _ _ _); k_dflt (refine' kda_set (knd := PySem.strKind Mine.PR _) (by k_asm) (by k_asm) (by k_updF) (by with_reducible assumption) (by exact strKind_is _ _ _ _) (by with_reducible assumption) ?_ ); intro h' o' F' N' hd'; (try dsimp only at N'); (try k_sweep))
  k_with "M enterM2" => (
  (case ho => k_is)
  (case hcd => k_is)
  (case hroom => omega)
  (case hbind => exact BindsTo.of_eq rfl)
  (case hloc => exact locs rfl)
  (case c1 => decide)
  (case c2 => exact rfl)
  (case c3 => exact rfl)
  (case c4 => exact rfl))
  trivial

namespace Mine
theorem fillM3 : PySem.Challenge.rw_on0181_01 = PySem.Challenge.rw_on0181_01 ∧ heapK = heapK := by
  k_fill
  exact ⟨rfl, rfl⟩
theorem c_elO {w : World} {A : Around} {s : Shared} {h₀ : Heap} {L : Addr} {m : Str → Option Value} {news : List (Addr × Obj)} {g : Obj → List (Addr × Obj)} {D E At Nt : Addr} {x : Str} {t tn : Tok} {n : Int} {mv : Value} {oE : Obj} {kvE : List (Str × Value)} {Q Ex : Value → Shared → Prop} {p : Program} {loose : List Str} {mg mb : Str → Option Value}
    (F : Fr h₀ L s.heap m) (N : News h₀ L s.heap news) (X : (heapK w.params).In h₀) (T : TopRead p loose mg mb h₀) (hroom : A.depth + 10 < recursionLimit)
    (U : UpdF E oE news g) (hD : DtdAt h₀ D E At Nt) (lo : (E == sysModules) = false) (hE : oE.IsDictOf (strKind PR w) kvE) (hx : (valueAt kvE x).isSome = false) (hz : kvE.length ≤ sizeLine) (hm : handedIn mv = true)
    (k : ∀ h' tk' o', Fr h₀ L h' m → News h₀ L h' (g o') → o'.IsDictOf (strKind PR w) (stored kvE x mv) → Q .none { s with heap := h', toks := tk' }) :
    wpAny (model PR w) A (call (.ref 103) [.ref D, .str x t, mv, .int n tn]) Q Ex s := by
  have hk0 := kp_hide1 F N (updF_mem U)
  have hd := (N _ (updF_mem U)).1
  have bk := fun h' => back1 (h' := h') F N U
  replace k := fun h' tk' o' (K : Kp (hideAll s.heap [E]) h') (e : h'.get? E = some o') => k h' tk' o' (bk h' K).1 ((bk h' K).2 o' e)
  have Xs := X.keeps F.keep
  have Ts := T.keeps F.keep
  replace X := X.keeps hk0
  replace T := T.keeps hk0
  replace hD := hD.kp hk0
  clear F N U bk hk0
  k_dflt (refine' enterM [("self", .ref D), ("name", .str x t), ("model", mv), ("place", .int n tn)] [(E, oE)] ?hn ?X ?T ?ho ?hcd ?hroom ?hbind ?hloc ?_ ?c1 ?c2 ?c3 ?c4; (case X => exact Xs); (case T => exact Ts.nolimit); k_extra "M enterM2")
  case hn => intro p hp; rw [List.mem_singleton.mp hp]; exact hd
  change ∀ L h₁, Fr (hideAll s.heap [E]) L h₁ _ → News (hideAll s.heap [E]) L h₁ _ → _
  generalize hideAll s.heap [E] = g0 at *
  clear Xs Ts hd
  obtain ⟨dD, q1, q2, q3, q4, t1, t2, t3, t4, t5, nn, hD1, hD2⟩ := hD.it
  intro L' h' F' N'
  try dsimp only [Mine.bodOf, Mine.scoOf, Mine.parOf, Mine.topS, Mine.inS, Mine.stAt, PySem.Challenge.pw_on0181_01]
  try k_fold
  k_steps
  rename Fr _ _ _ _ => F
  rename News _ _ _ _ => N
  exact k _ _ _ F.keep (N _ (.head _)).1 (by assumption)
end Mine
theorem Mine.offM4 : True := by
  w_top off
  trivial
set_option maxHeartbeats 800000
namespace Mine
theorem kp_hide' {h₀ h : Heap} {S : List Addr} (k : Kp h₀ h) (hS : ∀ a ∈ S, h₀.get? a = none) : Kp h₀ (hideAll h S) := fun b o e => hideAll_get _ (k b o e) fun hm => by rw [hS b hm] at e; cases e
theorem unhide {h : Heap} {S : List Addr} {a : Addr} (e : (hideAll h S).get? a = none) (ha : a ∉ S) : h.get? a = none := by
  cases q : h.get? a with
  | none => rfl
  | some o => rw [hideAll_get _ q ha] at e; cases e
/-- back to the caller, with what is new -/
theorem back2 {h₀ h h' : Heap} {L d : Addr} {m : Str → Option Value} {news nw : List (Addr × Obj)} {g : Obj → List (Addr × Obj)} {o o' : Obj} (F : Fr h₀ L h m) (N : News h₀ L h news) (U : UpdF d o news g) (K : Kp (hideAll h [d]) h') (e : h'.get? d = some o')
    (hw : ∀ p ∈ nw, h'.get? p.1 = some p.2 ∧ (hideAll h [d]).get? p.1 = none ∧ p.1 ≠ d) : Fr h₀ L h' m ∧ News h₀ L h' (nw ++ g o') ∧ (∀ p ∈ nw, AllNe p.1 news) := by
  obtain ⟨F', N'⟩ := back1 F N U K
  have hn : ∀ p ∈ nw, h.get? p.1 = none := fun p hp => unhide (hw p hp).2.1 fun q => (hw p hp).2.2 (List.mem_singleton.mp q)
  refine ⟨F', fun p hp => ?_, fun p hp => allNe_of (ne_new N (hn p hp))⟩
  rcases List.mem_append.mp hp with hp | hp
  · refine ⟨(hw p hp).1, fun q => ?_, none_kp F.keep (hn p hp)⟩
    obtain ⟨ol, hl⟩ := ns_some F.ns
    have := hn p hp
    have q' : p.1 = L := q
    rw [q', hl] at this; cases this
  · exact N' o' e p hp
/-- entering a def with objects hidden, on the codes' level -/
theorem enterMC {prog : Program} {w : World} {A : Around} {s : Shared} {K : Frag} {f : Addr} {pos : List Value} {kw : List (Str × Value)} (binds : List (Str × Value)) (news : List (Addr × Obj)) (hnews : ∀ p ∈ news, s.heap.get? p.1 = some p.2) {R : Result → Shared → Prop}
    {name qual : Str} {params : Arguments} {body : List Stmt} {scope : Scope} {dV kV doc pm cdv ct oc : Value} {an od : Option Addr} {osl : Array (Option Value)}
    (X : K.In s.heap) (hlim : s.heap.NoLimit)
    (ho : K.lookup f = some ⟨oc, od, .func (fnOf name qual params body scope dV kV doc pm an cdv ct), osl⟩) (hcd : codeIn K cdv qual = true) (hroom : A.depth < recursionLimit)
    (hbind : BindsTo s (fnOf name qual params body scope dV kV doc pm an cdv ct) ⟨pos, kw⟩ binds) (hloc : ∀ y ∈ binds, scope.names.lookup y.1 = some .local)
    (h : ∀ L h₁, Fr (hideAll s.heap (news.map (·.1))) L h₁ (fun y => binds.reverse.lookup y) → News (hideAll s.heap (news.map (·.1))) L h₁ news →
      wpAny (model prog w) (A.deeper (envOf qual scope L f cdv)) (execs body (envOf qual scope L f cdv))
        (fun fl s' => R (.ok (.ret (match fl with | .ret v => v | _ => .none))) s') (fun _ _ => False)
        { s with heap := h₁, toks := s.toks + binds.length })
    (hcell : ∀ x ∈ scope.names, x.2 ≠ .cell) (hco : scope.isCoroutine = false) (hgen : scope.isGenerator = false) (hk : scope.kind = .function) :
    codeAny (model prog w) A (.call (.ref f) ⟨pos, kw⟩) R s := by
  refine codeAny_call_def (fd := fnOf name qual params body scope dV kV doc pm an cdv ct) (body := body) (binds := binds) hroom (X _ _ ho) rfl hlim (codeRec_of X hcd) rfl hbind hcell hloc (fun h₁ hns hk₁ => ?_) hco hgen hk
  refine wpAny_mono (h s.heap.objs.size h₁ ⟨hns, fun b o e => hk₁ b o (of_hideAll _ e), Nat.le_of_eq (hideAll_size _ _)⟩ fun p hp => ⟨hk₁ _ _ (hnews p hp), Nat.ne_of_lt (Heap.lt_size (hnews p hp)), hideAll_none _ (List.mem_map_of_mem hp)⟩) (fun fl s' x => x) (fun _ _ y => y.elim)
/-- an object made by a class of the text -/
theorem make_own {w : World} {A : Around} {s : Shared} {K : Frag} {h₀ : Heap} {L C fI : Addr} {m : Str → Option Value} {news : List (Addr × Obj)} {rest : List Value} {od : Obj → Prop} {Q E : Value → Shared → Prop} (F : Fr h₀ L s.heap m) (N : News h₀ L s.heap news) (X : K.In h₀) (hm : makesIn K C = true)
    (hi : findIn K (.ref C) "__init__" = some (some (.ref fI))) (hf : typeIn K (.ref fI) = some (.type "function"))
    (hh : A.handled = none)
    (ini : ∀ (A' : Around) (s1 : Shared) x dx (R : Result → Shared → Prop), A'.depth = A.depth + 1 → A'.handled = none → (∀ p ∈ news, (hideAll s1.heap [x, dx]).get? p.1 = some p.2) → Kp h₀ (hideAll s1.heap [x, dx]) → Kp h₀ s1.heap → s1.heap.get? x = some (instObj C dx) → s1.heap.get? dx = some emptyDict → x ≠ dx →
      (∀ h' tk' o, Kp (hideAll s1.heap [x, dx]) h' → h'.get? x = some (instObj C dx) → h'.get? dx = some o → od o → R (.ok (.ret .none)) { s1 with heap := h', toks := tk' }) →
      codeAny (model PR w) A' (.call (.ref fI) ⟨.ref x :: rest, []⟩) R s1)
    (k : ∀ h' tk' a dx o, Fr h₀ L h' m → News h₀ L h' ((a, instObj C dx) :: (dx, o) :: news) → AllNe a news → AllNe dx news → a ≠ dx → od o → Q (.ref a) { s with heap := h', toks := tk' }) :
    wpAny (model PR w) A (call (.ref C) rest) Q E s := by
  refine wpAny_call (make_K F N (X.keeps F.keep) hm hi hf fun x dx h1 F1 N1 l1 l2 => ?_)
  have hx := N1 _ (.head _)
  have hd := N1 _ (.tail _ (.head _))
  have hne : x ≠ dx := Nat.ne_of_gt l2
  have kh : Kp h₀ (hideAll h1 [x, dx]) := kp_hide' F1.keep fun a ha => by
    rcases List.mem_cons.mp ha with q | q
    · rw [q]; exact hx.2.2
    · rw [List.mem_singleton.mp q]; exact hd.2.2
  have kn : ∀ p ∈ news, (hideAll h1 [x, dx]).get? p.1 = some p.2 := fun p hp => hideAll_get _ (N1 p (.tail _ (.tail _ hp))).1 fun q => by
    have l := l1 p hp
    rcases List.mem_cons.mp q with q | q
    · exact absurd q (Nat.ne_of_lt (Nat.lt_trans l l2))
    · exact absurd (List.mem_singleton.mp q) (Nat.ne_of_lt l)
  refine ini _ _ x dx _ (depth_under_make _ _ _) hh kn kh F1.keep hx.1 hd.1 hne fun h' tk' o kp e1 e2 ho => ⟨rfl, ?_⟩
  have kb : KpBut [x, dx] h1 h' := kpBut_of kp
  have F2 : Fr h₀ L h' m := fr_kpBut F1 kb fun a ha => by
    rcases List.mem_cons.mp ha with q | q
    · rw [q]; exact hx.2
    · rw [List.mem_singleton.mp q]; exact hd.2
  refine k h' tk' x dx o F2 (fun p hp => ?_) (allNe_of fun p hp => Nat.ne_of_lt (Nat.lt_trans (l1 p hp) l2)) (allNe_of fun p hp => Nat.ne_of_lt (l1 p hp)) hne ho
  rcases List.mem_cons.mp hp with rfl | hp
  · exact ⟨e1, hx.2⟩
  rcases List.mem_cons.mp hp with rfl | hp
  · exact ⟨e2, hd.2⟩
  · refine ⟨kb _ _ (fun q => ?_) (N1 p (.tail _ (.tail _ hp))).1, (N1 p (.tail _ (.tail _ hp))).2⟩
    have l := l1 p hp
    rcases List.mem_cons.mp q with q | q
    · exact absurd q (Nat.ne_of_lt (Nat.lt_trans l l2))
    · exact absurd (List.mem_singleton.mp q) (Nat.ne_of_lt l)
end Mine
theorem Mine.offM5 : True := by
  w_top off
  trivial
set_option maxHeartbeats 800000
namespace Mine
theorem fillM5 : PySem.Challenge.rw_on0181_01 = PySem.Challenge.rw_on0181_01 ∧ heapK = heapK := by
  k_fill
  exact ⟨rfl, rfl⟩
def NotDict (x : Str) (o : Obj) : Prop := ∃ k1 k2 k3 t1 t2 t3 u1 u2 u3 n, o = dictOf [⟨k1, .str (Str.ofString "name") t1, .str x u1⟩, ⟨k2, .str (Str.ofString "public") t2, .str (Str.ofString "p") u2⟩, ⟨k3, .str (Str.ofString "system") t3, .str (Str.ofString "s") u3⟩] n
theorem ini75 {w : World} {A : Around} {s : Shared} {x dx : Addr} {nm : Str} {t tp ts : Tok} {R : Result → Shared → Prop} {p : Program} {loose : List Str} {mg mb : Str → Option Value}
    (Xs : (heapK w.params).In s.heap) (Ts : TopRead p loose mg mb s.heap) (X : (heapK w.params).In (hideAll s.heap [x, dx])) (T : TopRead p loose mg mb (hideAll s.heap [x, dx])) (hroom : A.depth + 10 < recursionLimit)
    (hx : s.heap.get? x = some (instObj 78 dx)) (hd : s.heap.get? dx = some emptyDict) (hne : x ≠ dx)
    (k : ∀ h' tk' o, Kp (hideAll s.heap [x, dx]) h' → h'.get? x = some (instObj 78 dx) → h'.get? dx = some o → NotDict nm o → R (.ok (.ret .none)) { s with heap := h', toks := tk' }) :
    codeAny (model PR w) A (.call (.ref 75) ⟨[.ref x, .str nm t, .str (Str.ofString "p") tp, .str (Str.ofString "s") ts], []⟩) R s := by
  k_dflt (refine' enterMC [("self", .ref x), ("name", .str nm t), ("public", .str (Str.ofString "p") tp), ("system", .str (Str.ofString "s") ts)] [(x, instObj 78 dx), (dx, emptyDict)] ?hn ?X ?T ?ho ?hcd ?hroom ?hbind ?hloc ?_ ?c1 ?c2 ?c3 ?c4; (case X => exact Xs); (case T => exact Ts.nolimit); k_extra "M enterM2")
  case hn => intro p hp; rcases List.mem_cons.mp hp with rfl | hp; exact hx; rw [List.mem_singleton.mp hp]; exact hd
  change ∀ L h₁, Fr (hideAll s.heap [x, dx]) L h₁ _ → News (hideAll s.heap [x, dx]) L h₁ _ → _
  generalize hideAll s.heap [x, dx] = g0 at *
  clear Xs Ts hd hx
  intro L' h' F' N'
  try dsimp only [Mine.bodOf, Mine.scoOf, Mine.parOf, Mine.topS, Mine.inS, Mine.stAt, PySem.Challenge.pw_on0181_01]
  try k_fold
  k_steps
  rename Fr _ _ _ _ => F
  rename News _ _ _ _ => N
  exact k _ _ _ F.keep (N _ (.head _)).1 (N _ (.tail _ (.head _))).1 ⟨_, _, _, _, _, _, _, _, _, _, rfl⟩
theorem c_makeNot {w : World} {A : Around} {s : Shared} {h₀ : Heap} {L : Addr} {m : Str → Option Value} {news : List (Addr × Obj)} {nm : Str} {t tp ts : Tok} {Q Ex : Value → Shared → Prop} {p : Program} {loose : List Str} {mg mb : Str → Option Value}
    (F : Fr h₀ L s.heap m) (N : News h₀ L s.heap news) (X : (heapK w.params).In h₀) (T : TopRead p loose mg mb h₀) (hroom : A.depth + 20 < recursionLimit) (hh : A.handled = none)
    (k : ∀ h' tk' a dx o, Fr h₀ L h' m → News h₀ L h' ((a, instObj 78 dx) :: (dx, o) :: news) → AllNe a news → AllNe dx news → a ≠ dx → NotDict nm o → Q (.ref a) { s with heap := h', toks := tk' }) :
    wpAny (model PR w) A (call (.ref 78) [.str nm t, .str (Str.ofString "p") tp, .str (Str.ofString "s") ts]) Q Ex s :=
  make_own (K := heapK w.params) (od := NotDict nm) F N X (by k_is) (by k_is) (by k_is) hh
    (fun A' s1 x dx R hA _ _ kh ks hx hdd hne kk => ini75 (X.keeps ks) (T.keeps ks) (X.keeps kh) (T.keeps kh) (by omega) hx hdd hne kk) k
def RuleDict (ch : Addr) (kd md : Str) (vv : Value) (o : Obj) : Prop := ∃ k1 k2 k3 k4 t1 t2 t3 t4 tk tm n, o = dictOf [⟨k1, .str (Str.ofString "kind") t1, .str kd tk⟩, ⟨k2, .str (Str.ofString "choices") t2, .ref ch⟩, ⟨k3, .str (Str.ofString "mode") t3, .str md tm⟩, ⟨k4, .str (Str.ofString "value") t4, vv⟩] n
theorem ini190 {w : World} {A : Around} {s : Shared} {x dx ch : Addr} {kd md : Str} {tk tm : Tok} {vv : Value} {vs : List Value} {R : Result → Shared → Prop} {p : Program} {loose : List Str} {mg mb : Str → Option Value}
    (Xs : (heapK w.params).In s.heap) (Ts : TopRead p loose mg mb s.heap) (X : (heapK w.params).In (hideAll s.heap [x, dx])) (T : TopRead p loose mg mb (hideAll s.heap [x, dx])) (hroom : A.depth + 10 < recursionLimit)
    (hx : s.heap.get? x = some (instObj 207 dx)) (hd : s.heap.get? dx = some emptyDict) (hne : x ≠ dx) (hch : (hideAll s.heap [x, dx]).IsTuple ch vs.toArray) (hv : handedIn vv = true) (hh : A.handled = none)
    (k : ∀ h' tk' o, Kp (hideAll s.heap [x, dx]) h' → h'.get? x = some (instObj 207 dx) → h'.get? dx = some o → RuleDict ch kd md vv o → R (.ok (.ret .none)) { s with heap := h', toks := tk' }) :
    codeAny (model PR w) A (.call (.ref 190) ⟨[.ref x, .str kd tk, .ref ch, .str md tm, vv], []⟩) R s := by
  k_dflt (refine' enterMC [("self", .ref x), ("kind", .str kd tk), ("choices", .ref ch), ("mode", .str md tm), ("value", vv)] [(x, instObj 207 dx), (dx, emptyDict)] ?hn ?X ?T ?ho ?hcd ?hroom ?hbind ?hloc ?_ ?c1 ?c2 ?c3 ?c4; (case X => exact Xs); (case T => exact Ts.nolimit); k_extra "M enterM2")
  case hn => intro p hp; rcases List.mem_cons.mp hp with rfl | hp; exact hx; rw [List.mem_singleton.mp hp]; exact hd
  change ∀ L h₁, Fr (hideAll s.heap [x, dx]) L h₁ _ → News (hideAll s.heap [x, dx]) L h₁ _ → _
  generalize hideAll s.heap [x, dx] = g0 at *
  clear Xs Ts hd hx
  intro L' h' F' N'
  try dsimp only [Mine.bodOf, Mine.scoOf, Mine.parOf, Mine.topS, Mine.inS, Mine.stAt, PySem.Challenge.pw_on0181_01]
  try k_fold
  k_steps
  rename Fr _ _ _ _ => F
  rename News _ _ _ _ => N
  exact k _ _ _ F.keep (N _ (.head _)).1 (N _ (.tail _ (.head _))).1 ⟨_, _, _, _, _, _, _, _, _, _, _, rfl⟩
def TupHere (h₀ : Heap) (news : List (Addr × Obj)) (ch : Addr) (vs : List Value) : Prop := h₀.IsTuple ch vs.toArray ∨ ∃ o n, (ch, o) ∈ news ∧ o.cls = .type "tuple" ∧ o.data = .seq vs.toArray n
theorem c_makeRule {w : World} {A : Around} {s : Shared} {h₀ : Heap} {L ch : Addr} {m : Str → Option Value} {news : List (Addr × Obj)} {kd md : Str} {tk tm : Tok} {vv : Value} {vs : List Value} {Q Ex : Value → Shared → Prop} {p : Program} {loose : List Str} {mg mb : Str → Option Value}
    (F : Fr h₀ L s.heap m) (N : News h₀ L s.heap news) (X : (heapK w.params).In h₀) (T : TopRead p loose mg mb h₀) (hroom : A.depth + 20 < recursionLimit) (hh : A.handled = none) (hch : TupHere h₀ news ch vs) (hv : handedIn vv = true)
    (k : ∀ h' tk' a dx o, Fr h₀ L h' m → News h₀ L h' ((a, instObj 207 dx) :: (dx, o) :: news) → AllNe a news → AllNe dx news → a ≠ dx → RuleDict ch kd md vv o → Q (.ref a) { s with heap := h', toks := tk' }) :
    wpAny (model PR w) A (call (.ref 207) [.str kd tk, .ref ch, .str md tm, vv]) Q Ex s :=
  make_own (K := heapK w.params) (od := RuleDict ch kd md vv) F N X (by k_is) (by k_is) (by k_is) hh
    (fun A' s1 x dx R hA hh' kn kh ks hx hdd hne kk => ini190 (vs := vs) (X.keeps ks) (T.keeps ks) (X.keeps kh) (T.keeps kh) (by omega) hx hdd hne (by
      rcases hch with q | ⟨o, n, q1, q2, q3⟩
      · exact q.at fun o e => kh _ o e
      · exact ⟨o, kn _ q1, q2, n, q3⟩) hv hh' kk) k
end Mine
theorem Mine.offM6 : True := by
  w_top off
  trivial
set_option maxHeartbeats 800000
theorem Mine.wordsM61 : True := by
  k_with "!call ref" => (k_here; (with_reducible show wpAny _ _ (call (Value.ref 78) _) _ _ _); k_dflt ((refine' Mine.c_makeNot (by k_asm) (by k_asm) (by k_asm) (by k_asm) (by k_extra "M room") (by first | assumption | exact rfl) ?_); (intro h' tk' a' dx' o' F' N' ne1' ne2' ne3' hN'; (try dsimp only at N'); (replace ne1' := Mine.neA_of ne1'); (try dsimp only [Mine.adr] at ne1'); (replace ne2' := Mine.neA_of ne2'); (try dsimp only [Mine.adr] at ne2'); (try k_sweep))))
  trivial

namespace Mine
theorem fillM6 : PySem.Challenge.rw_on0181_01 = PySem.Challenge.rw_on0181_01 ∧ heapK = heapK := by
  k_fill
  exact ⟨rfl, rfl⟩
theorem c_noO {w : World} {A : Around} {s : Shared} {h₀ : Heap} {L : Addr} {m : Str → Option Value} {news : List (Addr × Obj)} {g : Obj → List (Addr × Obj)} {D E At Nt : Addr} {x : Str} {t tp ts tn : Tok} {n : Int} {oN : Obj} {kvN : List (Str × Value)} {Q Ex : Value → Shared → Prop} {p : Program} {loose : List Str} {mg mb : Str → Option Value}
    (F : Fr h₀ L s.heap m) (N : News h₀ L s.heap news) (X : (heapK w.params).In h₀) (T : TopRead p loose mg mb h₀) (hroom : A.depth + 40 < recursionLimit) (hh : A.handled = none)
    (U : UpdF Nt oN news g) (hD : DtdAt h₀ D E At Nt) (lo : (Nt == sysModules) = false) (hN : oN.IsDictOf (strKind PR w) kvN) (hx : (valueAt kvN x).isSome = false) (hz : kvN.length ≤ sizeLine)
    (k : ∀ h' tk' o' a dx od, Fr h₀ L h' m → News h₀ L h' ((a, instObj 78 dx) :: (dx, od) :: g o') → AllNe a news → AllNe dx news → a ≠ dx → NotDict x od → o'.IsDictOf (strKind PR w) (stored kvN x (.ref a)) → Q .none { s with heap := h', toks := tk' }) :
    wpAny (model PR w) A (call (.ref 117) [.ref D, .str x t, .str (Str.ofString "p") tp, .str (Str.ofString "s") ts, .int n tn]) Q Ex s := by
  have hk0 := kp_hide1 F N (updF_mem U)
  have hd := (N _ (updF_mem U)).1
  have bk := fun h' o' nw => back2 (h' := h') (o' := o') (nw := nw) F N U
  replace k := fun h' tk' o' a dx od (K : Kp (hideAll s.heap [Nt]) h') (e : h'.get? Nt = some o') (hw : ∀ p ∈ [(a, instObj 78 dx), (dx, od)], h'.get? p.1 = some p.2 ∧ (hideAll s.heap [Nt]).get? p.1 = none ∧ p.1 ≠ Nt) =>
    k h' tk' o' a dx od (bk h' o' _ K e hw).1 (bk h' o' _ K e hw).2.1 ((bk h' o' _ K e hw).2.2 _ (.head _)) ((bk h' o' _ K e hw).2.2 _ (.tail _ (.head _)))
  have Xs := X.keeps F.keep
  have Ts := T.keeps F.keep
  replace X := X.keeps hk0
  replace T := T.keeps hk0
  replace hD := hD.kp hk0
  clear F N U bk hk0
  k_dflt (refine' enterM [("self", .ref D), ("name", .str x t), ("public", .str (Str.ofString "p") tp), ("system", .str (Str.ofString "s") ts), ("place", .int n tn)] [(Nt, oN)] ?hn ?X ?T ?ho ?hcd ?hroom ?hbind ?hloc ?_ ?c1 ?c2 ?c3 ?c4; (case X => exact Xs); (case T => exact Ts.nolimit); k_extra "M enterM2")
  case hn => intro p hp; rw [List.mem_singleton.mp hp]; exact hd
  change ∀ L h₁, Fr (hideAll s.heap [Nt]) L h₁ _ → News (hideAll s.heap [Nt]) L h₁ _ → _
  generalize hideAll s.heap [Nt] = g0 at *
  clear Xs Ts hd
  obtain ⟨dD, q1, q2, q3, q4, t1, t2, t3, t4, t5, nn, hD1, hD2⟩ := hD.it
  intro L' h' F' N'
  try dsimp only [Mine.bodOf, Mine.scoOf, Mine.parOf, Mine.topS, Mine.inS, Mine.stAt, PySem.Challenge.pw_on0181_01]
  try k_fold
  k_steps
  rename Fr _ _ _ _ => F
  rename News _ _ _ _ => N
  rename Obj.IsDictOf _ _ (stored _ _ _) => hst
  rename NotDict _ _ => hnd
  rename _ ≠ _ => ne3
  refine k _ _ _ _ _ _ F.keep (N _ (.tail _ (.tail _ (.head _)))).1 (fun p hp => ?_) (by assumption) hnd hst
  rcases List.mem_cons.mp hp with rfl | hp
  · exact ⟨(N _ (.head _)).1, (N _ (.head _)).2.2, by k_ne⟩
  · rw [List.mem_singleton.mp hp]
    exact ⟨(N _ (.tail _ (.head _))).1, (N _ (.tail _ (.head _))).2.2, by k_ne⟩
end Mine
theorem Mine.offM7 : True := by
  w_top off
  trivial
set_option maxHeartbeats 800000
namespace Mine
theorem fillM7 : PySem.Challenge.rw_on0181_01 = PySem.Challenge.rw_on0181_01 ∧ heapK = heapK := by
  k_fill
  exact ⟨rfl, rfl⟩
/-- an attribute of an element that has none yet -/
theorem c_daA0 {w : World} {A : Around} {s : Shared} {h₀ : Heap} {L : Addr} {m : Str → Option Value} {news : List (Addr × Obj)} {g : Obj → List (Addr × Obj)} {D E At Nt xr : Addr} {x y : Str} {t ty : Tok} {oA : Obj} {kvA : List (Str × Value)} {Q Ex : Value → Shared → Prop} {p : Program} {loose : List Str} {mg mb : Str → Option Value}
    (F : Fr h₀ L s.heap m) (N : News h₀ L s.heap news) (X : (heapK w.params).In h₀) (T : TopRead p loose mg mb h₀) (hroom : A.depth + 40 < recursionLimit) (hh : A.handled = none)
    (U : UpdF At oA news g) (hD : DtdAt (hideAll s.heap [At]) D E At Nt) (lo : (At == sysModules) = false) (hA : oA.IsDictOf (strKind PR w) kvA) (hx : valueAt kvA x = none) (hz : kvA.length ≤ sizeLine)
    (k : ∀ h' tk' o' d od, Fr h₀ L h' m → News h₀ L h' ((d, od) :: g o') → AllNe d news → (d == sysModules) = false → od.IsDictOf (strKind PR w) [(y, .ref xr)] → o'.IsDictOf (strKind PR w) (stored kvA x (.ref d)) → Q .none { s with heap := h', toks := tk' }) :
    wpAny (model PR w) A (call (.ref 110) [.ref D, .str x t, .str y ty, .ref xr]) Q Ex s := by
  have hk0 := kp_hide1 F N (updF_mem U)
  have hd := (N _ (updF_mem U)).1
  have bk := fun h' o' nw => back2 (h' := h') (o' := o') (nw := nw) F N U
  replace k := fun h' tk' o' d od (K : Kp (hideAll s.heap [At]) h') (e : h'.get? At = some o') (hw : ∀ p ∈ [(d, od)], h'.get? p.1 = some p.2 ∧ (hideAll s.heap [At]).get? p.1 = none ∧ p.1 ≠ At) =>
    k h' tk' o' d od (bk h' o' _ K e hw).1 (bk h' o' _ K e hw).2.1 ((bk h' o' _ K e hw).2.2 _ (.head _))
  have Xs := X.keeps F.keep
  have Ts := T.keeps F.keep
  replace X := X.keeps hk0
  replace T := T.keeps hk0
  clear F N U bk hk0
  k_dflt (refine' enterM [("self", .ref D), ("element", .str x t), ("name", .str y ty), ("rule", .ref xr)] [(At, oA)] ?hn ?X ?T ?ho ?hcd ?hroom ?hbind ?hloc ?_ ?c1 ?c2 ?c3 ?c4; (case X => exact Xs); (case T => exact Ts.nolimit); k_extra "M enterM2")
  case hn => intro p hp; rw [List.mem_singleton.mp hp]; exact hd
  change ∀ L h₁, Fr (hideAll s.heap [At]) L h₁ _ → News (hideAll s.heap [At]) L h₁ _ → _
  generalize hideAll s.heap [At] = g0 at *
  clear Xs Ts hd
  obtain ⟨dD, q1, q2, q3, q4, t1, t2, t3, t4, t5, nn, hD1, hD2⟩ := hD.it
  intro L' h' F' N'
  try dsimp only [Mine.bodOf, Mine.scoOf, Mine.parOf, Mine.topS, Mine.inS, Mine.stAt, PySem.Challenge.pw_on0181_01]
  try k_fold
  k_steps
  · rename (valueAt [] y).isSome = true => hf
    cases hf
  · rename Fr _ _ _ _ => F
    rename News _ _ _ _ => N
    refine k _ _ _ _ _ F.keep (N _ (.tail _ (.head _))).1 (fun p hp => ?_) (by assumption) (by assumption) (by assumption)
    rw [List.mem_singleton.mp hp]
    exact ⟨(N _ (.head _)).1, (N _ (.head _)).2.2, by k_ne⟩
theorem c_daA {w : World} {A : Around} {s : Shared} {h₀ : Heap} {L : Addr} {m : Str → Option Value} {news : List (Addr × Obj)} {g : Obj → List (Addr × Obj)} {D E At Nt xr : Addr} {x y : Str} {t ty : Tok} {oA : Obj} {kvA : List (Str × Value)} {Q Ex : Value → Shared → Prop} {p : Program} {loose : List Str} {mg mb : Str → Option Value}
    (hD : DtdAt h₀ D E At Nt) (F : Fr h₀ L s.heap m) (N : News h₀ L s.heap news) (U : UpdF At oA news g) (hA : oA.IsDictOf (strKind PR w) kvA) (hx : valueAt kvA x = none) (X : (heapK w.params).In h₀) (T : TopRead p loose mg mb h₀) (hroom : A.depth + 40 < recursionLimit) (hh : A.handled = none) (lo : (At == sysModules) = false) (hz : kvA.length ≤ sizeLine) (k : ∀ h' tk' o' d od, Fr h₀ L h' m → News h₀ L h' ((d, od) :: g o') → AllNe d news → (d == sysModules) = false → od.IsDictOf (strKind PR w) [(y, .ref xr)] → o'.IsDictOf (strKind PR w) (stored kvA x (.ref d)) → Q .none { s with heap := h', toks := tk' }) :
    wpAny (model PR w) A (call (.ref 110) [.ref D, .str x t, .str y ty, .ref xr]) Q Ex s :=
  c_daA0 F N X T hroom hh U (hD.kp (kp_hide1 F N (updF_mem U))) lo hA hx hz k
/-- a further attribute of an element -/
theorem c_daB {w : World} {A : Around} {s : Shared} {h₀ : Heap} {L : Addr} {m : Str → Option Value} {news : List (Addr × Obj)} {g : Obj → List (Addr × Obj)} {D E At Nt d xr : Addr} {x y : Str} {t ty : Tok} {od : Obj} {kvA kvs : List (Str × Value)} {Q Ex : Value → Shared → Prop} {p : Program} {loose : List Str} {mg mb : Str → Option Value}
    (F : Fr h₀ L s.heap m) (N : News h₀ L s.heap news) (X : (heapK w.params).In h₀) (T : TopRead p loose mg mb h₀) (hroom : A.depth + 40 < recursionLimit) (hh : A.handled = none)
    (U : UpdF d od news g) (hD : DtdAt h₀ D E At Nt) (hA : SD w (hideAll s.heap [d]) At kvA) (hx : valueAt kvA x = some (.ref d)) (lo : (d == sysModules) = false) (hd : od.IsDictOf (strKind PR w) kvs) (hy : (valueAt kvs y).isSome = false) (hz : kvs.length ≤ sizeLine)
    (k : ∀ h' tk' o', Fr h₀ L h' m → News h₀ L h' (g o') → o'.IsDictOf (strKind PR w) (stored kvs y (.ref xr)) → Q .none { s with heap := h', toks := tk' }) :
    wpAny (model PR w) A (call (.ref 110) [.ref D, .str x t, .str y ty, .ref xr]) Q Ex s := by
  have hk0 := kp_hide1 F N (updF_mem U)
  have hdd := (N _ (updF_mem U)).1
  have bk := fun h' => back1 (h' := h') F N U
  replace k := fun h' tk' o' (K : Kp (hideAll s.heap [d]) h') (e : h'.get? d = some o') => k h' tk' o' (bk h' K).1 ((bk h' K).2 o' e)
  have Xs := X.keeps F.keep
  have Ts := T.keeps F.keep
  replace X := X.keeps hk0
  replace T := T.keeps hk0
  replace hD := hD.kp hk0
  clear F N U bk hk0
  k_dflt (refine' enterM [("self", .ref D), ("element", .str x t), ("name", .str y ty), ("rule", .ref xr)] [(d, od)] ?hn ?X ?T ?ho ?hcd ?hroom ?hbind ?hloc ?_ ?c1 ?c2 ?c3 ?c4; (case X => exact Xs); (case T => exact Ts.nolimit); k_extra "M enterM2")
  case hn => intro p hp; rw [List.mem_singleton.mp hp]; exact hdd
  change ∀ L h₁, Fr (hideAll s.heap [d]) L h₁ _ → News (hideAll s.heap [d]) L h₁ _ → _
  generalize hideAll s.heap [d] = g0 at *
  clear Xs Ts hdd
  obtain ⟨dD, q1, q2, q3, q4, t1, t2, t3, t4, t5, nn, hD1, hD2⟩ := hD.it
  intro L' h' F' N'
  try dsimp only [Mine.bodOf, Mine.scoOf, Mine.parOf, Mine.topS, Mine.inS, Mine.stAt, PySem.Challenge.pw_on0181_01]
  try k_fold
  k_steps
  rename Fr _ _ _ _ => F
  rename News _ _ _ _ => N
  exact k _ _ _ F.keep (N _ (.head _)).1 (by assumption)
/-- an attribute that is there already -/
theorem c_daC {w : World} {A : Around} {s : Shared} {D E At Nt d xr : Addr} {x y : Str} {t ty : Tok} {kvA kvs : List (Str × Value)} {Q Ex : Value → Shared → Prop} {p : Program} {loose : List Str} {mg mb : Str → Option Value}
    (X : (heapK w.params).In s.heap) (T : TopRead p loose mg mb s.heap) (hroom : A.depth + 40 < recursionLimit) (hh : A.handled = none)
    (hD : DtdAt s.heap D E At Nt) (hA : SD w s.heap At kvA) (hx : valueAt kvA x = some (.ref d)) (hd : SD w s.heap d kvs) (hy : (valueAt kvs y).isSome = true)
    (k : ∀ h' tk', Kp s.heap h' → Q .none { s with heap := h', toks := tk' }) :
    wpAny (model PR w) A (call (.ref 110) [.ref D, .str x t, .str y ty, .ref xr]) Q Ex s := by
  obtain ⟨dD, q1, q2, q3, q4, t1, t2, t3, t4, t5, nn, hD1, hD2⟩ := hD.it
  k_dflt (refine' enter [("self", .ref D), ("element", .str x t), ("name", .str y ty), ("rule", .ref xr)] ?X ?T ?ho ?hcd ?hroom ?hbind ?hloc ?_ ?c1 ?c2 ?c3 ?c4; k_extra "M enter")
  k_steps
  rename Fr _ _ _ _ => F
  exact k _ _ F.keep
end Mine
theorem Mine.offM8 : True := by
  w_top off
  trivial
set_option maxHeartbeats 800000
namespace Mine
def TurnM (h₀ : Heap) (C : Addr) (m₂ : Str → Option Value) (J : List Value → List (Addr × Obj) → Prop) (I D L : Addr) (oI oL : Obj) (ys : List Value) (s : Shared) (y : Value) (s₄ : Shared) : Prop :=
  ∃ nw', CEnd h₀ C m₂ ((I, oI) :: (D, lst ys) :: (L, oL) :: nw') s s₄ ∧ (∀ p ∈ nw', p.1 ≠ I ∧ p.1 ≠ D ∧ p.1 ≠ L) ∧ J (ys ++ [y]) nw'
/-- a turn that may change what stands in the ledger -/
def CTurnM (prog : Program) (w : World) (A : Around) (h₀ : Heap) (C : Addr) (m₂ : Str → Option Value) (cenv : Env) (elt : Expr) (J : List Value → List (Addr × Obj) → Prop) (I D L : Addr) (oI oL : Obj) (ys : List Value) (E' : Value → Shared → Prop) (s : Shared) : Prop :=
  wpAny (model prog w) A (eval elt cenv) (TurnM h₀ C m₂ J I D L oI oL ys s) E' s
section
variable {prog : Program} {w : World} {A : Around} {E : Value → Shared → Prop} {h₀ : Heap} {L : Addr} {m : Str → Option Value} {env : Env}
theorem comp_blockM {elt target iter : Expr} {scope : Scope} {cl : List (Str × Addr)} {pos : Pos} {s₂ : Shared} {I : Addr} {fp : List Addr} {n : Nat} {P : Nat → Value → Prop} {St : Nat → Heap → Prop} {news : List (Addr × Obj)}
    {Bd : Nat → Value → (Str → Option Value) → Prop} {J : Nat → List Value → List (Addr × Obj) → Prop} {RR : Value → Addr → Result → Shared → Prop}
    (W : Walks prog w A I fp [I] n P St) (hgo : ∀ i v s (Q : Unit → Shared → Prop) (E' : Value → Shared → Prop), P i v → Kp h₀ s.heap → St (i + 1) s.heap → Q () s → wpAny (model prog w) A (letOwnedTupleGo target (.ref I) v) Q E' s)
    (hasg : ∀ i v C s m₁ (Q : Unit → Shared → Prop) (E' : Value → Shared → Prop), P i v → Kp h₀ s.heap → s.heap.Ns C m₁ →
      (∀ h' tk m₂, h'.Ns C m₂ → Bd i v m₂ → (∀ c o, c ≠ C → s.heap.get? c = some o → h'.get? c = some o) → Q () { s with heap := h', toks := tk }) → wpAny (model prog w) A (assign target (compEnvC scope cl C env) v) Q E' s)
    (hsz : n ≤ sizeLine) (hcell : ∀ y ∈ scope.names, y.2 ≠ .cell) (hkind : scope.kind = .function) (hIo : ∀ i h, St i h → ∃ o, h.get? I = some o) (hSt : ∀ i h h' oI, St i h → h.get? I = some oI → h'.get? I = some oI → St i h') (hst : St 0 s₂.heap) (hfp : ∀ b ∈ fp, b < s₂.heap.objs.size)
    (F : Fr h₀ L s₂.heap m) (N : News h₀ L s₂.heap news) (hIL : L ≠ I) (hI₀ : h₀.get? I = none) (off : ∀ p ∈ news, p.1 ≠ I)
    (hJ : J 0 [] news)
    (turn : ∀ i v I oI D oL C m₂ h tk ys nw E', i < n → ys.length ≤ i → P i v → Bd i v m₂ → J i ys nw → Fr h₀ C h m₂ → News h₀ C h ((I, oI) :: (D, lst ys) :: (L, oL) :: nw) → (∀ p ∈ nw, p.1 ≠ I ∧ p.1 ≠ C ∧ p.1 ≠ D) → (I ≠ D ∧ I ≠ L ∧ D ≠ L ∧ ∀ p ∈ nw, p.1 ≠ L) →
      CTurnM prog w A h₀ C m₂ (compEnvC scope cl C env) elt (J (i + 1)) I D L oI oL ys E' { s₂ with heap := h, toks := tk })
    (hRR : ∀ D C h tk m' ys nw, Fr h₀ L h m → News h₀ L h ((D, lst ys) :: nw) → h.Ns C m' → h₀.get? C = none → C ≠ L → C ≠ D → (∀ p ∈ nw, p.1 ≠ C ∧ p.1 ≠ D) → J n ys nw → RR (.ref D) C (.ok .next) { s₂ with heap := h, toks := tk }) :
    wpAny (model prog w) A (newList []) (fun acc s₃ => wpAny (model prog w) A (newFunctionEnv scope env.globals cl [] env.qual none .none (some env)) (fun cenv s₄ =>
      codeAny (model prog w) A (.compStart (.ListComp elt [⟨target, iter, [], 0⟩] scope pos) 0 (.ref I) acc { cenv with scope := relabel scope env }) (RR acc cenv.locals) s₄) E s₃) E s₂ := by
  refine wpAny_newObj_type (wpAny_newFunctionEnv hcell (by intro y hy; simp at hy) (fun h₁ hns₁ hsb₁ => ?_) hkind)
  dsimp only at hns₁ hsb₁ ⊢
  generalize hH2 : s₂.heap.push { cls := .type "list", dict := none, data := .seq ([] : List Value).toArray } = H2 at hns₁ hsb₁ ⊢
  have hC : H2.objs.size = s₂.heap.objs.size + 1 := by rw [← hH2, Heap.size_push]
  have hDC : s₂.heap.objs.size ≠ H2.objs.size := by rw [hC]; exact Nat.ne_of_lt (Nat.lt_succ_self _)
  have below : ∀ b, b < s₂.heap.objs.size → b ≠ H2.objs.size ∧ b ≠ s₂.heap.objs.size := fun b hb => ⟨by rw [hC]; exact Nat.ne_of_lt (Nat.lt_succ_of_lt hb), Nat.ne_of_lt hb⟩
  have hDf : s₂.heap.objs.size ∉ fp := fun hm => Nat.lt_irrefl _ (hfp _ hm)
  have hCf : H2.objs.size ∉ fp := fun hm => by have := hfp _ hm; rw [hC] at this; exact Nat.lt_irrefl _ (Nat.lt_of_succ_lt this)
  have hIf : I ∈ fp := W.sub I (List.mem_singleton.mpr rfl)
  have hIlt : I < s₂.heap.objs.size := hfp I hIf
  have old : ∀ b o, s₂.heap.get? b = some o → h₁.get? b = some o := fun b o e => hsb₁.extBut b o (below b (Heap.lt_size e)).1 (Heap.get?_push_of_some _ (hH2 ▸ Heap.get?_push_of_some _ e))
  have hacc : h₁.get? s₂.heap.objs.size = some (lst []) := hsb₁.extBut _ _ hDC (Heap.get?_push_of_some _ (hH2 ▸ Heap.get?_push_size _ rfl))
  have hst₁ : St 0 h₁ := W.frame _ _ _ hst fun b _ o e => old b o e
  have fresh : ∀ a, s₂.heap.objs.size ≤ a → s₂.heap.get? a = none := fun a ha => by
    cases e : s₂.heap.get? a with
    | none => rfl
    | some o' => exact absurd (Heap.lt_size e) (Nat.not_lt.mpr ha)
  have fresh₀ : ∀ a, s₂.heap.objs.size ≤ a → h₀.get? a = none := fun a ha => none_kp F.keep (fresh a ha)
  have hD₀ : h₀.get? s₂.heap.objs.size = none := fresh₀ _ (Nat.le_refl _)
  have hC₀ : h₀.get? H2.objs.size = none := fresh₀ _ (by rw [hC]; exact Nat.le_succ _)
  have hLlt : L < s₂.heap.objs.size := F.ns.lt
  have hDL : s₂.heap.objs.size ≠ L := Ne.symm (below L hLlt).2
  have hCL : H2.objs.size ≠ L := Ne.symm (below L hLlt).1
  have hCI : I ≠ H2.objs.size := (below I hIlt).1
  have hDI : I ≠ s₂.heap.objs.size := (below I hIlt).2
  have aboveC : h₀.objs.size ≤ H2.objs.size := by rw [hC]; exact Nat.le_succ_of_le (Nat.le_of_lt (Nat.lt_of_le_of_lt F.above hLlt))
  have off₀ : ∀ p ∈ news, p.1 ≠ I ∧ p.1 ≠ H2.objs.size ∧ p.1 ≠ s₂.heap.objs.size := fun p hp => ⟨off p hp, (below _ (Heap.lt_size (N p hp).1)).1, (below _ (Heap.lt_size (N p hp).1)).2⟩
  have loop : ∀ s₃ : Shared, s₃ = { s₂ with heap := h₁, toks := s₂.toks + ([] : List (Str × Value)).length } →
      codeAny (model prog w) A (.compLoop (.ListComp elt [⟨target, iter, [], 0⟩] scope pos) 0 (.ref I) (.ref s₂.heap.objs.size) (compEnvC scope cl H2.objs.size env))
        (RR (.ref s₂.heap.objs.size) H2.objs.size) s₃ := by
    rintro s₃ rfl
    refine comp_tests
      (fun k s' => ∃ h' tk i ys m' nw, s' = { s₂ with heap := h', toks := tk } ∧ i ≤ n ∧ k = n + 1 - i ∧ ys.length ≤ i ∧ St i h' ∧ Fr h₀ L h' m ∧ h'.Ns H2.objs.size m' ∧ News h₀ L h' ((s₂.heap.objs.size, lst ys) :: nw) ∧
        (∀ p ∈ nw, p.1 ≠ I ∧ p.1 ≠ H2.objs.size ∧ p.1 ≠ s₂.heap.objs.size) ∧ J i ys nw) ?_ (n + 1)
      ⟨h₁, _, 0, [], _, news, rfl, Nat.zero_le _, rfl, Nat.le_refl _, hst₁, F.keeps old, hns₁, fun p hp => ?_, off₀, hJ⟩
    · rintro k s' ⟨h', tk, i, ys, m', nw, rfl, hi, rfl, hyl, hst', F', hn', N', off', hJ'⟩
      by_cases hlt : i < n
      · refine W.item i _ _ _ hlt hst' fun v h₂ tk₂ hPv hst₂ hk₂ => ?_
        have F₂ : Fr h₀ L h₂ m := fr_but F' hk₂ hIL hI₀
        refine hgo i v _ _ _ hPv F₂.keep hst₂ ?_
        have hn₂ : h₂.Ns H2.objs.size m' := hn'.at' fun o e => hk₂ _ o (by simpa using Ne.symm hCI) e
        refine hasg i v _ _ m' _ _ hPv F₂.keep hn₂ fun h₃ tk₃ m₃ hn₃ hBd hs₃ => ?_
        have hst₃ : St (i + 1) h₃ := W.frame _ _ _ hst₂ fun b hb o e => hs₃ b o (fun q => hCf (by have q' : b = H2.objs.size := q; rw [← q']; exact hb)) e
        obtain ⟨oI, heI⟩ := hIo _ _ hst₃
        have F₃ : Fr h₀ L h₃ m := ⟨F₂.ns.at' fun o e => hs₃ _ o (Ne.symm hCL) e, fun b o e => hs₃ b o (fun q => by rw [q, hC₀] at e; cases e) (F₂.keep b o e), F₂.above⟩
        have FC : Fr h₀ H2.objs.size h₃ m₃ := ⟨hn₃, F₃.keep, aboveC⟩
        have N₂ : News h₀ L h₂ ((s₂.heap.objs.size, lst ys) :: nw) := news_but N' hk₂ fun p hp => by
          rcases List.mem_cons.mp hp with rfl | hp
          · exact Ne.symm hDI
          · exact (off' p hp).1
        have N₃ : News h₀ L h₃ ((s₂.heap.objs.size, lst ys) :: nw) := fun p hp => by
          refine ⟨hs₃ _ _ ?_ (N₂ p hp).1, (N₂ p hp).2⟩
          rcases List.mem_cons.mp hp with rfl | hp
          · exact hDC
          · exact (off' p hp).2.1
        obtain ⟨oL, heL⟩ := ns_some F₃.ns
        have zD : h₃.get? s₂.heap.objs.size = some (lst ys) := (N₃ _ List.mem_cons_self).1
        have hL₀ : h₀.get? L = none := Heap.get?_none_of_le F₃.above
        have NC : News h₀ H2.objs.size h₃ ((I, oI) :: (s₂.heap.objs.size, lst ys) :: (L, oL) :: nw) := fun p hp => by
          rcases List.mem_cons.mp hp with rfl | hp
          · exact ⟨heI, hCI, hI₀⟩
          rcases List.mem_cons.mp hp with rfl | hp
          · exact ⟨zD, hDC, hD₀⟩
          rcases List.mem_cons.mp hp with rfl | hp
          · exact ⟨heL, Ne.symm hCL, hL₀⟩
          · exact ⟨(N₃ p (List.mem_cons_of_mem _ hp)).1, (off' p hp).2.1, (N₃ p (List.mem_cons_of_mem _ hp)).2.2⟩
        obtain ⟨oL', esL, epL, heL', hdL, hkL, hfL⟩ := F₃.ns
        have eoL : oL' = oL := by rw [heL] at heL'; exact (Option.some.inj heL').symm
        subst eoL
        refine wpAny_tests_nil ?_
        simp only [if_true]
        refine wpAny_mono (turn i v I oI s₂.heap.objs.size oL' H2.objs.size m₃ h₃ tk₃ ys nw _ hlt hyl hPv hBd hJ' FC NC off' ⟨hDI, Ne.symm hIL, hDL, fun p hp => (N₃ p (List.mem_cons_of_mem _ hp)).2.1⟩) (fun y s₅ h₅ => ?_) fun _ _ e => e
        obtain ⟨nw₅, ⟨h₅, tk₅, all, rfl, F₅, N₅, sub⟩, hadd, hJ₅⟩ := h₅
        have z1 := (N₅ _ (sub _ (List.mem_cons_self))).1
        have z2 := (N₅ _ (sub _ (List.mem_cons_of_mem _ List.mem_cons_self))).1
        have z3 := (N₅ _ (sub _ (List.mem_cons_of_mem _ (List.mem_cons_of_mem _ List.mem_cons_self)))).1
        have hst₅ : St (i + 1) h₅ := hSt _ _ _ _ hst₃ heI z1
        have up := fun p hp => N₅ p (sub p (List.mem_cons_of_mem _ (List.mem_cons_of_mem _ (List.mem_cons_of_mem _ hp))))
        have offA : ∀ p ∈ nw₅, p.1 ≠ I ∧ p.1 ≠ H2.objs.size ∧ p.1 ≠ s₂.heap.objs.size := fun p hp => ⟨(hadd p hp).1, (up p hp).2.1, (hadd p hp).2.1⟩
        have N₆ : News h₀ L h₅ nw₅ := fun p hp => ⟨(up p hp).1, (hadd p hp).2.2, (up p hp).2.2⟩
        have F₆ : Fr h₀ L h₅ m := ⟨⟨oL', esL, epL, z3, hdL, hkL, hfL⟩, F₅.keep, F₃.above⟩
        refine append_at (hsz := by show ys.toArray.size ≤ sizeLine; rw [List.size_toArray]; omega) z2 fun h₆ hs₆ hD₆ => ?_
        refine ⟨n + 1 - (i + 1), by omega, h₆, tk₅, i + 1, ys ++ [y], _, nw₅, rfl, hlt, rfl, by rw [List.length_append, List.length_singleton]; omega,
          W.frame _ _ _ hst₅ fun b hb o e => hs₆.extBut b o (fun q => hDf (q ▸ hb)) e, F₆.change hs₆ hDL hD₀, F₅.ns.sameBut hs₆ (Ne.symm hDC), fun p hp => ?_, offA, hJ₅⟩
        rcases List.mem_cons.mp hp with rfl | hp
        · exact ⟨hD₆.trans (congrArg some (lst_snoc ys y)), hDL, hD₀⟩
        · exact ⟨hs₆.extBut _ _ (offA p hp).2.2 (N₆ p hp).1, (N₆ p hp).2⟩
      · obtain rfl : i = n := Nat.le_antisymm hi (Nat.not_lt.mp hlt)
        refine W.done _ _ _ hst' fun h₂ tk₂ hk₂ => ?_
        exact hRR _ _ h₂ tk₂ _ ys nw (fr_but F' hk₂ hIL hI₀) (news_but N' hk₂ fun p hp => by
          rcases List.mem_cons.mp hp with rfl | hp
          · exact Ne.symm hDI
          · exact (off' p hp).1) (hn'.at' fun o e => hk₂ _ o (by simpa using Ne.symm hCI) e) hC₀ hCL (Ne.symm hDC) (fun p hp => (off' p hp).2) hJ'
    · rcases List.mem_cons.mp hp with rfl | hp
      · exact ⟨hacc, hDL, hD₀⟩
      · exact ⟨old _ _ (N p hp).1, (N p hp).2⟩
  exact codeAny_compStart_list (loop _ rfl) (W.self 0 _ _ _ hst₁ (loop _ rfl))
end


section
variable {prog : Program} {w : World} {A : Around} {E : Value → Shared → Prop} {s : Shared} {h₀ : Heap} {L : Addr} {m : Str → Option Value} {env : Env}
def LcR (prog : Program) (w : World) (A : Around) (h₀ : Heap) (L : Addr) (m : Str → Option Value) (env : Env) (elt : Expr) (x : Str) (scope : Scope) (cl : List (Str × Addr)) (Fin : Shared → List Value → List (Addr × Obj) → Prop) (xv : Value) (s₁ : Shared) : Prop :=
  ∃ (news : List (Addr × Obj)) (r : Addr) (a₀ b₀ : Int) (t u v : Tok) (n : Nat) (J : Nat → List Value → List (Addr × Obj) → Prop), A.handled = none ∧ Fr h₀ L s₁.heap m ∧ News h₀ L s₁.heap news ∧ xv = .ref r ∧ IsRange s₁.heap r a₀ b₀ 1 t u v ∧ Builtin.Range.small a₀ b₀ 1 = true ∧ Builtin.Range.rangeSize a₀ b₀ 1 = (n : Int) ∧ n ≤ sizeLine ∧ J 0 [] news ∧
    (∀ i I oI D oL C m₂ h tk ys nw E', i < n → ys.length ≤ i → J i ys nw → Fr h₀ C h m₂ → News h₀ C h ((I, oI) :: (D, lst ys) :: (L, oL) :: nw) → (∀ p ∈ nw, p.1 ≠ I ∧ p.1 ≠ C ∧ p.1 ≠ D) → (I ≠ D ∧ I ≠ L ∧ D ≠ L ∧ ∀ p ∈ nw, p.1 ≠ L) →
      CTurnM prog w A h₀ C m₂ (compEnvC scope cl C env) elt (J (i + 1)) I D L oI oL ys E' { s₁ with heap := h, toks := tk }) ∧
    (∀ ys nw, J n ys nw → Fin s₁ ys nw)
theorem lc_range {elt iter : Expr} {x : Str} {px : Pos} {scope : Scope} {cl : List (Str × Addr)} {pos : Pos} {Q : Value → Shared → Prop}
    (F₀ : Fr h₀ L s.heap m) (hclos : closureFor scope env = pure cl) (hcell : ∀ y ∈ scope.names, y.2 ≠ .cell) (hkind : scope.kind = .function)
    (hnames : ∀ y ∈ scope.names, y.2 = .local → scope.names.lookup y.1 = some .local) (hx : scope.names.lookup x = some .local)
    (h : wpAny (model prog w) A (eval iter env) (LcR prog w A h₀ L m env elt x scope cl (FinE' h₀ L m Q)) E s)
    (hs : ∀ x, foldedSetIterable iter env x = pure x := by intro _; rfl) :
    wpAny (model prog w) A (eval (.ListComp elt [⟨.Name x px, iter, [], 0⟩] scope pos) env) Q E s := by
  rw [eval_ListComp]
  refine wpAny_comprehension_free (use := none) rfl hs hclos hkind hnames (wpAny_mono h (fun xv s₁ h₁ => ?_) fun _ _ e => e)
  obtain ⟨news, r, a₀, b₀, t, u, v, n, J, hh, F, N, rfl, hr, hsm, hn, hsz, hJ, turn, fin⟩ := h₁
  refine wpAny_pyIter_range hr hsm ?_
  have up : ∀ b o, s₁.heap.get? b = some o → (s₁.heap.push { cls := .type "range_iterator", data := .fields #[rawInt a₀, rawInt (Builtin.Range.rangeSize a₀ b₀ 1), rawInt 1] }).get? b = some o := fun b o e => Heap.get?_push_of_some _ e
  have hI : (s₁.heap.push { cls := .type "range_iterator", data := .fields #[rawInt a₀, rawInt (Builtin.Range.rangeSize a₀ b₀ 1), rawInt 1] }).get? s₁.heap.objs.size = some { cls := .type "range_iterator", data := .fields #[rawInt a₀, rawInt (Builtin.Range.rangeSize a₀ b₀ 1), rawInt 1] } := Heap.get?_push_size _ rfl
  have hI0 : h₀.get? s₁.heap.objs.size = none := next_is_new F
  have hIL : L ≠ s₁.heap.objs.size := Nat.ne_of_lt F.ns.lt
  have hoff : ∀ p ∈ news, p.1 ≠ s₁.heap.objs.size := fun p hp => Nat.ne_of_lt (Heap.lt_size (N p hp).1)
  have F' := F.keeps up
  have N' := N.grown up
  have hz : ∀ b ∈ [s₁.heap.objs.size], b < (s₁.heap.push { cls := .type "range_iterator", data := .fields #[rawInt a₀, rawInt (Builtin.Range.rangeSize a₀ b₀ 1), rawInt 1] }).objs.size := fun b hb => by rw [List.mem_singleton.mp hb, Heap.size_push]; exact Nat.lt_succ_self _
  have W : Walks prog w A s₁.heap.objs.size [s₁.heap.objs.size] [s₁.heap.objs.size] n (fun i v => i < n ∧ ∃ t, v = .int (a₀ + i * 1) t)
      (fun i h => IsRangeIter h s₁.heap.objs.size (a₀ + (i : Nat) * 1) ((n : Int) - (i : Nat)) 1) := (Walks.range hh _ a₀ 1 n).bound
  refine comp_blockM (Bd := fun _ _ _ => True) (J := J) (s₂ := { s₁ with heap := s₁.heap.push { cls := .type "range_iterator", data := .fields #[rawInt a₀, rawInt (Builtin.Range.rangeSize a₀ b₀ 1), rawInt 1] } }) W (fun _ _ _ _ _ _ _ _ hq => wpAny_of_eq (rfl : letOwnedTupleGo (.Name x px) _ _ = pure ()) hq) (fun i v C s m₁ Q' E' _ _ hn hk =>
      wpAny_assign_Name (wpAny_storeName_local (lookup_relabel_local hx) hn (fun h₃ hn₃ hs₃ => hk h₃ _ _ hn₃ trivial fun c o hc e => hs₃.extBut c o hc e) (by simp [compEnvC, relabel, hkind]))) hsz hcell hkind (fun i h st => ⟨_, st⟩) (fun i h h' oI st e e' => by
        unfold IsRangeIter at st ⊢
        rw [e] at st; rw [e']; exact st) (by show IsRangeIter _ _ _ _ _; rw [hn] at hI; simpa [IsRangeIter, hn] using hI) hz F' N' hIL hI0 hoff hJ
    (fun i v I oI D oL C m₂ h tk ys nw E' q1 q2 _ _ q5 q6 q7 q8 q9 => turn i I oI D oL C m₂ h tk ys nw E' q1 q2 q5 q6 q7 q8 q9) ?_
  intro D C h tk m' ys nw F₂ N₂ hn C₀ hCL hCD offC fJ
  refine ⟨m', hn, fun h'' hs'' => fin ys nw fJ D h'' tk (F₂.change hs'' hCL C₀) (fun p hp => ?_) fun p hp => (offC p hp).2⟩
  refine ⟨hs''.extBut _ _ ?_ (N₂ p hp).1, (N₂ p hp).2⟩
  rcases List.mem_cons.mp hp with rfl | hp
  · exact Ne.symm hCD
  · exact (offC p hp).1
theorem lcR_intro {elt : Expr} {x : Str} {scope : Scope} {cl : List (Str × Addr)} {Fin : Shared → List Value → List (Addr × Obj) → Prop} {s₁ : Shared} {news : List (Addr × Obj)} {r : Addr} {a₀ b₀ : Int} {t u v : Tok} {n : Nat} (J : Nat → List Value → List (Addr × Obj) → Prop)
    (hh : A.handled = none) (F : Fr h₀ L s₁.heap m) (N : News h₀ L s₁.heap news) (hr : IsRange s₁.heap r a₀ b₀ 1 t u v) (hs : Builtin.Range.small a₀ b₀ 1 = true) (hn : Builtin.Range.rangeSize a₀ b₀ 1 = (n : Int)) (hz : n ≤ sizeLine) (h0 : J 0 [] news)
    (turn : ∀ i I oI D oL C m₂ h tk ys nw E', i < n → ys.length ≤ i → J i ys nw → Fr h₀ C h m₂ → News h₀ C h ((I, oI) :: (D, lst ys) :: (L, oL) :: nw) → AllNe I nw → AllNe D nw → AllNe L nw → (@Ne Nat I D ∧ @Ne Nat I L ∧ @Ne Nat D L) →
      CTurnM prog w A h₀ C m₂ (compEnvC scope cl C env) elt (J (i + 1)) I D L oI oL ys E' { s₁ with heap := h, toks := tk })
    (fin : ∀ ys nw, J n ys nw → Fin s₁ ys nw) : LcR prog w A h₀ L m env elt x scope cl Fin (.ref r) s₁ :=
  ⟨news, r, a₀, b₀, t, u, v, n, J, hh, F, N, rfl, hr, hs, hn, hz, h0, fun i I oI D oL C m₂ h tk ys nw E' q1 q2 q3 q4 q5 q6 q7 => turn i I oI D oL C m₂ h tk ys nw E' q1 q2 q3 q4 q5 (allNe_of fun p hp => (q6 p hp).1) (allNe_of fun p hp => (q6 p hp).2.2) (allNe_of q7.2.2.2) ⟨q7.1, q7.2.1, q7.2.2.1⟩, fin⟩
theorem range_two {v : Int} (h : 0 ≤ v ∧ v < 2) : Builtin.Range.small 0 (1 + v) 1 = true ∧ ∃ n : Nat, Builtin.Range.rangeSize 0 (1 + v) 1 = (n : Int) ∧ n ≤ 2 := by
  have : v = 0 ∨ v = 1 := by omega
  rcases this with rfl | rfl
  · exact ⟨by decide, 1, by decide, by decide⟩
  · exact ⟨by decide, 2, by decide, by decide⟩
end
end Mine
theorem Mine.offM9 : True := by
  w_top off
  trivial
set_option maxHeartbeats 800000
namespace Mine
def ListHere (news : List (Addr × Obj)) (th : Addr) (ys : List Value) : Prop := ∃ o n, (th, o) ∈ news ∧ o.cls = .type "list" ∧ o.data = .seq ys.toArray n
def allStr : List Value → Bool
  | [] => true
  | .str _ _ :: r => allStr r
  | _ :: _ => false
def strsOf : List Value → List Str
  | [] => []
  | .str x _ :: r => x :: strsOf r
  | _ :: r => strsOf r
theorem strs_of : ∀ {vs : List Value}, allStr vs = true → StrsAre vs (strsOf vs)
  | [], _ => .nil
  | .str x t :: r, h => .cons x t (strs_of (vs := r) h)
  | .none :: _, h => nomatch h
  | .bool _ :: _, h => nomatch h
  | .int _ _ :: _, h => nomatch h
  | .float _ _ :: _, h => nomatch h
  | .bytes _ _ :: _, h => nomatch h
  | .ref _ :: _, h => nomatch h
  | .type _ :: _, h => nomatch h
  | .builtin _ :: _, h => nomatch h
def someFew (ys : List Value) : Bool := decide (0 < ys.length ∧ ys.length < 100)
theorem c_oneS {w : World} {A : Around} {s : Shared} {h₀ : Heap} {L : Addr} {m : Str → Option Value} {news : List (Addr × Obj)} {g : Obj → List (Addr × Obj)} {src th : Addr} {a b : Int} {ta tb : Tok} {n : Nat} {ys : List Value} {Q Ex : Value → Shared → Prop} {p : Program} {loose : List Str} {mg mb : Str → Option Value}
    (F : Fr h₀ L s.heap m) (N : News h₀ L s.heap news)
    (X : (heapK w.params).In h₀) (T : TopRead p loose mg mb h₀) (hroom : A.depth + 10 < recursionLimit)
    (U : UpdF src (lsn [.int a ta, .int b tb] n) news g) (ha : 0 ≤ a) (hb : 0 ≤ b ∧ b < 2147483648) (hT : ListHere news th ys) (hS : allStr ys = true) (hne : th ≠ src) (hl : someFew ys = true)
    (k : ∀ h' tk' x t a' b' ta' tb' n', Fr h₀ L h' m → News h₀ L h' (g (lsn [.int a' ta', .int b' tb'] n')) → x ∈ strsOf ys → 0 ≤ a' → 0 ≤ b' ∧ b' < 2147483648 → Q (.str x t) { s with heap := h', toks := tk' }) :
    wpAny (model PR w) A (call (.ref 232) [.ref src, .ref th]) Q Ex s := by
  obtain ⟨o, kk, hm, hc, hd⟩ := hT
  replace hS := strs_of hS
  refine c_one F N X T hroom U ha hb ⟨o, (N _ hm).1, hc, kk, hd⟩ hne (of_decide_eq_true hl) fun h' tk' v i a' b' ta' tb' n' F' N' hy ha' hb' => ?_
  obtain ⟨x, t, rfl, hx⟩ := StrsAre.item hS i v hy
  exact k h' tk' x t a' b' ta' tb' n' F' N' (List.mem_of_getElem? hx) ha' hb'
theorem tuple_lsn {prog : Program} {w : World} {A : Around} {E : Value → Shared → Prop} {s : Shared} {h₀ : Heap} {L l : Addr} {m : Str → Option Value} {news : List (Addr × Obj)} {ys : List Value} {n : Nat} {Q : Value → Shared → Prop} (F : Fr h₀ L s.heap m) (N : News h₀ L s.heap news) (hm : (l, lsn ys n) ∈ news) (hz : ys.length ≤ 1000)
    (h : ∀ D h', Fr h₀ L h' m → News h₀ L h' ((D, ({ cls := .type "tuple", data := .seq ys.toArray } : Obj)) :: news) → AllNe D news → Q (.ref D) { s with heap := h' }) : wpAny (model prog w) A (call (.type "tuple") [.ref l]) Q E s :=
  kde_tupleOf F N ⟨_, (N _ hm).1, rfl, _, rfl⟩ (by rw [List.size_toArray]; omega) rfl fun D h' F' N' l1 => h D h' F' N' (allNe_of fun p hp => Nat.ne_of_lt (l1 p hp))
theorem rebase {g h : Heap} {L : Addr} {m : Str → Option Value} {news : List (Addr × Obj)} (F : Fr g L h m) (N : News g L h news) (S : List (Addr × Obj)) (hS : ∀ p ∈ S, g.get? p.1 = some p.2) :
    Fr (hideAll g (S.map (·.1))) L h m ∧ News (hideAll g (S.map (·.1))) L h (S ++ news) ∧ ∀ p ∈ S, AllNe p.1 news := by
  refine ⟨⟨F.ns, fun b o e => F.keep b o (of_hideAll _ e), by rw [hideAll_size]; exact F.above⟩, fun p hp => ?_, fun p hp => allNe_of fun q hq e => ?_⟩
  · rcases List.mem_append.mp hp with q | q
    · exact ⟨F.keep _ _ (hS p q), Nat.ne_of_lt (Nat.lt_of_lt_of_le (Heap.lt_size (hS p q)) F.above), hideAll_none _ (List.mem_map_of_mem q)⟩
    · refine ⟨(N p q).1, (N p q).2.1, ?_⟩
      cases e : (hideAll g (S.map (·.1))).get? p.1 with
      | none => rfl
      | some o => have := of_hideAll _ e; rw [(N p q).2.2] at this; cases this
  · have := (N q hq).2.2
    rw [e, hS p hp] at this; cases this
end Mine
theorem Mine.wordsM91 : True := by
  k_with "M enterC2" => (
  (case ho => k_is)
  (case hcd => k_is)
  (case hroom => omega)
  (case hbind => exact BindsTo.of_eq rfl)
  (case hkind => exact rfl)
  (case hnd => decide +kernel)
  (case c2 => exact rfl)
  (case c3 => exact rfl)
  (case c4 => exact rfl))
  k_with "!call type:tuple" => (k_here; (with_reducible show wpAny _ _ (call (Value.type _) [Value.ref _]) _ _ _); k_dflt (refine' Mine.tuple_lsn (by k_asm) (by k_asm) (by k_extra "M memL") (by with_reducible assumption) ?_ ); intro D' h' F' N' ne1; (replace ne1 := Mine.neA_of ne1); (try dsimp only [Mine.adr] at ne1); (try k_sweep))
  k_with "M csub" => (first | exact List.forall_mem_nil _ | (refine List.forall_mem_cons.mpr ⟨by k_extra "M memL", ?_⟩; k_extra "M csub"))
  k_with "M listhere" => (refine' ⟨_, _, (by k_extra "M memL"), (by exact rfl), (by exact rfl)⟩ )
  k_with "!call ref" => (k_here; (with_reducible show wpAny _ _ (call (Value.ref 232) _) _ _ _); k_dflt ((refine' Mine.c_oneS (by k_asm) (by k_asm) (by k_asm) (by k_asm) (by k_extra "M room") (by k_updF) (by with_reducible assumption) (by with_reducible assumption) (by k_extra "M listhere") (by exact rfl) (by k_ne) (by exact rfl) ?_); (intro h' tk' x' t' a' b' ta' tb' n' F' N' hx' ha' hb'; (try dsimp only at N'); (try k_sweep))))
  k_with "!eval ListComp" => (k_here; (with_reducible show wpAny _ _ (eval (Expr.ListComp (Expr.Call (Expr.Name _ _) _ _ _) [⟨Expr.Name _ _, Expr.Call (Expr.Name (PySem.Str.ofString "range") _) _ _ _, [], _⟩] _ _) _) _ _ _); k_dflt (refine Mine.lc_range (by k_asm) (by exact rfl) (by decide) (by exact rfl) (by decide) (by exact rfl) ?_))
  trivial

namespace Mine
theorem fillM9 : PySem.Challenge.rw_on0181_01 = PySem.Challenge.rw_on0181_01 ∧ heapK = heapK := by
  k_fill
  exact ⟨rfl, rfl⟩
/-- the row of a rule, just made -/
def RowNew (orow och : Obj) (ch : Addr) (r : Rule) : Prop := ∃ (vs : List Value) (tk tm : Tok) (vv : Value) (n1 n2 : Nat), orow.cls = .type "tuple" ∧ orow.data = .seq #[.str r.kind tk, .ref ch, .str r.mode tm, vv] n1 ∧ och.cls = .type "tuple" ∧ och.data = .seq vs.toArray n2 ∧ StrsAre vs r.choices ∧ ValIs r.value vv
def kinds8 : List Str := [Str.ofString "CDATA", Str.ofString "ID", Str.ofString "notation", Str.ofString "IDREF", Str.ofString "ID", Str.ofString "notation", Str.ofString "NMTOKENS", Str.ofString "enumeration"]
def modes4' : List Str := [Str.ofString "implied", Str.ofString "required", Str.ofString "default", Str.ofString "fixed"]
def RuleNew (r : Rule) : Prop := r.kind ∈ kinds8 ∧ (∀ c ∈ r.choices, c ∈ [Str.ofString "gif", Str.ofString "png", Str.ofString "x"]) ∧ r.choices.length ≤ 2 ∧ r.mode ∈ modes4' ∧ (r.value = none ∨ r.value = some (Str.ofString "v"))
def three3 : List Str := [Str.ofString "gif", Str.ofString "png", Str.ofString "x"]
theorem valN : ValIs none .none := rfl
theorem valS {x : Str} {t : Tok} : ValIs (some x) (.str x t) := ⟨t, rfl⟩
theorem lrule_end {Q : Value → Shared → Prop} {s : Shared} {g0 h : Heap} {L' src rr ch : Addr} {m' : Str → Option Value} {nw : List (Addr × Obj)} {orow och : Obj} {kd md : Str} {cs : List Str} {v : Option Str} {tk tm : Tok} {vv : Value} {vs : List Value} {n1 n2 n' : Nat} {a' b' : Int} {ta' tb' : Tok} {tkk : Nat}
    (k : ∀ (h' : Heap) (tk' : Nat) (rr : Addr) (orow : Obj) (ch : Addr) (och : Obj) (r : Rule) (a' b' : Int) (ta' tb' : Tok) (n' : Nat), Kp g0 h' → h'.get? src = some (lsn [.int a' ta', .int b' tb'] n') → (∀ p ∈ [(rr, orow), (ch, och)], h'.get? p.1 = some p.2 ∧ g0.get? p.1 = none ∧ p.1 ≠ src) → rr ≠ ch → RowNew orow och ch r → RuleNew r → 0 ≤ a' → 0 ≤ b' ∧ b' < 2147483648 → Q (.ref rr) { s with heap := h', toks := tk' })
    (F : Fr g0 L' h m') (N : News g0 L' h nw) (m1 : (rr, orow) ∈ nw) (c1 : orow.cls = .type "tuple") (d1 : orow.data = .seq #[.str kd tk, .ref ch, .str md tm, vv] n1) (m2 : (ch, och) ∈ nw) (c2 : och.cls = .type "tuple") (d2 : och.data = .seq vs.toArray n2) (m3 : (src, lsn [.int a' ta', .int b' tb'] n') ∈ nw)
    (e1 : @Ne Nat rr src) (e2 : @Ne Nat ch src) (e3 : @Ne Nat rr ch) (hS : StrsAre vs cs) (hV : ValIs v vv) (hk : kd ∈ kinds8) (hc : ∀ c ∈ cs, c ∈ [Str.ofString "gif", Str.ofString "png", Str.ofString "x"]) (hl : cs.length ≤ 2) (hm : md ∈ modes4') (hv : v = none ∨ v = some (Str.ofString "v")) (ha : 0 ≤ a') (hb : 0 ≤ b' ∧ b' < 2147483648) :
    Q (.ref rr) { s with heap := h, toks := tkk } :=
  k _ _ _ orow ch och ⟨kd, cs, md, v⟩ _ _ _ _ _ F.keep (N _ m3).1 (fun p hp => by
    rcases List.mem_cons.mp hp with rfl | hp
    · exact ⟨(N _ m1).1, (N _ m1).2.2, e1⟩
    · rw [List.mem_singleton.mp hp]; exact ⟨(N _ m2).1, (N _ m2).2.2, e2⟩) e3 ⟨vs, tk, tm, vv, n1, n2, c1, d1, c2, d2, hS, hV⟩ ⟨hk, hc, hl, hm, hv⟩ ha hb
theorem c_lrule {w : World} {A : Around} {s : Shared} {h₀ : Heap} {L : Addr} {m : Str → Option Value} {news : List (Addr × Obj)} {g : Obj → List (Addr × Obj)} {src : Addr} {a b : Int} {ta tb : Tok} {n : Nat} {Q Ex : Value → Shared → Prop} {p : Program} {loose : List Str} {mg mb : Str → Option Value}
    (F : Fr h₀ L s.heap m) (N : News h₀ L s.heap news)
    (X : (heapK w.params).In h₀) (T : TopRead p loose mg mb h₀) (hroom : A.depth + 30 < recursionLimit) (hh : A.handled = none)
    (U : UpdF src (lsn [.int a ta, .int b tb] n) news g) (ha : 0 ≤ a) (hb : 0 ≤ b ∧ b < 2147483648)
    (k : ∀ h' tk' rr orow ch och r a' b' ta' tb' n', Fr h₀ L h' m → News h₀ L h' ((rr, orow) :: (ch, och) :: g (lsn [.int a' ta', .int b' tb'] n')) → AllNe rr news → AllNe ch news → rr ≠ ch → RowNew orow och ch r → RuleNew r → 0 ≤ a' → 0 ≤ b' ∧ b' < 2147483648 → Q (.ref rr) { s with heap := h', toks := tk' }) :
    wpAny (model PR w) A (call (.ref 237) [.ref src]) Q Ex s := by
  have hD := N _ (updF_mem U)
  have bk := fun h' o' nw => back2 (h' := h') (o' := o') (nw := nw) F N U
  replace k := fun h' tk' rr orow ch och r a' b' ta' tb' n' (K : Kp (hideAll s.heap [src]) h') (e : h'.get? src = some (lsn [.int a' ta', .int b' tb'] n')) (hw : ∀ p ∈ [(rr, orow), (ch, och)], h'.get? p.1 = some p.2 ∧ (hideAll s.heap [src]).get? p.1 = none ∧ p.1 ≠ src) =>
    k h' tk' rr orow ch och r a' b' ta' tb' n' (bk h' _ _ K e hw).1 (bk h' _ _ K e hw).2.1 ((bk h' _ _ K e hw).2.2 _ (.head _)) ((bk h' _ _ K e hw).2.2 _ (.tail _ (.head _)))
  clear bk
  have Xs := X.keeps F.keep
  have Ts := T.keeps F.keep
  have hk0 := kp_hide1 F N (updF_mem U)
  replace X := X.keeps hk0
  replace T := T.keeps hk0
  k_dflt (refine' enterC [("source", .ref src)] ?X ?T ?ho ?hcd ?hroom ?hbind ?hkind ?hnd ?_ ?c2 ?c3 ?c4; (case X => exact Xs); (case T => exact Ts.nolimit); k_extra "M enterC2")
  intro L' h' tk' cells' F' N' Y'
  try dsimp only [Mine.bodOf, Mine.scoOf, Mine.parOf, Mine.topS, Mine.inS, Mine.stAt, PySem.Challenge.pw_on0181_01] at *
  k_cells Y'
  obtain ⟨F2, N2, ne2⟩ := rebase F' N' [(src, lsn [.int a ta, .int b tb] n)] (fun p hp => by rw [List.mem_singleton.mp hp]; exact hD.1)
  replace ne2 := ne2 _ (.head _)
  replace ne2 := neA_of ne2
  try dsimp only [Mine.adr] at ne2
  change Fr (hideAll s.heap [src]) _ _ _ at F2
  change News (hideAll s.heap [src]) _ _ _ at N2
  clear F' N' F N hD Xs Ts hk0 U
  generalize hideAll s.heap [src] = g0 at *
  simp only [List.cons_append, List.nil_append] at N2
  try dsimp only [Mine.bodOf, Mine.scoOf, Mine.parOf, Mine.topS, Mine.inS, Mine.stAt, PySem.Challenge.pw_on0181_01] at *
  try k_fold
  k_steps
  rename Fr _ _ _ _ => F
  rename News _ _ _ _ => Nw
  rename IsRange _ _ _ _ _ _ _ _ => hr
  rename (_ ≤ _ ∧ _ < (2 : Int)) => hv
  rename (0 : Int) ≤ _ => ha'
  rename (_ ≤ _ ∧ _ < (2147483648 : Int)) => hb'
  rename (_ : Obj).data = Data.cell _ => hcell
  obtain ⟨hsm, n2, hn2, hz2⟩ := range_two hv
  have N2 : News g0 L' _ [(src, _), (_, _)] := fun p hp => Nw p (.tail _ hp)
  refine lcR_intro (fun i ys nw => ∃ (a b : Int) (ta tb : Tok) (n : Nat) (xs : List Str), nw = [(src, lsn [.int a ta, .int b tb] n), (_, _)] ∧ StrsAre ys xs ∧ (∀ x ∈ xs, x ∈ three3) ∧ xs.length ≤ i ∧ 0 ≤ a ∧ 0 ≤ b ∧ b < 2147483648)
    hh F N2 hr hsm hn2 (fewer (k := 2) hz2) ⟨_, _, _, _, _, [], rfl, .nil, (fun _ h => nomatch h), Nat.le_refl _, ha', hb'⟩ ?_ ?_
  · intro i I oI D oL C m₂ h tk ys nw E' hi hyl hJ F' N' f1 f2 f3 f4
    obtain ⟨a2, b2, ta2, tb2, n3, xs, rfl, hS, hin, hxl, ha2, hb2⟩ := hJ
    simp only [AllNe, and_true] at f1 f2 f3
    clear F Nw N2 hr ha' hb' hv hsm hn2
    unfold CTurnM
    k_steps
    rename Fr _ _ _ _ => F9
    rename News _ _ _ _ => N9
    rename _ ∈ strsOf _ => hx9
    refine ⟨[(src, _), (_, _)], CEnd.intro F9 N9 (by k_extra "M csub"), ?_, ⟨_, _, _, _, _, xs ++ [_], rfl, strs_snoc hS, ?_, ?_, by assumption, by assumption⟩⟩
    · intro p hp
      rcases List.mem_cons.mp hp with rfl | hp
      · exact ⟨f1.1, f2.1, f3.1⟩
      · rw [List.mem_singleton.mp hp]; exact ⟨f1.2, f2.2, f3.2⟩
    · intro y hy
      rcases List.mem_append.mp hy with hy | hy
      · exact hin y hy
      · rw [List.mem_singleton.mp hy]; exact hx9
    · rw [List.length_append, List.length_singleton]; omega
  · intro ys nw hJ D h tk F' N' off
    obtain ⟨a2, b2, ta2, tb2, n3, xs, rfl, hS, hin, hxl, ha2, hb2⟩ := hJ
    replace off := allNe_of off
    replace off := neA_of off
    try dsimp only [Mine.adr] at off
    have hyz : ys.length ≤ 1000 := by rw [StrsAre.length hS]; omega
    clear F Nw N2 hr ha' hb' hv hsm hn2
    dsimp only
    k_steps
    all_goals (
      rename Fr _ _ _ _ => F9
      rename News _ _ _ _ => N9
      refine' lrule_end k F9 N9 ?m1 ?c1 ?d1 ?m2 ?c2 ?d2 ?m3 ?e1 ?e2 ?e3 ?S ?V ?hk ?hc ?hl ?hm ?hv ?a ?b
      case m1 => k_extra "M memL"
      case c1 => exact rfl
      case d1 => exact rfl
      case m2 => k_extra "M memL"
      case c2 => exact rfl
      case d2 => first | exact rfl | exact (rfl : Data.seq (List.toArray []) _ = _)
      case m3 => k_extra "M memL"
      case e1 => k_ne
      case e2 => k_ne
      case e3 => k_ne
      case S => first | exact hS | exact .nil
      case V => first | exact valN | exact valS
      case hk => assumption
      case hc => first | exact hin | exact (fun _ h => nomatch h)
      case hl => first | omega | exact Nat.zero_le _
      case hm => assumption
      case hv => first | exact .inl rfl | exact .inr rfl
      case a => assumption
      case b => assumption)
end Mine
theorem Mine.offX1 : True := by
  w_top off
  trivial
theorem Mine.preX1 : True := by
  k_with_none
  k_with "M skip" => (first | with_reducible exact rfl | (refine Mine.ite_skip (by with_reducible assumption) ?_; k_extra "M skip"))
  k_with "M has" => (first | with_reducible exact Mine.ix0 | (with_reducible refine Mine.ixS ?_; k_extra "M has"))
  k_with "M ix" => ((fail_if_success (fail_if_success (k_extra "M has"))); first | exact ⟨0, rfl⟩ | exact ⟨1, rfl⟩ | exact ⟨2, rfl⟩ | exact ⟨3, rfl⟩ | exact ⟨4, rfl⟩ | exact ⟨5, rfl⟩ | exact ⟨6, rfl⟩ | exact ⟨7, rfl⟩ | exact ⟨8, rfl⟩ | exact ⟨9, rfl⟩ | exact ⟨10, rfl⟩ | exact ⟨11, rfl⟩ | exact ⟨12, rfl⟩ | exact ⟨13, rfl⟩ | exact ⟨14, rfl⟩ | exact ⟨15, rfl⟩ | exact ⟨16, rfl⟩ | exact ⟨17, rfl⟩ | exact ⟨18, rfl⟩ | exact ⟨19, rfl⟩ | exact ⟨20, rfl⟩ | exact ⟨21, rfl⟩ | exact ⟨22, rfl⟩ | exact ⟨23, rfl⟩ | exact ⟨24, rfl⟩ | exact ⟨25, rfl⟩ | exact ⟨26, rfl⟩ | exact ⟨27, rfl⟩ | exact ⟨28, rfl⟩ | exact ⟨29, rfl⟩ | exact ⟨30, rfl⟩ | exact ⟨31, rfl⟩ | exact ⟨32, rfl⟩ | exact ⟨33, rfl⟩)
  k_with "M lt1" => (first | exact Nat.lt_succ_self _ | (refine Nat.lt_succ_of_lt ?_; k_extra "M lt1"))
  k_with "M ne3" => ((with_reducible rename Mine.NeA _ _ => l9); first | (refine Mine.neA_r l9 ?_; k_extra "M ix") | (refine Mine.neA_l l9 ?_; k_extra "M ix") | (clear l9; k_extra "M ne3"))
  k_with "M ne" => (refine neN ?_; (try dsimp only); first
    | (refine Mine.neN_i ?_; with_reducible assumption)
    | (refine Mine.neN_s ?_; with_reducible assumption)
    | with_reducible assumption
    | (refine Ne.symm ?_; with_reducible assumption)
    | (refine Nat.ne_of_lt ?_; with_reducible assumption)
    | (refine Nat.ne_of_gt ?_; with_reducible assumption)
    | (refine Mine.ltA_r (by with_reducible assumption) ?_; k_extra "M ix")
    | (refine Mine.ltA_l (by with_reducible assumption) ?_; k_extra "M ix")
    | (refine Mine.neA_r (by with_reducible assumption) ?_; k_extra "M ix")
    | (refine Mine.neA_l (by with_reducible assumption) ?_; k_extra "M ix")
    | (refine Nat.ne_of_lt ?_; k_extra "M lt1")
    | (refine Nat.ne_of_gt ?_; k_extra "M lt1")
    | k_extra "M ne3"
    | omega
    | ((simp only [Mine.LtA, Mine.NeA] at *); omega))
  k_with "M memR" => (first | with_reducible exact List.mem_cons_self | (with_reducible refine List.mem_cons_of_mem _ ?_; k_extra "M memR") | ((fail_if_success (with_reducible refine List.mem_cons_of_mem _ ?_)); with_reducible assumption))
  k_with "M mem" => (first | with_reducible assumption | k_extra "M memR")
  k_with "M enter" => (
  (case X => first | assumption | exact Frag.In.keeps (by k_asm) (Fr.keep (by k_asm)))
  (case T => exact TopRead.nolimit (by assumption))
  (case ho => k_is)
  (case hcd => k_is)
  (case hroom => omega)
  (case hbind => exact BindsTo.of_eq rfl)
  (case hloc => exact locs rfl)
  (case c1 => decide)
  (case c2 => exact rfl)
  (case c3 => exact rfl)
  (case c4 => exact rfl)
  intro L' h' F' N'
  try dsimp only [Mine.bodOf, Mine.scoOf, Mine.parOf, Mine.topS, Mine.inS, Mine.stAt, PySem.Challenge.pw_on0181_01]
  try k_fold)
  k_with "M enterC" => (
  (case X => first | assumption | exact Frag.In.keeps (by k_asm) (Fr.keep (by k_asm)))
  (case T => exact TopRead.nolimit (by assumption))
  (case ho => k_is)
  (case hcd => k_is)
  (case hroom => omega)
  (case hbind => exact BindsTo.of_eq rfl)
  (case hkind => exact rfl)
  (case hnd => decide +kernel)
  (case c2 => exact rfl)
  (case c3 => exact rfl)
  (case c4 => exact rfl)
  intro L' h' tk' cells' F' N' Y'
  try dsimp only [Mine.bodOf, Mine.scoOf, Mine.parOf, Mine.topS, Mine.inS, Mine.stAt, PySem.Challenge.pw_on0181_01] at *
  k_cells Y'
  try dsimp only [Mine.bodOf, Mine.scoOf, Mine.parOf, Mine.topS, Mine.inS, Mine.stAt, PySem.Challenge.pw_on0181_01]
  try k_fold)
  k_with "M sd" => (first | exact Mine.SD.fr (by k_asm) (by k_asm) | exact Mine.ExactNew (by k_asm) (by k_mem) (by k_asm) (by k_asm))
  k_with "M inst" => exact Mine.inst_base (by k_asm) (by k_asm) (by k_asm)
  k_with "!getMethod ref" => (k_here; (first | (with_reducible show wpAny _ _ (getMethod (Value.ref _) (PySem.Str.ofString "get") _) _ _ _) | (with_reducible show wpAny _ _ (getMethod (Value.ref _) (PySem.Str.ofString "setdefault") _) _ _ _)); refine Mine.sd_mget (by k_extra "M sd") ?_)
  k_with "!getMethod ref" => (k_here; (with_reducible show wpAny _ _ (getMethod (Value.ref _) (PySem.Str.ofString "append") _) _ _ _); k_dflt (refine PySem.W.listMethod_K (by k_asm) (by k_extra "M mem") PySem.F.slot_list_append PySem.F.type_list_append ?_))
  k_with "!callWith ref" => (k_here; k_dflt (first | refine PySem.W.callWith_K (by k_asm) (by k_is) ?_ | refine PySem.W.callWith_K0 (by k_in) (by k_is) ?_))
  k_with "!call builtin:dict.get" => (k_here; first | refine Mine.sd_get1 (by k_extra "M sd") ?_ | refine Mine.sd_get2 (by k_extra "M sd") ?_)
  k_with "!call builtin:dict.get" => (k_here; first | refine Mine.sd_get1v (by k_extra "M sd") (by with_reducible assumption) ?_ | refine Mine.sd_get1n (by k_extra "M sd") (by with_reducible assumption) ?_ | refine Mine.sd_get2v (by k_extra "M sd") (by with_reducible assumption) ?_ | refine Mine.sd_get2n (by k_extra "M sd") (by with_reducible assumption) ?_)
  k_with "!compareOp In str ref" => (k_here; refine Mine.sd_in (by k_extra "M sd") ?_)
  k_with "!compareOp NotIn str ref" => (k_here; refine Mine.sd_notin (by k_extra "M sd") ?_)
  k_with "!subscriptTail" => (k_here; (with_reducible show wpAny _ _ (subscriptTail _ _ (Value.ref _) (Value.str _ _)) _ _ _); refine Mine.sd_item (by k_extra "M sd") (by k_asm) ?_)
  k_with "!eval Name" => (k_here; (with_reducible show wpAny _ _ (eval (Expr.Name _ _) (compEnvC _ _ _ _)) _ _ _); k_dflt (first
  | refine Mine.cx_L (by k_asm) (by with_reducible assumption) ?_
  | refine Mine.cx_C (by k_asm) (by exact rfl) (by k_extra "M mem") (by k_asm) ?_
  | refine Mine.cx_K (by k_asm) (by k_asm) (by k_asm) (by k_is) ?_
  | refine Mine.cx_B (by k_asm) (by k_asm) (by k_asm) (by k_is) (by boot_by_name) (by decide) ?_))
  k_with "!eval ListComp" => (k_here; (with_reducible show wpAny _ _ (eval (Expr.ListComp _ [⟨Expr.Name _ _, _, _, _⟩] _ _) _) _ _ _); k_dflt (refine Mine.lc_name (by k_asm) (by exact rfl) (by decide) (by exact rfl) (by decide) (by exact rfl) ?_))
  k_with "!eval ListComp" => (k_here; (with_reducible show wpAny _ _ (eval (Expr.ListComp _ [⟨Expr.Tuple _ _ _, _, _, _⟩] _ _) _) _ _ _); k_dflt (refine Mine.lc_pair (by k_asm) (by exact rfl) (by decide) (by exact rfl) (by decide) (by exact rfl) (by exact rfl) (by decide) ?_))
  k_with "!exec Assign cons ListComp" => (k_here; k_dflt (
  refine Mine.lc_name_assign (by k_asm) (by exact rfl) (by with_unfolding_all rfl) (by exact rfl) (by decide) (by exact rfl) (by decide) (by exact rfl) (by exact rfl) (by exact rfl) ?_))
  k_with "M room" => (first | (refine Mine.rm0 (by with_reducible assumption) ?_; decide) | (refine Mine.rm1 (by with_reducible assumption) ?_; decide) | (refine Mine.rm2 (by with_reducible assumption) ?_; decide) | ((try simp only [depth_deeper, depth_in1] at *); omega))
  k_with "M sub" => (first | exact fun _ h => h | (intro p9 hp9; repeat (first | exact hp9 | refine List.mem_cons_of_mem _ ?_)))
  k_with "!CEnd" => (refine Mine.CEnd.intro (by k_asm) (by k_asm) (by k_extra "M sub"))
  k_with "M units" => (first | (refine Mine.un0 (by with_reducible assumption) ?_; decide) | (refine Mine.un1 (by with_reducible assumption) ?_; decide) | (refine Mine.un2 (by with_reducible assumption) ?_; decide) | ((try simp only [units_deeper, units_in1, Around.deeper_units] at *); omega))
  k_with "M len" => (first | with_reducible exact Mine.len_lit _ | ((with_reducible refine' Mine.len_app ?_ ?_) <;> k_extra "M len") | with_reducible assumption)
  k_with "!binaryOp Add str str" => (k_here; (with_reducible show wpAny _ _ (binaryOp Operator.Add (Value.str _ _) (Value.str _ _)) _ _ _); (refine Mine.add_strS (by k_extra "M len") (by k_extra "M len") (by decide +kernel) ?_); intro t9 tk9)
  k_with "M reads" => (first
  | exact Reads.none
  | exact Reads.str _ _
  | exact Reads.keeps (Fr.keep (by k_asm)) (by with_reducible assumption)
  | exact reads_tuple_at (News.get (by k_asm) (by k_extra "M mem")) rfl rfl (by k_extra "M readsAll")
  | exact Mine.reads_strs (by k_asm) (by k_extra "M mem") (by with_reducible assumption))
  k_with "M readsAll" => (first
  | exact ReadsAll.nil
  | exact ReadsAll.cons (by k_extra "M reads") (by k_extra "M readsAll"))
  k_with "M shaped" => (first | with_reducible assumption | exact rfl | decide +kernel)
  k_with "!compareOp Eq ref ref" => (k_here; k_dflt (refine eq_dataH (by k_extra "M reads") (by k_extra "M reads") (by k_extra "M shaped") (by k_extra "M shaped") (by k_extra "M units") ?_))
  k_with "!compareOp Eq none ref" => (k_here; k_dflt (refine eq_dataH (by k_extra "M reads") (by k_extra "M reads") (by k_extra "M shaped") (by k_extra "M shaped") (by k_extra "M units") ?_))
  k_with "M for" => (k_here; k_dflt (refine Mine.for_rule (by k_asm) (by exact rfl) ?_))
  k_with "!exec For Name Tuple cons nil" => k_extra "M for"
  k_with "!exec For Name Name cons nil" => k_extra "M for"
  k_with "!exec For Name Attribute cons nil" => k_extra "M for"
  k_with "!exec For Name List cons nil" => k_extra "M for"
  k_with "!exec For Name Subscript cons nil" => k_extra "M for"
  k_with "!exec For Tuple Name cons nil" => k_extra "M for"
  k_with "!execs cons Assign cons" => (k_here; refine wpAny_execs_cons ?_)
  k_with "!call builtin:list.append" => (k_here; (with_reducible show wpAny _ _ (call (Value.builtin _) [Value.ref _, _]) _ _ _); k_dflt (refine' Mine.append_L (by k_asm) (by k_asm) (by k_upd) (by ((try simp only [List.length_append, List.length_singleton]); omega)) ?_; k_whole); intro h' F' N'; (try k_sweep))
  k_with "M fsub" => (first | exact List.forall_mem_nil _ | (refine List.forall_mem_cons.mpr ⟨⟨by k_extra "M mem", by k_ne⟩, ?_⟩; k_extra "M fsub"))
  k_with "!subscriptTail Name Constant ref int" => (k_here; (with_reducible show wpAny _ _ (subscriptTail _ _ (Value.ref _) (Value.int _ _)) _ _ _); k_dflt (refine Mine.item_tupB (by k_asm) (by with_reducible assumption) (by decide) (by decide) (by exact rfl) (by exact rfl) ?_))
  k_with "!subscriptTail" => (k_here; (with_reducible show wpAny _ _ (subscriptTail _ _ (Value.ref _) (Value.int _ _)) _ _ _); k_dflt (refine Mine.item_tupB (by k_asm) (by with_reducible assumption) (by decide) (by decide) (by exact rfl) (by exact rfl) ?_))
  k_with "M memL" => (first | exact List.mem_cons_self | (refine List.mem_cons_of_mem _ ?_; k_extra "M memL"))
  k_with "M memall" => (first | exact True.intro | (refine And.intro (by k_extra "M memL") ?_; k_extra "M memall"))
  k_with "!call ref" => (k_here; k_dflt ((refine' Mine.c_rules (by k_asm) (by k_asm) (by k_asm) (by k_asm) (by k_extra "M room") (by k_asm) (by k_asm) ?_ ?_); (intro h' tk' d' F' N' hI'; obtain ⟨kvs', hS', hP'⟩ := hI'; (try k_sweep); rotate_left; intro h' tk' d' o' F' N' hr' hs' lo' ne'; (replace ne' := Mine.allNe_of ne'); (replace ne' := Mine.neA_of ne'); (try dsimp only [Mine.adr] at ne'); (try k_sweep); rotate_right)))
  k_with "M few" => (first | with_reducible assumption | exact Nat.le_trans (Mine.namesOf_len _ _) (by with_reducible assumption))
  k_with "!call builtin:len" => (k_here; (with_reducible show wpAny _ _ (call (Value.builtin "len") [Value.ref _]) _ _ _); k_dflt (refine Mine.len_strs (by k_asm) (by k_extra "M mem") (by with_reducible assumption) (by k_extra "M few") ?_))
  k_with "M handled" => (first | assumption | exact rfl)
  k_with "M ok" => (first | exact Mine.ok_nil | assumption)
  k_with "!compareOp NotEq ref ref" => (k_here; k_dflt (refine Mine.ne_strs (by k_asm) (by k_extra "M mem") (by k_extra "M mem") (by first | with_reducible assumption | exact PyProof.Rows.StrsAre.nil) (by first | with_reducible assumption | exact PyProof.Rows.StrsAre.nil) (by k_extra "M ok") (by k_extra "M ok") (by k_extra "M units") ?_))
  k_with "!subscriptTail Name Constant ref int" => (k_here; (with_reducible show wpAny _ _ (subscriptTail _ _ (Value.ref _) (Value.int 0 _)) _ _ _); k_dflt (refine Mine.item_strs0 (by k_asm) (by k_extra "M mem") (by with_reducible assumption) (by with_reducible assumption) ?_); intro y' r' t' hx')
  k_with "!subscriptTail" => (k_here; (with_reducible show wpAny _ _ (subscriptTail _ _ (Value.ref _) (Value.int 0 _)) _ _ _); k_dflt (refine Mine.item_strs0 (by k_asm) (by k_extra "M mem") (by with_reducible assumption) (by with_reducible assumption) ?_); intro y' r' t' hx')
  k_with "!call ref" => (k_here; k_dflt ((refine' Mine.c_nok (by k_asm) (by k_asm) (by k_asm) (by k_asm) (by k_extra "M room") (by k_extra "M handled") (by k_asm) (by k_asm) (by assumption) ?_); (intro h' tk' a' ys' F' N' ne' hS'; (replace ne' := Mine.allNe_of ne'); (replace ne' := Mine.neA_of ne'); (try dsimp only [Mine.adr] at ne'); try k_sweep)))
  k_with "!call ref" => (k_here; k_dflt ((refine' Mine.c_model (by k_asm) (by k_asm) (by k_asm) (by k_asm) (by k_extra "M room") (by k_asm) (by k_asm) ?_); (intro h' tk' F' N'; (try k_sweep); (first | (rename valueAt _ _ = _ => hv9; rw [hv9]; dsimp only [Option.getD_some, Option.getD_none]) | skip))))
  k_with "!binaryOp Add ref ref" => (k_here; (with_reducible show wpAny _ _ (binaryOp _ (Value.ref _) (Value.ref _)) _ _ _); k_dflt (refine' Mine.add_L (by k_asm) (by k_asm) (by k_extra "M mem") (by k_extra "M mem") (by ((try simp only [List.length_append, List.length_singleton]); omega)) ?_ ); intro D' h' F' N' ne'; (replace ne' := Mine.neA_of ne'); (try dsimp only [Mine.adr] at ne'); (try k_sweep))
  k_with "!call ref" => (k_here; k_dflt ((refine' Mine.c_nf (by k_asm) (by k_asm) (by k_asm) (by k_asm) (by k_extra "M room") (by k_extra "M units") (by k_extra "M handled") (by k_asm) (by k_asm) (by k_asm) (by k_asm) (by with_reducible assumption) (by with_reducible assumption) (by with_reducible assumption) (by with_reducible assumption) ?_); (intro h' tk' a' ys' n' F' N' ne' hS'; (have hnl' := Mine.nf_len hS'); (replace ne' := Mine.allNe_of ne'); (replace ne' := Mine.neA_of ne'); (try dsimp only [Mine.adr] at ne'); try k_sweep)))
  k_with "!call ref" => (k_here; k_dflt ((refine' Mine.c_ef (by k_asm) (by k_asm) (by k_asm) (by k_asm) (by k_extra "M room") (by k_extra "M units") (by k_extra "M handled") (by k_asm) (by k_asm) (by k_asm) (by k_asm) (by with_reducible assumption) (by with_reducible assumption) (by with_reducible assumption) ?_); (intro h' tk' a' ys' n' F' N' ne' hS' hl'; (replace ne' := Mine.allNe_of ne'); (replace ne' := Mine.neA_of ne'); (try dsimp only [Mine.adr] at ne'); try k_sweep)))
  k_with "M enterM" => (
  (case X => first | assumption | exact Frag.In.keeps (by k_asm) (Fr.keep (by k_asm)))
  (case T => exact TopRead.nolimit (by assumption))
  (case ho => k_is)
  (case hcd => k_is)
  (case hroom => omega)
  (case hbind => exact BindsTo.of_eq rfl)
  (case hloc => exact locs rfl)
  (case c1 => decide)
  (case c2 => exact rfl)
  (case c3 => exact rfl)
  (case c4 => exact rfl))
  trivial
set_option maxHeartbeats 800000
namespace Mine
abbrev excO (C : Addr) (d : Option Addr) (t : Addr) : Obj := { cls := .ref C, dict := d, data := .fields #[.ref t, .none, .none, .none, .bool false, .none] }
structure ExcCls (h : Heap) (C N : Addr) (bm : List Value) : Prop where
  it : ∃ nm q bs hdct sn sub ab col dd k0 k1 k2 k3 k5, h.get? C = some (excClassObj nm q C N bs bm hdct sn sub ab col dd k0 k1 k2 k3 k5 "Exception.__new__")
theorem ExcCls.kp {h h' : Heap} {C N : Addr} {bm : List Value} (x : ExcCls h C N bm) (k : Kp h h') : ExcCls h' C N bm :=
  let ⟨nm, q, bs, hdct, sn, sub, ab, col, dd, k0, k1, k2, k3, k5, e⟩ := x.it; ⟨nm, q, bs, hdct, sn, sub, ab, col, dd, k0, k1, k2, k3, k5, k _ _ e⟩
theorem exccls_in {K : Frag} {h : Heap} {C N : Addr} {bm : List Value} {nm q bs hdct sn sub ab col dd k0 k1 k2 k3 k5} (X : K.In h) (ho : K.lookup C = some (excClassObj nm q C N bs bm hdct sn sub ab col dd k0 k1 k2 k3 k5 "Exception.__new__")) : ExcCls h C N bm :=
  ⟨nm, q, bs, hdct, sn, sub, ab, col, dd, k0, k1, k2, k3, k5, X _ _ ho⟩
abbrev FE := PySem.F.excBase_Exception
section
variable {prog : Program} {w : World} {A : Around} {E : Value → Shared → Prop} {h : Heap} {g : Array GenState} {d : Drawn} {t : Nat} {os : OsState} {e C N : Addr} {bm : List Value}
theorem check_exc_init {M : Model} {oe : Obj} {rest : List Value} {Q : Unit → Shared → Prop} (hC : ExcCls h C N bm) (hB : bm.contains (.type "Exception") = true) (he : h.get? e = some oe) (hcls : oe.cls = .ref C) (hq : Q () ⟨h, g, d, t, os⟩) :
    wpAny M A (checkBuiltinCall "Exception.__init__" ⟨.ref e :: rest, []⟩) Q E ⟨h, g, d, t, os⟩ := by
  obtain ⟨nm, q, bs, hdct, sn, sub, ab, col, dd, k0, k1, k2, k3, k5, hC⟩ := hC.it
  have hb : (Value.ref C :: bm).contains (.type "Exception") = true := by rw [List.contains_cons, hB, Bool.or_true]
  have hst := FE.noStar
  simp only [checkBuiltinCall, FE.initKind, FE.initSplit, FE.initRow]
  repeat (first | (with_reducible refine wpAny_loadPart_at he ?_; rw [hcls]) | with_reducible refine wpAny_loadPart_at hC ?_ | (with_reducible refine wpAny_isSubtype_exc hC ?_; rw [hb]) | wp_step)
  refine wpAny_onRaise ?_
  rw [show ∀ (a b : String) (n : Nat), Bind.check ⟨.positional, "*", "Exception", .self, [⟨"args", .varPos, false⟩]⟩ a b n (List.map (fun x => x.fst) ({ pos := Value.ref e :: rest } : Args).kw) = pure () from
    fun a b n => check_star_args _ _ _ _ _ _]
  exact wpAny_pure hq

theorem exc_init {s : Shared} {dx : Option Addr} {t0 : Addr} {v : Value} {Q : Value → Shared → Prop} (hC : ExcCls s.heap C N bm) (hB : bm.contains (.type "Exception") = true) (he : s.heap.get? e = some (excO C dx t0))
    (hq : ∀ h' t', KpBut [e] s.heap h' → h'.get? e = some (excO C dx t') → Q .none { s with heap := h' }) :
    wpAny (model prog w) A (call (.builtin "Exception.__init__") [.ref e, v]) Q E s := by
  obtain ⟨h, g, d, t, os⟩ := s
  refine wpAny_call (codeAny_call_builtin FE.init.plain FE.initEntry (check_exc_init hC hB he rfl ?_))
  have hep := Heap.get?_push_of_some { cls := .type "tuple", data := .seq [v].toArray } he
  unfold Builtin.«BaseException.__init__» Builtin.BaseException.bexcPut
  wp_walk
  refine hq _ h.objs.size (fun b o hb e' => ?_) ?_
  · have hbe : b ≠ e := fun q => hb (q ▸ List.mem_singleton.mpr rfl)
    show ((h.push _).update e _).get? b = _
    rw [Heap.get?_update_other _ _ (Ne.symm hbe)]
    exact Heap.get?_push_of_some _ e'
  · exact Heap.get?_update_self _ hep rfl
theorem exc_new {R : Result → Shared → Prop} {rest : List Value} (hC : ExcCls h C N bm) (hB : bm.contains (.type "Exception") = true) (hA : bm.contains (.type "AttributeError") = false) (hN : bm.contains (.type "NameError") = false)
    (hq : R (.ok (.ret (.ref (h.objs.size + 1)))) ⟨(h.push { cls := .type "tuple", data := .seq rest.toArray }).push (excO C none h.objs.size), g, d, t, os⟩) (hrest : rest.length ≤ sizeLine) :
    codeAny (model prog w) A (.builtin "Exception.__new__" ⟨.ref C :: rest, []⟩) R ⟨h, g, d, t, os⟩ := by
  obtain ⟨nm, q, bs, hdct, sn, sub, ab, col, dd, k0, k1, k2, k3, k5, hC⟩ := hC.it
  have he := FE.ends
  have b1 : (Value.ref C :: bm).contains (.type "Exception") = true := by rw [List.contains_cons, hB, Bool.or_true]
  have b2 : (Value.ref C :: bm).contains (.type "AttributeError") = false := by rw [List.contains_cons, hA]; rfl
  have b3 : (Value.ref C :: bm).contains (.type "NameError") = false := by rw [List.contains_cons, hN]; rfl
  refine codeAny_builtinAt FE.entry ?_
  unfold Builtin.«BaseException.__new__»
  refine PySem.wpAt_bind ?_
  show PySem.wpAt _ _ _ (stack >>= _) _ _ _
  refine PySem.wpAt_bind (PySem.wpAt_stack fun p below => PySem.wpAt_of_wpAny ?_)
  wp_walk
  refine PySem.wpAt_of_wpAny ?_
  rw [FE.owner]
  repeat (first | with_reducible refine wpAny_madeHere_exc FE.canon hC ?_ | with_reducible refine wpAny_loadPart_at hC ?_ | (with_reducible refine wpAny_isSubtype_exc hC ?_; first | rw [b1] | rw [b2] | rw [b3]) | wp_step)
  show R _ _
  rw [Heap.size_push]
  exact hq
theorem exc_check_new {M : Model} {rest : List Value} {Q : Unit → Shared → Prop} (hC : ExcCls h C N bm) (hB : bm.contains (.type "Exception") = true)
    (hq : Q () ⟨h, g, d, t, os⟩) : wpAny M A (checkBuiltinCall "Exception.__new__" ⟨.ref C :: rest, []⟩) Q E ⟨h, g, d, t, os⟩ := by
  obtain ⟨nm, q, bs, hdct, sn, sub, ab, col, dd, k0, k1, k2, k3, k5, hC⟩ := hC.it
  have b1 : (Value.ref C :: bm).contains (.type "Exception") = true := by rw [List.contains_cons, hB, Bool.or_true]
  have hst := FE.noStar
  simp only [checkBuiltinCall, FE.newKind, FE.newSplit, FE.newRow]
  repeat (first | refine wpAny_loadPart_at hC ?_ | (refine wpAny_isSubtype_exc hC ?_; rw [b1]) | refine wpAny_staticBase_exc hC ?_ | refine wpAny_madeBy_exc hC ?_ | simp only [bne_self_eq_false, Bool.false_eq_true, if_false] | wp_step)
  exact hq
/-- an exception class called, its own __init__ run -/
theorem exc_made {s : Shared} {rest : List Value} {fI : Addr} {K : Frag} {Q : Value → Shared → Prop} (X : K.In s.heap) (hC : ExcCls s.heap C N bm) (hB : bm.contains (.type "Exception") = true) (hA : bm.contains (.type "AttributeError") = false) (hN : bm.contains (.type "NameError") = false)
    (hi : findIn K (.ref C) "__init__" = some (some (.ref fI))) (hf : typeIn K (.ref fI) = some (.type "function")) (hrest : rest.length ≤ sizeLine)
    (hq : ∀ h' e tt, Kp s.heap h' → s.heap.get? e = none → h'.get? e = some (excO C none tt) →
      wpAny (model prog w) (A.under (.builtin "type.__call__" ⟨.ref C :: rest, []⟩)) (call (.ref fI) (.ref e :: rest)) (fun r s' => r = .none ∧ Q (.ref e) s') E { s with heap := h' }) :
    wpAny (model prog w) A (call (.ref C) rest) Q E s := by
  obtain ⟨h, g, d, t, os⟩ := s
  obtain ⟨nm, q, bs, hdct, sn, sub, ab, col, dd, k0, k1, k2, k3, k5, hc⟩ := hC.it
  have f1 := tc_lookup
  have f2 := tc_bind (.ref C)
  have hT : (⟨h, g, d, t, os⟩ : Shared).TypeIs (.ref C) "type" := ⟨_, hc, rfl⟩
  refine wpAny_call (codeAny_of_tree ?_)
  show wpAny _ _ (callAny (.ref C) _) _ _ _
  repeat (any_goals (first | assumption | with_reducible refine wpAny_loadPart_at hc ?_ | wp_step))
  refine ⟨rfl, ?_⟩
  refine codeAny_call_builtin_at (Code.quiet_builtin _ (by decide +kernel)) entry_typeCall (wpAny_check_type_call_sub hc ?_)
  repeat (first | with_reducible refine wpAny_loadPart_at hc ?_ | with_reducible refine wpAny_madeBy_exc hc ?_ | wp_step)
  refine codeAny_call_builtin_code (Code.quiet_builtin _ FE.quiet) (exc_check_new hC hB ?_)
  refine exc_new (rest := rest) hC hB hA hN ?_ hrest
  show wpAny _ _ _ _ _ ⟨(h.push { cls := .type "tuple", data := .seq rest.toArray }).push { cls := .ref C, data := .fields #[.ref h.objs.size, .none, .none, .none, .bool false, .none] }, g, d, t, os⟩
  have up : ∀ b o, h.get? b = some o → ((h.push { cls := .type "tuple", data := .seq rest.toArray }).push { cls := .ref C, data := .fields #[.ref h.objs.size, .none, .none, .none, .bool false, .none] }).get? b = some o := fun b o e => Heap.get?_push_of_some _ (Heap.get?_push_of_some _ e)
  have hget : ((h.push { cls := .type "tuple", data := .seq rest.toArray }).push { cls := .ref C, data := .fields #[.ref h.objs.size, .none, .none, .none, .bool false, .none] }).get? (h.objs.size + 1) = some { cls := .ref C, data := .fields #[.ref h.objs.size, .none, .none, .none, .bool false, .none] } := by heap_get
  have hnew : h.get? (h.objs.size + 1) = none := Heap.get?_none_of_le (Nat.le_succ _)
  have hc1 := up _ _ hc
  have X1 := X.keeps up
  have hcC : (Value.ref C :: bm).contains (.ref C) = true := by simp
  replace hq := hq _ _ _ up hnew hget
  unfold isInstance
  repeat (first | with_reducible refine wpAny_loadPart_at hget ?_ | (with_reducible refine wpAny_isSubtype_exc hc1 ?_; rw [hcC]) | wp_step)
  show wpAny _ _ (typeLookup (.ref C) _) _ _ _
  refine (looks_findIn X1 hi).at ?_
  refine wpAny_holding (wpAny_bind ((bind_fn X1 _ hf).at ?_))
  refine wpAny_bind (wpAny_mono hq (fun r s' hr => ?_) fun _ _ x => x)
  obtain ⟨rfl, hQ⟩ := hr
  wp_walk
  exact hQ
end
end Mine
theorem Mine.offX2 : True := by
  w_top off
  trivial
open PySem PySem.W PyProof.Rows PySem.Calls PySem.Spec PyProof.Rows.LCg Builtin Builtin.ObjectAttr
set_option maxHeartbeats 800000
namespace Mine
theorem exc_initL {prog : Program} {w : World} {A : Around} {E : Value → Shared → Prop} {s : Shared} {h₀ : Heap} {L e C N t : Addr} {bm : List Value} {m : Str → Option Value} {news : List (Addr × Obj)} {g : Obj → List (Addr × Obj)} {dx : Option Addr} {v : Value} {Q : Value → Shared → Prop}
    (F : Fr h₀ L s.heap m) (Nw : News h₀ L s.heap news) (U : UpdF e (excO C dx t) news g) (hC : ExcCls h₀ C N bm) (hB : bm.contains (.type "Exception") = true)
    (k : ∀ h' t', Fr h₀ L h' m → News h₀ L h' (g (excO C dx t')) → Q .none { s with heap := h' }) :
    wpAny (model prog w) A (call (.builtin "Exception.__init__") [.ref e, v]) Q E s := by
  have D := Nw _ (updF_mem U)
  refine exc_init (hC.kp F.keep) hB D.1 fun h' t' kb he => ?_
  exact k h' t' (fr_kpBut F kb fun x hx => by rw [List.mem_singleton.mp hx]; exact D.2) (news_kpBut Nw U kb he)

section
variable {prog : Program} {w : World} {A : Around} {K : Frag} {C x : Addr} {s : Shared} {R : Result → Shared → Prop}
/-- a store into the dict of an object -/
theorem store_in {P : Fin → Shared → Prop} {E : Value → Shared → Prop} {dx : Addr} {od od' : Obj} {name : Str} {tk : Tok} {v : Value} {es : List DictEntry} {n : Nat} (D : s.heap.get? dx = some od)
    (hl : (lookIn name od).isSome = true) (e : Obj.putName name (PyData.keyHash w.params name) (.str name s.toks) v od = od') (e' : od'.data = .dict es.toArray n) (hz : es.length ≤ 1000)
    (h : ∀ h', KpBut [dx] s.heap h' → h'.get? dx = some od' → P (.done (.ret .none)) { s with heap := h', toks := s.toks + 1 }) :
    wpAny (model prog w) A (storeInDict dx (.str name tk) name v) P E s := by
  unfold storeInDict newKeyGuard
  refine wpAny_bind (wpAny_pure (wpAny_bind ?_))
  unfold nsSet
  refine wpAny_bind (wpAny_bind (wpAny_askSetting (wpAny_pure (wpAny_bind (wpAny_mkText (wpAny_bind (wpAny_loadPart D ?_)))))))
  unfold lookIn at hl
  split at hl
  · rename_i es₀ n₀ q
    rw [q]
    dsimp only
    have c : (!es₀.any (·.key.isStr name) && es₀.any (·.refKey)) = false := by
      rw [← Array.any_toList, ← Array.any_toList]
      split at hl
      · rename_i en he
        rw [List.any_eq_true.mpr ⟨en, List.mem_of_find?_eq_some he, List.find?_some he⟩]; rfl
      · split at hl
        · cases hl
        · rename_i z; rw [Bool.not_eq_true] at z; rw [z, Bool.and_false]
    rw [aRefKeyMayBeTheName_at, c]
    refine wpAny_updatePart D ?_
    have fr : (Obj.putName name (PyData.keyHash w.params name) (.str name s.toks) v od).isFreed = false := by
      rw [e]
      obtain ⟨_, _, dd, _⟩ := od'
      cases e'
      rfl
    have D' : (s.heap.update dx (Obj.putName name (PyData.keyHash w.params name) (.str name s.toks) v)).get? dx = some od' := by
      rw [← e]
      exact Heap.get?_update_self _ D fr
    refine wpAny_bind (wpAny_lookBehind D' (by rw [e']; exact pastItsLine_dict (by rw [List.size_toArray, sizeLine_eq]; omega)) ?_)
    refine wpAny_pure (h _ (fun b o hb e9 => ?_) D')
    rw [Heap.get?_update_other _ _ (fun q => hb (by rw [← q]; exact List.mem_singleton.mpr rfl))]
    exact e9
  · cases hl

theorem refuse_exc (self : Value) (c b : Addr) : refuseLoop self "__setattr__" [.ref c, .ref b, .type "Exception", .type "BaseException", .type "object"] = pure () := by
  rw [refuseLoop_ref, refuseLoop_ref]
  exact PySem.F.store_Exception.passes self
/-- object.__setattr__ on an exception of a class of the text's own -/
theorem osa_exc {ox : Obj} {od : Option Obj} {name : Str} {tk : Tok} {v : Value} {B : Addr} {cd : ClassData} (X : K.In s.heap) (I : InstAt s.heap x ox C od) (hc : clsIn K C = some cd) (hm : cd.mro = [.ref C, .ref B, .type "Exception", .type "BaseException", .type "object"]) (ht : findIn K (.ref C) name = some none)
    (h : ∀ b, wpAny (model prog w) A.in1 (storeInOwnDict (.ref x) (.ref C) (.str name tk) name v b)
      (fun fin s' => match fin with | .done f => R (.ok f) s' | .again c' => c'.quiet = true ∧ codeAny (model prog w) A c' R s') (fun e s' => R (.error e) s') s) :
    codeAny (model prog w) A (.call (.builtin "object.__setattr__") ⟨[.ref x, .str name tk, v], []⟩) R s := by
  have SF := PySem.F.store_object
  have ne : cd.mro.isEmpty = false := by rw [hm]; rfl
  have has : cd.mro.contains (.type "object") = true := by rw [hm]; simp
  have sub : Looks (model prog w) s.heap (isInstance (.ref x) (.type "object")) true := I.type.andThen (looks_mroIn X (by unfold mroIn; rw [hc, Option.bind_some, if_neg (by rw [ne]; decide), has]))
  refine codeAny_call_builtin SF.slot.plain SF.entry (@check_slot (model prog w) _ _ s "object.__setattr__" "object" "__setattr__" (.ref x) [.str name tk, v] [] _ SF.kind SF.split sub (SF.args (.ref x) (.str name tk) v) ?_)
  have hmr : Looks (model prog w) s.heap (mroOf (.ref C)) cd.mro := (looks_clsIn X hc).andThen .now
  have L3 : Looks (model prog w) s.heap (storeTaker? none) none := .now
  rw [osa_eq, refuse_eq]
  refine wpAny_bind (wpAny_bind (I.type.here (wpAny_bind (hmr.here ?_))))
  rw [hm, refuse_exc]
  refine wpAny_pure (wpAny_bind (I.type.here (wpAny_bind ((looks_findIn X ht).here (wpAny_bind (L3.here ?_))))))
  exact h _

theorem set_exc {E : Value → Shared → Prop} {ox : Obj} {od : Option Obj} {name : Str} {v : Value} {B : Addr} {cd : ClassData} {Q : Unit → Shared → Prop} (X : K.In s.heap) (I : InstAt s.heap x ox C od)
    (hs : findIn K (.ref C) "__setattr__" = some (some (.builtin "object.__setattr__"))) (hc : clsIn K C = some cd) (hm : cd.mro = [.ref C, .ref B, .type "Exception", .type "BaseException", .type "object"]) (ht : findIn K (.ref C) name = some none)
    (h : ∀ (A' : Around) b (P : Fin → Shared → Prop) (E' : Value → Shared → Prop), (∀ s', Q () s' → P (.done (.ret .none)) s') → wpAny (model prog w) A' (storeInOwnDict (.ref x) (.ref C) (.str name s.toks) name v b) P E' { s with toks := s.toks + 1 }) :
    wpAny (model prog w) A (setAttr (.ref x) name v) Q E s :=
  set_plain X I hs (osa_exc (s := { s with toks := s.toks + 1 }) X I hc hm ht fun b => h _ b _ _ fun s' q => q)

abbrev excD (w : World) (name : Str) (v : Value) (tk : Tok) : Obj := dictOf [⟨PyData.keyHash w.params name, .str name tk, v⟩] 1
theorem set_excN {E : Value → Shared → Prop} {t B : Addr} {cd : ClassData} {name : Str} {v : Value} {Q : Unit → Shared → Prop} (X : K.In s.heap) (he : s.heap.get? x = some (excO C none t))
    (hs : findIn K (.ref C) "__setattr__" = some (some (.builtin "object.__setattr__"))) (hc : clsIn K C = some cd) (hm : cd.mro = [.ref C, .ref B, .type "Exception", .type "BaseException", .type "object"]) (hh : cd.hasDict = true) (ht : findIn K (.ref C) name = some none)
    (h : ∀ h' dx tk, KpBut [x] s.heap h' → s.heap.get? dx = none → h'.get? x = some (excO C (some dx) t) → h'.get? dx = some (excD w name v tk) → Q () { s with heap := h', toks := s.toks + 1 + 1 }) :
    wpAny (model prog w) A (setAttr (.ref x) name v) Q E s := by
  refine set_exc X (od := none) ⟨he, rfl, rfl, trivial⟩ hs hc hm ht fun A' b P E' hP => ?_
  show wpAny _ _ (storeInOwnDict _ _ _ _ _ _) _ _ _
  unfold storeInOwnDict
  refine wpAny_bind (wpAny_pure (wpAny_bind ?_))
  show wpAny _ _ (instanceDict x true) _ _ _
  unfold instanceDict
  refine wpAny_bind (wpAny_loadPart he (wpAny_bind ((looks_clsIn X hc).at ?_)))
  rw [hh]
  have h1 : (s.heap.push { cls := .type "dict", data := .dict #[] }).get? x = some (excO C none t) := Heap.get?_push_of_some _ he
  have hne : x ≠ s.heap.objs.size := Nat.ne_of_lt (Heap.lt_size he)
  rw [if_neg (by decide)]
  show wpAny _ _ (alloc _ >>= _) _ _ _
  refine wpAny_bind (wpAny_alloc' (wpAny_bind (wpAny_update' h1 ?_)))
  have hx2 : ((s.heap.push { cls := .type "dict", data := .dict #[] }).update x fun o => { o with dict := some s.heap.objs.size }).get? x = some (excO C (some s.heap.objs.size) t) := Heap.get?_update_self _ h1 rfl
  have hd2 : ((s.heap.push { cls := .type "dict", data := .dict #[] }).update x fun o => { o with dict := some s.heap.objs.size }).get? s.heap.objs.size = some (dictOf [] 0) :=
    (Heap.get?_update_ne _ _ _ _ hne.symm).trans (Heap.get?_push_at rfl rfl)
  have hk2 : ∀ b o, b ≠ x → s.heap.get? b = some o → ((s.heap.push { cls := .type "dict", data := .dict #[] }).update x fun o => { o with dict := some s.heap.objs.size }).get? b = some o := fun b o hb e =>
    (Heap.get?_update_ne _ _ _ _ hb).trans (Heap.get?_push_of_some _ e)
  generalize ((s.heap.push { cls := .type "dict", data := .dict #[] }).update x fun o => { o with dict := some s.heap.objs.size }) = h2 at *
  refine wpAny_pure ?_
  show wpAny _ _ (storeInDict _ _ _ _) _ _ _
  refine store_in (s := { s with heap := h2, toks := s.toks + 1 }) hd2 rfl (od' := excD w name v (s.toks + 1)) (es := [⟨PyData.keyHash w.params name, .str name (s.toks + 1), v⟩]) (n := 1) (putName_dict _ _ _ _ _ _) rfl (Nat.le_of_lt (by show 1 < 1000; decide)) fun h' kb e => ?_
  have hnd : x ∉ [s.heap.objs.size] := fun hm => hne (List.mem_singleton.mp hm)
  refine hP _ (h h' s.heap.objs.size (s.toks + 1) (fun b o hb eb => ?_) (Heap.get?_none_of_le (Nat.le_refl _)) (kb _ _ hnd hx2) e)
  refine kb b o (fun hm => ?_) (hk2 b o (fun q => hb (q ▸ List.mem_singleton.mpr rfl)) eb)
  rw [List.mem_singleton.mp hm] at eb
  exact absurd (Heap.lt_size eb) (Nat.lt_irrefl _)
theorem set_excI {E : Value → Shared → Prop} {t B dx : Addr} {cd : ClassData} {name : Str} {v : Value} {es es' : List DictEntry} {n n' : Nat} {Q : Unit → Shared → Prop} (X : K.In s.heap) (he : s.heap.get? x = some (excO C (some dx) t)) (hd : s.heap.get? dx = some (dictOf es n))
    (hs : findIn K (.ref C) "__setattr__" = some (some (.builtin "object.__setattr__"))) (hc : clsIn K C = some cd) (hm : cd.mro = [.ref C, .ref B, .type "Exception", .type "BaseException", .type "object"]) (hh : cd.hasDict = true) (ht : findIn K (.ref C) name = some none)
    (hl : (getL name es).isSome = true) (e : (putL name (PyData.keyHash w.params name) (.str name (s.toks + 1)) v es, putN name es n) = (es', n')) (hz : es'.length ≤ 1000)
    (h : ∀ h', KpBut [dx] s.heap h' → h'.get? dx = some (dictOf es' n') → Q () { s with heap := h', toks := s.toks + 1 + 1 }) :
    wpAny (model prog w) A (setAttr (.ref x) name v) Q E s := by
  obtain ⟨e1, e2⟩ := Prod.mk.inj e
  refine set_exc X (od := some (dictOf es n)) ⟨he, rfl, rfl, hd⟩ hs hc hm ht fun A' b P E' hP => ?_
  show wpAny _ _ (storeInOwnDict _ _ _ _ _ _) _ _ _
  unfold storeInOwnDict
  refine wpAny_bind (wpAny_pure (wpAny_bind ?_))
  show wpAny _ _ (instanceDict x true) _ _ _
  unfold instanceDict
  refine wpAny_bind (wpAny_loadPart he (wpAny_bind ((looks_clsIn X hc).at ?_)))
  rw [hh]
  rw [if_neg (by decide)]
  refine wpAny_pure ?_
  show wpAny _ _ (storeInDict _ _ _ _) _ _ _
  refine store_in (s := { s with toks := s.toks + 1 }) hd hl (od' := dictOf es' n') (es := es') (n := n') (by rw [putName_dict, e1, e2]) rfl hz fun h' kb e => ?_
  exact hP _ (h h' kb e)
end
end Mine
theorem Mine.offX3 : True := by
  w_top off
  trivial
set_option maxHeartbeats 800000
namespace Mine
section
variable {w : World} {A : Around} {E : Value → Shared → Prop} {s : Shared} {h₀ : Heap} {L e C B t dx : Addr} {m : Str → Option Value} {news : List (Addr × Obj)} {g : Obj → List (Addr × Obj)} {name : Str} {v : Value} {K : Frag} {cd : ClassData} {Q : Unit → Shared → Prop}
theorem set_excNL (F : Fr h₀ L s.heap m) (Nw : News h₀ L s.heap news) (X : K.In h₀) (U : UpdF e (excO C none t) news g)
    (hs : findIn K (.ref C) "__setattr__" = some (some (.builtin "object.__setattr__"))) (hc : clsIn K C = some cd) (hm : cd.mro = [.ref C, .ref B, .type "Exception", .type "BaseException", .type "object"]) (hh : cd.hasDict = true) (ht : findIn K (.ref C) name = some none)
    (k : ∀ h' dx tk, Fr h₀ L h' m → News h₀ L h' ((dx, excD w name v tk) :: g (excO C (some dx) t)) → AllNe dx news → Q () { s with heap := h', toks := s.toks + 1 + 1 }) :
    wpAny (model PR w) A (setAttr (.ref e) name v) Q E s := by
  have D := Nw _ (updF_mem U)
  refine set_excN (X.keeps F.keep) D.1 hs hc hm hh ht fun h' dx tk kb hn he hd => ?_
  have F' : Fr h₀ L h' m := fr_kpBut F kb fun x hx => by rw [List.mem_singleton.mp hx]; exact D.2
  have hne : dx ≠ L := fun q => by
    obtain ⟨o, ho⟩ := ns_some F.ns
    rw [q, ho] at hn; cases hn
  refine k h' dx tk F' (fun p hp => ?_) (allNe_of (ne_new Nw hn))
  rcases List.mem_cons.mp hp with rfl | hp
  · exact ⟨hd, hne, none_kp F.keep hn⟩
  · exact news_kpBut Nw U kb he p hp
theorem set_excIL {es es' : List DictEntry} {n n' : Nat} (F : Fr h₀ L s.heap m) (Nw : News h₀ L s.heap news) (X : K.In h₀) (hme : (e, excO C (some dx) t) ∈ news) (U : UpdF dx (dictOf es n) news g)
    (hs : findIn K (.ref C) "__setattr__" = some (some (.builtin "object.__setattr__"))) (hc : clsIn K C = some cd) (hm : cd.mro = [.ref C, .ref B, .type "Exception", .type "BaseException", .type "object"]) (hh : cd.hasDict = true) (ht : findIn K (.ref C) name = some none)
    (hl : (getL name es).isSome = true) (eq : (putL name (PyData.keyHash w.params name) (.str name (s.toks + 1)) v es, putN name es n) = (es', n')) (hz : es'.length ≤ 1000)
    (k : ∀ h', Fr h₀ L h' m → News h₀ L h' (g (dictOf es' n')) → Q () { s with heap := h', toks := s.toks + 1 + 1 }) :
    wpAny (model PR w) A (setAttr (.ref e) name v) Q E s := by
  have D := Nw _ (updF_mem U)
  refine set_excI (X.keeps F.keep) (Nw _ hme).1 D.1 hs hc hm hh ht hl eq hz fun h' kb hd => ?_
  exact k h' (fr_kpBut F kb fun x hx => by rw [List.mem_singleton.mp hx]; exact D.2) (news_kpBut Nw U kb hd)
end
end Mine
theorem Mine.wordsX31 : True := by
  k_with "!getMethod" => (k_here; (with_reducible show wpAny _ _ (getMethod (Value.type "Exception") _ _) _ _ _); k_dflt (refine' method_type (by k_asm) (by k_asm) (by first | rfl | kernel_rfl) (by decide +kernel) (by k_dflt k_is) (by k_handed) ?_ ))
  k_with "!call builtin:Exception.__init__" => (k_here; k_dflt (refine' Mine.exc_initL (by k_asm) (by k_asm) (by k_updF) (by with_reducible assumption) (by with_reducible assumption) ?_ ); intro h' t' F' N'; (try dsimp only at N'); (try k_sweep))
  k_with "!setAttr" => (k_here; k_dflt (refine' Mine.set_excNL (by k_asm) (by k_asm) (by k_asm) (by k_updF) (by k_is) (by k_is) (by rfl) (by rfl) (by k_is) ?_ ); intro h' dx' tk' F' N' ne'; (try dsimp only at N'); (replace ne' := Mine.neA_of ne'); (try dsimp only [Mine.adr] at ne'); (try k_sweep))
  trivial

namespace Mine
theorem fillX3 : PySem.Challenge.rw_on0181_01 = PySem.Challenge.rw_on0181_01 ∧ heapK = heapK := by
  k_fill
  exact ⟨rfl, rfl⟩
theorem c_init1 {w : World} {A : Around} {s : Shared} {e t : Addr} {N : Addr} {bm : List Value} {x : Str} {tx : Tok} {Q Ex : Value → Shared → Prop} {p : Program} {loose : List Str} {mg mb : Str → Option Value}
    (X : (heapK w.params).In s.heap) (T : TopRead p loose mg mb s.heap) (hroom : A.depth + 10 < recursionLimit)
    (X0 : (heapK w.params).In (hideAll s.heap [e])) (T0 : TopRead p loose mg mb (hideAll s.heap [e])) (hC : ExcCls (hideAll s.heap [e]) 59 N bm) (hB : bm.contains (.type "Exception") = true)
    (he : s.heap.get? e = some (excO 59 none t))
    (k : ∀ h' tk' dx t' tk, Kp (hideAll s.heap [e]) h' → (hideAll s.heap [e]).get? dx = none → dx ≠ e → h'.get? e = some (excO 59 (some dx) t') → h'.get? dx = some (excD w (Str.ofString "message") (.str x tx) tk) → Q .none { s with heap := h', toks := tk' }) :
    wpAny (model PR w) A (call (.ref 35) [.ref e, .str x tx]) Q Ex s := by
  k_dflt (refine' enterM [("self", .ref e), ("message", .str x tx)] [(e, excO 59 none t)] ?hn ?X ?T ?ho ?hcd ?hroom ?hbind ?hloc ?_ ?c1 ?c2 ?c3 ?c4; k_extra "M enterM")
  case hn => intro p hp; rw [List.mem_singleton.mp hp]; exact he
  replace X := X0
  replace T := T0
  change ∀ L h₁, Fr (hideAll s.heap [e]) L h₁ _ → News (hideAll s.heap [e]) L h₁ _ → _
  generalize hideAll s.heap [e] = g0 at *
  clear X0 T0
  intro L' h' F' N'
  try dsimp only [Mine.bodOf, Mine.scoOf, Mine.parOf, Mine.topS, Mine.inS, Mine.stAt, PySem.Challenge.pw_on0181_01]
  try k_fold
  k_steps
  rename Fr _ _ _ _ => F
  rename News _ _ _ _ => Nw
  exact k _ _ _ _ _ F.keep (Nw _ (.head _)).2.2 (by k_ne) (Nw _ (.tail _ (.head _))).1 (Nw _ (.head _)).1
end Mine
theorem Mine.offX4 : True := by
  w_top off
  trivial
set_option maxHeartbeats 800000
namespace Mine
theorem kp_hide {h₀ h : Heap} {S : List Addr} (k : Kp h₀ h) (hS : ∀ a ∈ S, h₀.get? a = none) : Kp h₀ (hideAll h S) := fun b o e => hideAll_get _ (k b o e) fun hm => by rw [hS b hm] at e; cases e
theorem kpBut_of_hide {S : List Addr} {h h' : Heap} (k : Kp (hideAll h S) h') : KpBut S h h' := kpBut_of k
theorem c_init1L {w : World} {A : Around} {s : Shared} {h₀ : Heap} {L : Addr} {m : Str → Option Value} {news : List (Addr × Obj)} {g : Obj → List (Addr × Obj)} {e t : Addr} {N : Addr} {bm : List Value} {x : Str} {tx : Tok} {Q Ex : Value → Shared → Prop} {p : Program} {loose : List Str} {mg mb : Str → Option Value}
    (F : Fr h₀ L s.heap m) (Nw : News h₀ L s.heap news) (X : (heapK w.params).In h₀) (T : TopRead p loose mg mb h₀) (hroom : A.depth + 10 < recursionLimit)
    (hC : ExcCls h₀ 59 N bm) (hB : bm.contains (.type "Exception") = true) (U : UpdF e (excO 59 none t) news g)
    (k : ∀ h' tk' dx t' tk, Fr h₀ L h' m → News h₀ L h' ((dx, excD w (Str.ofString "message") (.str x tx) tk) :: g (excO 59 (some dx) t')) → AllNe dx news → Q .none { s with heap := h', toks := tk' }) :
    wpAny (model PR w) A (call (.ref 35) [.ref e, .str x tx]) Q Ex s := by
  have D := Nw _ (updF_mem U)
  have hk : Kp h₀ (hideAll s.heap [e]) := kp_hide F.keep fun a ha => by rw [List.mem_singleton.mp ha]; exact D.2.2
  refine c_init1 (X.keeps F.keep) (T.keeps F.keep) hroom (X.keeps hk) (T.keeps hk) (hC.kp hk) hB D.1 fun h' tk' dx t' tk kp hn hne he hd => ?_
  have kb : KpBut [e] s.heap h' := kpBut_of kp
  have hs : s.heap.get? dx = none := by
    cases q : s.heap.get? dx with
    | none => rfl
    | some o =>
      have : (hideAll s.heap [e]).get? dx = some o := hideAll_get _ q (fun hm => hne (List.mem_singleton.mp hm))
      rw [hn] at this; cases this
  have F' : Fr h₀ L h' m := fr_kpBut F kb fun x hx => by rw [List.mem_singleton.mp hx]; exact D.2
  have hL : dx ≠ L := fun q => by
    obtain ⟨o, ho⟩ := ns_some F.ns
    rw [q, ho] at hs; cases hs
  refine k h' tk' dx t' tk F' (fun p hp => ?_) (allNe_of (ne_new Nw hs))
  rcases List.mem_cons.mp hp with rfl | hp
  · exact ⟨hd, hL, none_kp F.keep hs⟩
  · exact news_kpBut Nw U kb he p hp
end Mine
theorem Mine.wordsX41 : True := by
  k_with "!call ref" => (k_here; k_dflt ((refine' Mine.c_init1L (by k_asm) (by k_asm) (by k_asm) (by k_asm) (by k_extra "M room") (by with_reducible assumption) (by with_reducible assumption) (by k_updF) ?_); (intro h' tk' dx' t' tk9 F' N' ne'; (try dsimp only at N'); (replace ne' := Mine.neA_of ne'); (try dsimp only [Mine.adr] at ne'); (try k_sweep))))
  k_with "!setAttr" => (k_here; k_dflt (refine' Mine.set_excIL (by k_asm) (by k_asm) (by k_asm) (by k_extra "M mem") (by k_updF) (by k_is) (by k_is) (by rfl) (by rfl) (by k_is) (by rfl) (by rfl) (by exact Nat.le_of_lt (by show 2 < 1000; decide)) ?_ ); intro h' F' N'; (try dsimp only at N'); (try k_sweep))
  k_with "M enterN" => (
  (case T => exact TopRead.nolimit (by assumption))
  (case hcd => k_is)
  (case hroom => omega)
  (case hloc => exact locs rfl)
  (case c1 => decide)
  (case c2 => exact rfl)
  (case c3 => exact rfl)
  (case c4 => exact rfl))
  trivial

namespace Mine
theorem fillX4 : PySem.Challenge.rw_on0181_01 = PySem.Challenge.rw_on0181_01 ∧ heapK = heapK := by
  k_fill
  exact ⟨rfl, rfl⟩
abbrev faultD (w : World) (x : Str) (tx : Tok) (n : Int) (tn : Tok) (t1 t2 : Tok) : Obj := dictOf [⟨PyData.keyHash w.params (Str.ofString "message"), .str (Str.ofString "message") t1, .str x tx⟩, ⟨PyData.keyHash w.params (Str.ofString "place"), .str (Str.ofString "place") t2, .int n tn⟩] 2
theorem c_init2 {w : World} {A : Around} {s : Shared} {e t : Addr} {N : Addr} {bm : List Value} {x : Str} {tx tn : Tok} {n : Int} {Q Ex : Value → Shared → Prop} {p : Program} {loose : List Str} {mg mb : Str → Option Value}
    (X : (heapK w.params).In s.heap) (T : TopRead p loose mg mb s.heap) (hroom : A.depth + 20 < recursionLimit)
    (X0 : (heapK w.params).In (hideAll s.heap [e])) (T0 : TopRead p loose mg mb (hideAll s.heap [e])) (hC : ExcCls (hideAll s.heap [e]) 59 N bm) (hB : bm.contains (.type "Exception") = true)
    (he : s.heap.get? e = some (excO 59 none t))
    (k : ∀ h' tk' dx t' t1 t2, Kp (hideAll s.heap [e]) h' → (hideAll s.heap [e]).get? dx = none → dx ≠ e → h'.get? e = some (excO 59 (some dx) t') → h'.get? dx = some (faultD w x tx n tn t1 t2) → Q .none { s with heap := h', toks := tk' }) :
    wpAny (model PR w) A (call (.ref 56) [.ref e, .str x tx, .int n tn]) Q Ex s := by
  k_dflt (refine' enterM [("self", .ref e), ("message", .str x tx), ("place", .int n tn)] [(e, excO 59 none t)] ?hn ?X ?T ?ho ?hcd ?hroom ?hbind ?hloc ?_ ?c1 ?c2 ?c3 ?c4; (case X => assumption); (case ho => k_is); (case hbind => exact BindsTo.of_defaults rfl (X _ _ (by k_is)) rfl rfl rfl); k_extra "M enterN")
  case hn => intro p hp; rw [List.mem_singleton.mp hp]; exact he
  replace X := X0
  replace T := T0
  change ∀ L h₁, Fr (hideAll s.heap [e]) L h₁ _ → News (hideAll s.heap [e]) L h₁ _ → _
  generalize hideAll s.heap [e] = g0 at *
  clear X0 T0
  intro L' h' F' N'
  try dsimp only [Mine.bodOf, Mine.scoOf, Mine.parOf, Mine.topS, Mine.inS, Mine.stAt, PySem.Challenge.pw_on0181_01]
  try k_fold
  k_steps
  rename Fr _ _ _ _ => F
  rename News _ _ _ _ => Nw
  exact k _ _ _ _ _ _ F.keep (Nw _ (.head _)).2.2 (by k_ne) (Nw _ (.tail _ (.head _))).1 (Nw _ (.head _)).1
end Mine
theorem Mine.offX5 : True := by
  w_top off
  trivial
set_option maxHeartbeats 800000
namespace Mine
theorem raise_made {M : Model} {A : Around} {E : Value → Shared → Prop} {s : Shared} {env : Env} {C N : Addr} {bm : List Value} {x : Sem Value} {Q : Flow → Shared → Prop} (hB : bm.contains (.type "BaseException") = true) (hh : A.handled = none)
    (h : wpAny M A x (fun v s₁ => ∃ e dx t, v = .ref e ∧ ExcCls s₁.heap C N bm ∧ s₁.heap.get? e = some (excO C dx t) ∧ E (.ref e) s₁) E s) :
    wpAny M A (raiseStmt env (some x) none) Q E s := by
  have hb : (Value.ref C :: bm).contains (.type "BaseException") = true := by rw [List.contains_cons, hB, Bool.or_true]
  unfold raiseStmt
  refine wpAny_bind (wpAny_mono h (fun v s₁ h₁ => ?_) fun _ _ x => x)
  obtain ⟨e, dx, t, rfl, hC, he, hE⟩ := h₁
  obtain ⟨hp, g, d, tk, os⟩ := s₁
  obtain ⟨nm, q, bs, hdct, sn, sub, ab, col, dd, k0, k1, k2, k3, k5, hC⟩ := hC.it
  repeat (first | with_reducible refine wpAny_loadPart_at he ?_ | with_reducible refine wpAny_loadPart_at hC ?_ | (with_reducible refine wpAny_isSubtype_exc hC ?_; rw [hb]) | wp_step)
  exact wpAny_raiseNew_none hh hE
def RaiseEnd (C N : Addr) (bm : List Value) (E : Value → Shared → Prop) (v : Value) (s₁ : Shared) : Prop := ∃ e dx t, v = .ref e ∧ ExcCls s₁.heap C N bm ∧ s₁.heap.get? e = some (excO C dx t) ∧ E (.ref e) s₁
theorem exec_raise {prog : Program} {w : World} {A : Around} {E : Value → Shared → Prop} {s : Shared} {env : Env} {C N : Addr} {bm : List Value} {ex : Expr} {pos : Pos} {Q : Flow → Shared → Prop} (hB : bm.contains (.type "BaseException") = true) (hh : A.handled = none)
    (h : wpAny (model prog w) A (eval ex env) (RaiseEnd C N bm E) E s) :
    wpAny (model prog w) A (exec (.Raise (some ex) none pos) env) Q E s := by
  rw [arm_exec_Raise]
  show wpAny _ _ (standAt pos >>= fun _ => raiseStmt env (some (eval ex env >>= fun v => standAt pos >>= fun _ => pure v)) none) _ _ _
  exact wpAny_bind (wpAny_standAt (raise_made (C := C) (N := N) (bm := bm) hB hh (wpAny_bind (wpAny_mono h (fun v s₁ h₁ => wpAny_bind (wpAny_standAt (wpAny_pure h₁))) fun _ _ x => x))))
end Mine
theorem Mine.offX6 : True := by
  w_top off
  trivial
set_option maxHeartbeats 800000
namespace Mine
theorem fillX6 : PySem.Challenge.rw_on0181_01 = PySem.Challenge.rw_on0181_01 ∧ heapK = heapK := by
  k_fill
  exact ⟨rfl, rfl⟩
abbrev bm59 : List Value := [.ref 38, .type "Exception", .type "BaseException", .type "object"]
theorem cls59 {w : World} {h : Heap} (X : (heapK w.params).In h) : ExcCls h 59 58 bm59 := by
  refine' exccls_in X ?ho
  case ho => k_is
theorem fi59 {w : World} : findIn (heapK w.params) (.ref 59) "__init__" = some (some (.ref 56)) := by k_is
theorem ty56 {w : World} : typeIn (heapK w.params) (.ref 56) = some (.type "function") := by k_is
/-- DtdFault(message, place) -/
theorem c_fault {w : World} {A : Around} {s : Shared} {h₀ : Heap} {L : Addr} {m : Str → Option Value} {news : List (Addr × Obj)} {x : Str} {tx tn : Tok} {n : Int} {Q Ex : Value → Shared → Prop} {p : Program} {loose : List Str} {mg mb : Str → Option Value}
    (F : Fr h₀ L s.heap m) (Nw : News h₀ L s.heap news) (X : (heapK w.params).In h₀) (T : TopRead p loose mg mb h₀) (hroom : A.depth + 30 < recursionLimit)
    (k : ∀ h' tk' e dx t' t1 t2, Fr h₀ L h' m → News h₀ L h' ((dx, faultD w x tx n tn t1 t2) :: (e, excO 59 (some dx) t') :: news) → AllNe e news → AllNe dx news → dx ≠ e → Q (.ref e) { s with heap := h', toks := tk' }) :
    wpAny (model PR w) A (call (.ref 59) [.str x tx, .int n tn]) Q Ex s := by
  have Xs := X.keeps F.keep
  refine exc_made Xs (cls59 Xs) (by decide) (by decide) (by decide) fi59 ty56 (fewer (k := 2) (Nat.le_refl 2)) fun h1 e tt k1 en he => ?_
  have kh : Kp s.heap (hideAll h1 [e]) := kp_hide k1 fun a ha => by rw [List.mem_singleton.mp ha]; exact en
  refine c_init2 (N := 58) (bm := bm59) (Xs.keeps k1) ((T.keeps F.keep).keeps k1) (by rw [depth_under_make]; omega) (Xs.keeps kh) ((T.keeps F.keep).keeps kh) (cls59 (Xs.keeps kh)) (by decide) he fun h' tk' dx t' t1 t2 kp hn hne he' hd => ?_
  have ks : Kp s.heap h' := kh.trans kp
  have hs : s.heap.get? dx = none := none_kp kh hn
  refine ⟨rfl, k h' tk' e dx t' t1 t2 (F.keeps ks) (fun p hp => ?_) (allNe_of (ne_new Nw en)) (allNe_of (ne_new Nw hs)) hne⟩
  have nl : ∀ a, s.heap.get? a = none → a ≠ L := fun a ha q => by
    obtain ⟨o, ho⟩ := ns_some F.ns
    rw [q, ho] at ha; cases ha
  rcases List.mem_cons.mp hp with rfl | hp
  · exact ⟨hd, nl _ hs, none_kp F.keep hs⟩
  rcases List.mem_cons.mp hp with rfl | hp
  · exact ⟨he', nl _ en, none_kp F.keep en⟩
  · exact ⟨ks _ _ (Nw p hp).1, (Nw p hp).2⟩

/-- what the dict of a fault holds -/
def FaultAt (h : Heap) (dx : Addr) (n : Int) : Prop := ∃ od tn, h.get? dx = some od ∧ lookIn (Str.ofString "place") od = some (some (.int n tn)) ∧ ∀ vs, od.data ≠ .fields vs
theorem FaultAt.up {h h' : Heap} {dx : Addr} {n : Int} (x : FaultAt h dx n) (u : h.UpToSlots h') : FaultAt h' dx n := by
  obtain ⟨od, tn, e, l, nf⟩ := x
  obtain ⟨sl, e'⟩ := u _ _ e nf
  exact ⟨_, tn, e', l, nf⟩
theorem faultAt_of {w : World} {h : Heap} {dx : Addr} {x : Str} {tx tn t1 t2 : Tok} {n : Int} (e : h.get? dx = some (faultD w x tx n tn t1 t2)) : FaultAt h dx n := ⟨_, tn, e, rfl, fun vs q => by cases q⟩

/-- entering a def that may raise -/
theorem enterR {prog : Program} {w : World} {A : Around} {s : Shared} {K : Frag} {f : Addr} {pos : List Value} {kw : List (Str × Value)} (binds : List (Str × Value)) {Q E : Value → Shared → Prop}
    {name qual : Str} {params : Arguments} {body : List Stmt} {scope : Scope} {dV kV doc pm cdv ct oc : Value} {an od : Option Addr} {osl : Array (Option Value)}
    (X : K.In s.heap) (hlim : s.heap.NoLimit)
    (ho : K.lookup f = some ⟨oc, od, .func (fnOf name qual params body scope dV kV doc pm an cdv ct), osl⟩) (hcd : codeIn K cdv qual = true) (hroom : A.depth < recursionLimit)
    (hbind : BindsTo s (fnOf name qual params body scope dV kV doc pm an cdv ct) ⟨pos, kw⟩ binds) (hloc : ∀ y ∈ binds, scope.names.lookup y.1 = some .local)
    (h : ∀ L h₁, Fr s.heap L h₁ (fun y => binds.reverse.lookup y) → News s.heap L h₁ [] →
      wpAny (model prog w) (A.deeper (envOf qual scope L f cdv)) (execs body (envOf qual scope L f cdv))
        (fun fl s' => Q (match fl with | .ret v => v | _ => .none) s')
        (fun e s' => wpAny (model prog w) (A.deeper (envOf qual scope L f cdv)) (leaving (envOf qual scope L f cdv) e) (fun _ s'' => E e s'') (fun e' s'' => E e' s'') s')
        { s with heap := h₁, toks := s.toks + binds.length })
    (hcell : ∀ x ∈ scope.names, x.2 ≠ .cell) (hco : scope.isCoroutine = false) (hgen : scope.isGenerator = false) (hk : scope.kind = .function) :
    wpAny (model prog w) A (call (.ref f) pos kw) Q E s := by
  refine wpAny_call ?_
  refine codeAny_call_def (fd := fnOf name qual params body scope dV kV doc pm an cdv ct) (body := body) (binds := binds) hroom (X _ _ ho) rfl hlim (codeRec_of X hcd) rfl hbind hcell hloc (fun h₁ hns hk₁ => ?_) hco hgen hk
  exact wpAny_mono (h s.heap.objs.size h₁ ⟨hns, hk₁, Nat.le_refl _⟩ News.nil) (fun fl s' x => x) (fun _ _ y => y)
/-- a fault just made leaves the frame that made it -/
theorem leave_fault {prog : Program} {w : World} {A : Around} {Ex : Value → Shared → Prop} {s : Shared} {g base : Heap} {outer : List Env} {name : Str} {scope : Scope} {L a e dx t' : Addr} {cd : Value} {m : Str → Option Value} {news : List (Addr × Obj)} {x : Str} {tx tn t1 t2 : Tok} {n : Int}
    (K : Below A base outer g) (F : Fr g L s.heap m) (N : News g L s.heap news) (h1 : (e, excO 59 (some dx) t') ∈ news) (h2 : (dx, faultD w x tx n tn t1 t2) ∈ news) (hk : scope.kind = .function)
    (k : ∀ h', InAir base outer e dx (.ref 59) .none h' → FaultAt h' dx n → g.UpToSlots h' → g.get? dx = none → g.get? e = none → Ex (.ref e) { s with heap := h' }) :
    wpAny (model prog w) (A.deeper (envOf name scope L a cd)) (leaving (envOf name scope L a cd) (.ref e)) (fun _ s'' => Ex (.ref e) s'') (fun e' s'' => Ex e' s'') s := by
  have K' := K.push (name := name) (scope := scope) (a := a) (cd := cd) F hk
  refine air_leave_first (e := e) (dx := dx) (cls := .ref 59) K'.stack K'.frames rfl (N _ h1).1 ⟨rfl, rfl⟩ K'.stays (none_kp K.stays (N _ h1).2.2) rfl rfl fun h' y u => ?_
  exact k h' y ((faultAt_of (N _ h2).1).up u) ((Heap.UpToSlots.of_keeps F.keep).trans u) (N _ h2).2.2 (N _ h1).2.2
end Mine
theorem Mine.offX7 : True := by
  w_top off
  trivial
set_option maxHeartbeats 800000
theorem Mine.wordsX71 : True := by
  k_with "!exec Raise" => (k_here; k_dflt (refine Mine.exec_raise (C := 59) (N := 58) (bm := Mine.bm59) (by decide) (by first | assumption | exact rfl) ?_))
  k_with "!call ref" => (k_here; (with_reducible show wpAny _ _ (call (Value.ref 59) [Value.str _ _, Value.int _ _]) _ _ _); k_dflt ((refine' Mine.c_fault (by k_asm) (by k_asm) (by k_asm) (by k_asm) (by k_extra "M room") ?_); (intro h' tk' e' dx' t' t1' t2' F' N' ne1' ne2' ne3'; (try dsimp only at N'); (replace ne1' := Mine.neA_of ne1'); (try dsimp only [Mine.adr] at ne1'); (replace ne2' := Mine.neA_of ne2'); (try dsimp only [Mine.adr] at ne2'); (try k_sweep))))
  trivial

namespace Mine
theorem fillX7 : PySem.Challenge.rw_on0181_01 = PySem.Challenge.rw_on0181_01 ∧ heapK = heapK := by
  k_fill
  exact ⟨rfl, rfl⟩
theorem c_elR {w : World} {A : Around} {s : Shared} {base : Heap} {outer : List Env} {D E At Nt : Addr} {x : Str} {t tn : Tok} {n : Int} {mv : Value} {kvE : List (Str × Value)} {Q Ex : Value → Shared → Prop} {p : Program} {loose : List Str} {mg mb : Str → Option Value}
    (K : Below A base outer s.heap) (X : (heapK w.params).In s.heap) (T : TopRead p loose mg mb s.heap) (hroom : A.depth + 50 < recursionLimit) (hh : A.handled = none)
    (hD : DtdAt s.heap D E At Nt) (hE : SD w s.heap E kvE) (hx : (valueAt kvE x).isSome = true) (hl : x.length ≤ 1000) (hm : handedIn mv = true)
    (k : ∀ h' tk' e dx, InAir base outer e dx (.ref 59) .none h' → FaultAt h' dx n → s.heap.UpToSlots h' → s.heap.get? dx = none → s.heap.get? e = none → Ex (.ref e) { s with heap := h', toks := tk' }) :
    wpAny (model PR w) A (call (.ref 103) [.ref D, .str x t, mv, .int n tn]) Q Ex s := by
  obtain ⟨dD, q1, q2, q3, q4, t1, t2, t3, t4, t5, nn, hD1, hD2⟩ := hD.it
  k_dflt (refine' enterR [("self", .ref D), ("name", .str x t), ("model", mv), ("place", .int n tn)] ?X ?T ?ho ?hcd ?hroom ?hbind ?hloc ?_ ?c1 ?c2 ?c3 ?c4; k_extra "M enter")
  k_steps
  rename Fr _ _ _ _ => F
  rename News _ _ _ _ => Nw
  refine ⟨_, _, _, rfl, cls59 (X.keeps F.keep), (Nw _ (.tail _ (.head _))).1, ?_⟩
  exact leave_fault K F Nw (.tail _ (.head _)) (.head _) rfl fun h' y f u n1 n2 => k h' _ _ _ y f u n1 n2
theorem c_noR {w : World} {A : Around} {s : Shared} {base : Heap} {outer : List Env} {D E At Nt : Addr} {x y : Str} {t ty tn : Tok} {n : Int} {kvN : List (Str × Value)} {Q Ex : Value → Shared → Prop} {p : Program} {loose : List Str} {mg mb : Str → Option Value}
    (K : Below A base outer s.heap) (X : (heapK w.params).In s.heap) (T : TopRead p loose mg mb s.heap) (hroom : A.depth + 50 < recursionLimit) (hh : A.handled = none)
    (hD : DtdAt s.heap D E At Nt) (hN : SD w s.heap Nt kvN) (hx : (valueAt kvN x).isSome = true) (hl : x.length ≤ 1000)
    (k : ∀ h' tk' e dx, InAir base outer e dx (.ref 59) .none h' → FaultAt h' dx n → s.heap.UpToSlots h' → s.heap.get? dx = none → s.heap.get? e = none → Ex (.ref e) { s with heap := h', toks := tk' }) :
    wpAny (model PR w) A (call (.ref 117) [.ref D, .str x t, .none, .str y ty, .int n tn]) Q Ex s := by
  obtain ⟨dD, q1, q2, q3, q4, t1, t2, t3, t4, t5, nn, hD1, hD2⟩ := hD.it
  k_dflt (refine' enterR [("self", .ref D), ("name", .str x t), ("public", .none), ("system", .str y ty), ("place", .int n tn)] ?X ?T ?ho ?hcd ?hroom ?hbind ?hloc ?_ ?c1 ?c2 ?c3 ?c4; k_extra "M enter")
  k_steps
  rename Fr _ _ _ _ => F
  rename News _ _ _ _ => Nw
  refine ⟨_, _, _, rfl, cls59 (X.keeps F.keep), (Nw _ (.tail _ (.head _))).1, ?_⟩
  exact leave_fault K F Nw (.tail _ (.head _)) (.head _) rfl fun h' y f u n1 n2 => k h' _ _ _ y f u n1 n2
end Mine
theorem Mine.offX8 : True := by
  w_top off
  trivial
open PySem PySem.W PyProof.Rows PySem.Calls PySem.Spec PyProof.Rows.LCg Builtin Builtin.ObjectAttr
set_option maxHeartbeats 800000
namespace Mine
section
variable {prog : Program} {w : World} {A : Around} {E : Value → Shared → Prop} {s : Shared} {K : Frag} {x C : Addr} {ox : Obj} {od : Option Obj} {name : Str} {expr : Bool} {Q : Value → Shared → Prop}
theorem exc_get {v : Value} {cd : ClassData} (X : K.In s.heap) (I : InstAt s.heap x ox C od) (hga : findIn K (.ref C) "__getattribute__" = some (some (.builtin "BaseException.__getattribute__"))) (hgh : findIn K (.ref C) "__getattr__" = some none)
    (hm : mroIn K C (.type "BaseException") = some true) (hf : findObj K C od name = some (.value v)) (hh : handedIn v = true) (h : Q v { s with toks := s.toks + 1 }) : wpAny (model prog w) A (getAttr (.ref x) name expr) Q E s := by
  obtain ⟨hp, g, d, t, os⟩ := s
  have L0 := I.type (M := model prog w)
  have L1 := looks_findIn (M := model prog w) X hga
  have L2 := looks_findIn (M := model prog w) X hgh
  have L3 := looks_find (M := model prog w) X I hf
  have hx0 : (expr && onTheHeap (Value.builtin "BaseException.__getattribute__")) = false := by cases expr <;> rfl
  have hx2 : (Value.builtin "BaseException.__getattribute__" == Value.builtin "object.__getattribute__") = false := by decide +kernel
  have hk : builtinKind "BaseException.__getattribute__" = some .slot := by decide +kernel
  have hsp : splitId "BaseException.__getattribute__" = some ("BaseException", "__getattribute__") := by decide +kernel
  unfold getAttr getAttrBy
  refine wpAny_bind (wpAny_mkText (wpAny_holding (wpAny_bind (L0.at (wpAny_bind (L1.at ?_))))))
  dsimp only
  rw [hx2, Bool.and_false, if_neg (by decide)]
  unfold getAttrByItsOwn hookBefore
  refine wpAny_bind ?_
  show wpAny _ _ (typeLookup (.ref C) "__getattr__") _ _ _
  refine L2.at ?_
  refine wpAny_bind (wpAny_attempt (wpAny_holding ?_))
  unfold callGetattribute
  rw [hx0, if_neg (by decide)]
  unfold boundAndCalled
  rw [PySem.F.attr_Exception.ga.bind]
  refine wpAny_bind (wpAny_pure ?_)
  have sub : Looks (model prog w) hp (isInstance (.ref x) (.type "BaseException")) true := L0.andThen (looks_mroIn X hm)
  refine wpAny_call (codeAny_call_builtin PySem.F.attr_Exception.ga.plain PySem.F.entry_bexc_ga (@check_slot (model prog w) _ _ _ "BaseException.__getattribute__" "BaseException" "__getattribute__" (.ref x) [.str name t] [] _ hk hsp sub (PySem.F.args_bexc_ga _ _) ?_))
  unfold Builtin.«object.__getattribute__»
  refine wpAny_bind (wpAny_pure (wpAny_bind (wpAny_pure (wpAny_bind (L0.at (wpAny_bind (L3.at ?_)))))))
  refine wpAny_pure ?_
  show wpAny _ _ (handedOut v) _ _ _
  rw [handedOut_of hh]; exact wpAny_pure h
end
section
variable {prog : Program} {w : World} {A : Around} {E : Value → Shared → Prop} {s : Shared} {env : Env}
theorem handle_exc {e C N : Addr} {bm : List Value} {t : Expr} {n : Str} {b₀ : Stmt} {suite : List Stmt} {pos : Pos} {rest : List ExceptHandler} {Q : Flow → Shared → Prop}
    (hbase : bm.contains (.type "BaseException") = true)
    (h : wpAny (model prog w) (A.mark (some (.ref e))) (eval t env) (fun c s₁ => c = .ref C ∧ ExcCls s₁.heap C N bm ∧ (∃ oe, s₁.heap.get? e = some oe ∧ oe.cls = .ref C) ∧
      wpAny (model prog w) (A.mark (some (.ref e))) (setFlight (.ref e) none) (fun _ s₂ =>
          wpAny (model prog w) (A.mark (some (.ref e))) (storeName env n (.ref e)) (fun _ s₃ =>
            wpAny (model prog w) (A.mark (some (.ref e))) (execs (b₀ :: suite) env)
              (fun f s₄ => wpAny (model prog w) A (do bindName env n .none; unbindBehindTheSuite env n pos) (fun _ s₅ => Q f s₅) E s₄)
              (AsSuiteRaised (model prog w) (A.mark (some (.ref e))) env n pos (notedBy (model prog w) (A.mark (some (.ref e))) env (cameBackBy (model prog w) A env E))) s₃) (notedBy (model prog w) (A.mark (some (.ref e))) env (cameBackBy (model prog w) A env E)) s₂) (notedBy (model prog w) (A.mark (some (.ref e))) env (cameBackBy (model prog w) A env E)) s₁) (notedBy (model prog w) (A.mark (some (.ref e))) env (cameBackBy (model prog w) A env E)) s) :
    wpAny (model prog w) A (handleBy (.ref e) env (.ExceptHandler (some t) (some n) (b₀ :: suite) pos :: rest)) Q E s := by
  refine wpAny_handleBy_cons (codeAny_handlers_test (wpAny_mono h (fun c s₁ h₁ => ?_) fun _ _ y => y)) (by intro q; cases q)
  obtain ⟨rfl, hC, ⟨oe, he, hcls⟩, hk⟩ := h₁
  obtain ⟨nm, q, bs, hdct, sn, sub, ab, col, dd, k0, k1, k2, k3, k5, hC⟩ := hC.it
  obtain ⟨hh, g, d, tk, os⟩ := s₁
  exact wpAny_excMatches_sub_self hC he hcls hbase (codeAny_handlers_suite_as hk)
end
end Mine
theorem Mine.offX9 : True := by
  w_top off
  trivial
set_option maxHeartbeats 800000
namespace Mine
def trunc (h : Heap) (n : Nat) : Heap := { h with objs := h.objs.extract 0 n }
theorem trunc_get {h : Heap} {n b : Nat} {o : Obj} (hb : b < n) (e : h.get? b = some o) : (trunc h n).get? b = some o := by
  obtain ⟨e1, e2⟩ := Heap.get?_some_iff.mp e
  refine Heap.get?_some_iff.mpr ⟨?_, e2⟩
  show (h.objs.extract 0 n)[b]? = some o
  have hlt : b < h.objs.size := (Array.getElem?_eq_some_iff.mp e1).1
  rw [Array.getElem?_extract, if_pos (by omega), Nat.zero_add]
  exact e1
theorem of_trunc {h : Heap} {n b : Nat} {o : Obj} (e : (trunc h n).get? b = some o) : h.get? b = some o := by
  obtain ⟨e1, e2⟩ := Heap.get?_some_iff.mp e
  refine Heap.get?_some_iff.mpr ⟨?_, e2⟩
  have e1' : (h.objs.extract 0 n)[b]? = some o := e1
  rw [Array.getElem?_extract] at e1'
  split at e1'
  · rw [Nat.zero_add] at e1'; exact e1'
  · cases e1'
theorem trunc_size (h : Heap) (n : Nat) : (trunc h n).objs.size ≤ n := by
  show (h.objs.extract 0 n).size ≤ n
  rw [Array.size_extract]; omega
section
variable {M : Model} {A : Around} {E : Value → Shared → Prop} {s : Shared} {name : Str} {scope : Scope} {L a : Addr} {cd : Value} {h₀ : Heap} {m : Str → Option Value}
theorem ld_top {K : Frag} {p : Program} {loose : List Str} {mg mb : Str → Option Value} {x : Str} {pos : Pos} {v : Value} {Q : Value → Shared → Prop} (F : Fr h₀ L s.heap m) (X : K.In h₀) (T : TopRead p loose mg mb h₀) (e : nsIn K mainGlobals x = some (some v)) (h : Q v s)
    (hk : scope.kind = .function := by rfl) (hx : (envOf name scope L a cd).kindOf x = some .globalImplicit := by rfl) (hd : (x == ("__debug__" : Str)) = false := by decide) :
    wpAny M A (eval (.Name x pos) (envOf name scope L a cd)) Q E s :=
  Calls.Name_function_global hk hx (Calls.loadGlobal_global (env := envOf name scope L a cd) (T.keeps F.keep).g (mg_of X T.g e) h) hd
end
theorem exc_getL {prog : Program} {w : World} {A : Around} {E : Value → Shared → Prop} {s : Shared} {K : Frag} {h₀ : Heap} {L e dx C : Addr} {m : Str → Option Value} {news : List (Addr × Obj)} {oe od : Obj} {vs : Array Value} {name : Str} {expr : Bool} {v : Value} {cd : ClassData} {Q : Value → Shared → Prop}
    (F : Fr h₀ L s.heap m) (N : News h₀ L s.heap news) (X : K.In h₀) (h1 : (e, oe) ∈ news) (h2 : (dx, od) ∈ news) (hP : ExcObj (.ref C) dx oe) (hd : oe.data = .fields vs) (hl : lookIn name od = some (some v))
    (hga : findIn K (.ref C) "__getattribute__" = some (some (.builtin "BaseException.__getattribute__"))) (hgh : findIn K (.ref C) "__getattr__" = some none)
    (hm : mroIn K C (.type "BaseException") = some true) (hc : clsIn K C = some cd) (hdct : cd.hasDict = true) (hn : findIn K (.ref C) name = some none) (hh : handedIn v = true) (h : Q v { s with toks := s.toks + 1 }) :
    wpAny (model prog w) A (getAttr (.ref e) name expr) Q E s := by
  obtain ⟨oc, odi, odt, osl⟩ := oe
  obtain ⟨q1, q2⟩ := hP
  dsimp only at q1 q2 hd
  subst q1 q2 hd
  refine exc_get (cd := cd) (X.keeps F.keep) (od := some od) ⟨(N _ h1).1, rfl, rfl, (N _ h2).1⟩ hga hgh hm ?_ hh h
  unfold findObj
  rw [hc, hn]
  simp only [Option.bind_some, PySem.W.ownOf, hdct, if_true, hl]
end Mine
theorem Mine.wordsX91 : True := by
  k_with "!exec Try" => (k_here; (refine wpAny_Try_except ?_))
  k_with "!getAttr ref" => (k_here; k_dflt (refine' Mine.exc_getL (C := 59) (by k_asm) (by k_asm) (by k_asm) (by exact List.mem_cons_self) (by exact List.mem_cons_of_mem _ List.mem_cons_self) (by with_reducible assumption) (by with_reducible assumption) (by with_reducible assumption) (by k_is) (by k_is) (by k_is) (by k_is) (by rfl) (by k_is) (by rfl) ?_ ))
  trivial

namespace Mine
theorem fillX9 : PySem.Challenge.rw_on0181_01 = PySem.Challenge.rw_on0181_01 ∧ heapK = heapK := by
  k_fill
  exact ⟨rfl, rfl⟩
/-- a call that ends in a fault at place n -/
def Faults (w : World) (A' : Around) (base : Heap) (outer' : List Env) (f : Addr) (n : Int) (s' : Shared) : Prop :=
  ∀ (Q' Ex' : Value → Shared → Prop), (∀ h' tk' e dx, InAir base outer' e dx (.ref 59) .none h' → FaultAt h' dx n → s'.heap.UpToSlots h' → s'.heap.get? dx = none → s'.heap.get? e = none → Ex' (.ref e) { s' with heap := h', toks := tk' }) → wpAny (model PR w) A' (call (.ref f) []) Q' Ex' s'
theorem c_refused {w : World} {A : Around} {s : Shared} {base : Heap} {outer : List Env} {lam : Addr} {n : Int} {tn : Tok} {Q Ex : Value → Shared → Prop} {p : Program} {loose : List Str} {mg mb : Str → Option Value}
    (K : Below A base outer s.heap) (hz : base.objs.size ≤ s.heap.objs.size) (X : (heapK w.params).In base) (T : TopRead p loose mg mb base) (hroom : A.depth + 100 < recursionLimit) (hh : A.handled = none)
    (hdeed : ∀ A' s' outer', Below A' base outer' s'.heap → Kp s.heap s'.heap → A'.depth = A.depth + 1 → A'.handled = none → Faults w A' base outer' lam n s')
    (hlam : ∃ o fd, s.heap.get? lam = some o ∧ o.data = .func fd)
    (k : ∀ h' tk', base.StaysIn h' → s.heap.UpToSlots h' → Q (.bool true) { s with heap := h', toks := tk' }) :
    wpAny (model PR w) A (call (.ref 244) [.ref lam, .int n tn]) Q Ex s := by
  have Xs := X.keeps K.stays
  have Ts := T.keeps K.stays
  k_dflt (refine' enter [("deed", .ref lam), ("place", .int n tn)] ?X ?T ?ho ?hcd ?hroom ?hbind ?hloc ?_ ?c1 ?c2 ?c3 ?c4; k_extra "M enter")
  k_steps
  rename Fr _ _ _ _ => F
  obtain ⟨ol, fl, hl1, hl2⟩ := hlam
  refine callWith_meth0 hl2 (F.keep _ _ hl1) ?_
  refine (show Faults w _ base _ lam n { s with heap := _, toks := _ } from hdeed _ _ _ (Below.push K F rfl) F.keep rfl hh) _ _ fun h1 tk1 e dx y f u n1 n2 => ?_
  refine air_note (Below.push K F rfl).stack rfl y fun h2 y2 u2 => ?_
  refine air_land y2 fun h3 y3 u3 => ?_
  refine handle_exc (C := 59) (N := 58) (bm := bm59) (by decide) ?_
  have Fb : Fr base _ h3 _ := ⟨((u.trans u2).trans u3).ns F.ns, y3.stays, Nat.le_trans hz F.above⟩
  refine ld_top Fb X T (by k_is) ?_
  refine ⟨rfl, cls59 (X.keeps y3.stays), by obtain ⟨oe, vs, a, b, c⟩ := y3.obj; exact ⟨oe, a, b.1⟩, ?_⟩
  refine air_land y3 fun h4 y4 u4 => ?_
  have U4 := ((u.trans u2).trans u3).trans u4
  have f4 := ((f.up u2).up u3).up u4
  obtain ⟨od, tno, e2, lk, nf⟩ := f4
  obtain ⟨oe, vs, e1, hP, hdv⟩ := y4.obj
  have n1' : s.heap.get? dx = none := none_kp F.keep n1
  have n2' : s.heap.get? e = none := none_kp F.keep n2
  obtain ⟨oL, hoL⟩ := ns_some F.ns
  obtain ⟨L1, eL1⟩ : ∃ L1 : Addr, L1 = (fun {L : Addr} {g : Heap} {m : Str → Option Value} (_ : Fr s.heap L g m) => L) F := ⟨_, rfl⟩
  dsimp only at eL1
  subst eL1
  have dL : dx ≠ L1 := fun q => by rw [q, hoL] at n1; cases n1
  have eL : e ≠ L1 := fun q => by rw [q, hoL] at n2; cases n2
  have b1 : base.get? e = none := y4.2.1
  have b2 : base.get? dx = none := none_kp K.stays n1'
  have inB : ∀ b o, b < L1 → b ≠ e → b ≠ dx → h4.get? b = some o → (hideAll (trunc h4 L1) [e, dx]).get? b = some o := fun b o q1 q2 q3 q => hideAll_get _ (trunc_get q1 q) fun hm => by
    rcases List.mem_cons.mp hm with q | q
    · exact q2 q
    · exact q3 (List.mem_singleton.mp q)
  have B1 : (hideAll (trunc h4 L1) [e, dx]).get? e = none := hideAll_none _ (.head _)
  have B2 : (hideAll (trunc h4 L1) [e, dx]).get? dx = none := hideAll_none _ (.tail _ (.head _))
  have kB4 : Kp (hideAll (trunc h4 L1) [e, dx]) h4 := fun b o q => of_trunc (of_hideAll _ q)
  have zB : (hideAll (trunc h4 L1) [e, dx]).objs.size ≤ L1 := by rw [hideAll_size]; exact trunc_size _ _
  generalize hideAll (trunc h4 L1) [e, dx] = B at inB B1 B2 kB4 zB
  have kbB : Kp base B := fun b o q => inB b o (Nat.lt_of_lt_of_le (Heap.lt_size q) (Nat.le_trans hz F.above)) (fun z => by rw [z, b1] at q; cases q) (fun z => by rw [z, b2] at q; cases q) (y4.stays b o q)
  have uB : s.heap.UpToSlots B := fun b o q nf => by
    obtain ⟨sl, q'⟩ := U4 b o (F.keep b o q) nf
    exact ⟨sl, inB b _ (Nat.lt_of_lt_of_le (Heap.lt_size q) F.above) (fun z => by rw [z, n2'] at q; cases q) (fun z => by rw [z, n1'] at q; cases q) q'⟩
  have F4 : Fr B L1 h4 _ := ⟨U4.ns F.ns, kB4, zB⟩
  have N4 : News B L1 h4 [(e, oe), (dx, od)] := fun p hp => by
    rcases List.mem_cons.mp hp with rfl | hp
    · exact ⟨e1, eL, B1⟩
    · rw [List.mem_singleton.mp hp]; exact ⟨e2, dL, B2⟩
  replace X := X.keeps kbB
  replace T := T.keeps kbB
  clear Fb U4 u u2 u3 u4 y y2 y3 y4 inB Xs Ts f n1 n2 n1' n2' e1 e2 hoL F b1 b2 B1 B2 kB4 zB nf hdeed hl1 hl2 K
  refine stN F4 N4 (fun h5 F5 N5 => ?_)
  clear F4 N4
  k_steps
  dsimp only
  refine name_goes_keeps F5 N5 fun h6 v F6 N6 => ?_
  dsimp only
  rw [show (n == n) = true from by simp]
  exact k _ _ (fun b o q => F6.keep b o (kbB b o q)) (uB.trans (Heap.UpToSlots.of_keeps F6.keep))
end Mine
theorem Mine.offQ8 : True := by
  w_top off
  trivial
theorem Mine.preQ8 : True := by
  k_with_none
  k_with "M skip" => (first | with_reducible exact rfl | (refine Mine.ite_skip (by with_reducible assumption) ?_; k_extra "M skip"))
  k_with "M has" => (first | with_reducible exact Mine.ix0 | (with_reducible refine Mine.ixS ?_; k_extra "M has"))
  k_with "M ix" => ((fail_if_success (fail_if_success (k_extra "M has"))); first | exact ⟨0, rfl⟩ | exact ⟨1, rfl⟩ | exact ⟨2, rfl⟩ | exact ⟨3, rfl⟩ | exact ⟨4, rfl⟩ | exact ⟨5, rfl⟩ | exact ⟨6, rfl⟩ | exact ⟨7, rfl⟩ | exact ⟨8, rfl⟩ | exact ⟨9, rfl⟩ | exact ⟨10, rfl⟩ | exact ⟨11, rfl⟩ | exact ⟨12, rfl⟩ | exact ⟨13, rfl⟩ | exact ⟨14, rfl⟩ | exact ⟨15, rfl⟩ | exact ⟨16, rfl⟩ | exact ⟨17, rfl⟩ | exact ⟨18, rfl⟩ | exact ⟨19, rfl⟩ | exact ⟨20, rfl⟩ | exact ⟨21, rfl⟩ | exact ⟨22, rfl⟩ | exact ⟨23, rfl⟩ | exact ⟨24, rfl⟩ | exact ⟨25, rfl⟩ | exact ⟨26, rfl⟩ | exact ⟨27, rfl⟩ | exact ⟨28, rfl⟩ | exact ⟨29, rfl⟩ | exact ⟨30, rfl⟩ | exact ⟨31, rfl⟩ | exact ⟨32, rfl⟩ | exact ⟨33, rfl⟩)
  k_with "M lt1" => (first | exact Nat.lt_succ_self _ | (refine Nat.lt_succ_of_lt ?_; k_extra "M lt1"))
  k_with "M ne3" => ((with_reducible rename Mine.NeA _ _ => l9); first | (refine Mine.neA_r l9 ?_; k_extra "M ix") | (refine Mine.neA_l l9 ?_; k_extra "M ix") | (clear l9; k_extra "M ne3"))
  k_with "M ne" => (refine neN ?_; (try dsimp only); first
    | (refine Mine.neN_i ?_; with_reducible assumption)
    | (refine Mine.neN_s ?_; with_reducible assumption)
    | with_reducible assumption
    | (refine Ne.symm ?_; with_reducible assumption)
    | (refine Nat.ne_of_lt ?_; with_reducible assumption)
    | (refine Nat.ne_of_gt ?_; with_reducible assumption)
    | (refine Mine.ltA_r (by with_reducible assumption) ?_; k_extra "M ix")
    | (refine Mine.ltA_l (by with_reducible assumption) ?_; k_extra "M ix")
    | (refine Mine.neA_r (by with_reducible assumption) ?_; k_extra "M ix")
    | (refine Mine.neA_l (by with_reducible assumption) ?_; k_extra "M ix")
    | (refine Nat.ne_of_lt ?_; k_extra "M lt1")
    | (refine Nat.ne_of_gt ?_; k_extra "M lt1")
    | k_extra "M ne3"
    | omega
    | ((simp only [Mine.LtA, Mine.NeA] at *); omega))
  k_with "M memR" => (first | with_reducible exact List.mem_cons_self | (with_reducible refine List.mem_cons_of_mem _ ?_; k_extra "M memR") | ((fail_if_success (with_reducible refine List.mem_cons_of_mem _ ?_)); with_reducible assumption))
  k_with "M mem" => (first | with_reducible assumption | k_extra "M memR")
  k_with "M enter" => (
  (case X => first | assumption | exact Frag.In.keeps (by k_asm) (Fr.keep (by k_asm)))
  (case T => exact TopRead.nolimit (by assumption))
  (case ho => k_is)
  (case hcd => k_is)
  (case hroom => omega)
  (case hbind => exact BindsTo.of_eq rfl)
  (case hloc => exact locs rfl)
  (case c1 => decide)
  (case c2 => exact rfl)
  (case c3 => exact rfl)
  (case c4 => exact rfl)
  intro L' h' F' N'
  try dsimp only [Mine.bodOf, Mine.scoOf, Mine.parOf, Mine.topS, Mine.inS, Mine.stAt, PySem.Challenge.pw_on0181_01]
  try k_fold)
  k_with "M enterC" => (
  (case X => first | assumption | exact Frag.In.keeps (by k_asm) (Fr.keep (by k_asm)))
  (case T => exact TopRead.nolimit (by assumption))
  (case ho => k_is)
  (case hcd => k_is)
  (case hroom => omega)
  (case hbind => exact BindsTo.of_eq rfl)
  (case hkind => exact rfl)
  (case hnd => decide +kernel)
  (case c2 => exact rfl)
  (case c3 => exact rfl)
  (case c4 => exact rfl)
  intro L' h' tk' cells' F' N' Y'
  try dsimp only [Mine.bodOf, Mine.scoOf, Mine.parOf, Mine.topS, Mine.inS, Mine.stAt, PySem.Challenge.pw_on0181_01] at *
  k_cells Y'
  try dsimp only [Mine.bodOf, Mine.scoOf, Mine.parOf, Mine.topS, Mine.inS, Mine.stAt, PySem.Challenge.pw_on0181_01]
  try k_fold)
  k_with "M sd" => (first | exact Mine.SD.fr (by k_asm) (by k_asm) | exact Mine.ExactNew (by k_asm) (by k_mem) (by k_asm) (by k_asm))
  k_with "M inst" => exact Mine.inst_base (by k_asm) (by k_asm) (by k_asm)
  k_with "!getMethod ref" => (k_here; (first | (with_reducible show wpAny _ _ (getMethod (Value.ref _) (PySem.Str.ofString "get") _) _ _ _) | (with_reducible show wpAny _ _ (getMethod (Value.ref _) (PySem.Str.ofString "setdefault") _) _ _ _)); refine Mine.sd_mget (by k_extra "M sd") ?_)
  k_with "!getMethod ref" => (k_here; (with_reducible show wpAny _ _ (getMethod (Value.ref _) (PySem.Str.ofString "append") _) _ _ _); k_dflt (refine PySem.W.listMethod_K (by k_asm) (by k_extra "M mem") PySem.F.slot_list_append PySem.F.type_list_append ?_))
  k_with "!callWith ref" => (k_here; k_dflt (first | refine PySem.W.callWith_K (by k_asm) (by k_is) ?_ | refine PySem.W.callWith_K0 (by k_in) (by k_is) ?_))
  k_with "!call builtin:dict.get" => (k_here; first | refine Mine.sd_get1 (by k_extra "M sd") ?_ | refine Mine.sd_get2 (by k_extra "M sd") ?_)
  k_with "!call builtin:dict.get" => (k_here; first | refine Mine.sd_get1v (by k_extra "M sd") (by with_reducible assumption) ?_ | refine Mine.sd_get1n (by k_extra "M sd") (by with_reducible assumption) ?_ | refine Mine.sd_get2v (by k_extra "M sd") (by with_reducible assumption) ?_ | refine Mine.sd_get2n (by k_extra "M sd") (by with_reducible assumption) ?_)
  k_with "!compareOp In str ref" => (k_here; refine Mine.sd_in (by k_extra "M sd") ?_)
  k_with "!compareOp NotIn str ref" => (k_here; refine Mine.sd_notin (by k_extra "M sd") ?_)
  k_with "!subscriptTail" => (k_here; (with_reducible show wpAny _ _ (subscriptTail _ _ (Value.ref _) (Value.str _ _)) _ _ _); refine Mine.sd_item (by k_extra "M sd") (by k_asm) ?_)
  k_with "!eval Name" => (k_here; (with_reducible show wpAny _ _ (eval (Expr.Name _ _) (compEnvC _ _ _ _)) _ _ _); k_dflt (first
  | refine Mine.cx_L (by k_asm) (by with_reducible assumption) ?_
  | refine Mine.cx_C (by k_asm) (by exact rfl) (by k_extra "M mem") (by k_asm) ?_
  | refine Mine.cx_K (by k_asm) (by k_asm) (by k_asm) (by k_is) ?_
  | refine Mine.cx_B (by k_asm) (by k_asm) (by k_asm) (by k_is) (by boot_by_name) (by decide) ?_))
  k_with "!eval ListComp" => (k_here; (with_reducible show wpAny _ _ (eval (Expr.ListComp _ [⟨Expr.Name _ _, _, _, _⟩] _ _) _) _ _ _); k_dflt (refine Mine.lc_name (by k_asm) (by exact rfl) (by decide) (by exact rfl) (by decide) (by exact rfl) ?_))
  k_with "!eval ListComp" => (k_here; (with_reducible show wpAny _ _ (eval (Expr.ListComp _ [⟨Expr.Tuple _ _ _, _, _, _⟩] _ _) _) _ _ _); k_dflt (refine Mine.lc_pair (by k_asm) (by exact rfl) (by decide) (by exact rfl) (by decide) (by exact rfl) (by exact rfl) (by decide) ?_))
  k_with "!exec Assign cons ListComp" => (k_here; k_dflt (
  refine Mine.lc_name_assign (by k_asm) (by exact rfl) (by with_unfolding_all rfl) (by exact rfl) (by decide) (by exact rfl) (by decide) (by exact rfl) (by exact rfl) (by exact rfl) ?_))
  k_with "M room" => (first | (refine Mine.rm0 (by with_reducible assumption) ?_; decide) | (refine Mine.rm1 (by with_reducible assumption) ?_; decide) | (refine Mine.rm2 (by with_reducible assumption) ?_; decide) | ((try simp only [depth_deeper, depth_in1] at *); omega))
  k_with "M sub" => (first | exact fun _ h => h | (intro p9 hp9; repeat (first | exact hp9 | refine List.mem_cons_of_mem _ ?_)))
  k_with "!CEnd" => (refine Mine.CEnd.intro (by k_asm) (by k_asm) (by k_extra "M sub"))
  k_with "M units" => (first | (refine Mine.un0 (by with_reducible assumption) ?_; decide) | (refine Mine.un1 (by with_reducible assumption) ?_; decide) | (refine Mine.un2 (by with_reducible assumption) ?_; decide) | ((try simp only [units_deeper, units_in1, Around.deeper_units] at *); omega))
  k_with "M len" => (first | with_reducible exact Mine.len_lit _ | ((with_reducible refine' Mine.len_app ?_ ?_) <;> k_extra "M len") | with_reducible assumption)
  k_with "!binaryOp Add str str" => (k_here; (with_reducible show wpAny _ _ (binaryOp Operator.Add (Value.str _ _) (Value.str _ _)) _ _ _); (refine Mine.add_strS (by k_extra "M len") (by k_extra "M len") (by decide +kernel) ?_); intro t9 tk9)
  k_with "M reads" => (first
  | exact Reads.none
  | exact Reads.str _ _
  | exact Reads.keeps (Fr.keep (by k_asm)) (by with_reducible assumption)
  | exact reads_tuple_at (News.get (by k_asm) (by k_extra "M mem")) rfl rfl (by k_extra "M readsAll")
  | exact Mine.reads_strs (by k_asm) (by k_extra "M mem") (by with_reducible assumption))
  k_with "M readsAll" => (first
  | exact ReadsAll.nil
  | exact ReadsAll.cons (by k_extra "M reads") (by k_extra "M readsAll"))
  k_with "M shaped" => (first | with_reducible assumption | exact rfl | decide +kernel)
  k_with "!compareOp Eq ref ref" => (k_here; k_dflt (refine eq_dataH (by k_extra "M reads") (by k_extra "M reads") (by k_extra "M shaped") (by k_extra "M shaped") (by k_extra "M units") ?_))
  k_with "!compareOp Eq none ref" => (k_here; k_dflt (refine eq_dataH (by k_extra "M reads") (by k_extra "M reads") (by k_extra "M shaped") (by k_extra "M shaped") (by k_extra "M units") ?_))
  k_with "M for" => (k_here; k_dflt (refine Mine.for_rule (by k_asm) (by exact rfl) ?_))
  k_with "!exec For Name Tuple cons nil" => k_extra "M for"
  k_with "!exec For Name Name cons nil" => k_extra "M for"
  k_with "!exec For Name Attribute cons nil" => k_extra "M for"
  k_with "!exec For Name List cons nil" => k_extra "M for"
  k_with "!exec For Name Subscript cons nil" => k_extra "M for"
  k_with "!exec For Tuple Name cons nil" => k_extra "M for"
  k_with "!execs cons Assign cons" => (k_here; refine wpAny_execs_cons ?_)
  k_with "!call builtin:list.append" => (k_here; (with_reducible show wpAny _ _ (call (Value.builtin _) [Value.ref _, _]) _ _ _); k_dflt (refine' Mine.append_L (by k_asm) (by k_asm) (by k_upd) (by ((try simp only [List.length_append, List.length_singleton]); omega)) ?_; k_whole); intro h' F' N'; (try k_sweep))
  k_with "M fsub" => (first | exact List.forall_mem_nil _ | (refine List.forall_mem_cons.mpr ⟨⟨by k_extra "M mem", by k_ne⟩, ?_⟩; k_extra "M fsub"))
  k_with "!subscriptTail Name Constant ref int" => (k_here; (with_reducible show wpAny _ _ (subscriptTail _ _ (Value.ref _) (Value.int _ _)) _ _ _); k_dflt (refine Mine.item_tupB (by k_asm) (by with_reducible assumption) (by decide) (by decide) (by exact rfl) (by exact rfl) ?_))
  k_with "!subscriptTail" => (k_here; (with_reducible show wpAny _ _ (subscriptTail _ _ (Value.ref _) (Value.int _ _)) _ _ _); k_dflt (refine Mine.item_tupB (by k_asm) (by with_reducible assumption) (by decide) (by decide) (by exact rfl) (by exact rfl) ?_))
  k_with "M memL" => (first | exact List.mem_cons_self | (refine List.mem_cons_of_mem _ ?_; k_extra "M memL"))
  k_with "M memall" => (first | exact True.intro | (refine And.intro (by k_extra "M memL") ?_; k_extra "M memall"))
  k_with "!call ref" => (k_here; k_dflt ((refine' Mine.c_rules (by k_asm) (by k_asm) (by k_asm) (by k_asm) (by k_extra "M room") (by k_asm) (by k_asm) ?_ ?_); (intro h' tk' d' F' N' hI'; obtain ⟨kvs', hS', hP'⟩ := hI'; (try k_sweep); rotate_left; intro h' tk' d' o' F' N' hr' hs' lo' ne'; (replace ne' := Mine.allNe_of ne'); (replace ne' := Mine.neA_of ne'); (try dsimp only [Mine.adr] at ne'); (try k_sweep); rotate_right)))
  k_with "M few" => (first | with_reducible assumption | exact Nat.le_trans (Mine.namesOf_len _ _) (by with_reducible assumption))
  k_with "!call builtin:len" => (k_here; (with_reducible show wpAny _ _ (call (Value.builtin "len") [Value.ref _]) _ _ _); k_dflt (refine Mine.len_strs (by k_asm) (by k_extra "M mem") (by with_reducible assumption) (by k_extra "M few") ?_))
  k_with "M handled" => (first | assumption | exact rfl)
  k_with "M ok" => (first | exact Mine.ok_nil | assumption)
  k_with "!compareOp NotEq ref ref" => (k_here; k_dflt (refine Mine.ne_strs (by k_asm) (by k_extra "M mem") (by k_extra "M mem") (by first | with_reducible assumption | exact PyProof.Rows.StrsAre.nil) (by first | with_reducible assumption | exact PyProof.Rows.StrsAre.nil) (by k_extra "M ok") (by k_extra "M ok") (by k_extra "M units") ?_))
  k_with "!subscriptTail Name Constant ref int" => (k_here; (with_reducible show wpAny _ _ (subscriptTail _ _ (Value.ref _) (Value.int 0 _)) _ _ _); k_dflt (refine Mine.item_strs0 (by k_asm) (by k_extra "M mem") (by with_reducible assumption) (by with_reducible assumption) ?_); intro y' r' t' hx')
  k_with "!subscriptTail" => (k_here; (with_reducible show wpAny _ _ (subscriptTail _ _ (Value.ref _) (Value.int 0 _)) _ _ _); k_dflt (refine Mine.item_strs0 (by k_asm) (by k_extra "M mem") (by with_reducible assumption) (by with_reducible assumption) ?_); intro y' r' t' hx')
  k_with "!call ref" => (k_here; k_dflt ((refine' Mine.c_nok (by k_asm) (by k_asm) (by k_asm) (by k_asm) (by k_extra "M room") (by k_extra "M handled") (by k_asm) (by k_asm) (by assumption) ?_); (intro h' tk' a' ys' F' N' ne' hS'; (replace ne' := Mine.allNe_of ne'); (replace ne' := Mine.neA_of ne'); (try dsimp only [Mine.adr] at ne'); try k_sweep)))
  k_with "!call ref" => (k_here; k_dflt ((refine' Mine.c_model (by k_asm) (by k_asm) (by k_asm) (by k_asm) (by k_extra "M room") (by k_asm) (by k_asm) ?_); (intro h' tk' F' N'; (try k_sweep); (first | (rename valueAt _ _ = _ => hv9; rw [hv9]; dsimp only [Option.getD_some, Option.getD_none]) | skip))))
  k_with "!binaryOp Add ref ref" => (k_here; (with_reducible show wpAny _ _ (binaryOp _ (Value.ref _) (Value.ref _)) _ _ _); k_dflt (refine' Mine.add_L (by k_asm) (by k_asm) (by k_extra "M mem") (by k_extra "M mem") (by ((try simp only [List.length_append, List.length_singleton]); omega)) ?_ ); intro D' h' F' N' ne'; (replace ne' := Mine.neA_of ne'); (try dsimp only [Mine.adr] at ne'); (try k_sweep))
  k_with "!call ref" => (k_here; k_dflt ((refine' Mine.c_nf (by k_asm) (by k_asm) (by k_asm) (by k_asm) (by k_extra "M room") (by k_extra "M units") (by k_extra "M handled") (by k_asm) (by k_asm) (by k_asm) (by k_asm) (by with_reducible assumption) (by with_reducible assumption) (by with_reducible assumption) (by with_reducible assumption) ?_); (intro h' tk' a' ys' n' F' N' ne' hS'; (have hnl' := Mine.nf_len hS'); (replace ne' := Mine.allNe_of ne'); (replace ne' := Mine.neA_of ne'); (try dsimp only [Mine.adr] at ne'); try k_sweep)))
  k_with "!call ref" => (k_here; k_dflt ((refine' Mine.c_ef (by k_asm) (by k_asm) (by k_asm) (by k_asm) (by k_extra "M room") (by k_extra "M units") (by k_extra "M handled") (by k_asm) (by k_asm) (by k_asm) (by k_asm) (by with_reducible assumption) (by with_reducible assumption) (by with_reducible assumption) ?_); (intro h' tk' a' ys' n' F' N' ne' hS' hl'; (replace ne' := Mine.allNe_of ne'); (replace ne' := Mine.neA_of ne'); (try dsimp only [Mine.adr] at ne'); try k_sweep)))
  trivial
set_option maxHeartbeats 12000000
namespace Mine
/- the law's own rows -/
def PairOf (h : Heap) (v : Value) (e : Str × Rule) : Prop := ∃ (T rr : Addr) (t : Tok), v = .ref T ∧ h.IsTuple T #[.str e.1 t, .ref rr] ∧ RowAt h rr e.2
theorem PairOf.kp {h h' : Heap} {v : Value} {e : Str × Rule} (y : PairOf h v e) (k : Kp h h') : PairOf h' v e :=
  let ⟨T, rr, t, a, b, c⟩ := y; ⟨T, rr, t, a, b.at fun o q => k _ o q, c.kp k⟩
def OwnAt (h : Heap) (l : Addr) (rs : Rules) : Prop := ∃ its : List Value, h.IsList l its.toArray ∧ Paired (PairOf h) its rs
theorem OwnAt.kp {h h' : Heap} {l : Addr} {rs : Rules} (y : OwnAt h l rs) (k : Kp h h') : OwnAt h' l rs :=
  let ⟨its, a, b⟩ := y; ⟨its, a.at fun o q => k _ o q, Paired.mono (fun _ _ x => x.kp k) b⟩
def OwnRef (h : Heap) (v : Value) (rs : Rules) : Prop := ∃ l, v = .ref l ∧ OwnAt h l rs
def Owns (w : World) (h : Heap) (d : Addr) (σ : AllRules) : Prop := Tab w h (OwnRef h) d σ
theorem Owns.kp {w : World} {h h' : Heap} {d : Addr} {σ : AllRules} (y : Owns w h d σ) (k : Kp h h') : Owns w h' d σ :=
  let ⟨kvs, a, p⟩ := y; ⟨kvs, a.kp k, Paired.mono (fun _ _ ⟨e, x, hx, q⟩ => ⟨e, x, hx, q.kp k⟩) p⟩
def RowsAt (w : World) (h : Heap) (R M Rr Nl : Addr) : Prop := SD w h R [(Str.ofString "models", .ref M), (Str.ofString "rules", .ref Rr), (Str.ofString "notations", .ref Nl)]
def NotsL (h : Heap) (Nl : Addr) (nots : List Str) : Prop := ∃ ys : List Value, h.IsList Nl ys.toArray ∧ StrsAre ys nots
theorem NotsL.kp {h h' : Heap} {l : Addr} {nots : List Str} (y : NotsL h l nots) (k : Kp h h') : NotsL h' l nots := let ⟨ys, a, b⟩ := y; ⟨ys, a.at fun o q => k _ o q, b⟩
section
variable {M Rr Nl : Addr}
theorem rows_m : valueAt [(Str.ofString "models", Value.ref M), (Str.ofString "rules", .ref Rr), (Str.ofString "notations", .ref Nl)] (Str.ofString "models") = some (.ref M) := by rfl
theorem rows_r : valueAt [(Str.ofString "models", Value.ref M), (Str.ofString "rules", .ref Rr), (Str.ofString "notations", .ref Nl)] (Str.ofString "rules") = some (.ref Rr) := by rfl
theorem rows_n : valueAt [(Str.ofString "models", Value.ref M), (Str.ofString "rules", .ref Rr), (Str.ofString "notations", .ref Nl)] (Str.ofString "notations") = some (.ref Nl) := by rfl
end
def modes4 : List Str := [Str.ofString "implied", Str.ofString "required", Str.ofString "default", Str.ofString "fixed"]
theorem modes_all : modes4.all (fun m => ([Str.ofString "default", Str.ofString "fixed"].any fun z => z == m) == !([Str.ofString "required", Str.ofString "implied"].any fun z => z == m)) = true := by decide +kernel
theorem mode_not {m : Str} (h : m ∈ modes4) {b : Bool} (e : ([Str.ofString "default", Str.ofString "fixed"].any fun z => z == m) = b) : ([Str.ofString "required", Str.ofString "implied"].any fun z => z == m) = !b := by
  have q := List.all_eq_true.mp modes_all m h
  rw [beq_iff_eq] at q
  rw [← e, q, Bool.not_not]
theorem mode_t {m : Str} (h : m ∈ modes4) (e : ([Str.ofString "default", Str.ofString "fixed"].any fun z => z == m) = true) : ([Str.ofString "required", Str.ofString "implied"].any fun z => z == m) = false := mode_not h e
theorem mode_f {m : Str} (h : m ∈ modes4) (e : ([Str.ofString "default", Str.ofString "fixed"].any fun z => z == m) = false) : ([Str.ofString "required", Str.ofString "implied"].any fun z => z == m) = true := mode_not h e
theorem count_kinds (k : Str) : ∀ rs : Rules, Spec.countIn (.str k) ((rs.map fun e => e.2.kind).map PyData.str) = ((namesOf rs k).length : Int)
  | [] => rfl
  | e :: r => by
    rw [List.map_cons, List.map_cons, Spec.countIn, count_kinds k r]
    unfold namesOf
    by_cases h : e.2.kind = k
    · simp [Spec.same, PyData.eqv, h]; omega
    · simp [Spec.same, PyData.eqv, h]
section
variable {prog : Program} {w : World} {A : Around} {E : Value → Shared → Prop} {s : Shared} {h₀ : Heap} {L D a b : Addr} {m : Str → Option Value} {news : List (Addr × Obj)} {ys zs : List Value} {n k : Nat}
theorem count_L {rs : Rules} {x : Str} {t : Tok} {Q : Value → Shared → Prop} (N : News h₀ L s.heap news) (hm : (a, lsn ys n) ∈ news) (S : StrsAre ys (rs.map fun e => e.2.kind))
    (h : Q (.int ((namesOf rs x).length : Int) s.toks) { s with toks := s.toks + 1 }) : wpAny (model prog w) A (call (.builtin "list.count") [.ref a, .str x t]) Q E s := by
  refine count_list_strs (vs := ys) ⟨_, N.get hm, rfl, _, rfl⟩ S ?_
  rw [count_kinds]; exact h
theorem extend_L {g : Obj → List (Addr × Obj)} {Q : Value → Shared → Prop} (F : Fr h₀ L s.heap m) (N : News h₀ L s.heap news) (U : UpdF D (lsn ys n) news g) (hb : (b, lsn zs k) ∈ news) (hz : ys.length + zs.length ≤ 10000000)
    (h : ∀ h' n', Fr h₀ L h' m → News h₀ L h' (g (lsn (ys ++ zs) n')) → Q .none { s with heap := h' }) : wpAny (model prog w) A (call (.builtin "list.extend") [.ref D, .ref b]) Q E s := by
  obtain ⟨pre, post, rfl, hg, a, c⟩ := U.split
  exact extend_in F N a c (N.get hb) (fun h' n' F' N' => h h' n' F' (by rw [hg]; exact N')) (Nat.le_trans (by simpa using hz) (by decide))
end
section
variable {prog : Program} {w : World} {A : Around} {E : Value → Shared → Prop} {h₀ : Heap} {L : Addr} {m : Str → Option Value} {env : Env} {rest : List (Addr × Obj)}
/-- a loop over a list that was just laid -/
theorem fo_lit {target : Expr} {body : List Stmt} {Q : Flow → Shared → Prop} {s₁ : Shared} {ax : Addr} {its : Array Value} {k : Nat} (F : Fr h₀ L s₁.heap m) (N : News h₀ L s₁.heap ((ax, ({ cls := .type "list", data := .seq its k } : Obj)) :: rest))
    (Jm : (Str → Option Value) → Nat → (Str → Option Value) → List (Addr × Obj) → Prop) (hh : A.handled = none) (h0 : Jm m 0 m ((ax, ({ cls := .type "list", data := .seq its k } : Obj)) :: rest)) (hJs : ∀ i m' nw, Jm m i m' nw → ∃ r, nw = (ax, ({ cls := .type "list", data := .seq its k } : Obj)) :: r)
    (htg : ∃ x px, target = .Name x px)
    (turn : ∀ i v I oI m₁ nw h tk, i < its.size → its[i]? = some v → Jm m i m₁ nw → Fr h₀ L h m₁ → News h₀ L h ((I, oI) :: nw) → AllNe I nw →
      wpAny (model prog w) A (assign target env v) (fun _ s₃ => wpAny (model prog w) A (execs body env) (FEnd h₀ L I oI (Jm m (i + 1)) s₁ Q) E s₃) E { s₁ with heap := h, toks := tk })
    (fin : ∀ h tk m₁ nw, Fr h₀ L h m₁ → News h₀ L h nw → Jm m its.size m₁ nw → Q .next { s₁ with heap := h, toks := tk }) : FoAt prog w A h₀ L env target body Q E (.ref ax) s₁ :=
  fo_intro (srcs := [(ax, ({ cls := .type "list", data := .seq its k } : Obj))]) F N .listN Jm hh h0 (fun i m' nw hj p hp => by
    obtain ⟨r, rfl⟩ := hJs i m' nw hj
    rw [List.mem_singleton.mp hp]; exact .head _) (.inl htg) turn fin
end
theorem assign_pair {prog : Program} {w : World} {A : Around} {E : Value → Shared → Prop} {s : Shared} {h₀ : Heap} {L T : Addr} {m : Str → Option Value} {news : List (Addr × Obj)} {env : Env} {a b : Str} {pa pb tp : Pos} {kk : Nat} {x y : Value} {Q : Unit → Shared → Prop}
    (F : Fr h₀ L s.heap m) (N : News h₀ L s.heap news) (hL : env.locals = L) (hh : A.handled = none) (ht : h₀.IsTuple T #[x, y])
    (ha : env.kindOf a = some .local) (hb : env.kindOf b = some .local) (hp : (env.scope.kind == .class || (env.scope.kind == .module && env.locals != env.globals)) = false)
    (h : ∀ h' tk, Fr h₀ L h' (fun z => if z = b then some y else if z = a then some x else m z) → News h₀ L h' news → Q () { s with heap := h', toks := tk }) :
    wpAny (model prog w) A (assign (.Tuple [.Name a pa, .Name b pb] kk tp) env (.ref T)) Q E s := by
  subst hL
  have hL₀ : h₀.get? env.locals = none := Heap.get?_none_of_le F.above
  refine kcp_assign hh (ht.at fun o e => F.keep _ o e) ha hb hp F.ns fun h' tk hn hs => h h' tk ⟨hn, fun b o e => hs b o (fun q => by rw [q, hL₀] at e; cases e) (F.keep b o e), F.above⟩ fun p hp => ⟨hs _ _ (N p hp).2.1 (N p hp).1, (N p hp).2⟩
theorem pair_uniq {h : Heap} {T : Addr} {a b c d : Value} (x : h.IsTuple T #[a, b]) (y : h.IsTuple T #[c, d]) : a = c ∧ b = d := by
  obtain ⟨o, e, _, n, q⟩ := x
  obtain ⟨o', e', _, n', q'⟩ := y
  rw [e] at e'; cases e'
  rw [q] at q'
  simp at q'
  exact q'.1
theorem pairs_of {h : Heap} {its : List Value} {rs : Rules} (p : Paired (PairOf h) its rs) (i : Nat) (v : Value) (hv : its.toArray[i]? = some v) : ∃ (T : Addr) (a b : Value), v = Value.ref T ∧ h.IsTuple T #[a, b] := by
  obtain ⟨r, _, T, rr, t, e, hT, _⟩ := paired_get p i v (by simpa using hv)
  exact ⟨T, _, _, e, hT⟩
theorem pairs_at {h : Heap} {its : List Value} {rs : Rules} (p : Paired (PairOf h) its rs) {i : Nat} {v : Value} {T : Addr} {a b : Value} (hv : its.toArray[i]? = some v) (e : v = Value.ref T) (hT : h.IsTuple T #[a, b]) :
    ∃ (r : Str × Rule) (t : Tok) (rr : Addr), rs[i]? = some r ∧ a = .str r.1 t ∧ b = .ref rr ∧ RowAt h rr r.2 := by
  obtain ⟨r, hr, T', rr, t, e', hT', hrow⟩ := paired_get p i v (by simpa using hv)
  rw [e] at e'; cases e'
  obtain ⟨h1, h2⟩ := pair_uniq hT hT'
  exact ⟨r, t, rr, hr, h1, h2, hrow⟩
theorem upd5_at {a b c d e : Str} {M m : Str → Option Value} (h : ∀ z, z ≠ a → z ≠ b → z ≠ c → z ≠ d → z ≠ e → M z = m z) :
    M = fun z => if z = a then M z else if z = b then M z else if z = c then M z else if z = d then M z else if z = e then M z else m z := by
  funext z
  by_cases h1 : z = a
  · rw [if_pos h1]
  by_cases h2 : z = b
  · rw [if_neg h1, if_pos h2]
  by_cases h3 : z = c
  · rw [if_neg h1, if_neg h2, if_pos h3]
  by_cases h4 : z = d
  · rw [if_neg h1, if_neg h2, if_neg h3, if_pos h4]
  by_cases h5 : z = e
  · rw [if_neg h1, if_neg h2, if_neg h3, if_neg h4, if_pos h5]
  · rw [if_neg h1, if_neg h2, if_neg h3, if_neg h4, if_neg h5]; exact h z h1 h2 h3 h4 h5
theorem upd2x_at {a b : Str} {M m : Str → Option Value} (h : ∀ z, z ≠ a → z ≠ b → M z = m z) : M = fun z => if z = a then M z else if z = b then M z else m z := by
  funext z
  by_cases h1 : z = a
  · rw [if_pos h1]
  by_cases h2 : z = b
  · rw [if_neg h1, if_pos h2]
  · rw [if_neg h1, if_neg h2]; exact h z h1 h2
end Mine
theorem Mine.wordsQ81 : True := by
  k_with "!call builtin:list.count" => (k_here; (with_reducible show wpAny _ _ (call (Value.builtin _) [Value.ref _, Value.str _ _]) _ _ _); k_dflt (refine Mine.count_L (by k_asm) (by k_extra "M mem") (by with_reducible assumption) ?_))
  k_with "!call builtin:list.extend" => (k_here; (with_reducible show wpAny _ _ (call (Value.builtin _) [Value.ref _, Value.ref _]) _ _ _); k_dflt (refine' Mine.extend_L (by k_asm) (by k_asm) (by k_updF) (by k_extra "M mem") (by ((try simp only [List.length_append, List.length_singleton]); omega)) ?_ ); intro h' n' F' N'; (try dsimp only at N'); (try k_sweep))
  k_with "!assign Tuple" => (k_here; k_dflt (refine' Mine.assign_pair (by k_asm) (by k_asm) (by exact rfl) (by k_extra "M handled") (by with_reducible assumption) (by exact rfl) (by exact rfl) (by exact rfl) ?_ ); intro h' tk' F' N'; (try k_sweep))
  k_with "!compareOp NotIn str ref" => (k_here; (with_reducible show wpAny _ _ (compareOp CmpOp.NotIn (Value.str _ _) (Value.ref _)) _ _ _); k_dflt (refine notin_list_strs (PySem.Heap.IsList.at (by k_asm) fun o e => Fr.keep (by k_asm) _ o e) (by with_reducible assumption) ?_))
  trivial

namespace Mine
theorem look_at {w : World} {h : Heap} {d : Addr} {α : Type} {G : Value → α → Prop} {kvs : List (Str × Value)} {l : List (Str × α)} (S : SD w h d kvs) (p : Paired (fun kv e => kv.1 = e.1 ∧ G kv.2 e.2) kvs l) {i : Nat} {e : Str × α} (hr : l[i]? = some e) : look l e.1 = some e.2 := by
  have hn : (l.map (·.1)).Nodup := by
    have q : kvs.map (·.1) = l.map (·.1) := by
      clear hr S
      induction p with
      | nil => rfl
      | cons f _ ih => simp [f.1, ih]
    rw [← q]; exact S.nodup
  clear p S
  induction l generalizing i with
  | nil => simp at hr
  | cons a r ih =>
    simp only [List.map_cons, List.nodup_cons] at hn
    unfold look
    cases i with
    | zero => simp at hr; subst hr; simp
    | succ j =>
      have hr' : r[j]? = some e := by simpa using hr
      have ne : ¬ a.1 = e.1 := fun q => hn.1 (q ▸ List.mem_map.mpr ⟨e, List.mem_of_getElem? hr', rfl⟩)
      have := ih hr' hn.2
      unfold look at this
      simpa [ne] using this
theorem rulesOf_at {w : World} {h : Heap} {d : Addr} {G : Value → Rules → Prop} {kvs : List (Str × Value)} {l : AllRules} (S : SD w h d kvs) (p : Paired (fun kv e => kv.1 = e.1 ∧ G kv.2 e.2) kvs l) {i : Nat} {e : Str × Rules} (hr : l[i]? = some e) : rulesOf l e.1 = e.2 := by
  unfold rulesOf; rw [look_at S p hr]; rfl
theorem any_contains (nots : List Str) (c : Str) : (nots.any fun x => x == c) = nots.contains c := by
  induction nots with
  | nil => rfl
  | cons a r ih =>
    rw [List.any_cons, List.contains_cons, ih]
    by_cases h : a = c
    · subst h; simp
    · have h2 : ¬ c = a := fun q => h q.symm
      rw [beq_eq_false_iff_ne.mpr h, beq_eq_false_iff_ne.mpr h2]
section
variable {nots : List Str} {mo : Str → Option PyData} {x y : Str} {r : Rule} {zs : List Value} {e : PyData} {t : Tok}
theorem nf_a (h : mo x = none) (hz : StrsAre zs ((unknownOf nots r.choices).map nfText)) : StrsAre zs (nfOf nots mo r x y) := by simpa [nfOf, isEmptyM, h] using hz
theorem nf_b (h : mo x = some e) (hq : PyData.eqv e emptyD = false) (hz : StrsAre zs ((unknownOf nots r.choices).map nfText)) : StrsAre zs (nfOf nots mo r x y) := by simpa [nfOf, isEmptyM, h, hq] using hz
theorem nf_c (h : mo x = some e) (hq : PyData.eqv e emptyD = true) (hz : StrsAre zs ((unknownOf nots r.choices).map nfText)) : StrsAre (zs ++ [.str (emText x y) t]) (nfOf nots mo r x y) := by
  unfold nfOf isEmptyM; rw [h]; dsimp only; rw [if_pos hq]; exact strs_snoc hz
theorem un_step {cs : List Str} {i : Nat} {c : Str} (hc : cs[i]? = some c) (hz : StrsAre zs ((unknownOf nots (cs.take i)).map nfText)) (hq : (nots.any fun x => x == c) = false) : StrsAre (zs ++ [.str (nfText c) t]) ((unknownOf nots (cs.take (i + 1))).map nfText) := by
  rw [any_contains] at hq
  rw [namesTake hc, unknownOf_snoc, hq, List.map_append]; exact strs_snoc hz
theorem un_skip {cs : List Str} {i : Nat} {c : Str} (hc : cs[i]? = some c) (hz : StrsAre zs ((unknownOf nots (cs.take i)).map nfText)) (hq : (nots.any fun x => x == c) = true) : StrsAre zs ((unknownOf nots (cs.take (i + 1))).map nfText) := by
  rw [any_contains] at hq
  rw [namesTake hc, unknownOf_snoc, hq]; simpa using hz
end
end Mine
theorem Mine.offR8 : True := by
  w_top off
  trivial
set_option maxHeartbeats 12000000
namespace Mine
theorem both_no {k : Str} (h1 : (k == Str.ofString "ID") = true) (h2 : (k == Str.ofString "notation") = true) : False := by
  have e1 := beq_iff_eq.mp h1
  rw [e1] at h2
  exact absurd h2 (by decide +kernel)
theorem fill8 : PySem.Challenge.rw_on0181_01 = PySem.Challenge.rw_on0181_01 ∧ heapK = heapK := by
  k_fill
  exact ⟨rfl, rfl⟩
theorem c_texts {w : World} {A : Around} {s : Shared} {h₀ : Heap} {L : Addr} {m : Str → Option Value} {news : List (Addr × Obj)} {R M Rr Nl : Addr} {Q Ex : Value → Shared → Prop} {p : Program} {loose : List Str} {mg mb : Str → Option Value}
    {nots : List Str} {mo : Str → Option PyData} {σ : AllRules} {kvM : List (Str × Value)} (F : Fr h₀ L s.heap m) (N : News h₀ L s.heap news)
    (X : (heapK w.params).In h₀) (T : TopRead p loose mg mb h₀) (hroom : A.depth + 40 < recursionLimit) (hun : A.units + 300 < cLine) (hh : A.handled = none)
    (hR : RowsAt w h₀ R M Rr Nl) (hM : ModsAt w h₀ M kvM mo) (hO : Owns w h₀ Rr σ) (hNl : NotsL h₀ Nl nots) (hsz : σ.length ≤ 10) (hx : ∀ e ∈ σ, e.1.length ≤ 1000 ∧ e.2.length ≤ 1000 ∧ ∀ r ∈ e.2, RuleOk r ∧ r.2.mode ∈ modes4)
    (k : ∀ h' tk' a ys n, Fr h₀ L h' m → News h₀ L h' ((a, lsn ys n) :: news) → (∀ p ∈ news, p.1 ≠ a) → StrsAre ys (faultsOf nots mo σ) → ys.length ≤ 10000000 → Q (.ref a) { s with heap := h', toks := tk' }) :
    wpAny (model PR w) A (call (.ref 254) [.ref R]) Q Ex s := by
  replace hR := hR.kp F.keep
  have hSM := (hM.kp F.keep).1
  replace hM := hM.kp F.keep
  replace hO := hO.kp F.keep
  replace X := X.keeps F.keep
  replace T := T.keeps F.keep
  obtain ⟨nl, hNl1, hNl2⟩ := hNl.kp F.keep
  obtain ⟨kvs, hSO, hPO⟩ := hO
  have hlen := Paired.length hPO
  have vm := rows_m (M := M) (Rr := Rr) (Nl := Nl)
  have vr := rows_r (M := M) (Rr := Rr) (Nl := Nl)
  have vn := rows_n (M := M) (Rr := Rr) (Nl := Nl)
  replace k := fun h' tk' a ys n (hk : Kp s.heap h') (ha : h'.get? a = some (lsn ys n)) (hn : s.heap.get? a = none) => k h' tk' a ys n (F.keeps hk) (news_new F N hk ha hn) (ne_new N hn)
  clear F N
  unfold RowsAt at hR
  k_dflt (refine' enterC [("rows", .ref R)] ?X ?T ?ho ?hcd ?hroom ?hbind ?hkind ?hnd ?_ ?c2 ?c3 ?c4; k_extra "M enterC")
  k_steps
  rename Fr _ _ _ _ => F
  rename News _ _ _ _ => N
  refine fo_introQ F N (.dict hSO.1 hSO.2)
    (fun m₀ i m nw => ∃ (u : Str → Option Value) (ys : List Value) (n : Nat), m = (fun z => if z = Str.ofString "element" then u z else if z = Str.ofString "own" then u z else if z = Str.ofString "kind" then u z else if z = Str.ofString "name" then u z else if z = Str.ofString "rule_row" then u z else m₀ z) ∧ nw = [(_, lsn ys n), (_, _)] ∧ StrsAre ys ((σ.take i).flatMap fun e => efOf nots mo (rulesOf σ e.1) e.1) ∧ ys.length ≤ 102002 * i)
    hh ⟨_, [], 0, upd5_at (fun _ _ _ _ _ _ => rfl), rfl, .nil, Nat.zero_le _⟩ (fun i m' nw hj p hp => nomatch hp) (.inl ⟨_, _, rfl⟩) ?_ ?_
  · intro i v I oI m₁ nw h tk' hi hv hJ F' N' off Q9 hQ9
    refine Classical.byContradiction fun hG9 => ?_
    obtain ⟨u, ys, n, rfl, rfl, hS, hyl⟩ := hJ
    have offA := off
    replace off := neA_of off
    try dsimp only [Mine.adr] at off
    obtain ⟨kk, vv, hkv, hk⟩ := hv
    obtain ⟨tt, rfl⟩ := isStr_key hk
    obtain ⟨r, hr, e1, e2⟩ := paired_get hPO i _ hkv
    obtain ⟨o1, o2, o3⟩ := hx r (List.mem_of_getElem? hr)
    dsimp only at e1 e2
    have hval := valueAt_get hSO.nodup hkv
    obtain ⟨lo, rfl, its, hlo, hPr⟩ := e2
    rw [← e1] at o1
    have hil := Paired.length hPr
    refine hG9 ?_
    clear hG9 F N
    k_steps
    rename Fr _ _ _ _ => F
    rename News _ _ _ _ => N
    generalize hacc : ((σ.take i).flatMap fun e => efOf nots mo (rulesOf σ e.1) e.1) = acc at hS
    refine fo_litQ F N
      (fun m₀ j m nw => ∃ (u : Str → Option Value) (ys : List Value) (n : Nat), m = (fun z => if z = Str.ofString "kind" then u z else m₀ z) ∧ nw = [(_, _), (_, _), (_, lsn ys n), (_, _)] ∧ StrsAre ys (acc ++ twoOf r.2 kk (kinds2.take j)) ∧ ys.length ≤ 102002 * i + j)
      hh ⟨_, _, _, by funext z; exact (ite_self _).symm, rfl, by simpa [twoOf] using hS, hyl⟩ (fun j m' nw ⟨_, _, _, _, e, _⟩ => ⟨_, e⟩) ⟨_, _, rfl⟩ ?_ ?_
    · intro j v I2 oI2 m₁ nw h tk' hj hv hJ F' N' off2 Q9 hQ9
      refine Classical.byContradiction fun hG9 => ?_
      obtain ⟨u2, ys2, n2, rfl, rfl, hS2, hyl2⟩ := hJ
      replace hj : j < 2 := hj
      have offB := off2
      replace off2 := neA_of off2
      try dsimp only [Mine.adr] at off2
      have hSk : ∀ t u, StrsAre [Value.str (Str.ofString "ID") t, Value.str (Str.ofString "notation") u] kinds2 := fun _ _ => .cons _ _ (.cons _ _ .nil)
      obtain ⟨kd, tkd, rfl, hkd⟩ := StrsAre.item (hSk _ _) j v (by simpa using hv)
      have hkl : kd.length ≤ 1000 := kinds2_len kd (List.mem_of_getElem? hkd)
      refine hG9 ?_
      clear hG9 F N
      k_steps
      rename Fr _ _ _ _ => F
      rename News _ _ _ _ => N
      refine lcP_val (fun i zs => StrsAre zs ((r.2.take i).map fun e => e.2.kind)) (fun _ _ _ _ => finE_mono) hh F N (.inl hlo) (fewer (by simpa [hil] using o2)) .nil (pairs_of hPr) ?_ ?_
      · intro i3 v3 T3 a3 b3 I3 oI3 D3 oL3 C3 m3 h tk ys nw E' hi3 hv3 hvT3 hT3 hx1 hx2 hJ3 hsub F' N'
        refine Classical.byContradiction fun hG9 => ?_
        obtain ⟨r3, t3, rr3, hr3, rfl, rfl, hrow3⟩ := pairs_at hPr hv3 hvT3 hT3
        obtain ⟨ch3, vs3, tk3, tm3, vv3, g1, g2, g3, g4⟩ := hrow3
        refine hG9 ?_
        clear hG9 F N
        unfold VTurn
        refine wpAny_tests_nil ?_
        k_steps
        dsimp only
        rw [namesTake hr3, List.map_append]
        exact strs_snoc hJ3
      · intro zs hJ3 D3 h tk F' N' off
        replace hJ3 : StrsAre zs (r.2.map fun e => e.2.kind) := by
          rw [show its.toArray.size = r.2.length by simp [hil], List.take_length] at hJ3
          exact hJ3
        clear F N
        replace off := allNe_of off
        replace off := neA_of off
        try dsimp only [Mine.adr] at off
        dsimp only
        k_steps
        · rename Fr _ _ _ _ => F9
          rename News _ _ _ _ => N9
          rename (_ : Int) < _ => hq
          have hq' : (namesOf r.2 kd).length > 1 := by omega
          refine hQ9 _ _ ?_
          refine FEnd.introK _ F9 N9 (by k_extra "M memL") (by k_extra "M memall") ⟨_, _, _, upd_upd _ _ _ _, rfl, ?_, ?_⟩ (by exact offB)
          · rw [namesTake hkd, twoOf_snoc, if_pos hq', ← List.append_assoc]
            exact strs_snoc hS2
          · rw [List.length_append, List.length_singleton]; omega
        · rename Fr _ _ _ _ => F9
          rename News _ _ _ _ => N9
          rename ¬ ((_ : Int) < _) => hq
          have hq' : ¬ (namesOf r.2 kd).length > 1 := by omega
          refine hQ9 _ _ ?_
          refine FEnd.introK _ F9 N9 (by k_extra "M memL") (by k_extra "M memall") ⟨_, _, _, upd_upd _ _ _ _, rfl, ?_, ?_⟩ (by exact offB)
          · rw [namesTake hkd, twoOf_snoc, if_neg hq', List.append_nil]
            exact hS2
          · omega
    · intro h tk' m₁ nw F' N' hJ
      refine Classical.byContradiction fun hG9 => ?_
      obtain ⟨u2, ys2, n2, rfl, rfl, hS2, hyl2⟩ := hJ
      replace hS2 : StrsAre ys2 (acc ++ twoOf r.2 kk kinds2) := hS2
      replace hyl2 : ys2.length ≤ 102002 * i + 2 := hyl2
      refine hG9 ?_
      clear hG9 F N
      k_steps
      rename Fr _ _ _ _ => F
      rename News _ _ _ _ => N
      generalize hacc2 : acc ++ twoOf r.2 kk kinds2 = acc2 at hS2
      refine fo_introQ F N (.list hlo)
        (fun m₀ j m nw => ∃ (u : Str → Option Value) (ys : List Value) (n : Nat), m = (fun z => if z = Str.ofString "name" then u z else if z = Str.ofString "rule_row" then u z else m₀ z) ∧ nw = [(_, _), (_, _), (_, lsn ys n), (_, _)] ∧ StrsAre ys (acc2 ++ (r.2.take j).flatMap (ruleF nots mo kk)) ∧ ys.length ≤ 102002 * i + 2 + 102 * j)
        hh ⟨_, _, _, upd2x_at (fun _ _ _ => rfl), rfl, by simpa using hS2, hyl2⟩ (fun i m' nw hj p hp => nomatch hp) (.inr ⟨⟨_, _, _, rfl⟩, ⟨_, _, rfl, .inl hlo⟩, fun i v hv => by obtain ⟨T, _, _, e, _⟩ := pairs_of hPr i v hv; exact ⟨T, e⟩⟩) ?_ ?_
      · intro j v I2 oI2 m₁ nw h tk' hj hv hJ F' N' off2 Q9 hQ9
        refine Classical.byContradiction fun hG9 => ?_
        obtain ⟨u3, ys3, n3, rfl, rfl, hS3, hyl3⟩ := hJ
        have offC := off2
        replace off2 := neA_of off2
        try dsimp only [Mine.adr] at off2
        obtain ⟨T3, a3, b3, rfl, hT3⟩ := pairs_of hPr j v hv
        obtain ⟨r3, t3, rr3, hr3, rfl, rfl, hrow3⟩ := pairs_at hPr hv rfl hT3
        obtain ⟨ch3, vs3, tk3, tm3, vv3, g1, g2, g3, g4⟩ := hrow3
        obtain ⟨⟨o4, o5, o6⟩, o7⟩ := o3 r3 (List.mem_of_getElem? hr3)
        have hjl : j < 1000 := by have : j < its.toArray.size := hj; rw [List.size_toArray, hil] at this; omega
        have hil' : i < 10 := by omega
        refine hG9 ?_
        clear hG9 F N
        refine turn_cut F' N' (ys := ys3) (n := n3) (by k_extra "M memL") (by k_updF) (Str.ofString "rule_row") (Str.ofString "name") (.ref rr3) (.str r3.1 t3) (fun zs => StrsAre zs (acc2 ++ (r.2.take j).flatMap (ruleF nots mo kk) ++ idOf kk r3) ∧ zs.length ≤ ys3.length + 1) ?_ ?_
        · k_steps
          all_goals (
            rename Fr _ _ _ _ => F9
            rename News _ _ _ _ => N9
            refine CutP.mk F9 N9 (by k_extra "M memall") ⟨?_, ?_⟩
            · first
              | exact idN hS3 (rf_c0 (by with_reducible assumption))
              | exact idN hS3 (rf_c1 (by with_reducible assumption) (mode_f o7 (by with_reducible assumption)))
              | exact idY hS3 (rf_c2 (by with_reducible assumption) (mode_t o7 (by with_reducible assumption)))
            · (try simp only [List.length_append, List.length_singleton]); omega)
        · intro h tk' ys4 n4 F' N' hSz
          obtain ⟨hS4, hzl⟩ := hSz
          have hyl4 : ys4.length ≤ 102002 * i + 3 + 102 * j := by omega
          clear hyl3 hzl hS3
          try dsimp only at N'
          k_steps
          · rename Fr _ _ _ _ => F
            rename News _ _ _ _ => N
            refine lcN_val (fun i zs => StrsAre zs ((unknownOf nots (r3.2.choices.take i)).map nfText)) (fun _ _ _ _ => finE_mono) hh F N (.tup g2) (fewer (by simpa [StrsAre.length g3] using o5) (by decide)) .nil ?_ ?_
            · intro i4 v4 I4 oI4 D4 oL4 C4 m4 h tk ys nw E' hi4 hv4 hx4 hJ4 hsub F' N'
              refine Classical.byContradiction fun hG9 => ?_
              obtain ⟨c, tc, rfl, hc⟩ := StrsAre.item g3 i4 v4 (by simpa using hv4)
              have hcl := (o6 c (List.mem_of_getElem? hc)).2
              simp only [List.forall_mem_cons] at hsub
              repeat (obtain ⟨_, hsub⟩ := hsub)
              refine hG9 ?_
              clear hG9 F N
              unfold VTurn
              refine wpAny_tests_one ?_
              k_steps
              all_goals first
              | exact un_step hc hJ4 (by assumption)
              | exact un_skip hc hJ4 (by assumption)
            · intro zs hJ4 D4 h tk F' N' off4
              replace hJ4 : StrsAre zs ((unknownOf nots r3.2.choices).map nfText) := by
                rw [show vs3.toArray.size = r3.2.choices.length by simp [StrsAre.length g3], List.take_length] at hJ4
                exact hJ4
              have hzl : zs.length ≤ 100 := by
                rw [StrsAre.length hJ4, List.length_map]; exact Nat.le_trans (List.length_filter_le _ _) o5
              clear F N
              replace off4 := allNe_of off4
              replace off4 := neA_of off4
              try dsimp only [Mine.adr] at off4
              dsimp only
              rcases hM.2 kk with ⟨e2, e3⟩ | ⟨e, v, as, e2, e3, e4, e5⟩ <;> k_steps
              all_goals (
                rename Fr _ _ _ _ => F9
                rename News _ _ _ _ => N9
                refine hQ9 _ _ ?_
                refine FEnd.introK _ F9 N9 (by k_extra "M memL") (by k_extra "M memall") ⟨_, _, _, upd2x_at (fun z z1 z2 => by k_extra "M skip"), rfl, ?_, ?_⟩ (by exact offC)
                · have q1 : (r3.2.kind == Str.ofString "notation") = true := by with_reducible assumption
                  first
                  | (have q4 : PyData.eqv e (PyData.tuple [PyData.str (Str.ofString "empty")]) = true := by with_reducible assumption
                     rw [List.append_assoc]
                     exact rf1 hS4 hr3 q1 (nf_c e2 q4 hJ4))
                  | (have q4 : PyData.eqv e (PyData.tuple [PyData.str (Str.ofString "empty")]) = false := by with_reducible assumption
                     exact rf1 hS4 hr3 q1 (nf_b e2 q4 hJ4))
                  | exact rf1 hS4 hr3 q1 (nf_a e2 hJ4)
                · (try simp only [List.length_append, List.length_singleton]); omega)
          · rename Fr _ _ _ _ => F9
            rename News _ _ _ _ => N9
            refine hQ9 _ _ ?_
            refine FEnd.introK _ F9 N9 (by k_extra "M memL") (by k_extra "M memall") ⟨_, _, _, upd2x_at (fun z z1 z2 => by k_extra "M skip"), rfl, ?_, ?_⟩ (by exact offC)
            · exact rf0 hS4 hr3 (by with_reducible assumption)
            · omega
      · intro h tk' m₁ nw F' N' hJ
        refine Classical.byContradiction fun hG9 => ?_
        obtain ⟨u3, ys3, n3, rfl, rfl, hS3, hyl3⟩ := hJ
        refine hG9 ?_
        clear hG9 F N
        dsimp only
        k_steps
        rename Fr _ _ _ _ => F9
        rename News _ _ _ _ => N9
        refine hQ9 _ _ ?_
        refine FEnd.introK _ F9 N9 (by k_extra "M memL") (by k_extra "M memall") ⟨_, _, _, upd5_at (fun z z1 z2 z3 z4 z5 => by k_extra "M skip"), rfl, ?_, ?_⟩ (by exact offA)
        · rw [show its.toArray.size = r.2.length by simp [hil], List.take_length, ← hacc2] at hS3
          rw [namesTake hr, List.flatMap_append, List.flatMap_singleton, hacc, rulesOf_at hSO hPO hr, ← e1]
          simpa [efOf] using hS3
        · rw [show its.toArray.size = r.2.length by simp [hil]] at hyl3
          omega
  · intro h tk' m₁ nw F' N' hJ
    refine Classical.byContradiction fun hG9 => ?_
    obtain ⟨u, ys, n, rfl, rfl, hS, hyl⟩ := hJ
    refine hG9 ?_
    clear hG9 F N
    dsimp only
    k_steps
    rw [hlen, List.take_length] at hS
    exact k _ _ _ _ _ F'.keep (N' _ (.head _)).1 (N' _ (.head _)).2.2 hS (by omega)
end Mine
theorem Mine.offR9 : True := by
  w_top off
  trivial
set_option maxHeartbeats 800000
namespace Mine
theorem fill9 : PySem.Challenge.rw_on0181_01 = PySem.Challenge.rw_on0181_01 ∧ heapK = heapK := by
  k_fill
  exact ⟨rfl, rfl⟩
theorem c_rulesU {w : World} {A : Around} {s : Shared} {h₀ : Heap} {L : Addr} {m : Str → Option Value} {news : List (Addr × Obj)} {D E At Nt : Addr} {x : Str} {t : Tok} {Q Ex : Value → Shared → Prop} {p : Program} {loose : List Str} {mg mb : Str → Option Value}
    {σ : AllRules} (F : Fr h₀ L s.heap m) (N : News h₀ L s.heap news)
    (X : (heapK w.params).In h₀) (T : TopRead p loose mg mb h₀) (hroom : A.depth < recursionLimit)
    (hD : DtdAt h₀ D E At Nt) (hA : Attrs w h₀ At σ)
    (k : ∀ h' tk' d kvs, Fr h₀ L h' m → News h₀ L h' news → SD w h' d kvs → Paired (fun kv e => kv.1 = e.1 ∧ RuleRef h' kv.2 e.2) kvs (rulesOf σ x) → Q (.ref d) { s with heap := h', toks := tk' }) :
    wpAny (model PR w) A (call (.ref 131) [.ref D, .str x t]) Q Ex s := by
  refine c_rules F N X T hroom hD hA (fun h' tk' d F' N' hI => ?_) fun h' tk' d o F' N' hr hs lo ne => ?_
  · obtain ⟨kvs, S, P⟩ := hI.kp F'.keep
    exact k h' tk' d kvs F' N' S P
  · exact k h' tk' d [] F' (fun p hp => N' p (.tail _ hp)) ⟨lo, Heap.dictOf_iff.mpr ⟨o, (N' _ (.head _)).1, hs⟩⟩ (by rw [hr]; exact .nil)
theorem c_rowN {w : World} {A : Around} {s : Shared} {h₀ : Heap} {L : Addr} {m : Str → Option Value} {news : List (Addr × Obj)} {xr : Addr} {r : Rule} {Q Ex : Value → Shared → Prop} {p : Program} {loose : List Str} {mg mb : Str → Option Value}
    (F : Fr h₀ L s.heap m) (N : News h₀ L s.heap news) (X : (heapK w.params).In h₀) (T : TopRead p loose mg mb h₀) (hroom : A.depth + 10 < recursionLimit)
    (hx : RuleObj h₀ xr r)
    (k : ∀ h' tk' a o, Fr h₀ L h' m → News h₀ L h' ((a, o) :: news) → AllNe a news → RowO h₀ o r → Q (.ref a) { s with heap := h', toks := tk' }) :
    wpAny (model PR w) A (call (.ref 197) [.ref xr]) Q Ex s := by
  obtain ⟨dx, ch, vs, k1, k2, k3, k4, t1, t2, t3, t4, tk, tm, vv, n, h1, h2, h3, h4, h5⟩ := hx
  have hh : handedIn vv = true := by
    cases hv : r.value with
    | none => rw [hv] at h5; subst h5; rfl
    | some x => rw [hv] at h5; obtain ⟨t, rfl⟩ := h5; rfl
  replace h1 := F.keep _ _ h1
  replace h2 := F.keep _ _ h2
  replace X := X.keeps F.keep
  replace T := T.keeps F.keep
  replace k := fun h' tk' a o (hk : Kp s.heap h') (ha : h'.get? a = some o) (hn : s.heap.get? a = none) => k h' tk' a o (F.keeps hk) (news_new F N hk ha hn) (allNe_of (ne_new N hn))
  clear F N
  k_dflt (refine' enter [("self", .ref xr)] ?X ?T ?ho ?hcd ?hroom ?hbind ?hloc ?_ ?c1 ?c2 ?c3 ?c4; k_extra "M enter")
  k_steps
  rename Fr _ _ _ _ => F
  rename News _ _ _ _ => N
  exact k _ _ _ _ F.keep (N _ (.head _)).1 (N _ (.head _)).2.2 ⟨ch, vs, _, _, vv, _, rfl, rfl, h3, h4, h5⟩
/-- rules of an element that is there: the very dict -/
theorem c_rulesV {w : World} {A : Around} {s : Shared} {h₀ : Heap} {L : Addr} {m : Str → Option Value} {news : List (Addr × Obj)} {D E At Nt d : Addr} {x : Str} {t : Tok} {Q Ex : Value → Shared → Prop} {p : Program} {loose : List Str} {mg mb : Str → Option Value}
    {kvA : List (Str × Value)} (F : Fr h₀ L s.heap m) (N : News h₀ L s.heap news)
    (X : (heapK w.params).In h₀) (T : TopRead p loose mg mb h₀) (hroom : A.depth < recursionLimit)
    (hD : DtdAt h₀ D E At Nt) (hA : SD w h₀ At kvA) (hv : valueAt kvA x = some (.ref d))
    (k : ∀ h' tk', Fr h₀ L h' m → News h₀ L h' news → Q (.ref d) { s with heap := h', toks := tk' }) :
    wpAny (model PR w) A (call (.ref 131) [.ref D, .str x t]) Q Ex s := by
  obtain ⟨dD, q1, q2, q3, q4, t1, t2, t3, t4, t5, n, hD1, hD2⟩ := (hD.kp F.keep).it
  replace hA := hA.fr F
  replace X := X.keeps F.keep
  replace T := T.keeps F.keep
  replace k := fun h' tk' (hk : Kp s.heap h') => k h' tk' (F.keeps hk) (N.grown hk)
  clear F N
  k_dflt (refine' enter [("self", .ref D), ("element", .str x t)] ?X ?T ?ho ?hcd ?hroom ?hbind ?hloc ?_ ?c1 ?c2 ?c3 ?c4; k_extra "M enter")
  k_steps
  exact k _ _ (by rename Fr _ _ _ _ => F; exact F.keep)
end Mine
theorem Mine.wordsR91 : True := by
  k_with "!call ref" => (k_here; k_dflt ((refine' Mine.c_rulesV (by k_asm) (by k_asm) (by k_asm) (by k_asm) (by k_extra "M room") (by k_asm) (by with_reducible assumption) (by with_reducible assumption) ?_); (intro h' tk' F' N'; (try k_sweep))))
  trivial

namespace Mine
/-- the rule itself, told over the whole heap -/
theorem c_ruleW {w : World} {A : Around} {s : Shared} {D E At Nt d : Addr} {x y : Str} {t u : Tok} {v : Value} {kvA kvs : List (Str × Value)} {Q Ex : Value → Shared → Prop} {p : Program} {loose : List Str} {mg mb : Str → Option Value}
    (X : (heapK w.params).In s.heap) (T : TopRead p loose mg mb s.heap) (hroom : A.depth + 10 < recursionLimit)
    (hD : DtdAt s.heap D E At Nt) (S0 : SD w s.heap At kvA) (hv0 : valueAt kvA x = some (.ref d)) (S1 : SD w s.heap d kvs) (hv1 : valueAt kvs y = some v)
    (k : ∀ h' tk', Kp s.heap h' → Q v { s with heap := h', toks := tk' }) :
    wpAny (model PR w) A (call (.ref 138) [.ref D, .str x t, .str y u]) Q Ex s := by
  obtain ⟨dD, q1, q2, q3, q4, t1, t2, t3, t4, t5, n, hD1, hD2⟩ := hD.it
  k_dflt (refine' enter [("self", .ref D), ("element", .str x t), ("name", .str y u)] ?X ?T ?ho ?hcd ?hroom ?hbind ?hloc ?_ ?c1 ?c2 ?c3 ?c4; k_extra "M enter")
  k_steps
  exact k _ _ (by rename Fr _ _ _ _ => F; exact F.keep)
theorem c_ruleS {w : World} {A : Around} {s : Shared} {h₀ : Heap} {L : Addr} {m : Str → Option Value} {news : List (Addr × Obj)} {D E At Nt : Addr} {x y : Str} {t u : Tok} {Q Ex : Value → Shared → Prop} {p : Program} {loose : List Str} {mg mb : Str → Option Value}
    {σ : AllRules} {r : Rule} (F : Fr h₀ L s.heap m) (N : News h₀ L s.heap news)
    (X : (heapK w.params).In h₀) (T : TopRead p loose mg mb h₀) (hroom : A.depth + 10 < recursionLimit)
    (hD : DtdAt h₀ D E At Nt) (hA : Attrs w h₀ At σ) (hl : look (rulesOf σ x) y = some r)
    (k : ∀ h' tk' xr, Fr h₀ L h' m → News h₀ L h' news → RuleObj h₀ xr r → Q (.ref xr) { s with heap := h', toks := tk' }) :
    wpAny (model PR w) A (call (.ref 138) [.ref D, .str x t, .str y u]) Q Ex s := by
  obtain ⟨kvA, S0, P0⟩ := hA
  rcases look_paired P0 x with ⟨e1, e2⟩ | ⟨rs, v, e1, hv0, d, rfl, kv1, S1, P1⟩
  · exfalso; unfold rulesOf at hl; rw [e1] at hl; cases hl
  have er : rulesOf σ x = rs := by unfold rulesOf; rw [e1]; rfl
  rw [er] at hl
  rcases look_paired P1 y with ⟨e3, e4⟩ | ⟨r', v, e3, hv1, xr, rfl, hr⟩
  · rw [e3] at hl; cases hl
  obtain rfl : r' = r := by rw [e3] at hl; exact Option.some.inj hl
  replace S0 := S0.fr F
  replace S1 := S1.fr F
  replace hD := hD.kp F.keep
  replace X := X.keeps F.keep
  replace T := T.keeps F.keep
  replace k := fun h' tk' (hk : Kp s.heap h') => k h' tk' xr (F.keeps hk) (N.grown hk) hr
  exact c_ruleW X T hroom hD S0 hv0 S1 hv1 k
theorem c_ruleN {w : World} {A : Around} {s : Shared} {h₀ : Heap} {L : Addr} {m : Str → Option Value} {news : List (Addr × Obj)} {D E At Nt : Addr} {x y : Str} {t u : Tok} {Q Ex : Value → Shared → Prop} {p : Program} {loose : List Str} {mg mb : Str → Option Value}
    {σ : AllRules} (F : Fr h₀ L s.heap m) (N : News h₀ L s.heap news)
    (X : (heapK w.params).In h₀) (T : TopRead p loose mg mb h₀) (hroom : A.depth + 10 < recursionLimit)
    (hD : DtdAt h₀ D E At Nt) (hA : Attrs w h₀ At σ) (hl : look (rulesOf σ x) y = none)
    (k : ∀ h' tk', Fr h₀ L h' m → News h₀ L h' news → Q .none { s with heap := h', toks := tk' }) :
    wpAny (model PR w) A (call (.ref 138) [.ref D, .str x t, .str y u]) Q Ex s := by
  refine c_rule F N X T hroom hD hA fun h' tk' v F' N' hv => ?_
  rcases hv with ⟨_, rfl⟩ | ⟨r, e, _⟩
  · exact k h' tk' F' N'
  · rw [hl] at e; cases e
/-- own = rows['rules'].get(element, []) -/
theorem own_get {w : World} {A : Around} {s : Shared} {h₀ : Heap} {L Rr l' : Addr} {m : Str → Option Value} {σ : AllRules} {x : Str} {t : Tok} {Q Ex : Value → Shared → Prop}
    (F : Fr h₀ L s.heap m) (hO : Owns w h₀ Rr σ) (h : ∀ ao its, SrcAt h₀ ao (List.toArray its) [(l', lsn [] 0)] → Paired (PairOf h₀) its (rulesOf σ x) → Q (.ref ao) { s with toks := s.toks + 1 }) :
    wpAny (model PR w) A (call (.builtin "dict.get") [.ref Rr, .str x t, .ref l']) Q Ex s := by
  obtain ⟨kvs, S, P⟩ := hO
  rcases look_paired P x with ⟨e1, e2⟩ | ⟨rs, v, e1, e2, l, rfl, its, hl, hP⟩
  · exact sd_get2n (S.fr F) e2 (h l' [] (.inr ⟨_, .head _, rfl, _, rfl⟩) (by unfold rulesOf; rw [e1]; exact .nil))
  · exact sd_get2v (S.fr F) e2 (h l its (.inl hl) (by unfold rulesOf; rw [e1]; exact hP))
theorem src_in {h₀ : Heap} {ax : Addr} {its : Array Value} {p : Addr × Obj} {news : List (Addr × Obj)} (x : SrcAt h₀ ax its [p]) (hm : p ∈ news) : SrcAt h₀ ax its news := by
  rcases x with x | ⟨o, q, r⟩
  · exact .inl x
  · exact .inr ⟨o, by rw [List.mem_singleton.mp q]; exact hm, r⟩
end Mine
theorem Mine.offR10 : True := by
  w_top off
  trivial
set_option maxHeartbeats 40000000
theorem Mine.wordsR101 : True := by
  k_with "!call ref" => (k_here; k_dflt ((refine' Mine.c_rulesU (by k_asm) (by k_asm) (by k_asm) (by k_asm) (by k_extra "M room") (by k_asm) (by k_asm) ?_); (intro h' tk' d' kvs' F' N' hS' hP'; (try k_sweep))))
  k_with "!call ref" => (k_here; k_dflt ((refine' Mine.c_ruleS (by k_asm) (by k_asm) (by k_asm) (by k_asm) (by k_extra "M room") (by k_asm) (by k_asm) (by with_reducible assumption) ?_); (intro h' tk' xr' F' N' hR'; obtain ⟨dx', ch', vs', p1', p2', p3', p4', u1', u2', u3', u4', uk', um', vv', n2', g1', g2', g3', g4', g5'⟩ := id hR'; (try k_sweep))))
  k_with "!call ref" => (k_here; k_dflt ((refine' Mine.c_ruleN (by k_asm) (by k_asm) (by k_asm) (by k_asm) (by k_extra "M room") (by k_asm) (by k_asm) (by with_reducible assumption) ?_); (intro h' tk' F' N'; (try k_sweep))))
  k_with "!call ref" => (k_here; k_dflt ((refine' Mine.c_rowN (by k_asm) (by k_asm) (by k_asm) (by k_asm) (by k_extra "M room") (by k_asm) ?_); (intro h' tk' a' o' F' N' ne' hO'; (replace ne' := Mine.neA_of ne'); (try dsimp only [Mine.adr] at ne'); (try k_sweep))))
  k_with "!call ref" => (k_here; k_dflt ((refine' Mine.c_id (by k_asm) (by k_asm) (by k_asm) (by k_asm) (by k_extra "M room") (by k_extra "M units") (by k_extra "M handled") (by k_asm) (by k_asm) (by with_reducible assumption) (by with_reducible assumption) ?_); (intro h' tk' v' F' N' hv'; (try k_sweep))))
  k_with "!call type:list" => (k_here; (with_reducible show wpAny _ _ (call (Value.type "list") [Value.ref _]) _ _ _); k_dflt ((refine' Mine.list_sd (by k_extra "M handled") (by k_asm) (by k_asm) (by with_reducible assumption) (by with_reducible assumption) (by with_reducible assumption) ?_); (intro D' c' h' tk' vs' F' N' ne' hS'; (replace ne' := Mine.neA_of ne'); (try dsimp only [Mine.adr] at ne'); (try k_sweep))))
  k_with "!call builtin:dict.get" => (k_here; (with_reducible show wpAny _ _ (call (Value.builtin _) [Value.ref _, Value.str _ _, Value.ref _]) _ _ _); k_dflt (refine Mine.own_get (by k_asm) (by with_reducible assumption) ?_); intro ao' its' hsrc' hPr')
  k_with "!compareOp NotEq ref ref" => (k_here; k_dflt (refine Mine.ne_same (Mine.reads_strs (by k_asm) (by k_extra "M mem") (by with_reducible assumption)) (Mine.reads_strs (by k_asm) (by k_extra "M mem") (by with_reducible assumption)) (Mine.shaped_strs (by k_extra "M ok")) (by k_extra "M units") ?_))
  k_with "!subscriptTail Name Constant ref int" => (k_here; (with_reducible show wpAny _ _ (subscriptTail _ _ (Value.ref _) (Value.int 0 _)) _ _ _); k_dflt (refine Mine.item_any0 (by k_asm) (by k_extra "M mem") (by with_reducible assumption) ?_))
  k_with "!subscriptTail" => (k_here; (with_reducible show wpAny _ _ (subscriptTail _ _ (Value.ref _) (Value.int 0 _)) _ _ _); k_dflt (refine Mine.item_any0 (by k_asm) (by k_extra "M mem") (by with_reducible assumption) ?_))
  k_with "!call builtin:len" => (k_here; (with_reducible show wpAny _ _ (call (Value.builtin "len") [Value.ref _]) _ _ _); k_dflt (refine Mine.len_LE (by k_asm) (by k_extra "M mem") (by with_reducible assumption) (by with_reducible assumption) ?_))
  k_with "!call builtin:len" => (k_here; (with_reducible show wpAny _ _ (call (Value.builtin "len") [Value.ref _]) _ _ _); k_dflt (refine Mine.len_SE (by k_asm) (by with_reducible assumption) (by with_reducible assumption) (by with_reducible assumption) ?_))
  k_with "!compareOp Eq ref ref" => (k_here; k_dflt (refine Mine.eq_same (Mine.reads_strs (by k_asm) (by k_extra "M mem") (by with_reducible assumption)) (Mine.reads_strs (by k_asm) (by k_extra "M mem") (by with_reducible assumption)) (Mine.shaped_strs (by k_extra "M ok")) (by k_extra "M units") ?_))
  k_with "!call ref" => (k_here; k_dflt ((refine' Mine.c_faults (by k_asm) (by k_asm) (by k_asm) (by k_asm) (by k_extra "M room") (by k_extra "M units") (by k_extra "M handled") (by k_asm) (by k_asm) (by k_asm) (by k_asm) (by with_reducible assumption) (by with_reducible assumption) (by with_reducible assumption) ?_); (intro h' tk' a' ys' n' F' N' ne' hS' hl'; (replace ne' := Mine.allNe_of ne'); (replace ne' := Mine.neA_of ne'); (try dsimp only [Mine.adr] at ne'); try k_sweep)))
  k_with "!call ref" => (k_here; k_dflt ((refine' Mine.c_texts (by k_asm) (by k_asm) (by k_asm) (by k_asm) (by k_extra "M room") (by k_extra "M units") (by k_extra "M handled") (by with_reducible assumption) (by k_asm) (by k_asm) (by k_asm) (by with_reducible assumption) (by with_reducible assumption) ?_); (intro h' tk' a' ys' n' F' N' ne' hS' hl'; (replace ne' := Mine.allNe_of ne'); (replace ne' := Mine.neA_of ne'); (try dsimp only [Mine.adr] at ne'); try k_sweep)))
  trivial

namespace Mine
theorem fill10 : PySem.Challenge.rw_on0181_01 = PySem.Challenge.rw_on0181_01 ∧ heapK = heapK := by
  k_fill
  exact ⟨rfl, rfl⟩
def four : List Str := [Str.ofString "a", Str.ofString "b", Str.ofString "c", Str.ofString "d"]
theorem four_ok : ∀ x ∈ four, x.length ≤ 1000 := by decide +kernel
def three : List Str := [Str.ofString "ID", Str.ofString "notation", Str.ofString "CDATA"]
theorem attrs_look {w : World} {h : Heap} {At : Addr} {σ : AllRules} (hA : Attrs w h At σ) {x : Str} {i : Nat} {e : Str × Rule} (he : (rulesOf σ x)[i]? = some e) : look (rulesOf σ x) e.1 = some e.2 := by
  obtain ⟨kvA, S0, P0⟩ := hA
  rcases look_paired P0 x with ⟨e1, e2⟩ | ⟨rs, v, e1, hv0, d, rfl, kv1, S1, P1⟩
  · unfold rulesOf at he; rw [e1] at he; simp at he
  · have er : rulesOf σ x = rs := by unfold rulesOf; rw [e1]; rfl
    rw [er] at he ⊢
    exact look_at S1 P1 he
theorem c_toldS {w : World} {A : Around} {s : Shared} {D E At Nt R M Rr Nl : Addr} {Q Ex : Value → Shared → Prop} {p : Program} {loose : List Str} {mg mb : Str → Option Value}
    {nots : List Str} {mo : Str → Option PyData} {σ : AllRules} {kvE kvM : List (Str × Value)}
    (X : (heapK w.params).In s.heap) (T : TopRead p loose mg mb s.heap) (hroom : A.depth + 60 < recursionLimit) (hun : A.units + 400 < cLine) (hh : A.handled = none)
    (hD : DtdAt s.heap D E At Nt) (hN : NotsAt w s.heap Nt nots) (hE : ModsAt w s.heap E kvE mo) (hA : Attrs w s.heap At σ)
    (hR : RowsAt w s.heap R M Rr Nl) (hM : ModsAt w s.heap M kvM mo) (hO : Owns w s.heap Rr σ) (hNl : NotsL s.heap Nl nots)
    (hsz : σ.length ≤ 10) (hx : ∀ e ∈ σ, e.1.length ≤ 1000 ∧ e.2.length ≤ 1000 ∧ ∀ r ∈ e.2, RuleOk r ∧ r.2.mode ∈ modes4) (hg : ∀ e ∈ σ, ∀ r ∈ e.2, PyData.strOk r.1 = true ∧ RuleGood r.2) (hz : ∀ x, look (rulesOf σ x) (Str.ofString "z") = none)
    (hke : ∀ e ∈ σ, PyData.strOk e.1 = true) (hn1 : nots.length ≤ 1000) (hn2 : ∀ x ∈ nots, PyData.strOk x = true)
    (k : ∀ h' tk', Kp s.heap h' → Q (.bool true) { s with heap := h', toks := tk' }) :
    wpAny (model PR w) A (call (.ref 259) [.ref D, .ref R]) Q Ex s := by
  obtain ⟨dD, q1, q2, q3, q4, t1, t2, t3, t4, t5, n, hD1, hD2⟩ := hD.it
  have hSM := hM.1
  have hSE := hE.1
  obtain ⟨nl, hNl1, hNl2⟩ := id hNl
  obtain ⟨kvN, hSN, hPN⟩ := id hN
  have hlN : kvN.length = nots.length := Paired.length hPN
  have hfo : ∀ x ∈ faultsOf nots mo σ, PyData.strOk x = true := faults_ok hke fun e he r hr => ⟨(hg e he r hr).1, ((hx e he).2.2 r hr).1⟩
  have hro : ∀ x, x.length ≤ 1000 → (rulesOf σ x).length ≤ 1000 ∧ ∀ e ∈ rulesOf σ x, RuleOk e := fun x _ => ⟨rulesOf_len (fun e he => (hx e he).2.1) x, rulesOf_all (fun e he r hr => ((hx e he).2.2 r hr).1) x⟩
  have hxl : ∀ e ∈ σ, e.1.length ≤ 1000 := fun e he => (hx e he).1
  obtain ⟨kvO, hSO, hPO⟩ := id hO
  have vm := rows_m (M := M) (Rr := Rr) (Nl := Nl)
  have vr := rows_r (M := M) (Rr := Rr) (Nl := Nl)
  have vn := rows_n (M := M) (Rr := Rr) (Nl := Nl)
  have hRR := hR
  unfold RowsAt at hR
  k_dflt (refine' enterC [("dtd", .ref D), ("rows", .ref R)] ?X ?T ?ho ?hcd ?hroom ?hbind ?hkind ?hnd ?_ ?c2 ?c3 ?c4; k_extra "M enterC")
  k_steps
  rename Fr _ _ _ _ => F
  rename News _ _ _ _ => N
  refine fo_litQ F N
    (fun m₀ i m nw => ∃ (u : Str → Option Value) (ok oe : Obj), m = (fun z => if z = Str.ofString "own" then u z else if z = Str.ofString "ids_told" then u z else m₀ z) ∧ nw = [(_, _), (_, ok), (_, oe), (_, _)] ∧ (∃ v, ok.data = .cell v) ∧ ∃ v, oe.data = .cell v)
    hh ⟨_, _, _, upd2x_at (fun _ _ _ => rfl), rfl, ⟨_, by assumption⟩, ⟨_, by assumption⟩⟩ (fun j m' nw ⟨_, _, _, _, e, _⟩ => ⟨_, e⟩) ⟨_, _, rfl⟩ ?_ ?_
  · intro i v I oI m₁ nw h tk' hi hv hJ F' N' off Q9 hQ9
    refine Classical.byContradiction fun hG9 => ?_
    obtain ⟨u, ok, oe, rfl, rfl, ⟨vk, hok⟩, ⟨ve, hoe⟩⟩ := hJ
    replace hi : i < 4 := hi
    have offA := off
    replace off := neA_of off
    try dsimp only [Mine.adr] at off
    have hS4 : ∀ a b c d, StrsAre [Value.str (Str.ofString "a") a, Value.str (Str.ofString "b") b, Value.str (Str.ofString "c") c, Value.str (Str.ofString "d") d] four := fun _ _ _ _ => .cons _ _ (.cons _ _ (.cons _ _ (.cons _ _ .nil)))
    obtain ⟨kk, tt, rfl, hk⟩ := StrsAre.item (hS4 _ _ _ _) i v (by simpa using hv)
    have o1 : kk.length ≤ 1000 := four_ok kk (List.mem_of_getElem? hk)
    have o2 : (rulesOf σ kk).length ≤ 1000 := rulesOf_len (fun e he => (hx e he).2.1) kk
    have o3 := rulesOf_all (fun e he => (hx e he).2.2) kk
    have o4 := rulesOf_all hg kk
    have o5 := hz kk
    have o7 : ∀ kd, ∀ x ∈ namesOf (rulesOf σ kk) kd, PyData.strOk x = true := fun kd x hx => by unfold namesOf at hx; obtain ⟨r, hr, rfl⟩ := List.mem_map.mp hx; exact (o4 r (List.mem_filter.mp hr).1).1
    refine hG9 ?_
    clear hG9 F N
    k_steps
    refine ne_mods (by k_asm) hE hM (by k_extra "M units") ?_
    k_steps
    rename Fr _ _ _ _ => F
    rename News _ _ _ _ => N
    rename SrcAt _ _ _ _ => hsrc
    rename Paired (PairOf _) _ _ => hPr
    have hil := Paired.length hPr
    have o6 : ∀ x ∈ (rulesOf σ kk).map (·.1), PyData.strOk x = true := fun x hx => by obtain ⟨r, hr, rfl⟩ := List.mem_map.mp hx; exact (o4 r hr).1
    refine lcP_val (fun i zs => StrsAre zs (((rulesOf σ kk).take i).map (·.1))) (fun _ _ _ _ => finE_mono) hh F N (src_in hsrc (by k_extra "M mem")) (fewer (by simpa [hil] using o2)) .nil (pairs_of hPr) ?_ ?_
    · intro i3 v3 T3 a3 b3 I3 oI3 D3 oL3 C3 m3 h tk ys nw E' hi3 hv3 hvT3 hT3 hx1 hx2 hJ3 hsub F' N'
      refine Classical.byContradiction fun hG9 => ?_
      obtain ⟨r3, t3, rr3, hr3, rfl, rfl, hrow3⟩ := pairs_at hPr hv3 hvT3 hT3
      refine hG9 ?_
      clear hG9 F N
      unfold VTurn
      refine wpAny_tests_nil ?_
      k_steps
      dsimp only
      rw [namesTake hr3, List.map_append]
      exact strs_snoc hJ3
    · intro zs hJ3 D3 h tk F' N' off
      replace hJ3 : StrsAre zs ((rulesOf σ kk).map (·.1)) := by
        rw [show (List.toArray _).size = (rulesOf σ kk).length by rw [List.size_toArray]; exact hil, List.take_length] at hJ3
        exact hJ3
      clear F N
      replace off := allNe_of off
      replace off := neA_of off
      try dsimp only [Mine.adr] at off
      dsimp only
      k_steps
      rename Fr _ _ _ _ => F
      rename News _ _ _ _ => N
      refine lcP_obj (rulesOf σ kk) (fun o e => RowO s.heap o e.2) hh F N (src_in hsrc (by k_extra "M mem")) (fewer (by rw [List.size_toArray, hil]; exact o2)) (by rw [List.size_toArray]; exact hil) (pairs_of hPr) ?_ ?_
      · intro i3 v3 T3 a3 b3 e3 I3 oI3 D3 oL3 C3 m3 h tk ys nw E' hv3 he3 hvT3 hT3 hx1 hx2 hsub F' N'
        refine Classical.byContradiction fun hG9 => ?_
        obtain ⟨r3, t3, rr3, hr3, rfl, rfl, hrow3⟩ := pairs_at hPr hv3 hvT3 hT3
        rw [he3] at hr3
        obtain rfl : e3 = r3 := Option.some.inj hr3
        have hlk := attrs_look hA he3
        simp only [List.forall_mem_cons] at hsub
        repeat (obtain ⟨_, hsub⟩ := hsub)
        refine hG9 ?_
        clear hG9 F N
        unfold OTurn
        k_steps
        all_goals (
          rename (_ ≠ _ ∧ _) => ne9
          obtain ⟨n1, n2, n3, _⟩ := ne9
          first | exact n1.symm | exact n2.symm | exact n3.symm | with_reducible assumption)
      · intro ys2 nw2 hsub hOb D4 h tk F' N' off2
        clear F N
        have hsub0 := hsub
        simp only [List.forall_mem_cons] at hsub
        repeat (obtain ⟨_, hsub⟩ := hsub)
        dsimp only
        k_steps
        rename Fr _ _ _ _ => F
        rename News _ _ _ _ => N
        refine lcP_val (fun i zs => Paired (fun v e => ∃ a, v = .ref a ∧ RowAt s.heap a e.2) zs ((rulesOf σ kk).take i)) (fun _ _ _ _ => finE_mono) hh F N (src_in hsrc (by k_extra "M mem")) (fewer (by rw [List.size_toArray, hil]; exact o2)) .nil (pairs_of hPr) ?_ ?_
        · intro i3 v3 T3 a3 b3 I3 oI3 D3 oL3 C3 m3 h tk ys nw E' hi3 hv3 hvT3 hT3 hx1 hx2 hJ3 hsub F' N'
          refine Classical.byContradiction fun hG9 => ?_
          obtain ⟨r3, t3, rr3, hr3, rfl, rfl, hrow3⟩ := pairs_at hPr hv3 hvT3 hT3
          refine hG9 ?_
          clear hG9 F N
          unfold VTurn
          refine wpAny_tests_nil ?_
          k_steps
          dsimp only
          rw [namesTake hr3]
          exact paired_append hJ3 (.cons ⟨_, rfl, hrow3⟩ .nil)
        · intro zs2 hJ4 D5 h tk F' N' off3
          rw [show (List.toArray _).size = (rulesOf σ kk).length by rw [List.size_toArray]; exact hil, List.take_length] at hJ4
          clear F N
          dsimp only
          have r1 := list_reads N' (.tail _ (.head _)) (objs_reads (dt := fun e => e.2.data) (fun p hp => N' p (.tail _ (.tail _ hp))) (fun a o e q1 q2 => RowO.reads q2 F'.keep q1) hOb)
          have r2 := list_reads N' (.head _) (reads_rows (Paired.mono (fun v e ⟨a, x, y⟩ => by obtain ⟨o, y1, y2⟩ := (y.kp F'.keep).o; exact ⟨a, x, RowO.reads y2 (Kp.refl _) y1⟩) hJ4))
          have N2 : News _ _ _ _ := fun p hp => N' p (.tail _ (.tail _ (hsub0 p hp)))
          have hsh : SeqAt.shaped (.list ((rulesOf σ kk).map fun e => e.2.data)) = true := (good_list (k := 2) fun d hd => by obtain ⟨e, he, rfl⟩ := List.mem_map.mp hd; exact (o4 e he).2.data).shaped (by decide)
          refine ne_same r1 r2 hsh (by k_extra "M units") ?_
          clear N' r1 r2 hOb off3 off2
          k_steps
          rename Fr _ _ _ _ => F
          rename News _ _ _ _ => N
          refine fo_litQ F N
            (fun m₀ j m nw => ∃ (ok : Obj), m = m₀ ∧ nw = [(_, _), (_, _), (_, _), (_, _), (_, _), (_, _), (_, ok), (_, _), (_, _)] ∧ ∃ v, ok.data = .cell v)
            hh ⟨_, rfl, rfl, ⟨_, hok⟩⟩ (fun j m' nw ⟨_, _, e, _⟩ => ⟨_, e⟩) ⟨_, _, rfl⟩ ?_ ?_
          · intro j v I2 oI2 m₁ nw h tk' hj hv hJ F' N' off4 Q9 hQ9
            refine Classical.byContradiction fun hG9 => ?_
            obtain ⟨ok2, rfl, rfl, ⟨vk2, hok2⟩⟩ := hJ
            replace hj : j < 3 := hj
            have offB := off4
            replace off4 := neA_of off4
            try dsimp only [Mine.adr] at off4
            have hS3 : ∀ a b c, StrsAre [Value.str (Str.ofString "ID") a, Value.str (Str.ofString "notation") b, Value.str (Str.ofString "CDATA") c] three := fun _ _ _ => .cons _ _ (.cons _ _ (.cons _ _ .nil))
            obtain ⟨kd, tkd, rfl, hkd⟩ := StrsAre.item (hS3 _ _ _) j v (by simpa using hv)
            have o8 := o7 kd
            refine hG9 ?_
            clear hG9 F N
            k_steps
            rename Fr _ _ _ _ => F
            rename News _ _ _ _ => N
            refine lcP_val (fun i zs => StrsAre zs (namesOf ((rulesOf σ kk).take i) kd)) (fun _ _ _ _ => finE_mono) hh F N (src_in hsrc (by k_extra "M mem")) (fewer (by rw [List.size_toArray, hil]; exact o2)) .nil (pairs_of hPr) ?_ ?_
            · intro i3 v3 T3 a3 b3 I3 oI3 D3 oL3 C3 m3 h tk ys nw E' hi3 hv3 hvT3 hT3 hx1 hx2 hJ3 hsub F' N'
              refine Classical.byContradiction fun hG9 => ?_
              obtain ⟨r3, t3, rr3, hr3, rfl, rfl, hrow3⟩ := pairs_at hPr hv3 hvT3 hT3
              obtain ⟨ch3, vs3, tk3, tm3, vv3, g1, g2, g3, g4⟩ := hrow3
              simp only [List.forall_mem_cons] at hsub
              repeat (obtain ⟨_, hsub⟩ := hsub)
              refine hG9 ?_
              clear hG9 F N
              unfold VTurn
              refine wpAny_tests_one ?_
              k_steps
              · rename (_ == _) = true => hq
                dsimp only
                rw [namesTake hr3, namesOf_snoc, hq]
                exact strs_snoc hJ3
              · rename (_ == _) = false => hq
                dsimp only
                rw [namesTake hr3, namesOf_snoc, hq]
                simpa using hJ3
            · intro zs5 hJ5 D5 h tk F' N' off5
              replace hJ5 : StrsAre zs5 (namesOf (rulesOf σ kk) kd) := by
                rw [show (List.toArray _).size = (rulesOf σ kk).length by rw [List.size_toArray]; exact hil, List.take_length] at hJ5
                exact hJ5
              clear F N
              replace off5 := allNe_of off5
              replace off5 := neA_of off5
              try dsimp only [Mine.adr] at off5
              dsimp only
              k_steps
              rename Fr _ _ _ _ => F9
              rename News _ _ _ _ => N9
              refine hQ9 _ _ ?_
              refine FEnd.introK _ F9 N9 (by k_extra "M memL") (by k_extra "M memall") ⟨_, rfl, rfl, ⟨_, by assumption⟩⟩ (by exact offB)
          · intro h tk' m₁ nw F' N' hJ
            refine Classical.byContradiction fun hG9 => ?_
            obtain ⟨ok2, rfl, rfl, ⟨vk2, hok2⟩⟩ := hJ
            refine hG9 ?_
            clear hG9 F N
            dsimp only
            k_steps
            rename Fr _ _ _ _ => F
            rename News _ _ _ _ => N
            refine lcP_val (fun i zs => StrsAre zs (namesOf ((rulesOf σ kk).take i) (Str.ofString "ID"))) (fun _ _ _ _ => finE_mono) hh F N (src_in hsrc (by k_extra "M mem")) (fewer (by rw [List.size_toArray, hil]; exact o2)) .nil (pairs_of hPr) ?_ ?_
            · intro i3 v3 T3 a3 b3 I3 oI3 D3 oL3 C3 m3 h tk ys nw E' hi3 hv3 hvT3 hT3 hx1 hx2 hJ3 hsub F' N'
              refine Classical.byContradiction fun hG9 => ?_
              obtain ⟨r3, t3, rr3, hr3, rfl, rfl, hrow3⟩ := pairs_at hPr hv3 hvT3 hT3
              obtain ⟨ch3, vs3, tk3, tm3, vv3, g1, g2, g3, g4⟩ := hrow3
              refine hG9 ?_
              clear hG9 F N
              unfold VTurn
              refine wpAny_tests_one ?_
              k_steps
              · rename (_ == _) = true => hq
                dsimp only
                rw [namesTake hr3, namesOf_snoc, hq]
                exact strs_snoc hJ3
              · rename (_ == _) = false => hq
                dsimp only
                rw [namesTake hr3, namesOf_snoc, hq]
                simpa using hJ3
            · intro zs6 hJ6 D6 h tk F' N' off6
              refine Classical.byContradiction fun hG9 => ?_
              replace hJ6 : StrsAre zs6 (namesOf (rulesOf σ kk) (Str.ofString "ID")) := by
                rw [show (List.toArray _).size = (rulesOf σ kk).length by rw [List.size_toArray]; exact hil, List.take_length] at hJ6
                exact hJ6
              have hl6 : zs6.length ≤ 1000 := by rw [StrsAre.length hJ6]; exact Nat.le_trans (namesOf_len _ _) o2
              have o9 := o7 (Str.ofString "ID")
              obtain ⟨v0, hz0, hv0⟩ := head_of hJ6
              refine hG9 ?_
              clear hG9 F N
              replace off6 := allNe_of off6
              replace off6 := neA_of off6
              try dsimp only [Mine.adr] at off6
              dsimp only
              k_steps
              rename (_ ∨ _) => hv9
              refine ne_heads (names := namesOf (rulesOf σ kk) (Str.ofString "ID")) hv9 hv0 o9 (by k_extra "M units") ?_
              k_steps
              rename Fr _ _ _ _ => F9
              rename News _ _ _ _ => N9
              refine hQ9 _ _ ?_
              refine FEnd.introK _ F9 N9 (by k_extra "M memL") (by k_extra "M memall") ⟨_, _, _, upd2x_at (fun z z1 z2 => by k_extra "M skip"), rfl, ⟨_, hok2⟩, ⟨_, by assumption⟩⟩ (by exact offA)
  · intro h tk' m₁ nw F' N' hJ
    refine Classical.byContradiction fun hG9 => ?_
    obtain ⟨u, ok, oe, rfl, rfl, ⟨vk, hok⟩, ⟨ve, hoe⟩⟩ := hJ
    refine hG9 ?_
    clear hG9 F N
    dsimp only
    k_steps
    rename Fr _ _ _ _ => F
    rename News _ _ _ _ => N
    refine lcN_obj nots (fun o x => RowN o x) hh F N (.list (.inl hNl1)) (fewer (by simpa [StrsAre.length hNl2] using hn1)) (by simp [StrsAre.length hNl2]) ?_ ?_
    · intro i3 v3 e3 I3 oI3 D3 oL3 C3 m3 h tk ys nw E' hv3 he3 hx1 hsub F' N'
      refine Classical.byContradiction fun hG9 => ?_
      obtain ⟨v4, hval, hob⟩ := nots_at hSN hPN he3
      obtain ⟨x4, t4, rfl, hx4⟩ := StrsAre.item hNl2 i3 v3 (by simpa using hv3)
      rw [he3] at hx4
      obtain rfl : e3 = x4 := Option.some.inj hx4
      obtain ⟨a4, dx4, y1, y2, y3, w1, w2, w3, z1, z2, z3, n4, rfl, g1, g2⟩ := hob
      simp only [List.forall_mem_cons] at hsub
      repeat (obtain ⟨_, hsub⟩ := hsub)
      refine hG9 ?_
      clear hG9 F N
      unfold OTurn
      k_steps
      all_goals (
        first
        | (rename (_ < _ ∧ _) => ne9
           obtain ⟨n1, n2, n3, _⟩ := ne9
           first | exact Nat.ne_of_gt n1 | exact Nat.ne_of_gt n2 | exact Nat.ne_of_gt n3)
        | exact ⟨_, _, _, _, rfl, rfl⟩)
    · intro ys2 nw2 hsub hOb D4 h tk F' N' off2
      clear F N
      have hsub0 := hsub
      simp only [List.forall_mem_cons] at hsub
      repeat (obtain ⟨_, hsub⟩ := hsub)
      dsimp only
      k_steps
      rename Fr _ _ _ _ => F
      rename News _ _ _ _ => N
      refine lcN_obj nots (fun o x => RowN o x) hh F N (.list (.inl hNl1)) (fewer (by simpa [StrsAre.length hNl2] using hn1)) (by simp [StrsAre.length hNl2]) ?_ ?_
      · intro i3 v3 e3 I3 oI3 D3 oL3 C3 m3 h tk ys nw E' hv3 he3 hx1 hsub F' N'
        refine Classical.byContradiction fun hG9 => ?_
        obtain ⟨x4, t4, rfl, hx4⟩ := StrsAre.item hNl2 i3 v3 (by simpa using hv3)
        rw [he3] at hx4
        obtain rfl : e3 = x4 := Option.some.inj hx4
        refine hG9 ?_
        clear hG9 F N
        unfold OTurn
        k_steps
        all_goals (
          first
          | (rename (_ < _ ∧ _) => ne9
             obtain ⟨n1, n2, n3, _⟩ := ne9
             first | exact Nat.ne_of_gt n1 | exact Nat.ne_of_gt n2 | exact Nat.ne_of_gt n3)
          | exact ⟨_, _, _, _, rfl, rfl⟩)
      · intro ys3 nw3 hsub3 hOb3 D5 h tk F' N' off3
        clear F N
        dsimp only
        have N2 : News _ _ _ _ := fun p hp => N' p (.tail _ (hsub3 p hp))
        have r1 := list_reads N2 (.head _) (objs_reads (dt := rowN) (fun p hp => N2 p (.tail _ hp)) (fun a o e q1 q2 => RowN.reads q1 q2) hOb)
        have r2 := list_reads N' (.head _) (objs_reads (dt := rowN) (fun p hp => N' p (.tail _ hp)) (fun a o e q1 q2 => RowN.reads q1 q2) hOb3)
        have hly : ys2.length = nots.length := Paired.length hOb
        refine ne_same r1 r2 (rowsN_shaped hn2) (by k_extra "M units") ?_
        clear r1 r2 N' hOb3 hOb off3
        k_steps
        · rename _ ≠ _ => hne
          exact absurd rfl hne
        · exact k _ _ (Fr.keep (by assumption))
end Mine
theorem Mine.offM10 : True := by
  w_top off
  trivial
theorem Mine.preM10 : True := by
  k_with_none
  k_with "M skip" => (first | with_reducible exact rfl | (refine Mine.ite_skip (by with_reducible assumption) ?_; k_extra "M skip"))
  k_with "M has" => (first | with_reducible exact Mine.ix0 | (with_reducible refine Mine.ixS ?_; k_extra "M has"))
  k_with "M ix" => ((fail_if_success (fail_if_success (k_extra "M has"))); first | exact ⟨0, rfl⟩ | exact ⟨1, rfl⟩ | exact ⟨2, rfl⟩ | exact ⟨3, rfl⟩ | exact ⟨4, rfl⟩ | exact ⟨5, rfl⟩ | exact ⟨6, rfl⟩ | exact ⟨7, rfl⟩ | exact ⟨8, rfl⟩ | exact ⟨9, rfl⟩ | exact ⟨10, rfl⟩ | exact ⟨11, rfl⟩ | exact ⟨12, rfl⟩ | exact ⟨13, rfl⟩ | exact ⟨14, rfl⟩ | exact ⟨15, rfl⟩ | exact ⟨16, rfl⟩ | exact ⟨17, rfl⟩ | exact ⟨18, rfl⟩ | exact ⟨19, rfl⟩ | exact ⟨20, rfl⟩ | exact ⟨21, rfl⟩ | exact ⟨22, rfl⟩ | exact ⟨23, rfl⟩ | exact ⟨24, rfl⟩ | exact ⟨25, rfl⟩ | exact ⟨26, rfl⟩ | exact ⟨27, rfl⟩ | exact ⟨28, rfl⟩ | exact ⟨29, rfl⟩ | exact ⟨30, rfl⟩ | exact ⟨31, rfl⟩ | exact ⟨32, rfl⟩ | exact ⟨33, rfl⟩)
  k_with "M lt1" => (first | exact Nat.lt_succ_self _ | (refine Nat.lt_succ_of_lt ?_; k_extra "M lt1"))
  k_with "M ne3" => ((with_reducible rename Mine.NeA _ _ => l9); first | (refine Mine.neA_r l9 ?_; k_extra "M ix") | (refine Mine.neA_l l9 ?_; k_extra "M ix") | (clear l9; k_extra "M ne3"))
  k_with "M ne" => (refine neN ?_; (try dsimp only); first
    | (refine Mine.neN_i ?_; with_reducible assumption)
    | (refine Mine.neN_s ?_; with_reducible assumption)
    | with_reducible assumption
    | (refine Ne.symm ?_; with_reducible assumption)
    | (refine Nat.ne_of_lt ?_; with_reducible assumption)
    | (refine Nat.ne_of_gt ?_; with_reducible assumption)
    | (refine Mine.ltA_r (by with_reducible assumption) ?_; k_extra "M ix")
    | (refine Mine.ltA_l (by with_reducible assumption) ?_; k_extra "M ix")
    | (refine Mine.neA_r (by with_reducible assumption) ?_; k_extra "M ix")
    | (refine Mine.neA_l (by with_reducible assumption) ?_; k_extra "M ix")
    | (refine Nat.ne_of_lt ?_; k_extra "M lt1")
    | (refine Nat.ne_of_gt ?_; k_extra "M lt1")
    | k_extra "M ne3"
    | omega
    | ((simp only [Mine.LtA, Mine.NeA] at *); omega))
  k_with "M memR" => (first | with_reducible exact List.mem_cons_self | (with_reducible refine List.mem_cons_of_mem _ ?_; k_extra "M memR") | ((fail_if_success (with_reducible refine List.mem_cons_of_mem _ ?_)); with_reducible assumption))
  k_with "M mem" => (first | with_reducible assumption | k_extra "M memR")
  k_with "M enter" => (
  (case X => first | assumption | exact Frag.In.keeps (by k_asm) (Fr.keep (by k_asm)))
  (case T => exact TopRead.nolimit (by assumption))
  (case ho => k_is)
  (case hcd => k_is)
  (case hroom => omega)
  (case hbind => exact BindsTo.of_eq rfl)
  (case hloc => exact locs rfl)
  (case c1 => decide)
  (case c2 => exact rfl)
  (case c3 => exact rfl)
  (case c4 => exact rfl)
  intro L' h' F' N'
  try dsimp only [Mine.bodOf, Mine.scoOf, Mine.parOf, Mine.topS, Mine.inS, Mine.stAt, PySem.Challenge.pw_on0181_01]
  try k_fold)
  k_with "M enterC" => (
  (case X => first | assumption | exact Frag.In.keeps (by k_asm) (Fr.keep (by k_asm)))
  (case T => exact TopRead.nolimit (by assumption))
  (case ho => k_is)
  (case hcd => k_is)
  (case hroom => omega)
  (case hbind => exact BindsTo.of_eq rfl)
  (case hkind => exact rfl)
  (case hnd => decide +kernel)
  (case c2 => exact rfl)
  (case c3 => exact rfl)
  (case c4 => exact rfl)
  intro L' h' tk' cells' F' N' Y'
  try dsimp only [Mine.bodOf, Mine.scoOf, Mine.parOf, Mine.topS, Mine.inS, Mine.stAt, PySem.Challenge.pw_on0181_01] at *
  k_cells Y'
  try dsimp only [Mine.bodOf, Mine.scoOf, Mine.parOf, Mine.topS, Mine.inS, Mine.stAt, PySem.Challenge.pw_on0181_01]
  try k_fold)
  k_with "M sd" => (first | exact Mine.SD.fr (by k_asm) (by k_asm) | exact Mine.ExactNew (by k_asm) (by k_mem) (by k_asm) (by k_asm))
  k_with "M inst" => exact Mine.inst_base (by k_asm) (by k_asm) (by k_asm)
  k_with "!getMethod ref" => (k_here; (first | (with_reducible show wpAny _ _ (getMethod (Value.ref _) (PySem.Str.ofString "get") _) _ _ _) | (with_reducible show wpAny _ _ (getMethod (Value.ref _) (PySem.Str.ofString "setdefault") _) _ _ _)); refine Mine.sd_mget (by k_extra "M sd") ?_)
  k_with "!getMethod ref" => (k_here; (with_reducible show wpAny _ _ (getMethod (Value.ref _) (PySem.Str.ofString "append") _) _ _ _); k_dflt (refine PySem.W.listMethod_K (by k_asm) (by k_extra "M mem") PySem.F.slot_list_append PySem.F.type_list_append ?_))
  k_with "!callWith ref" => (k_here; k_dflt (first | refine PySem.W.callWith_K (by k_asm) (by k_is) ?_ | refine PySem.W.callWith_K0 (by k_in) (by k_is) ?_))
  k_with "!call builtin:dict.get" => (k_here; first | refine Mine.sd_get1 (by k_extra "M sd") ?_ | refine Mine.sd_get2 (by k_extra "M sd") ?_)
  k_with "!call builtin:dict.get" => (k_here; first | refine Mine.sd_get1v (by k_extra "M sd") (by with_reducible assumption) ?_ | refine Mine.sd_get1n (by k_extra "M sd") (by with_reducible assumption) ?_ | refine Mine.sd_get2v (by k_extra "M sd") (by with_reducible assumption) ?_ | refine Mine.sd_get2n (by k_extra "M sd") (by with_reducible assumption) ?_)
  k_with "!compareOp In str ref" => (k_here; refine Mine.sd_in (by k_extra "M sd") ?_)
  k_with "!compareOp NotIn str ref" => (k_here; refine Mine.sd_notin (by k_extra "M sd") ?_)
  k_with "!subscriptTail" => (k_here; (with_reducible show wpAny _ _ (subscriptTail _ _ (Value.ref _) (Value.str _ _)) _ _ _); refine Mine.sd_item (by k_extra "M sd") (by k_asm) ?_)
  k_with "!eval Name" => (k_here; (with_reducible show wpAny _ _ (eval (Expr.Name _ _) (compEnvC _ _ _ _)) _ _ _); k_dflt (first
  | refine Mine.cx_L (by k_asm) (by with_reducible assumption) ?_
  | refine Mine.cx_C (by k_asm) (by exact rfl) (by k_extra "M mem") (by k_asm) ?_
  | refine Mine.cx_K (by k_asm) (by k_asm) (by k_asm) (by k_is) ?_
  | refine Mine.cx_B (by k_asm) (by k_asm) (by k_asm) (by k_is) (by boot_by_name) (by decide) ?_))
  k_with "!eval ListComp" => (k_here; (with_reducible show wpAny _ _ (eval (Expr.ListComp _ [⟨Expr.Name _ _, _, _, _⟩] _ _) _) _ _ _); k_dflt (refine Mine.lc_name (by k_asm) (by exact rfl) (by decide) (by exact rfl) (by decide) (by exact rfl) ?_))
  k_with "!eval ListComp" => (k_here; (with_reducible show wpAny _ _ (eval (Expr.ListComp _ [⟨Expr.Tuple _ _ _, _, _, _⟩] _ _) _) _ _ _); k_dflt (refine Mine.lc_pair (by k_asm) (by exact rfl) (by decide) (by exact rfl) (by decide) (by exact rfl) (by exact rfl) (by decide) ?_))
  k_with "!exec Assign cons ListComp" => (k_here; k_dflt (
  refine Mine.lc_name_assign (by k_asm) (by exact rfl) (by with_unfolding_all rfl) (by exact rfl) (by decide) (by exact rfl) (by decide) (by exact rfl) (by exact rfl) (by exact rfl) ?_))
  k_with "M room" => (first | (refine Mine.rm0 (by with_reducible assumption) ?_; decide) | (refine Mine.rm1 (by with_reducible assumption) ?_; decide) | (refine Mine.rm2 (by with_reducible assumption) ?_; decide) | ((try simp only [depth_deeper, depth_in1] at *); omega))
  k_with "M sub" => (first | exact fun _ h => h | (intro p9 hp9; repeat (first | exact hp9 | refine List.mem_cons_of_mem _ ?_)))
  k_with "!CEnd" => (refine Mine.CEnd.intro (by k_asm) (by k_asm) (by k_extra "M sub"))
  k_with "M units" => (first | (refine Mine.un0 (by with_reducible assumption) ?_; decide) | (refine Mine.un1 (by with_reducible assumption) ?_; decide) | (refine Mine.un2 (by with_reducible assumption) ?_; decide) | ((try simp only [units_deeper, units_in1, Around.deeper_units] at *); omega))
  k_with "M len" => (first | with_reducible exact Mine.len_lit _ | ((with_reducible refine' Mine.len_app ?_ ?_) <;> k_extra "M len") | with_reducible assumption)
  k_with "!binaryOp Add str str" => (k_here; (with_reducible show wpAny _ _ (binaryOp Operator.Add (Value.str _ _) (Value.str _ _)) _ _ _); (refine Mine.add_strS (by k_extra "M len") (by k_extra "M len") (by decide +kernel) ?_); intro t9 tk9)
  k_with "M reads" => (first
  | exact Reads.none
  | exact Reads.str _ _
  | exact Reads.keeps (Fr.keep (by k_asm)) (by with_reducible assumption)
  | exact reads_tuple_at (News.get (by k_asm) (by k_extra "M mem")) rfl rfl (by k_extra "M readsAll")
  | exact Mine.reads_strs (by k_asm) (by k_extra "M mem") (by with_reducible assumption))
  k_with "M readsAll" => (first
  | exact ReadsAll.nil
  | exact ReadsAll.cons (by k_extra "M reads") (by k_extra "M readsAll"))
  k_with "M shaped" => (first | with_reducible assumption | exact rfl | decide +kernel)
  k_with "!compareOp Eq ref ref" => (k_here; k_dflt (refine eq_dataH (by k_extra "M reads") (by k_extra "M reads") (by k_extra "M shaped") (by k_extra "M shaped") (by k_extra "M units") ?_))
  k_with "!compareOp Eq none ref" => (k_here; k_dflt (refine eq_dataH (by k_extra "M reads") (by k_extra "M reads") (by k_extra "M shaped") (by k_extra "M shaped") (by k_extra "M units") ?_))
  k_with "M for" => (k_here; k_dflt (refine Mine.for_rule (by k_asm) (by exact rfl) ?_))
  k_with "!exec For Name Tuple cons nil" => k_extra "M for"
  k_with "!exec For Name Name cons nil" => k_extra "M for"
  k_with "!exec For Name Attribute cons nil" => k_extra "M for"
  k_with "!exec For Name List cons nil" => k_extra "M for"
  k_with "!exec For Name Subscript cons nil" => k_extra "M for"
  k_with "!exec For Tuple Name cons nil" => k_extra "M for"
  k_with "!execs cons Assign cons" => (k_here; refine wpAny_execs_cons ?_)
  k_with "!call builtin:list.append" => (k_here; (with_reducible show wpAny _ _ (call (Value.builtin _) [Value.ref _, _]) _ _ _); k_dflt (refine' Mine.append_L (by k_asm) (by k_asm) (by k_upd) (by ((try simp only [List.length_append, List.length_singleton]); omega)) ?_; k_whole); intro h' F' N'; (try k_sweep))
  k_with "M fsub" => (first | exact List.forall_mem_nil _ | (refine List.forall_mem_cons.mpr ⟨⟨by k_extra "M mem", by k_ne⟩, ?_⟩; k_extra "M fsub"))
  k_with "!subscriptTail Name Constant ref int" => (k_here; (with_reducible show wpAny _ _ (subscriptTail _ _ (Value.ref _) (Value.int _ _)) _ _ _); k_dflt (refine Mine.item_tupB (by k_asm) (by with_reducible assumption) (by decide) (by decide) (by exact rfl) (by exact rfl) ?_))
  k_with "!subscriptTail" => (k_here; (with_reducible show wpAny _ _ (subscriptTail _ _ (Value.ref _) (Value.int _ _)) _ _ _); k_dflt (refine Mine.item_tupB (by k_asm) (by with_reducible assumption) (by decide) (by decide) (by exact rfl) (by exact rfl) ?_))
  k_with "M memL" => (first | exact List.mem_cons_self | (refine List.mem_cons_of_mem _ ?_; k_extra "M memL"))
  k_with "M memall" => (first | exact True.intro | (refine And.intro (by k_extra "M memL") ?_; k_extra "M memall"))
  k_with "!call ref" => (k_here; k_dflt ((refine' Mine.c_rules (by k_asm) (by k_asm) (by k_asm) (by k_asm) (by k_extra "M room") (by k_asm) (by k_asm) ?_ ?_); (intro h' tk' d' F' N' hI'; obtain ⟨kvs', hS', hP'⟩ := hI'; (try k_sweep); rotate_left; intro h' tk' d' o' F' N' hr' hs' lo' ne'; (replace ne' := Mine.allNe_of ne'); (replace ne' := Mine.neA_of ne'); (try dsimp only [Mine.adr] at ne'); (try k_sweep); rotate_right)))
  k_with "M few" => (first | with_reducible assumption | exact Nat.le_trans (Mine.namesOf_len _ _) (by with_reducible assumption))
  k_with "!call builtin:len" => (k_here; (with_reducible show wpAny _ _ (call (Value.builtin "len") [Value.ref _]) _ _ _); k_dflt (refine Mine.len_strs (by k_asm) (by k_extra "M mem") (by with_reducible assumption) (by k_extra "M few") ?_))
  k_with "M handled" => (first | assumption | exact rfl)
  k_with "M ok" => (first | exact Mine.ok_nil | assumption)
  k_with "!compareOp NotEq ref ref" => (k_here; k_dflt (refine Mine.ne_strs (by k_asm) (by k_extra "M mem") (by k_extra "M mem") (by first | with_reducible assumption | exact PyProof.Rows.StrsAre.nil) (by first | with_reducible assumption | exact PyProof.Rows.StrsAre.nil) (by k_extra "M ok") (by k_extra "M ok") (by k_extra "M units") ?_))
  k_with "!subscriptTail Name Constant ref int" => (k_here; (with_reducible show wpAny _ _ (subscriptTail _ _ (Value.ref _) (Value.int 0 _)) _ _ _); k_dflt (refine Mine.item_strs0 (by k_asm) (by k_extra "M mem") (by with_reducible assumption) (by with_reducible assumption) ?_); intro y' r' t' hx')
  k_with "!subscriptTail" => (k_here; (with_reducible show wpAny _ _ (subscriptTail _ _ (Value.ref _) (Value.int 0 _)) _ _ _); k_dflt (refine Mine.item_strs0 (by k_asm) (by k_extra "M mem") (by with_reducible assumption) (by with_reducible assumption) ?_); intro y' r' t' hx')
  k_with "!call ref" => (k_here; k_dflt ((refine' Mine.c_nok (by k_asm) (by k_asm) (by k_asm) (by k_asm) (by k_extra "M room") (by k_extra "M handled") (by k_asm) (by k_asm) (by assumption) ?_); (intro h' tk' a' ys' F' N' ne' hS'; (replace ne' := Mine.allNe_of ne'); (replace ne' := Mine.neA_of ne'); (try dsimp only [Mine.adr] at ne'); try k_sweep)))
  k_with "!call ref" => (k_here; k_dflt ((refine' Mine.c_model (by k_asm) (by k_asm) (by k_asm) (by k_asm) (by k_extra "M room") (by k_asm) (by k_asm) ?_); (intro h' tk' F' N'; (try k_sweep); (first | (rename valueAt _ _ = _ => hv9; rw [hv9]; dsimp only [Option.getD_some, Option.getD_none]) | skip))))
  k_with "!binaryOp Add ref ref" => (k_here; (with_reducible show wpAny _ _ (binaryOp _ (Value.ref _) (Value.ref _)) _ _ _); k_dflt (refine' Mine.add_L (by k_asm) (by k_asm) (by k_extra "M mem") (by k_extra "M mem") (by ((try simp only [List.length_append, List.length_singleton]); omega)) ?_ ); intro D' h' F' N' ne'; (replace ne' := Mine.neA_of ne'); (try dsimp only [Mine.adr] at ne'); (try k_sweep))
  k_with "!call ref" => (k_here; k_dflt ((refine' Mine.c_nf (by k_asm) (by k_asm) (by k_asm) (by k_asm) (by k_extra "M room") (by k_extra "M units") (by k_extra "M handled") (by k_asm) (by k_asm) (by k_asm) (by k_asm) (by with_reducible assumption) (by with_reducible assumption) (by with_reducible assumption) (by with_reducible assumption) ?_); (intro h' tk' a' ys' n' F' N' ne' hS'; (have hnl' := Mine.nf_len hS'); (replace ne' := Mine.allNe_of ne'); (replace ne' := Mine.neA_of ne'); (try dsimp only [Mine.adr] at ne'); try k_sweep)))
  k_with "!call ref" => (k_here; k_dflt ((refine' Mine.c_ef (by k_asm) (by k_asm) (by k_asm) (by k_asm) (by k_extra "M room") (by k_extra "M units") (by k_extra "M handled") (by k_asm) (by k_asm) (by k_asm) (by k_asm) (by with_reducible assumption) (by with_reducible assumption) (by with_reducible assumption) ?_); (intro h' tk' a' ys' n' F' N' ne' hS' hl'; (replace ne' := Mine.allNe_of ne'); (replace ne' := Mine.neA_of ne'); (try dsimp only [Mine.adr] at ne'); try k_sweep)))
  k_with "!call builtin:list.count" => (k_here; (with_reducible show wpAny _ _ (call (Value.builtin _) [Value.ref _, Value.str _ _]) _ _ _); k_dflt (refine Mine.count_L (by k_asm) (by k_extra "M mem") (by with_reducible assumption) ?_))
  k_with "!call builtin:list.extend" => (k_here; (with_reducible show wpAny _ _ (call (Value.builtin _) [Value.ref _, Value.ref _]) _ _ _); k_dflt (refine' Mine.extend_L (by k_asm) (by k_asm) (by k_updF) (by k_extra "M mem") (by ((try simp only [List.length_append, List.length_singleton]); omega)) ?_ ); intro h' n' F' N'; (try dsimp only at N'); (try k_sweep))
  k_with "!assign Tuple" => (k_here; k_dflt (refine' Mine.assign_pair (by k_asm) (by k_asm) (by exact rfl) (by k_extra "M handled") (by with_reducible assumption) (by exact rfl) (by exact rfl) (by exact rfl) ?_ ); intro h' tk' F' N'; (try k_sweep))
  k_with "!compareOp NotIn str ref" => (k_here; (with_reducible show wpAny _ _ (compareOp CmpOp.NotIn (Value.str _ _) (Value.ref _)) _ _ _); k_dflt (refine notin_list_strs (PySem.Heap.IsList.at (by k_asm) fun o e => Fr.keep (by k_asm) _ o e) (by with_reducible assumption) ?_))
  k_with "M enterM" => (
  (case X => first | assumption | exact Frag.In.keeps (by k_asm) (Fr.keep (by k_asm)))
  (case T => exact TopRead.nolimit (by assumption))
  (case ho => k_is)
  (case hcd => k_is)
  (case hroom => omega)
  (case hbind => exact BindsTo.of_eq rfl)
  (case hloc => exact locs rfl)
  (case c1 => decide)
  (case c2 => exact rfl)
  (case c3 => exact rfl)
  (case c4 => exact rfl))
  k_with "!call ref" => (k_here; k_dflt ((refine' Mine.c_take (by k_asm) (by k_asm) (by k_asm) (by k_asm) (by k_extra "M room") (by k_updF) (by with_reducible assumption) (by with_reducible assumption) (by first | with_reducible assumption | decide) ?_); (intro h' tk' v' t' a' b' ta' tb' n' F' N' _ hv' ha' hb'; (try dsimp only at N'); (try k_sweep))))
  k_with "!call builtin:len" => (k_here; (with_reducible show wpAny _ _ (call (Value.builtin "len") [Value.ref _]) _ _ _); k_dflt (refine Mine.len_B (by k_asm) (by with_reducible assumption) (by with_reducible assumption) ?_))
  k_with "!subscriptTail Name Constant ref int" => (k_here; (with_reducible show wpAny _ _ (subscriptTail _ _ (Value.ref _) (Value.int _ _)) _ _ _); k_dflt (refine Mine.item_B (by k_asm) (by with_reducible assumption) (by with_reducible assumption) (by with_reducible assumption) ?_); intro x' hx')
  k_with "!subscriptTail" => (k_here; (with_reducible show wpAny _ _ (subscriptTail _ _ (Value.ref _) (Value.int _ _)) _ _ _); k_dflt (refine Mine.item_B (by k_asm) (by with_reducible assumption) (by with_reducible assumption) (by with_reducible assumption) ?_); intro x' hx')
  k_with "!setItem ref str" => (k_here; (with_reducible show wpAny _ _ (setItem (Value.ref _) (Value.str _ _) _) _ _ _); k_dflt (refine' kda_set (knd := PySem.strKind Mine.PR _) (by k_asm) (by k_asm) (by k_updF) (by with_reducible assumption) (by exact strKind_is _ _ _ _) (by with_reducible assumption) ?_ ); intro h' o' F' N' hd'; (try dsimp only at N'); (try k_sweep))
  k_with "M enterM2" => (
  (case ho => k_is)
  (case hcd => k_is)
  (case hroom => omega)
  (case hbind => exact BindsTo.of_eq rfl)
  (case hloc => exact locs rfl)
  (case c1 => decide)
  (case c2 => exact rfl)
  (case c3 => exact rfl)
  (case c4 => exact rfl))
  k_with "!call ref" => (k_here; (with_reducible show wpAny _ _ (call (Value.ref 78) _) _ _ _); k_dflt ((refine' Mine.c_makeNot (by k_asm) (by k_asm) (by k_asm) (by k_asm) (by k_extra "M room") (by first | assumption | exact rfl) ?_); (intro h' tk' a' dx' o' F' N' ne1' ne2' ne3' hN'; (try dsimp only at N'); (replace ne1' := Mine.neA_of ne1'); (try dsimp only [Mine.adr] at ne1'); (replace ne2' := Mine.neA_of ne2'); (try dsimp only [Mine.adr] at ne2'); (try k_sweep))))
  k_with "M enterC2" => (
  (case ho => k_is)
  (case hcd => k_is)
  (case hroom => omega)
  (case hbind => exact BindsTo.of_eq rfl)
  (case hkind => exact rfl)
  (case hnd => decide +kernel)
  (case c2 => exact rfl)
  (case c3 => exact rfl)
  (case c4 => exact rfl))
  k_with "!call type:tuple" => (k_here; (with_reducible show wpAny _ _ (call (Value.type _) [Value.ref _]) _ _ _); k_dflt (refine' Mine.tuple_lsn (by k_asm) (by k_asm) (by k_extra "M memL") (by with_reducible assumption) ?_ ); intro D' h' F' N' ne1; (replace ne1 := Mine.neA_of ne1); (try dsimp only [Mine.adr] at ne1); (try k_sweep))
  k_with "M csub" => (first | exact List.forall_mem_nil _ | (refine List.forall_mem_cons.mpr ⟨by k_extra "M memL", ?_⟩; k_extra "M csub"))
  k_with "M listhere" => (refine' ⟨_, _, (by k_extra "M memL"), (by exact rfl), (by exact rfl)⟩ )
  k_with "!call ref" => (k_here; (with_reducible show wpAny _ _ (call (Value.ref 232) _) _ _ _); k_dflt ((refine' Mine.c_oneS (by k_asm) (by k_asm) (by k_asm) (by k_asm) (by k_extra "M room") (by k_updF) (by with_reducible assumption) (by with_reducible assumption) (by k_extra "M listhere") (by exact rfl) (by k_ne) (by exact rfl) ?_); (intro h' tk' x' t' a' b' ta' tb' n' F' N' hx' ha' hb'; (try dsimp only at N'); (try k_sweep))))
  k_with "!eval ListComp" => (k_here; (with_reducible show wpAny _ _ (eval (Expr.ListComp (Expr.Call (Expr.Name _ _) _ _ _) [⟨Expr.Name _ _, Expr.Call (Expr.Name (PySem.Str.ofString "range") _) _ _ _, [], _⟩] _ _) _) _ _ _); k_dflt (refine Mine.lc_range (by k_asm) (by exact rfl) (by decide) (by exact rfl) (by decide) (by exact rfl) ?_))
  k_with "!getMethod" => (k_here; (with_reducible show wpAny _ _ (getMethod (Value.type "Exception") _ _) _ _ _); k_dflt (refine' method_type (by k_asm) (by k_asm) (by first | rfl | kernel_rfl) (by decide +kernel) (by k_dflt k_is) (by k_handed) ?_ ))
  k_with "!call builtin:Exception.__init__" => (k_here; k_dflt (refine' Mine.exc_initL (by k_asm) (by k_asm) (by k_updF) (by with_reducible assumption) (by with_reducible assumption) ?_ ); intro h' t' F' N'; (try dsimp only at N'); (try k_sweep))
  k_with "!setAttr" => (k_here; k_dflt (refine' Mine.set_excNL (by k_asm) (by k_asm) (by k_asm) (by k_updF) (by k_is) (by k_is) (by rfl) (by rfl) (by k_is) ?_ ); intro h' dx' tk' F' N' ne'; (try dsimp only at N'); (replace ne' := Mine.neA_of ne'); (try dsimp only [Mine.adr] at ne'); (try k_sweep))
  k_with "!call ref" => (k_here; k_dflt ((refine' Mine.c_init1L (by k_asm) (by k_asm) (by k_asm) (by k_asm) (by k_extra "M room") (by with_reducible assumption) (by with_reducible assumption) (by k_updF) ?_); (intro h' tk' dx' t' tk9 F' N' ne'; (try dsimp only at N'); (replace ne' := Mine.neA_of ne'); (try dsimp only [Mine.adr] at ne'); (try k_sweep))))
  k_with "!setAttr" => (k_here; k_dflt (refine' Mine.set_excIL (by k_asm) (by k_asm) (by k_asm) (by k_extra "M mem") (by k_updF) (by k_is) (by k_is) (by rfl) (by rfl) (by k_is) (by rfl) (by rfl) (by exact Nat.le_of_lt (by show 2 < 1000; decide)) ?_ ); intro h' F' N'; (try dsimp only at N'); (try k_sweep))
  k_with "M enterN" => (
  (case T => exact TopRead.nolimit (by assumption))
  (case hcd => k_is)
  (case hroom => omega)
  (case hloc => exact locs rfl)
  (case c1 => decide)
  (case c2 => exact rfl)
  (case c3 => exact rfl)
  (case c4 => exact rfl))
  k_with "!exec Raise" => (k_here; k_dflt (refine Mine.exec_raise (C := 59) (N := 58) (bm := Mine.bm59) (by decide) (by first | assumption | exact rfl) ?_))
  k_with "!call ref" => (k_here; (with_reducible show wpAny _ _ (call (Value.ref 59) [Value.str _ _, Value.int _ _]) _ _ _); k_dflt ((refine' Mine.c_fault (by k_asm) (by k_asm) (by k_asm) (by k_asm) (by k_extra "M room") ?_); (intro h' tk' e' dx' t' t1' t2' F' N' ne1' ne2' ne3'; (try dsimp only at N'); (replace ne1' := Mine.neA_of ne1'); (try dsimp only [Mine.adr] at ne1'); (replace ne2' := Mine.neA_of ne2'); (try dsimp only [Mine.adr] at ne2'); (try k_sweep))))
  k_with "!exec Try" => (k_here; (refine wpAny_Try_except ?_))
  k_with "!getAttr ref" => (k_here; k_dflt (refine' Mine.exc_getL (C := 59) (by k_asm) (by k_asm) (by k_asm) (by exact List.mem_cons_self) (by exact List.mem_cons_of_mem _ List.mem_cons_self) (by with_reducible assumption) (by with_reducible assumption) (by with_reducible assumption) (by k_is) (by k_is) (by k_is) (by k_is) (by rfl) (by k_is) (by rfl) ?_ ))
  trivial
set_option maxHeartbeats 800000
namespace Mine
/-- what a call has made -/
def newOf (h h' : Heap) : Heap := hideAll h' ((List.range h.objs.size).filter fun b => (h.get? b).isSome)
theorem newOf_get {h h' : Heap} {b : Addr} {o : Obj} (e : h'.get? b = some o) (n : h.get? b = none) : (newOf h h').get? b = some o := hideAll_get _ e fun hm => by
  have := (List.mem_filter.mp hm).2
  rw [n] at this; cases this
theorem newOf_kp (h h' : Heap) : Kp (newOf h h') h' := fun _ _ e => of_hideAll _ e
theorem newOf_old {h h' : Heap} {b : Addr} {o : Obj} (e : (newOf h h').get? b = some o) : h.get? b = none := by
  cases q : h.get? b with
  | none => rfl
  | some o' =>
    have : (newOf h h').get? b = none := hideAll_none _ (List.mem_filter.mpr ⟨List.mem_range.mpr (Heap.lt_size q), by rw [q]; rfl⟩)
    rw [this] at e; cases e
/-- the code objects of the lambdas -/
abbrev posE : Pos := ⟨135, 35, 135, 84⟩
def LamOk (g : Heap) (ps : Array Value) (pos : Pos) (q : Str) : Prop := codeAmong pos ps.toList = none ∨ ∃ c', codeAmong pos ps.toList = some (.ref c') ∧ g.CodeRec (.ref c') q
theorem LamOk.kp {g g' : Heap} {ps : Array Value} {pos : Pos} {q : Str} (x : LamOk g ps pos q) (k : Kp g g') : LamOk g' ps pos q := x.elim .inl fun ⟨c, a, b⟩ => .inr ⟨c, a, b.keeps k⟩
theorem among_snoc {pos : Pos} {a b : Int} {c v : Value} (l : List Value) (h : TriplesOk l) (hn : codeAmong pos l = some v) : codeAmong pos (l ++ [rawInt a, rawInt b, c]) = some v := by
  fun_induction TriplesOk l with
  | case1 => cases hn
  | case2 a t b u x rest ih =>
    simp only [List.cons_append, codeAmong] at hn ⊢
    split at hn
    · rename_i hc; rw [if_pos hc]; exact hn
    · rename_i hc; rw [if_neg hc]; exact ih h hn
  | case3 l h1 h2 => exact h.elim
theorem among_other {pos : Pos} {a b : Int} {c : Value} (l : List Value) (h : TriplesOk l) (hn : codeAmong pos l = none) (ne : (a == pos.line && b == pos.col) = false) : codeAmong pos (l ++ [rawInt a, rawInt b, c]) = none := by
  fun_induction TriplesOk l with
  | case1 => simp only [List.nil_append, codeAmong, rawInt]; rw [if_neg (by rw [ne]; decide)]
  | case2 a' t b' u x rest ih =>
    simp only [List.cons_append, codeAmong] at hn ⊢
    split at hn
    · cases hn
    · rename_i hc; rw [if_neg hc]; exact ih h hn
  | case3 l h1 h2 => exact h.elim
/-- the stack, seen from within a call -/
theorem below_at {A : Around} {h h1 : Heap} {Lw L' : Addr} {outer : List Env} {env : Env} {m : Str → Option Value} (K : Below A (hideAll h [Lw]) outer h) (k : ∀ o, h.get? Lw = some o → h1.get? Lw = some o) (hk : env.scope.kind ≠ .module) (hf : env.frame = some L') (hn : h1.Ns L' m) :
    Below (A.deeper env) (hideAll h1 [Lw, L']) (env :: outer) h1 := by
  refine ⟨Around.frames_deeper K.stack, fun b o e => of_hideAll _ e, Heap.FunFrames.cons hk hf hn (hideAll_none _ (.tail _ (.head _))) ?_⟩
  have : ∀ l : List Env, h.FunFrames (hideAll h [Lw]) l → h1.FunFrames (hideAll h1 [Lw, L']) l := by
    intro l
    induction l with
    | nil => intro _; trivial
    | cons e r ih =>
      rintro ⟨a, ⟨L, o, b, c, d, f⟩, q⟩
      have hL : L = Lw := by
        by_cases z : L = Lw
        · exact z
        · have := hideAll_get [Lw] d (fun q => z (List.mem_singleton.mp q))
          rw [c] at this; cases this
      subst hL
      exact ⟨a, ⟨L, o, b, hideAll_none _ (.head _), k o d, f⟩, ih q⟩
  exact this _ K.frames
/-- a def with cells, some objects hidden -/
theorem in_models {kvs : List (Str × Value)} {x : Str} : (valueAt kvs x).isSome = true ∨ (valueAt kvs x).isSome = false := by cases (valueAt kvs x).isSome <;> simp
end Mine
theorem Mine.listMethod_L {prog : Program} {w : World} {A : Around} {E : Value → Shared → Prop} {s : Shared} {h₀ : Heap} {L : Addr} {news : List (Addr × Obj)} {D : Addr} {ys : List Value} {n : Nat} {name : Str} {id : String} {pl : Sem Bool} {Q : Value × List Value → Shared → Prop} (N : News h₀ L s.heap news) (hm : (D, lsn ys n) ∈ news) (slot : Slot "list" name id) (hty : typeOf (.builtin id) = pure (.type "method_descriptor"))
    (h : Q (.builtin id, [.ref D]) s) : wpAny (model prog w) A (getMethod (.ref D) name pl) Q E s := PySem.W.listMethod_K (its := ys.toArray) (n := n) N hm slot hty h
/-- where a walk is to stop at once -/
def Mine.Stop (p : Prop) : Prop := p
theorem Mine.Stop.mk {p : Prop} (h : Mine.Stop p) : p := h
theorem Mine.wordsM101 : True := by
  k_with "!getMethod ref" => (k_here; (with_reducible show wpAny _ _ (getMethod (Value.ref _) (PySem.Str.ofString "append") _) _ _ _); (refine Mine.Stop.mk ?_))
  k_with "!setItem ref str" => (k_here; plain_pass; (with_reducible show wpAny _ _ (setItem (Value.ref _) (Value.str _ _) (Value.ref _)) _ _ _); (refine Mine.Stop.mk ?_))
  k_with "!call builtin:dict.setdefault" => (k_here; (with_reducible show wpAny _ _ (call (Value.builtin "dict.setdefault") _) _ _ _); (refine Mine.Stop.mk ?_))
  k_with "!setItem ref str" => (k_here; (with_reducible show wpAny _ _ (setItem (Value.ref _) (Value.str _ _) _) _ _ _); k_dflt (refine' kda_set (knd := PySem.strKind Mine.PR _) (by k_asm) (by k_asm) (by k_updF) (by with_reducible assumption) (by exact strKind_is _ _ _ _) (by with_reducible assumption) ?_ ); intro h' o' F' N' hd'; (try dsimp only at N'); (try k_sweep))
  k_with "!getMethod ref" => (k_here; (with_reducible show wpAny _ _ (getMethod (Value.ref _) (PySem.Str.ofString "append") _) _ _ _); k_dflt (refine PySem.W.listMethod_K (by k_asm) (by k_extra "M mem") PySem.F.slot_list_append PySem.F.type_list_append ?_))
  k_with "!getMethod ref" => (k_here; (with_reducible show wpAny _ _ (getMethod (Value.ref _) (PySem.Str.ofString "append") _) _ _ _); k_dflt (refine Mine.listMethod_L (by k_asm) (by k_extra "M mem") PySem.F.slot_list_append PySem.F.type_list_append ?_))
  trivial
theorem Mine.offM11 : True := by
  w_top off
  trivial
set_option maxHeartbeats 2000000
namespace Mine
def allRef : List Value → Bool
  | [] => true
  | .ref _ :: r => allRef r
  | _ :: _ => false
theorem ref_of : ∀ {vs : List Value} {i : Nat} {v : Value}, allRef vs = true → vs[i]? = some v → ∃ a, v = .ref a ∧ Value.ref a ∈ vs
  | [], _, _, _, h => by simp at h
  | v :: r, 0, v', hr, h => by
    simp at h; subst h
    cases v <;> first | exact ⟨_, rfl, .head _⟩ | cases hr
  | v :: r, i + 1, v', hr, h => by
    have hr' : allRef r = true := by cases v <;> first | exact hr | cases hr
    obtain ⟨a, e, m⟩ := ref_of (vs := r) (i := i) hr' (by simpa using h)
    exact ⟨a, e, .tail _ m⟩
theorem c_oneR {w : World} {A : Around} {s : Shared} {h₀ : Heap} {L : Addr} {m : Str → Option Value} {news : List (Addr × Obj)} {g : Obj → List (Addr × Obj)} {src th : Addr} {a b : Int} {ta tb : Tok} {n : Nat} {ys : List Value} {Q Ex : Value → Shared → Prop} {p : Program} {loose : List Str} {mg mb : Str → Option Value}
    (F : Fr h₀ L s.heap m) (N : News h₀ L s.heap news)
    (X : (heapK w.params).In h₀) (T : TopRead p loose mg mb h₀) (hroom : A.depth + 10 < recursionLimit)
    (U : UpdF src (lsn [.int a ta, .int b tb] n) news g) (ha : 0 ≤ a) (hb : 0 ≤ b ∧ b < 2147483648) (hT : ListHere news th ys) (hS : allRef ys = true) (hne : th ≠ src) (hl : someFew ys = true)
    (k : ∀ h' tk' x a' b' ta' tb' n', Fr h₀ L h' m → News h₀ L h' (g (lsn [.int a' ta', .int b' tb'] n')) → Value.ref x ∈ ys → 0 ≤ a' → 0 ≤ b' ∧ b' < 2147483648 → Q (.ref x) { s with heap := h', toks := tk' }) :
    wpAny (model PR w) A (call (.ref 232) [.ref src, .ref th]) Q Ex s := by
  obtain ⟨o, kk, hm, hc, hd⟩ := hT
  refine c_one F N X T hroom U ha hb ⟨o, (N _ hm).1, hc, kk, hd⟩ hne (of_decide_eq_true hl) fun h' tk' v i a' b' ta' tb' n' F' N' hy ha' hb' => ?_
  obtain ⟨x, rfl, hx⟩ := ref_of hS hy
  exact k h' tk' x a' b' ta' tb' n' F' N' hx ha' hb'
theorem news_tail {h₀ h : Heap} {L : Addr} {q : Addr × Obj} {news : List (Addr × Obj)} (N : News h₀ L h (q :: news)) : News h₀ L h news := fun p hp => N p (.tail _ hp)
theorem assign_pairW {prog : Program} {w : World} {A : Around} {E : Value → Shared → Prop} {s : Shared} {h₀ : Heap} {L T : Addr} {m : Str → Option Value} {news : List (Addr × Obj)} {env : Env} {a b : Str} {pa pb tp : Pos} {kk n : Nat} {x y : Value} {o : Obj} {Q : Unit → Shared → Prop}
    (F : Fr h₀ L s.heap m) (N : News h₀ L s.heap news) (hh : A.handled = none) (hm : (T, o) ∈ news) (hc : o.cls = .type "tuple") (hd : o.data = .seq #[x, y] n)
    (h : ∀ h', Fr h₀ L h' m → News h₀ L h' news → wpAny (model prog w) A (storeName env a x) (fun _ s₁ => wpAny (model prog w) A (storeName env b y) Q E s₁) E { s with heap := h' }) :
    wpAny (model prog w) A (assign (.Tuple [.Name a pa, .Name b pb] kk tp) env (.ref T)) Q E s := by
  refine wpAny_assign_Tuple hh ⟨o, (N _ hm).1, hc, n, hd⟩ rfl rfl fun h₁ he₁ => ?_
  have up₁ : ∀ c o, s.heap.get? c = some o → h₁.get? c = some o := fun c o e => he₁ c o (Nat.ne_of_lt (Heap.lt_size e)) e
  show wpAny _ _ (assignInOrder [assign (.Name a pa) env, assign (.Name b pb) env] [x, y]) _ _ _
  refine assignInOrder_cons (wpAny_assign_Name (wpAny_mono (h h₁ (F.keeps up₁) (N.grown up₁)) (fun _ s₁ h₁ => ?_) fun _ _ e => e))
  refine assignInOrder_cons (wpAny_assign_Name (wpAny_mono h₁ (fun _ s₂ h₂ => ?_) fun _ _ e => e))
  exact assignInOrder_nil h₂
def abc' : List Str := [Str.ofString "a", Str.ofString "b", Str.ofString "c"]
/-- entering a lambda -/
theorem enterL {prog : Program} {w : World} {A : Around} {s : Shared} {f c' : Addr} {qual : Str} {params : Arguments} {body : Expr} {scope : Scope} {cl : List (Str × Addr)} {pm ctv : Value} {Q E : Value → Shared → Prop}
    (hf : s.heap.get? f = some (kla_obj "<lambda>" qual params body scope cl pm c' ctv)) (hcd : s.heap.CodeRec (.ref c') qual) (hlim : s.heap.NoLimit) (hroom : A.depth < recursionLimit) (hbind : bindArgs (kla_fn "<lambda>" qual params body scope cl pm (.ref c') ctv) ⟨[], []⟩ = pure [])
    (h : ∀ L h₁, Fr s.heap L h₁ (fun y => ([] : List (Str × Value)).reverse.lookup y) → News s.heap L h₁ [] →
      wpAny (model prog w) (A.deeper (envX qual scope L f (.ref c') cl)) (eval body (envX qual scope L f (.ref c') cl)) (fun v s' => Q v s')
        (fun e s' => wpAny (model prog w) (A.deeper (envX qual scope L f (.ref c') cl)) (leaving (envX qual scope L f (.ref c') cl) e) (fun _ s'' => E e s'') (fun e' s'' => E e' s'') s') { s with heap := h₁, toks := s.toks + ([] : List (Str × Value)).length })
    (hco : scope.isCoroutine = false) (hgen : scope.isGenerator = false) (hk : scope.kind = .function) (hcell : ∀ x ∈ scope.names, x.2 ≠ .cell) : wpAny (model prog w) A (call (.ref f) []) Q E s := by
  refine wpAny_call (kla_callFunE hroom hf rfl hco hgen rfl hcd ?_)
  rw [hbind]
  refine wpAny_pure (wpAny_newFunctionEnv hcell (fun _ h => nomatch h) (fun h₁ hns hsb => ⟨hlim.fresh _ hsb, ?_⟩) hk)
  have hk₁ : ∀ b o, s.heap.get? b = some o → h₁.get? b = some o := fun b o e => hsb.extBut b o (Nat.ne_of_lt (Heap.lt_size e)) (Heap.get?_push_of_some _ e)
  exact kla_codeExpr (h s.heap.objs.size h₁ ⟨hns, hk₁, Nat.le_refl _⟩ News.nil)
theorem below_push {A : Around} {base h h1 : Heap} {outer : List Env} {env : Env} {L : Addr} {m : Str → Option Value} (K : Below A base outer h) (F : Fr h L h1 m) (hk : env.scope.kind ≠ .module) (hf : env.frame = some L) : Below (A.deeper env) base (env :: outer) h1 := by
  refine ⟨Around.frames_deeper K.stack, fun b o e => F.keep _ _ (K.stays b o e), Heap.FunFrames.cons hk hf F.ns ?_ (K.frames.of_keeps fun b o e _ => ⟨o, F.keep _ _ e, rfl⟩)⟩
  cases q : base.get? L with
  | none => rfl
  | some o => exact absurd (Nat.lt_of_lt_of_le (Heap.lt_size (K.stays L o q)) F.above) (Nat.lt_irrefl _)
theorem abc_ok : ∀ x ∈ abc', x.length ≤ 1000 ∧ PyData.strOk x = true := by decide +kernel
theorem nameX_B {M : Model} {A : Around} {E : Value → Shared → Prop} {s : Shared} {h₀ : Heap} {L a c : Addr} {m : Str → Option Value} {cn : Str} {cs : Scope} {ccd v : Value} {cl : List (Str × Addr)} {x : Str} {pos : Pos} {o : Obj} {Q : Value → Shared → Prop}
    (F : Fr h₀ L s.heap m) (hc : cl.lookup x = some c) (ho : h₀.get? c = some o) (hd : o.data = .cell (some v)) (h : Q v s)
    (hk : cs.kind = .function := by rfl) (hx : (envX cn cs L a ccd cl).kindOf x = some .free := by rfl) (hb : (x == ("__debug__" : Str)) = false := by decide) (hn : (x == ("__classdict__" : Str)) = false := by decide) :
    wpAny M A (eval (.Name x pos) (envX cn cs L a ccd cl)) Q E s := wpAny_Name (wpAny_loadName_free hk hx hc ⟨o, F.keep _ _ ho, hd⟩ h hn) hb
theorem c_takeC {w : World} {A : Around} {s : Shared} {h₀ : Heap} {L : Addr} {m : Str → Option Value} {news : List (Addr × Obj)} {g : Obj → List (Addr × Obj)} {src : Addr} {a b top c : Int} {ta tb t : Tok} {n : Nat} {Q Ex : Value → Shared → Prop} {p : Program} {loose : List Str} {mg mb : Str → Option Value}
    (F : Fr h₀ L s.heap m) (N : News h₀ L s.heap news) (X : (heapK w.params).In h₀) (T : TopRead p loose mg mb h₀) (hroom : A.depth + 5 < recursionLimit) (U : UpdF src (lsn [.int a ta, .int b tb] n) news g) (ha : 0 ≤ a) (hb : 0 ≤ b ∧ b < 2147483648) (hw : takeV a b top = c) (ht : 0 < top ∧ top < 100) (k : ∀ h' tk' t' a' b' ta' tb' n', Fr h₀ L h' m → News h₀ L h' (g (lsn [.int a' ta', .int b' tb'] n')) → 0 ≤ a' → 0 ≤ b' ∧ b' < 2147483648 → Q (.int c t') { s with heap := h', toks := tk' }) :
    wpAny (model PR w) A (call (.ref 225) [.ref src, .int top t]) Q Ex s :=
  c_take F N X T hroom U ha hb ht fun h' tk' v t' a' b' ta' tb' n' F' N' e _ ha' hb' => by
    subst e
    rw [hw]
    exact k h' tk' t' a' b' ta' tb' n' F' N' ha' hb'
end Mine
theorem Mine.wordsM111 : True := by
  k_with "!eval Name" => (k_here; kc_free; k_dflt (refine' Mine.nameX_B (by k_asm) (by exact rfl) (by with_reducible assumption) (by k_asm) ?_ (by rfl) (by rfl); k_whole))
  k_with "!assign Tuple" => (k_here; k_dflt (refine' Mine.assign_pairW (by k_asm) (by k_asm) (by k_extra "M handled") (by k_extra "M memL") (by exact rfl) (by exact rfl) ?_ ); (try (rename Mine.LtA _ _ => lz9; clear lz9)); intro h' F' N'; (replace N' := Mine.news_tail N'); (try k_sweep))
  k_with "!call ref" => (k_here; (with_reducible show wpAny _ _ (call (Value.ref 232) _) _ _ _); k_dflt ((refine' Mine.c_oneR (by k_asm) (by k_asm) (by k_asm) (by k_asm) (by k_extra "M room") (by k_updF) (by with_reducible assumption) (by with_reducible assumption) (by k_extra "M listhere") (by exact rfl) (by k_ne) (by exact rfl) ?_); (try (rename Mine.LtA _ _ => lz9; clear lz9)); (intro h' tk' x' a' b' ta' tb' n' F' N' hx' ha' hb'; (try dsimp only at N'); (replace N' := Mine.news_tail N'); (try k_sweep))))
  k_with "!call ref" => (k_here; (with_reducible show wpAny _ _ (call (Value.ref 232) _) _ _ _); k_dflt ((refine' Mine.c_oneS (by k_asm) (by k_asm) (by k_asm) (by k_asm) (by k_extra "M room") (by k_updF) (by with_reducible assumption) (by with_reducible assumption) (by k_extra "M listhere") (by exact rfl) (by k_ne) (by exact rfl) ?_); (try (rename Mine.LtA _ _ => lz9; clear lz9)); (intro h' tk' x' t' a' b' ta' tb' n' F' N' hx' ha' hb'; (try dsimp only at N'); (replace N' := Mine.news_tail N'); (try k_sweep))))
  k_with "!call ref" => (k_here; (with_reducible show wpAny _ _ (call (Value.ref 103) _) _ _ _); k_dflt ((refine' Mine.c_elO (by k_asm) (by k_asm) (by k_asm) (by k_asm) (by k_extra "M room") (by k_updF) (by k_asm) (by with_reducible assumption) (by with_reducible assumption) (by with_reducible assumption) (by with_reducible assumption) (by exact rfl) ?_); (intro h' tk' o' F' N' hd'; (try dsimp only at N'); (try k_sweep))))
  k_with "!eval Lambda" => (k_here; kn_here; k_dflt (refine' kla_eval (by exact rfl) ?_ ); (first | (k_dflt (refine' kla_nest (by k_asm) (by k_asm) (by k_asm) (by kn_code) (by exact rfl) (by k_updF) (by assumption) (by assumption) (by exact rfl) ?_; k_whole); intro f' c' oc' vs' t' ct' h' tk' F' N' d1' d2' l1 l2; (try dsimp only at N'); (try k_lt l1); (try k_lt2 l2)) | (k_dflt (refine' kla_hit (by k_asm) (by k_asm) (by k_asm) (by kn_code) (by exact rfl) (by k_mem) (by assumption) (by assumption) (by exact rfl) ?_; k_whole); intro f' ct' h' tk' F' N' l1; (try dsimp only at N'); (try k_lt l1))))
  k_with "!call ref" => (k_here; (with_reducible show wpAny _ _ (call (Value.ref 225) _) _ _ _); k_dflt ((refine' Mine.c_takeC (by k_asm) (by k_asm) (by k_asm) (by k_asm) (by k_extra "M room") (by k_updF) (by with_reducible assumption) (by with_reducible assumption) (by with_reducible assumption) (by first | with_reducible assumption | decide) ?_); (intro h' tk' t' a' b' ta' tb' n' F' N' ha' hb'; (try dsimp only at N'); (try k_sweep))))
  trivial

namespace Mine
theorem fillM11 : PySem.Challenge.rw_on0181_01 = PySem.Challenge.rw_on0181_01 ∧ heapK = heapK := by
  k_fill
  exact ⟨rfl, rfl⟩
def abc : List Str := [Str.ofString "a", Str.ofString "b", Str.ofString "c"]
theorem ne_of_old {h : Heap} {a c : Addr} {o : Obj} (h1 : h.get? a = some o) (h2 : h.get? c = none) : c ≠ a := fun q => by rw [q, h1] at h2; cases h2
theorem reads3 {h : Heap} {x a b c c0 : Addr} {t1 t2 t3 : Tok} {n1 n2 n3 n4 : Nat} (hy : Value.ref x ∈ [Value.ref a, .ref b, .ref c])
    (ha : h.get? a = some { cls := .type "tuple", data := .seq #[.str (Str.ofString "empty") t1] n1 }) (hb : h.get? b = some { cls := .type "tuple", data := .seq #[.str (Str.ofString "any") t2] n2 })
    (h0 : h.get? c0 = some { cls := .type "tuple", data := .seq #[] n3 }) (hc : h.get? c = some { cls := .type "tuple", data := .seq #[.str (Str.ofString "mixed") t3, .ref c0] n4 }) :
    ∃ e as, Reads h (.ref x) e as ∧ SeqAt.shaped e = true := by
  simp only [List.mem_cons, Value.ref.injEq, List.not_mem_nil, or_false] at hy
  rcases hy with rfl | rfl | rfl
  · exact ⟨_, _, reads_tuple_at ha rfl rfl (.cons (Reads.str _ _) .nil), by decide +kernel⟩
  · exact ⟨_, _, reads_tuple_at hb rfl rfl (.cons (Reads.str _ _) .nil), by decide +kernel⟩
  · exact ⟨_, _, reads_tuple_at hc rfl rfl (.cons (Reads.str _ _) (.cons (reads_tuple_at h0 rfl rfl .nil) .nil)), by decide +kernel⟩
theorem abc_of {t1 t2 t3 : Tok} {x : Str} (h : x ∈ strsOf [Value.str (Str.ofString "a") t1, .str (Str.ofString "b") t2, .str (Str.ofString "c") t3]) : x ∈ abc' := h
theorem c_decl0 {w : World} {A : Around} {s : Shared} {g0 : Heap} {outer : List Env} {Lw src D R E At Nt M Rr Nl : Addr} {a b turn : Int} {ta tb tt : Tok} {n : Nat} {ps : Array Value} {oE oM : Obj} {kvE kvM : List (Str × Value)} {Q Ex : Value → Shared → Prop} {p : Program} {loose : List Str} {mean : ExcName → Option Value} {mg mb : Str → Option Value}
    (K : Below A (hideAll s.heap [Lw]) outer s.heap) (kg : Kp g0 s.heap) (gL : g0.get? Lw = none) (g246 : g0.get? 246 = none) (gsrc : g0.get? src = none) (gE : g0.get? E = none) (gM : g0.get? M = none)
    (X : (heapK w.params).In g0) (T : Top p loose mean mg mb g0) (C : CodeHd g0 248 246) (hroom : A.depth + 200 < recursionLimit) (hh : A.handled = none)
    (hw : takeV a b 4 = 0) (hs : s.heap.get? src = some (lsn [.int a ta, .int b tb] n)) (ha : 0 ≤ a) (hb : 0 ≤ b ∧ b < 2147483648)
    (ht : s.heap.get? 246 = some (tabObj ps)) (hps : TriplesOk ps.toList)
    (hD : DtdAt g0 D E At Nt) (hR : RowsAt w g0 R M Rr Nl) (hE : s.heap.get? E = some oE) (dE : oE.IsDictOf (strKind PR w) kvE) (lE : (E == sysModules) = false) (hM : s.heap.get? M = some oM) (dM : oM.IsDictOf (strKind PR w) kvM) (lM : (M == sysModules) = false)
    (hEM : ∀ x, (valueAt kvE x).isSome = (valueAt kvM x).isSome) (zE : kvE.length ≤ sizeLine) (zM : kvM.length ≤ sizeLine)
    (n1 : @Ne Nat src E) (n2 : @Ne Nat src M) (n3 : @Ne Nat E M) (n4 : @Ne Nat src 246) (n5 : @Ne Nat E 246) (n6 : @Ne Nat M 246) (n7 : @Ne Nat Lw 246) (n8 : @Ne Nat Lw src) (n9 : @Ne Nat Lw E) (n10 : @Ne Nat Lw M)
    {oL : Obj} (hL : s.heap.get? Lw = some oL) (hLd : ∀ vs, oL.data ≠ .fields vs)
    (hlam : LamOk g0 ps posE (Str.ofString "_law_declared.<locals>.<lambda>"))
    (k1 : ∀ h' tk' x mv a' b' ta' tb' n' oE' oM', (∀ z o, z ∉ [src, E, M] → s.heap.get? z = some o → h'.get? z = some o) → h'.get? src = some (lsn [.int a' ta', .int b' tb'] n') → 0 ≤ a' → 0 ≤ b' ∧ b' < 2147483648 →
      h'.get? E = some oE' → oE'.IsDictOf (strKind PR w) (stored kvE x (.ref mv)) → h'.get? M = some oM' → oM'.IsDictOf (strKind PR w) (stored kvM x (.ref mv)) → x ∈ abc' → (valueAt kvM x).isSome = false → (∃ e as, Reads (newOf s.heap h') (.ref mv) e as ∧ SeqAt.shaped e = true) → Q (.bool true) { s with heap := h', toks := tk' })
    (k2 : ∀ h' tk' a' b' ta' tb' n' ps', (∀ z o, z ∉ [Lw, src, 246] → s.heap.get? z = some o → h'.get? z = some o) → (∀ o, s.heap.get? Lw = some o → ∃ sl, h'.get? Lw = some { o with slots := sl }) →
      h'.get? src = some (lsn [.int a' ta', .int b' tb'] n') → 0 ≤ a' → 0 ≤ b' ∧ b' < 2147483648 → h'.get? 246 = some (tabObj ps') → (ps' = ps ∨ (codeAmong posE ps.toList = none ∧ ∃ c', ps' = ps ++ #[rawInt 135, rawInt 35, .ref c'] ∧ (newOf s.heap h').CodeRec (.ref c') (Str.ofString "_law_declared.<locals>.<lambda>"))) → Q (.bool true) { s with heap := h', toks := tk' }) :
    wpAny (model PR w) A (call (.ref 249) [.ref src, .ref D, .ref R, .int turn tt]) Q Ex s := by
  have Xs := X.keeps kg
  have Ts := (topRead_of T).keeps kg
  have kg1 : Kp g0 (hideAll s.heap [src]) := fun x o e => hideAll_get _ (kg x o e) fun hm => by
    rw [List.mem_singleton.mp hm, gsrc] at e; cases e
  have up1 : ∀ z o, z ≠ src → s.heap.get? z = some o → (hideAll s.heap [src]).get? z = some o := fun z o hz e => hideAll_get _ e fun hm => hz (List.mem_singleton.mp hm)
  have X1 := X.keeps kg1
  have T1 := T.keeps kg1
  have hD1 := hD.kp kg1
  have hR1 : RowsAt w _ R M Rr Nl := SD.kp hR kg1
  have ht1 := up1 _ _ (fun q => n4 q.symm) ht
  have hE1 := up1 _ _ (fun q => n1 q.symm) hE
  have hM1 := up1 _ _ (fun q => n2 q.symm) hM
  have hSM : SD w _ M kvM := ⟨lM, Heap.dictOf_iff.mpr ⟨oM, hM1, dM⟩⟩
  have hSE : SD w _ E kvE := ⟨lE, Heap.dictOf_iff.mpr ⟨oE, hE1, dE⟩⟩
  obtain ⟨dD, q1, q2, q3, q4, t1, t2, t3, t4, t5, nn, hD2, hD3⟩ := hD1.it
  have vm := rows_m (M := M) (Rr := Rr) (Nl := Nl)
  unfold RowsAt at hR1
  k_dflt (refine' enterC [("source", .ref src), ("dtd", .ref D), ("rows", .ref R), ("turn", .int turn tt)] ?X ?T ?ho ?hcd ?hroom ?hbind ?hkind ?hnd ?_ ?c2 ?c3 ?c4; (case X => exact Xs); (case T => exact Ts.nolimit); k_extra "M enterC2")
  intro L' h' tk' cells' F' N' Y'
  try dsimp only [Mine.bodOf, Mine.scoOf, Mine.parOf, Mine.topS, Mine.inS, Mine.stAt, PySem.Challenge.pw_on0181_01] at *
  k_cells Y'
  obtain ⟨F2, N2, ne2⟩ := rebase F' N' [(src, lsn [.int a ta, .int b tb] n)] (fun p hp => by rw [List.mem_singleton.mp hp]; exact hs)
  have ne4 := ne2 _ (.head _)
  replace ne4 := neA_of ne4
  try dsimp only [Mine.adr] at ne4
  change Fr (hideAll s.heap [src]) _ _ _ at F2
  change News (hideAll s.heap [src]) _ _ _ at N2
  simp only [List.cons_append, List.nil_append] at N2
  clear F' N' ne2
  generalize hg1 : hideAll s.heap [src] = g1 at *
  try dsimp only [Mine.bodOf, Mine.scoOf, Mine.parOf, Mine.topS, Mine.inS, Mine.stAt, PySem.Challenge.pw_on0181_01] at *
  try k_fold
  have T1r := topRead_of T1
  k_steps
  · rename Fr _ _ _ _ => F3
    rename News _ _ _ _ => N3
    rename (valueAt kvM _).isSome = true => hin
    rename _ ∈ strsOf [Value.str (Str.ofString "a") _, _, _] => hx9
    obtain ⟨F4, N4, ne5⟩ := rebase F3 N3 [(246, tabObj ps)] (fun p hp => by rw [List.mem_singleton.mp hp]; exact ht1)
    replace ne5 := ne5 _ (.head _)
    replace ne5 := neA_of ne5
    try dsimp only [Mine.adr] at ne5
    change Fr (hideAll g1 [246]) _ _ _ at F4
    change News (hideAll g1 [246]) _ _ _ at N4
    simp only [List.cons_append, List.nil_append] at N4
    have kg2 : Kp g0 (hideAll g1 [246]) := fun x o e => hideAll_get _ (kg1 x o e) fun hm => by
      rw [List.mem_singleton.mp hm, g246] at e; cases e
    have up2 : ∀ z o, z ≠ 246 → g1.get? z = some o → (hideAll g1 [246]).get? z = some o := fun z o hz e => hideAll_get _ e fun hm => hz (List.mem_singleton.mp hm)
    have X2 := X.keeps kg2
    have T2 := T.keeps kg2
    have C2 := C.keeps kg2
    have T2r := topRead_of T2
    clear F3 N3 X1 T1 T1r hSM hR1
    generalize hg2 : hideAll g1 [246] = g2 at *
    rcases hlam with hnf | ⟨c1, hf, hcr⟩
    · k_steps
      rename _ = some (Value.str _ _) => hcv
      rename Obj.data _ = Data.fields _ => hcf
      rename Fr _ _ _ _ => F5
      rename News _ _ _ _ => N5
      obtain ⟨h5, eh5⟩ : ∃ h5 : Heap, h5 = (fun {L : Addr} {g h : Heap} {m : Str → Option Value} (_ : Fr g L h m) => h) F5 := ⟨_, rfl⟩
      dsimp only at eh5
      subst eh5
      have gL' : g0.get? L' = none := none_kp kg2 (Heap.get?_none_of_le F5.above)
      have kgb : Kp g0 (hideAll h5 [Lw, L']) := fun x o e => hideAll_get _ (F5.keep _ _ (kg2 x o e)) fun hm => by
        rcases List.mem_cons.mp hm with q | q
        · rw [q, gL] at e; cases e
        · rw [List.mem_singleton.mp q, gL'] at e; cases e
      have old5 : ∀ z o, z ≠ src → z ≠ 246 → s.heap.get? z = some o → h5.get? z = some o := fun z o h1 h2 e => F5.keep _ _ (up2 _ _ h2 (up1 _ _ h1 e))
      have oldL : ∀ z o, z ≠ src → z ≠ 246 → s.heap.get? z = some o → z ≠ L' := fun z o h1 h2 e q => by
        have := up2 _ _ h2 (up1 _ _ h1 e)
        rw [q, Heap.get?_none_of_le F5.above] at this; cases this
      have fobj := N5 _ (.head _)
      have srcm := News.get N5 (a := src) (by k_extra "M memL")
      have tabm := News.get N5 (a := 246) (by k_extra "M memL")
      have cel1 := News.get N5 (a := L' + 1) (by k_extra "M memL")
      have cel2 := News.get N5 (a := L' + 1 + 1) (by k_extra "M memL")
      have cel3 := News.get N5 (a := L' + 1 + 1 + 1) (by k_extra "M memL")
      have cel4 := News.get N5 (a := L' + 1 + 1 + 1 + 1) (by k_extra "M memL")
      have cN := N5 _ (.tail _ (.head _))
      have cnew : s.heap.get? _ = none := unhide (hg1 ▸ unhide (hg2 ▸ cN.2.2) (fun q => absurd (List.mem_singleton.mp q) (by k_ne))) (fun q => absurd (List.mem_singleton.mp q) (by k_ne))
      have cnL := ne_of_old hL cnew
      have hE5 := old5 _ _ (fun q => n1 q.symm) n5 hE
      have hL5 := old5 _ _ n8 n7 hL
      have hcd5 : h5.CodeRec _ _ := ⟨_, _, _, _, rfl, (N5 _ (.tail _ (.head _))).1, hcf, hcv⟩
      have hD5 := hD.kp kgb
      have hsz : s.heap.objs.size ≤ L' := by
        have := F5.above
        rw [← hg2, hideAll_size, ← hg1, hideAll_size] at this
        exact this
      refine' c_refused (base := hideAll h5 [Lw, L']) ?r1K ?r1hz ?r1X ?r1T ?r1room ?r1hh ?r1deed ?r1lam ?r1k
      case r1K => exact below_at K (fun o e => old5 _ _ n8 n7 e) (fun q => by cases q) rfl F5.ns
      case r1hz => exact Nat.le_of_eq (hideAll_size _ _)
      case r1X => exact X.keeps kgb
      case r1T => exact (topRead_of T).keeps kgb
      case r1room => exact Nat.lt_of_le_of_lt (by show A.depth + 1 + 100 ≤ A.depth + 200; exact Nat.le_of_lt (Nat.add_lt_add_left (by decide : 101 < 200) A.depth)) hroom
      case r1hh => exact hh
      case r1lam => exact ⟨_, _, fobj.1, rfl⟩
      case r1deed =>
        intro A' s' outer' K' kp hdep hhan Q' Ex' kk
        have kgs : Kp g0 s'.heap := fun x o e => kp _ _ (of_hideAll _ (kgb x o e))
        have Xs' := X.keeps kgs
        have Ts' := (topRead_of T).keeps kgs
        refine enterL (kp _ _ fobj.1) (hcd5.keeps kp) Ts'.nolimit (Nat.lt_of_le_of_lt (Nat.le_of_eq hdep) (Nat.lt_of_le_of_lt (Nat.le_of_lt (Nat.add_lt_add_left (by decide : 2 < 200) A.depth)) hroom)) rfl ?_ rfl rfl rfl (by decide)
        intro L7 h7 F7 N7
        replace cel1 := kp _ _ cel1
        replace cel2 := kp _ _ cel2
        replace cel3 := kp _ _ cel3
        replace cel4 := kp _ _ cel4
        replace hE5 := kp _ _ hE5
        replace hD5 := hD.kp kgs
        obtain ⟨dD', q1', q2', q3', q4', t1', t2', t3', t4', t5', nn', hD2', hD3'⟩ := id hD5
        obtain ⟨ks1, ks2, ks3⟩ := K'
        clear F5 N5 fobj srcm tabm hD2 hD3 F4 N4 X2 T2 T2r C2 K C T
        try dsimp only [Mine.bodOf, Mine.scoOf, Mine.parOf, Mine.topS, Mine.inS, Mine.stAt, PySem.Challenge.pw_on0181_01]
        try k_fold
        k_steps
        rename Fr _ _ _ _ => F8
        refine' c_elR (base := hideAll h5 [Lw, L']) (kvE := kvE) ?e1K ?e1X ?e1T ?e1room ?e1hh ?e1D ?e1E ?e1x ?e1l ?e1m ?e1k
        case e1K => exact below_push ⟨ks1, ks2, ks3⟩ F8 (fun q => by cases q) rfl
        case e1X => exact Xs'.keeps F8.keep
        case e1T => exact Ts'.keeps F8.keep
        case e1room => exact Nat.lt_of_le_of_lt (by show A'.depth + 1 + 50 ≤ A.depth + 200; rw [hdep]; show A.depth + 1 + 1 + 1 + 50 ≤ A.depth + 200; exact Nat.add_le_add_left (by decide : 53 ≤ 200) _) hroom
        case e1hh => exact hhan
        case e1D => exact hD5.kp F8.keep
        case e1E => exact ⟨lE, Heap.dictOf_iff.mpr ⟨oE, F8.keep _ _ hE5, dE⟩⟩
        case e1x => rw [hEM]; exact hin
        case e1l => exact (abc_ok _ hx9).1
        case e1m => exact rfl
        case e1k =>
          intro h9 tk9 e dx y f u m1 m2
          refine air_leave (Around.frames_deeper ks1) rfl y fun h10 y10 u10 => ?_
          exact kk h10 tk9 e dx y10 (f.up u10) (((Heap.UpToSlots.of_keeps F8.keep).trans u).trans u10) (none_kp F8.keep m1) (none_kp F8.keep m2)
      case r1k =>
        intro h6 tk6 st u6
        have tol : ∀ z o, z ≠ Lw → z ≠ L' → h5.get? z = some o → h6.get? z = some o := fun z o h1 h2 e => st z o (hideAll_get _ e fun hm => by
          rcases List.mem_cons.mp hm with q | q
          · exact h1 q
          · exact h2 (List.mem_singleton.mp q))
        refine k2 h6 _ _ _ _ _ _ _ (fun z o hz e => ?_) (fun o e => ?_) (tol _ _ (fun q => n8 q.symm) (Nat.ne_of_lt (Nat.lt_of_lt_of_le (Heap.lt_size hs) hsz)) srcm) (by assumption) (by assumption) (tol _ _ (fun q => n7 q.symm) (Nat.ne_of_lt (Nat.lt_of_lt_of_le (Heap.lt_size ht) hsz)) tabm) ?_
        · simp only [List.mem_cons, List.not_mem_nil, or_false, not_or] at hz
          exact tol z o hz.1 (oldL z o hz.2.1 hz.2.2 e) (old5 z o hz.2.1 hz.2.2 e)
        · obtain rfl : oL = o := by rw [hL] at e; exact Option.some.inj e
          exact u6 Lw oL hL5 hLd
        · exact .inr ⟨hnf, _, rfl, _, _, _, _, rfl, newOf_get (tol _ _ cnL cN.2.1 cN.1) cnew, hcf, hcv⟩
    · k_steps
      rename Fr _ _ _ _ => F5
      rename News _ _ _ _ => N5
      obtain ⟨h5, eh5⟩ : ∃ h5 : Heap, h5 = (fun {L : Addr} {g h : Heap} {m : Str → Option Value} (_ : Fr g L h m) => h) F5 := ⟨_, rfl⟩
      dsimp only at eh5
      subst eh5
      have gL' : g0.get? L' = none := none_kp kg2 (Heap.get?_none_of_le F5.above)
      have kgb : Kp g0 (hideAll h5 [Lw, L']) := fun x o e => hideAll_get _ (F5.keep _ _ (kg2 x o e)) fun hm => by
        rcases List.mem_cons.mp hm with q | q
        · rw [q, gL] at e; cases e
        · rw [List.mem_singleton.mp q, gL'] at e; cases e
      have old5 : ∀ z o, z ≠ src → z ≠ 246 → s.heap.get? z = some o → h5.get? z = some o := fun z o h1 h2 e => F5.keep _ _ (up2 _ _ h2 (up1 _ _ h1 e))
      have oldL : ∀ z o, z ≠ src → z ≠ 246 → s.heap.get? z = some o → z ≠ L' := fun z o h1 h2 e q => by
        have := up2 _ _ h2 (up1 _ _ h1 e)
        rw [q, Heap.get?_none_of_le F5.above] at this; cases this
      have fobj := N5 _ (.head _)
      have srcm := News.get N5 (a := src) (by k_extra "M memL")
      have tabm := News.get N5 (a := 246) (by k_extra "M memL")
      have cel1 := News.get N5 (a := L' + 1) (by k_extra "M memL")
      have cel2 := News.get N5 (a := L' + 1 + 1) (by k_extra "M memL")
      have cel3 := News.get N5 (a := L' + 1 + 1 + 1) (by k_extra "M memL")
      have cel4 := News.get N5 (a := L' + 1 + 1 + 1 + 1) (by k_extra "M memL")
      have hE5 := old5 _ _ (fun q => n1 q.symm) n5 hE
      have hL5 := old5 _ _ n8 n7 hL
      have hcd5 : h5.CodeRec _ _ := hcr.keeps (fun x o e => F5.keep _ _ (kg2 x o e))
      have hD5 := hD.kp kgb
      have hsz : s.heap.objs.size ≤ L' := by
        have := F5.above
        rw [← hg2, hideAll_size, ← hg1, hideAll_size] at this
        exact this
      refine' c_refused (base := hideAll h5 [Lw, L']) ?r2K ?r2hz ?r2X ?r2T ?r2room ?r2hh ?r2deed ?r2lam ?r2k
      case r2K => exact below_at K (fun o e => old5 _ _ n8 n7 e) (fun q => by cases q) rfl F5.ns
      case r2hz => exact Nat.le_of_eq (hideAll_size _ _)
      case r2X => exact X.keeps kgb
      case r2T => exact (topRead_of T).keeps kgb
      case r2room => exact Nat.lt_of_le_of_lt (by show A.depth + 1 + 100 ≤ A.depth + 200; exact Nat.le_of_lt (Nat.add_lt_add_left (by decide : 101 < 200) A.depth)) hroom
      case r2hh => exact hh
      case r2lam => exact ⟨_, _, fobj.1, rfl⟩
      case r2deed =>
        intro A' s' outer' K' kp hdep hhan Q' Ex' kk
        have kgs : Kp g0 s'.heap := fun x o e => kp _ _ (of_hideAll _ (kgb x o e))
        have Xs' := X.keeps kgs
        have Ts' := (topRead_of T).keeps kgs
        refine enterL (kp _ _ fobj.1) (hcd5.keeps kp) Ts'.nolimit (Nat.lt_of_le_of_lt (Nat.le_of_eq hdep) (Nat.lt_of_le_of_lt (Nat.le_of_lt (Nat.add_lt_add_left (by decide : 2 < 200) A.depth)) hroom)) rfl ?_ rfl rfl rfl (by decide)
        intro L7 h7 F7 N7
        replace cel1 := kp _ _ cel1
        replace cel2 := kp _ _ cel2
        replace cel3 := kp _ _ cel3
        replace cel4 := kp _ _ cel4
        replace hE5 := kp _ _ hE5
        replace hD5 := hD.kp kgs
        obtain ⟨dD', q1', q2', q3', q4', t1', t2', t3', t4', t5', nn', hD2', hD3'⟩ := id hD5
        obtain ⟨ks1, ks2, ks3⟩ := K'
        clear F5 N5 fobj srcm tabm hD2 hD3 F4 N4 X2 T2 T2r C2 K C T
        try dsimp only [Mine.bodOf, Mine.scoOf, Mine.parOf, Mine.topS, Mine.inS, Mine.stAt, PySem.Challenge.pw_on0181_01]
        try k_fold
        k_steps
        rename Fr _ _ _ _ => F8
        refine' c_elR (base := hideAll h5 [Lw, L']) (kvE := kvE) ?e2K ?e2X ?e2T ?e2room ?e2hh ?e2D ?e2E ?e2x ?e2l ?e2m ?e2k
        case e2K => exact below_push ⟨ks1, ks2, ks3⟩ F8 (fun q => by cases q) rfl
        case e2X => exact Xs'.keeps F8.keep
        case e2T => exact Ts'.keeps F8.keep
        case e2room => exact Nat.lt_of_le_of_lt (by show A'.depth + 1 + 50 ≤ A.depth + 200; rw [hdep]; show A.depth + 1 + 1 + 1 + 50 ≤ A.depth + 200; exact Nat.add_le_add_left (by decide : 53 ≤ 200) _) hroom
        case e2hh => exact hhan
        case e2D => exact hD5.kp F8.keep
        case e2E => exact ⟨lE, Heap.dictOf_iff.mpr ⟨oE, F8.keep _ _ hE5, dE⟩⟩
        case e2x => rw [hEM]; exact hin
        case e2l => exact (abc_ok _ hx9).1
        case e2m => exact rfl
        case e2k =>
          intro h9 tk9 e dx y f u m1 m2
          refine air_leave (Around.frames_deeper ks1) rfl y fun h10 y10 u10 => ?_
          exact kk h10 tk9 e dx y10 (f.up u10) (((Heap.UpToSlots.of_keeps F8.keep).trans u).trans u10) (none_kp F8.keep m1) (none_kp F8.keep m2)
      case r2k =>
        intro h6 tk6 st u6
        have tol : ∀ z o, z ≠ Lw → z ≠ L' → h5.get? z = some o → h6.get? z = some o := fun z o h1 h2 e => st z o (hideAll_get _ e fun hm => by
          rcases List.mem_cons.mp hm with q | q
          · exact h1 q
          · exact h2 (List.mem_singleton.mp q))
        refine k2 h6 _ _ _ _ _ _ _ (fun z o hz e => ?_) (fun o e => ?_) (tol _ _ (fun q => n8 q.symm) (Nat.ne_of_lt (Nat.lt_of_lt_of_le (Heap.lt_size hs) hsz)) srcm) (by assumption) (by assumption) (tol _ _ (fun q => n7 q.symm) (Nat.ne_of_lt (Nat.lt_of_lt_of_le (Heap.lt_size ht) hsz)) tabm) ?_
        · simp only [List.mem_cons, List.not_mem_nil, or_false, not_or] at hz
          exact tol z o hz.1 (oldL z o hz.2.1 hz.2.2 e) (old5 z o hz.2.1 hz.2.2 e)
        · obtain rfl : oL = o := by rw [hL] at e; exact Option.some.inj e
          exact u6 Lw oL hL5 hLd
        · exact .inl rfl
  · rename Fr _ _ _ _ => F3
    rename News _ _ _ _ => N3
    rename (valueAt kvM _).isSome = false => hin
    rename _ ∈ strsOf [Value.str (Str.ofString "a") _, _, _] => hx9
    rename Value.ref _ ∈ [_, _, _] => hy9
    have hinE := hin
    rw [← hEM] at hinE
    have w1 := unhide (hg1 ▸ (N3 _ (.head _)).2.2) (fun q => absurd (List.mem_singleton.mp q) (by k_ne))
    have w2 := unhide (hg1 ▸ (N3 _ (.tail _ (.head _))).2.2) (fun q => absurd (List.mem_singleton.mp q) (by k_ne))
    have w3 := unhide (hg1 ▸ (N3 _ (.tail _ (.tail _ (.head _)))).2.2) (fun q => absurd (List.mem_singleton.mp q) (by k_ne))
    have w4 := unhide (hg1 ▸ (N3 _ (.tail _ (.tail _ (.tail _ (.head _))))).2.2) (fun q => absurd (List.mem_singleton.mp q) (by k_ne))
    show wpAny _ _ _ _ _ _
    obtain ⟨F4, N4, ne5⟩ := rebase F3 N3 [(E, oE), (M, oM)] (fun p hp => by
      rcases List.mem_cons.mp hp with q | q
      · rw [q]; exact hE1
      · rw [List.mem_singleton.mp q]; exact hM1)
    have ne6 := ne5 _ (.head _)
    have ne7 := ne5 _ (.tail _ (.head _))
    replace ne6 := neA_of ne6
    try dsimp only [Mine.adr] at ne6
    replace ne7 := neA_of ne7
    try dsimp only [Mine.adr] at ne7
    change Fr (hideAll g1 [E, M]) _ _ _ at F4
    change News (hideAll g1 [E, M]) _ _ _ at N4
    simp only [List.cons_append, List.nil_append] at N4
    have kg2 : Kp g0 (hideAll g1 [E, M]) := fun x o e => hideAll_get _ (kg1 x o e) fun hm => by
      rcases List.mem_cons.mp hm with q | q
      · rw [q, gE] at e; cases e
      · rw [List.mem_singleton.mp q, gM] at e; cases e
    have up2 : ∀ z o, z ≠ E → z ≠ M → g1.get? z = some o → (hideAll g1 [E, M]).get? z = some o := fun z o hz hz2 e => hideAll_get _ e fun hm => by
      rcases List.mem_cons.mp hm with q | q
      · exact hz q
      · exact hz2 (List.mem_singleton.mp q)
    have X2 := X.keeps kg2
    have T2r := (topRead_of T).keeps kg2
    have hD2' := hD.kp kg2
    have hR2 : RowsAt w _ R M Rr Nl := SD.kp hR kg2
    clear F3 N3 X1 T1 T1r hSM hSE hE1 hM1 hR1 hD1 hD2 hD3 ne5 K C T k2 hlam ht1 X hD hR
    obtain ⟨dD', p1, p2, p3, p4, r1, r2, r3, r4, r5, nn', hD3, hD4⟩ := id hD2'
    unfold RowsAt at hR2
    generalize hg2 : hideAll g1 [E, M] = g2 at *
    k_steps
    rename Fr _ _ _ _ => F5
    rename News _ _ _ _ => N5
    have gm1 := News.get N5 (a := E) (by k_extra "M memL")
    have gm2 := News.get N5 (a := M) (by k_extra "M memL")
    have gm3 := N5 _ (.tail _ (.tail _ (.head _)))
    have gm4 := N5 _ (.tail _ (.tail _ (.tail _ (.head _))))
    have gm5 := N5 _ (.tail _ (.tail _ (.tail _ (.tail _ (.head _)))))
    have gm6 := N5 _ (.tail _ (.tail _ (.tail _ (.tail _ (.tail _ (.head _))))))
    have gm7 := N5 _ (.tail _ (.tail _ (.tail _ (.tail _ (.tail _ (.tail _ (.head _)))))))
    refine k1 _ _ _ _ _ _ _ _ _ _ _ (fun z o hz e => ?_) gm7.1 (by assumption) (by assumption) gm1 (by assumption) gm2 (by assumption) (abc_of hx9) hin (reads3 hy9 (newOf_get gm6.1 w4) (newOf_get gm5.1 w3) (newOf_get gm4.1 w2) (newOf_get gm3.1 w1))
    simp only [List.mem_cons, List.not_mem_nil, or_false, not_or] at hz
    exact F5.keep _ _ (up2 _ _ hz.2.1 hz.2.2 (up1 _ _ hz.1 e))
end Mine
theorem Mine.offM12 : True := by
  w_top off
  trivial
set_option maxHeartbeats 2000000
theorem Mine.wordsM121 : True := by
  k_with "!call ref" => (k_here; (with_reducible show wpAny _ _ (call (Value.ref 117) _) _ _ _); k_dflt ((refine' Mine.c_noO (by k_asm) (by k_asm) (by k_asm) (by k_asm) (by k_extra "M room") (by k_extra "M handled") (by k_updF) (by k_asm) (by with_reducible assumption) (by with_reducible assumption) (by with_reducible assumption) (by with_reducible assumption) ?_); (intro h' tk' o' a' dx' od' F' N' ne1' ne2' ne3' nd' hd'; (try dsimp only at N'); (replace ne1' := Mine.neA_of ne1'); (try dsimp only [Mine.adr] at ne1'); (replace ne2' := Mine.neA_of ne2'); (try dsimp only [Mine.adr] at ne2'); (try k_sweep))))
  k_with "!compareOp In str ref" => (k_here; (with_reducible show wpAny _ _ (compareOp CmpOp.In (Value.str _ _) (Value.ref _)) _ _ _); k_dflt (refine in_list_strs (PySem.Heap.IsList.at (by k_asm) fun o e => Fr.keep (by k_asm) _ o e) (by with_reducible assumption) ?_))
  trivial

namespace Mine
theorem fillM12 : PySem.Challenge.rw_on0181_01 = PySem.Challenge.rw_on0181_01 ∧ heapK = heapK := by
  k_fill
  exact ⟨rfl, rfl⟩
abbrev posN : Pos := ⟨141, 35, 141, 86⟩
def gpx : List Str := [Str.ofString "gif", Str.ofString "png", Str.ofString "x"]
theorem gpx_ok : ∀ x ∈ gpx, x.length ≤ 1000 ∧ PyData.strOk x = true := by decide +kernel
theorem gpx_of {t1 t2 t3 : Tok} {x : Str} (h : x ∈ strsOf [Value.str (Str.ofString "gif") t1, .str (Str.ofString "png") t2, .str (Str.ofString "x") t3]) : x ∈ gpx := h
theorem notObj_of {h : Heap} {x : Str} {a dx : Addr} {od : Obj} (e1 : h.get? a = some (instObj 78 dx)) (e2 : h.get? dx = some od) (nd : NotDict x od) : NotObj h (.ref a) x := by
  obtain ⟨k1, k2, k3, t1, t2, t3, u1, u2, u3, n, rfl⟩ := nd
  exact ⟨a, dx, k1, k2, k3, t1, t2, t3, u1, u2, u3, n, rfl, e1, e2⟩
theorem news_isList {h₀ h : Heap} {L a : Addr} {news : List (Addr × Obj)} {ys : List Value} {n : Nat} (N : News h₀ L h news) (m : (a, lsn ys n) ∈ news) : h.IsList a ys.toArray := ⟨_, N.get m, rfl, _, rfl⟩
theorem c_decl1 {w : World} {A : Around} {s : Shared} {g0 : Heap} {outer : List Env} {Lw src D R E At Nt M Rr Nl : Addr} {a b turn : Int} {ta tb tt : Tok} {n : Nat} {ps : Array Value} {oN : Obj} {kvN : List (Str × Value)} {ys : List Value} {nots : List Str} {nl : Nat} {Q Ex : Value → Shared → Prop} {p : Program} {loose : List Str} {mean : ExcName → Option Value} {mg mb : Str → Option Value}
    (K : Below A (hideAll s.heap [Lw]) outer s.heap) (kg : Kp g0 s.heap) (gL : g0.get? Lw = none) (g246 : g0.get? 246 = none) (gsrc : g0.get? src = none) (gNt : g0.get? Nt = none) (gNl : g0.get? Nl = none)
    (X : (heapK w.params).In g0) (T : Top p loose mean mg mb g0) (C : CodeHd g0 248 246) (hroom : A.depth + 200 < recursionLimit) (hh : A.handled = none)
    (hw : takeV a b 4 = 1) (hs : s.heap.get? src = some (lsn [.int a ta, .int b tb] n)) (ha : 0 ≤ a) (hb : 0 ≤ b ∧ b < 2147483648)
    (ht : s.heap.get? 246 = some (tabObj ps)) (hps : TriplesOk ps.toList)
    (hD : DtdAt g0 D E At Nt) (hR : RowsAt w g0 R M Rr Nl) (hN : s.heap.get? Nt = some oN) (dN : oN.IsDictOf (strKind PR w) kvN) (lN : (Nt == sysModules) = false) (hL2 : s.heap.get? Nl = some (lsn ys nl)) (sL2 : StrsAre ys nots)
    (hNN : ∀ x, (valueAt kvN x).isSome = nots.contains x) (zN : kvN.length ≤ sizeLine) (zL : ys.length ≤ 1000)
    (n1 : @Ne Nat src Nt) (n2 : @Ne Nat src Nl) (n3 : @Ne Nat Nt Nl) (n4 : @Ne Nat src 246) (n5 : @Ne Nat Nt 246) (n6 : @Ne Nat Nl 246) (n7 : @Ne Nat Lw 246) (n8 : @Ne Nat Lw src) (n9 : @Ne Nat Lw Nt) (n10 : @Ne Nat Lw Nl)
    {oL : Obj} (hL : s.heap.get? Lw = some oL) (hLd : ∀ vs, oL.data ≠ .fields vs)
    (hlam : LamOk g0 ps posN (Str.ofString "_law_declared.<locals>.<lambda>"))
    (k1 : ∀ h' tk' x t a' b' ta' tb' n' oN' nv nl', (∀ z o, z ∉ [src, Nt, Nl] → s.heap.get? z = some o → h'.get? z = some o) → h'.get? src = some (lsn [.int a' ta', .int b' tb'] n') → 0 ≤ a' → 0 ≤ b' ∧ b' < 2147483648 →
      h'.get? Nt = some oN' → oN'.IsDictOf (strKind PR w) (stored kvN x (.ref nv)) → h'.get? Nl = some (lsn (ys ++ [.str x t]) nl') → x ∈ gpx → nots.contains x = false → NotObj (newOf s.heap h') (.ref nv) x → Q (.bool true) { s with heap := h', toks := tk' })
    (k2 : ∀ h' tk' a' b' ta' tb' n' ps', (∀ z o, z ∉ [Lw, src, 246] → s.heap.get? z = some o → h'.get? z = some o) → (∀ o, s.heap.get? Lw = some o → ∃ sl, h'.get? Lw = some { o with slots := sl }) →
      h'.get? src = some (lsn [.int a' ta', .int b' tb'] n') → 0 ≤ a' → 0 ≤ b' ∧ b' < 2147483648 → h'.get? 246 = some (tabObj ps') → (ps' = ps ∨ (codeAmong posN ps.toList = none ∧ ∃ c', ps' = ps ++ #[rawInt 141, rawInt 35, .ref c'] ∧ (newOf s.heap h').CodeRec (.ref c') (Str.ofString "_law_declared.<locals>.<lambda>"))) → Q (.bool true) { s with heap := h', toks := tk' }) :
    wpAny (model PR w) A (call (.ref 249) [.ref src, .ref D, .ref R, .int turn tt]) Q Ex s := by
  have Xs := X.keeps kg
  have Ts := (topRead_of T).keeps kg
  have kg1 : Kp g0 (hideAll s.heap [src]) := fun x o e => hideAll_get _ (kg x o e) fun hm => by
    rw [List.mem_singleton.mp hm, gsrc] at e; cases e
  have up1 : ∀ z o, z ≠ src → s.heap.get? z = some o → (hideAll s.heap [src]).get? z = some o := fun z o hz e => hideAll_get _ e fun hm => hz (List.mem_singleton.mp hm)
  have X1 := X.keeps kg1
  have T1 := T.keeps kg1
  have hD1 := hD.kp kg1
  have hR1 : RowsAt w _ R M Rr Nl := SD.kp hR kg1
  have ht1 := up1 _ _ (fun q => n4 q.symm) ht
  have hN1 := up1 _ _ (fun q => n1 q.symm) hN
  have hL1 := up1 _ _ (fun q => n2 q.symm) hL2
  have hLL1 : (hideAll s.heap [src]).IsList Nl ys.toArray := ⟨_, hL1, rfl, _, rfl⟩
  obtain ⟨dD, q1, q2, q3, q4, t1, t2, t3, t4, t5, nn, hD2, hD3⟩ := hD1.it
  have vm := rows_n (M := M) (Rr := Rr) (Nl := Nl)
  unfold RowsAt at hR1
  k_dflt (refine' enterC [("source", .ref src), ("dtd", .ref D), ("rows", .ref R), ("turn", .int turn tt)] ?X ?T ?ho ?hcd ?hroom ?hbind ?hkind ?hnd ?_ ?c2 ?c3 ?c4; (case X => exact Xs); (case T => exact Ts.nolimit); k_extra "M enterC2")
  intro L' h' tk' cells' F' N' Y'
  try dsimp only [Mine.bodOf, Mine.scoOf, Mine.parOf, Mine.topS, Mine.inS, Mine.stAt, PySem.Challenge.pw_on0181_01] at *
  k_cells Y'
  obtain ⟨F2, N2, ne2⟩ := rebase F' N' [(src, lsn [.int a ta, .int b tb] n)] (fun p hp => by rw [List.mem_singleton.mp hp]; exact hs)
  have ne4 := ne2 _ (.head _)
  replace ne4 := neA_of ne4
  try dsimp only [Mine.adr] at ne4
  change Fr (hideAll s.heap [src]) _ _ _ at F2
  change News (hideAll s.heap [src]) _ _ _ at N2
  simp only [List.cons_append, List.nil_append] at N2
  clear F' N' ne2
  generalize hg1 : hideAll s.heap [src] = g1 at *
  try dsimp only [Mine.bodOf, Mine.scoOf, Mine.parOf, Mine.topS, Mine.inS, Mine.stAt, PySem.Challenge.pw_on0181_01] at *
  try k_fold
  have T1r := topRead_of T1
  k_steps
  · rename Fr _ _ _ _ => F3
    rename News _ _ _ _ => N3
    rename (List.any nots _) = true => hin0
    rename _ ∈ strsOf [Value.str (Str.ofString "gif") _, _, _] => hx9
    have hin := hin0
    rw [any_contains, ← hNN] at hin
    clear hin0
    obtain ⟨F4, N4, ne5⟩ := rebase F3 N3 [(246, tabObj ps)] (fun p hp => by rw [List.mem_singleton.mp hp]; exact ht1)
    replace ne5 := ne5 _ (.head _)
    replace ne5 := neA_of ne5
    try dsimp only [Mine.adr] at ne5
    change Fr (hideAll g1 [246]) _ _ _ at F4
    change News (hideAll g1 [246]) _ _ _ at N4
    simp only [List.cons_append, List.nil_append] at N4
    have kg2 : Kp g0 (hideAll g1 [246]) := fun x o e => hideAll_get _ (kg1 x o e) fun hm => by
      rw [List.mem_singleton.mp hm, g246] at e; cases e
    have up2 : ∀ z o, z ≠ 246 → g1.get? z = some o → (hideAll g1 [246]).get? z = some o := fun z o hz e => hideAll_get _ e fun hm => hz (List.mem_singleton.mp hm)
    have X2 := X.keeps kg2
    have T2 := T.keeps kg2
    have C2 := C.keeps kg2
    have T2r := topRead_of T2
    clear F3 N3 X1 T1 T1r hR1 hLL1
    generalize hg2 : hideAll g1 [246] = g2 at *
    rcases hlam with hnf | ⟨c1, hf, hcr⟩
    · k_steps
      rename _ = some (Value.str _ _) => hcv
      rename Obj.data _ = Data.fields _ => hcf
      rename Fr _ _ _ _ => F5
      rename News _ _ _ _ => N5
      obtain ⟨h5, eh5⟩ : ∃ h5 : Heap, h5 = (fun {L : Addr} {g h : Heap} {m : Str → Option Value} (_ : Fr g L h m) => h) F5 := ⟨_, rfl⟩
      dsimp only at eh5
      subst eh5
      have gL' : g0.get? L' = none := none_kp kg2 (Heap.get?_none_of_le F5.above)
      have kgb : Kp g0 (hideAll h5 [Lw, L']) := fun x o e => hideAll_get _ (F5.keep _ _ (kg2 x o e)) fun hm => by
        rcases List.mem_cons.mp hm with q | q
        · rw [q, gL] at e; cases e
        · rw [List.mem_singleton.mp q, gL'] at e; cases e
      have old5 : ∀ z o, z ≠ src → z ≠ 246 → s.heap.get? z = some o → h5.get? z = some o := fun z o h1 h2 e => F5.keep _ _ (up2 _ _ h2 (up1 _ _ h1 e))
      have oldL : ∀ z o, z ≠ src → z ≠ 246 → s.heap.get? z = some o → z ≠ L' := fun z o h1 h2 e q => by
        have := up2 _ _ h2 (up1 _ _ h1 e)
        rw [q, Heap.get?_none_of_le F5.above] at this; cases this
      have fobj := N5 _ (.head _)
      have srcm := News.get N5 (a := src) (by k_extra "M memL")
      have tabm := News.get N5 (a := 246) (by k_extra "M memL")
      have cel1 := News.get N5 (a := L' + 1) (by k_extra "M memL")
      have cel2 := News.get N5 (a := L' + 1 + 1) (by k_extra "M memL")
      have cel3 := News.get N5 (a := L' + 1 + 1 + 1) (by k_extra "M memL")
      have cel4 := News.get N5 (a := L' + 1 + 1 + 1 + 1) (by k_extra "M memL")
      have cel5 := News.get N5 (a := L' + 1 + 1 + 1 + 1 + 1) (by k_extra "M memL")
      have cN := N5 _ (.tail _ (.head _))
      have cnew : s.heap.get? _ = none := unhide (hg1 ▸ unhide (hg2 ▸ cN.2.2) (fun q => absurd (List.mem_singleton.mp q) (by k_ne))) (fun q => absurd (List.mem_singleton.mp q) (by k_ne))
      have cnL := ne_of_old hL cnew
      have hN5 := old5 _ _ (fun q => n1 q.symm) n5 hN
      have hL5 := old5 _ _ n8 n7 hL
      have hcd5 : h5.CodeRec _ _ := ⟨_, _, _, _, rfl, (N5 _ (.tail _ (.head _))).1, hcf, hcv⟩
      have hD5 := hD.kp kgb
      have hsz : s.heap.objs.size ≤ L' := by
        have := F5.above
        rw [← hg2, hideAll_size, ← hg1, hideAll_size] at this
        exact this
      refine' c_refused (base := hideAll h5 [Lw, L']) ?r1K ?r1hz ?r1X ?r1T ?r1room ?r1hh ?r1deed ?r1lam ?r1k
      case r1K => exact below_at K (fun o e => old5 _ _ n8 n7 e) (fun q => by cases q) rfl F5.ns
      case r1hz => exact Nat.le_of_eq (hideAll_size _ _)
      case r1X => exact X.keeps kgb
      case r1T => exact (topRead_of T).keeps kgb
      case r1room => exact Nat.lt_of_le_of_lt (by show A.depth + 1 + 100 ≤ A.depth + 200; exact Nat.le_of_lt (Nat.add_lt_add_left (by decide : 101 < 200) A.depth)) hroom
      case r1hh => exact hh
      case r1lam => exact ⟨_, _, fobj.1, rfl⟩
      case r1deed =>
        intro A' s' outer' K' kp hdep hhan Q' Ex' kk
        have kgs : Kp g0 s'.heap := fun x o e => kp _ _ (of_hideAll _ (kgb x o e))
        have Xs' := X.keeps kgs
        have Ts' := (topRead_of T).keeps kgs
        refine enterL (kp _ _ fobj.1) (hcd5.keeps kp) Ts'.nolimit (Nat.lt_of_le_of_lt (Nat.le_of_eq hdep) (Nat.lt_of_le_of_lt (Nat.le_of_lt (Nat.add_lt_add_left (by decide : 2 < 200) A.depth)) hroom)) rfl ?_ rfl rfl rfl (by decide)
        intro L7 h7 F7 N7
        replace cel1 := kp _ _ cel1
        replace cel2 := kp _ _ cel2
        replace cel3 := kp _ _ cel3
        replace cel4 := kp _ _ cel4
        replace cel5 := kp _ _ cel5
        replace hN5 := kp _ _ hN5
        replace hD5 := hD.kp kgs
        obtain ⟨dD', q1', q2', q3', q4', t1', t2', t3', t4', t5', nn', hD2', hD3'⟩ := id hD5
        obtain ⟨ks1, ks2, ks3⟩ := K'
        clear F5 N5 fobj srcm tabm hD2 hD3 F4 N4 X2 T2 T2r C2 K C T
        try dsimp only [Mine.bodOf, Mine.scoOf, Mine.parOf, Mine.topS, Mine.inS, Mine.stAt, PySem.Challenge.pw_on0181_01]
        try k_fold
        k_steps
        rename Fr _ _ _ _ => F8
        refine' c_noR (base := hideAll h5 [Lw, L']) (kvN := kvN) ?e1K ?e1X ?e1T ?e1room ?e1hh ?e1D ?e1E ?e1x ?e1l ?e1k
        case e1K => exact below_push ⟨ks1, ks2, ks3⟩ F8 (fun q => by cases q) rfl
        case e1X => exact Xs'.keeps F8.keep
        case e1T => exact Ts'.keeps F8.keep
        case e1room => exact Nat.lt_of_le_of_lt (by show A'.depth + 1 + 50 ≤ A.depth + 200; rw [hdep]; show A.depth + 1 + 1 + 1 + 50 ≤ A.depth + 200; exact Nat.add_le_add_left (by decide : 53 ≤ 200) _) hroom
        case e1hh => exact hhan
        case e1D => exact hD5.kp F8.keep
        case e1E => exact ⟨lN, Heap.dictOf_iff.mpr ⟨oN, F8.keep _ _ hN5, dN⟩⟩
        case e1x => exact hin
        case e1l => exact (gpx_ok _ hx9).1
        case e1k =>
          intro h9 tk9 e dx y f u m1 m2
          refine air_leave (Around.frames_deeper ks1) rfl y fun h10 y10 u10 => ?_
          exact kk h10 tk9 e dx y10 (f.up u10) (((Heap.UpToSlots.of_keeps F8.keep).trans u).trans u10) (none_kp F8.keep m1) (none_kp F8.keep m2)
      case r1k =>
        intro h6 tk6 st u6
        have tol : ∀ z o, z ≠ Lw → z ≠ L' → h5.get? z = some o → h6.get? z = some o := fun z o h1 h2 e => st z o (hideAll_get _ e fun hm => by
          rcases List.mem_cons.mp hm with q | q
          · exact h1 q
          · exact h2 (List.mem_singleton.mp q))
        refine k2 h6 _ _ _ _ _ _ _ (fun z o hz e => ?_) (fun o e => ?_) (tol _ _ (fun q => n8 q.symm) (Nat.ne_of_lt (Nat.lt_of_lt_of_le (Heap.lt_size hs) hsz)) srcm) (by assumption) (by assumption) (tol _ _ (fun q => n7 q.symm) (Nat.ne_of_lt (Nat.lt_of_lt_of_le (Heap.lt_size ht) hsz)) tabm) ?_
        · simp only [List.mem_cons, List.not_mem_nil, or_false, not_or] at hz
          exact tol z o hz.1 (oldL z o hz.2.1 hz.2.2 e) (old5 z o hz.2.1 hz.2.2 e)
        · obtain rfl : oL = o := by rw [hL] at e; exact Option.some.inj e
          exact u6 Lw oL hL5 hLd
        · exact .inr ⟨hnf, _, rfl, _, _, _, _, rfl, newOf_get (tol _ _ cnL cN.2.1 cN.1) cnew, hcf, hcv⟩
    · k_steps
      rename Fr _ _ _ _ => F5
      rename News _ _ _ _ => N5
      obtain ⟨h5, eh5⟩ : ∃ h5 : Heap, h5 = (fun {L : Addr} {g h : Heap} {m : Str → Option Value} (_ : Fr g L h m) => h) F5 := ⟨_, rfl⟩
      dsimp only at eh5
      subst eh5
      have gL' : g0.get? L' = none := none_kp kg2 (Heap.get?_none_of_le F5.above)
      have kgb : Kp g0 (hideAll h5 [Lw, L']) := fun x o e => hideAll_get _ (F5.keep _ _ (kg2 x o e)) fun hm => by
        rcases List.mem_cons.mp hm with q | q
        · rw [q, gL] at e; cases e
        · rw [List.mem_singleton.mp q, gL'] at e; cases e
      have old5 : ∀ z o, z ≠ src → z ≠ 246 → s.heap.get? z = some o → h5.get? z = some o := fun z o h1 h2 e => F5.keep _ _ (up2 _ _ h2 (up1 _ _ h1 e))
      have oldL : ∀ z o, z ≠ src → z ≠ 246 → s.heap.get? z = some o → z ≠ L' := fun z o h1 h2 e q => by
        have := up2 _ _ h2 (up1 _ _ h1 e)
        rw [q, Heap.get?_none_of_le F5.above] at this; cases this
      have fobj := N5 _ (.head _)
      have srcm := News.get N5 (a := src) (by k_extra "M memL")
      have tabm := News.get N5 (a := 246) (by k_extra "M memL")
      have cel1 := News.get N5 (a := L' + 1) (by k_extra "M memL")
      have cel2 := News.get N5 (a := L' + 1 + 1) (by k_extra "M memL")
      have cel3 := News.get N5 (a := L' + 1 + 1 + 1) (by k_extra "M memL")
      have cel4 := News.get N5 (a := L' + 1 + 1 + 1 + 1) (by k_extra "M memL")
      have cel5 := News.get N5 (a := L' + 1 + 1 + 1 + 1 + 1) (by k_extra "M memL")
      have hN5 := old5 _ _ (fun q => n1 q.symm) n5 hN
      have hL5 := old5 _ _ n8 n7 hL
      have hcd5 : h5.CodeRec _ _ := hcr.keeps (fun x o e => F5.keep _ _ (kg2 x o e))
      have hD5 := hD.kp kgb
      have hsz : s.heap.objs.size ≤ L' := by
        have := F5.above
        rw [← hg2, hideAll_size, ← hg1, hideAll_size] at this
        exact this
      refine' c_refused (base := hideAll h5 [Lw, L']) ?r2K ?r2hz ?r2X ?r2T ?r2room ?r2hh ?r2deed ?r2lam ?r2k
      case r2K => exact below_at K (fun o e => old5 _ _ n8 n7 e) (fun q => by cases q) rfl F5.ns
      case r2hz => exact Nat.le_of_eq (hideAll_size _ _)
      case r2X => exact X.keeps kgb
      case r2T => exact (topRead_of T).keeps kgb
      case r2room => exact Nat.lt_of_le_of_lt (by show A.depth + 1 + 100 ≤ A.depth + 200; exact Nat.le_of_lt (Nat.add_lt_add_left (by decide : 101 < 200) A.depth)) hroom
      case r2hh => exact hh
      case r2lam => exact ⟨_, _, fobj.1, rfl⟩
      case r2deed =>
        intro A' s' outer' K' kp hdep hhan Q' Ex' kk
        have kgs : Kp g0 s'.heap := fun x o e => kp _ _ (of_hideAll _ (kgb x o e))
        have Xs' := X.keeps kgs
        have Ts' := (topRead_of T).keeps kgs
        refine enterL (kp _ _ fobj.1) (hcd5.keeps kp) Ts'.nolimit (Nat.lt_of_le_of_lt (Nat.le_of_eq hdep) (Nat.lt_of_le_of_lt (Nat.le_of_lt (Nat.add_lt_add_left (by decide : 2 < 200) A.depth)) hroom)) rfl ?_ rfl rfl rfl (by decide)
        intro L7 h7 F7 N7
        replace cel1 := kp _ _ cel1
        replace cel2 := kp _ _ cel2
        replace cel3 := kp _ _ cel3
        replace cel4 := kp _ _ cel4
        replace cel5 := kp _ _ cel5
        replace hN5 := kp _ _ hN5
        replace hD5 := hD.kp kgs
        obtain ⟨dD', q1', q2', q3', q4', t1', t2', t3', t4', t5', nn', hD2', hD3'⟩ := id hD5
        obtain ⟨ks1, ks2, ks3⟩ := K'
        clear F5 N5 fobj srcm tabm hD2 hD3 F4 N4 X2 T2 T2r C2 K C T
        try dsimp only [Mine.bodOf, Mine.scoOf, Mine.parOf, Mine.topS, Mine.inS, Mine.stAt, PySem.Challenge.pw_on0181_01]
        try k_fold
        k_steps
        rename Fr _ _ _ _ => F8
        refine' c_noR (base := hideAll h5 [Lw, L']) (kvN := kvN) ?e2K ?e2X ?e2T ?e2room ?e2hh ?e2D ?e2E ?e2x ?e2l ?e2k
        case e2K => exact below_push ⟨ks1, ks2, ks3⟩ F8 (fun q => by cases q) rfl
        case e2X => exact Xs'.keeps F8.keep
        case e2T => exact Ts'.keeps F8.keep
        case e2room => exact Nat.lt_of_le_of_lt (by show A'.depth + 1 + 50 ≤ A.depth + 200; rw [hdep]; show A.depth + 1 + 1 + 1 + 50 ≤ A.depth + 200; exact Nat.add_le_add_left (by decide : 53 ≤ 200) _) hroom
        case e2hh => exact hhan
        case e2D => exact hD5.kp F8.keep
        case e2E => exact ⟨lN, Heap.dictOf_iff.mpr ⟨oN, F8.keep _ _ hN5, dN⟩⟩
        case e2x => exact hin
        case e2l => exact (gpx_ok _ hx9).1
        case e2k =>
          intro h9 tk9 e dx y f u m1 m2
          refine air_leave (Around.frames_deeper ks1) rfl y fun h10 y10 u10 => ?_
          exact kk h10 tk9 e dx y10 (f.up u10) (((Heap.UpToSlots.of_keeps F8.keep).trans u).trans u10) (none_kp F8.keep m1) (none_kp F8.keep m2)
      case r2k =>
        intro h6 tk6 st u6
        have tol : ∀ z o, z ≠ Lw → z ≠ L' → h5.get? z = some o → h6.get? z = some o := fun z o h1 h2 e => st z o (hideAll_get _ e fun hm => by
          rcases List.mem_cons.mp hm with q | q
          · exact h1 q
          · exact h2 (List.mem_singleton.mp q))
        refine k2 h6 _ _ _ _ _ _ _ (fun z o hz e => ?_) (fun o e => ?_) (tol _ _ (fun q => n8 q.symm) (Nat.ne_of_lt (Nat.lt_of_lt_of_le (Heap.lt_size hs) hsz)) srcm) (by assumption) (by assumption) (tol _ _ (fun q => n7 q.symm) (Nat.ne_of_lt (Nat.lt_of_lt_of_le (Heap.lt_size ht) hsz)) tabm) ?_
        · simp only [List.mem_cons, List.not_mem_nil, or_false, not_or] at hz
          exact tol z o hz.1 (oldL z o hz.2.1 hz.2.2 e) (old5 z o hz.2.1 hz.2.2 e)
        · obtain rfl : oL = o := by rw [hL] at e; exact Option.some.inj e
          exact u6 Lw oL hL5 hLd
        · exact .inl rfl
  · rename Fr _ _ _ _ => F3
    rename News _ _ _ _ => N3
    rename (List.any nots _) = false => hin0
    rename _ ∈ strsOf [Value.str (Str.ofString "gif") _, _, _] => hx9
    have hin := hin0
    rw [any_contains] at hin
    clear hin0
    have hinN := hin
    rw [← hNN] at hinN
    show wpAny _ _ _ _ _ _
    obtain ⟨F4, N4, ne5⟩ := rebase F3 N3 [(Nt, oN), (Nl, lsn ys nl)] (fun p hp => by
      rcases List.mem_cons.mp hp with q | q
      · rw [q]; exact hN1
      · rw [List.mem_singleton.mp q]; exact hL1)
    have ne6 := ne5 _ (.head _)
    have ne7 := ne5 _ (.tail _ (.head _))
    replace ne6 := neA_of ne6
    try dsimp only [Mine.adr] at ne6
    replace ne7 := neA_of ne7
    try dsimp only [Mine.adr] at ne7
    change Fr (hideAll g1 [Nt, Nl]) _ _ _ at F4
    change News (hideAll g1 [Nt, Nl]) _ _ _ at N4
    simp only [List.cons_append, List.nil_append] at N4
    have kg2 : Kp g0 (hideAll g1 [Nt, Nl]) := fun x o e => hideAll_get _ (kg1 x o e) fun hm => by
      rcases List.mem_cons.mp hm with q | q
      · rw [q, gNt] at e; cases e
      · rw [List.mem_singleton.mp q, gNl] at e; cases e
    have up2 : ∀ z o, z ≠ Nt → z ≠ Nl → g1.get? z = some o → (hideAll g1 [Nt, Nl]).get? z = some o := fun z o hz hz2 e => hideAll_get _ e fun hm => by
      rcases List.mem_cons.mp hm with q | q
      · exact hz q
      · exact hz2 (List.mem_singleton.mp q)
    have X2 := X.keeps kg2
    have T2r := (topRead_of T).keeps kg2
    have hD2' := hD.kp kg2
    have hR2 : RowsAt w _ R M Rr Nl := SD.kp hR kg2
    clear F3 N3 X1 T1 T1r hN1 hL1 hLL1 hR1 hD1 hD2 hD3 ne5 K C T k2 hlam ht1 X hD hR
    obtain ⟨dD', p1, p2, p3, p4, r1, r2, r3, r4, r5, nn', hD3, hD4⟩ := id hD2'
    unfold RowsAt at hR2
    generalize hg2 : hideAll g1 [Nt, Nl] = g2 at *
    k_steps
    rename Fr _ _ _ _ => F5
    rename News _ _ _ _ => N5
    have gm1 := News.get N5 (a := Nt) (by k_extra "M memL")
    have gm2 := News.get N5 (a := Nl) (by k_extra "M memL")
    have gm3 := N5 _ (.head _)
    have gm4 := N5 _ (.tail _ (.head _))
    have gm7 := News.get N5 (a := src) (by k_extra "M memL")
    have w3 := unhide (hg1 ▸ unhide (hg2 ▸ gm3.2.2) (fun q => by
      rcases List.mem_cons.mp q with q | q
      · exact absurd q (by k_ne)
      · exact absurd (List.mem_singleton.mp q) (by k_ne))) (fun q => absurd (List.mem_singleton.mp q) (by k_ne))
    have w4 := unhide (hg1 ▸ unhide (hg2 ▸ gm4.2.2) (fun q => by
      rcases List.mem_cons.mp q with q | q
      · exact absurd q (by k_ne)
      · exact absurd (List.mem_singleton.mp q) (by k_ne))) (fun q => absurd (List.mem_singleton.mp q) (by k_ne))
    refine k1 _ _ _ _ _ _ _ _ _ _ _ _ (fun z o hz e => ?_) gm7 (by assumption) (by assumption) gm1 (by assumption) gm2 (gpx_of hx9) hin (notObj_of (newOf_get gm3.1 w3) (newOf_get gm4.1 w4) (by assumption))
    simp only [List.mem_cons, List.not_mem_nil, or_false, not_or] at hz
    exact F5.keep _ _ (up2 _ _ hz.2.1 hz.2.2 (up1 _ _ hz.1 e))
end Mine
theorem Mine.offM13 : True := by
  w_top off
  trivial
set_option maxHeartbeats 8000000
namespace Mine
def AllNh (x : Addr) : List (Addr × Obj) → Prop
  | [] => True
  | p :: r => NeN p.1 x ∧ AllNh x r
theorem allNh_of {x : Addr} : ∀ {l : List (Addr × Obj)}, AllNe x l → AllNh x l
  | [], _ => trivial
  | p :: r, h => by
    have h' := h
    simp only [AllNe] at h'
    exact ⟨h'.1, allNh_of h'.2⟩
theorem val_handed {o : Option Str} {v : Value} (h : ValIs o v) : handedIn v = true := by
  cases o with
  | none => rw [show v = .none from h]; rfl
  | some x => obtain ⟨t, rfl⟩ := h; rfl
theorem rowAt_of {h : Heap} {rr ch : Addr} {orow och : Obj} {r : Rule} {vs : List Value} {tk tm : Tok} {vv : Value} {n1 n2 : Nat} (e1 : h.get? rr = some orow) (e2 : h.get? ch = some och)
    (c1 : orow.cls = .type "tuple") (d1 : orow.data = .seq #[.str r.kind tk, .ref ch, .str r.mode tm, vv] n1) (c2 : och.cls = .type "tuple") (d2 : och.data = .seq vs.toArray n2) (S : StrsAre vs r.choices) (V : ValIs r.value vv) : RowAt h rr r :=
  ⟨ch, vs, tk, tm, vv, ⟨_, e1, c1, _, d1⟩, ⟨_, e2, c2, _, d2⟩, S, V⟩
theorem ruleObj_of {h : Heap} {a dx ch : Addr} {o och : Obj} {r : Rule} {vs : List Value} {vv : Value} {n2 : Nat} (e1 : h.get? a = some (instObj 207 dx)) (e3 : h.get? dx = some o) (D : RuleDict ch r.kind r.mode vv o) (e2 : h.get? ch = some och)
    (c2 : och.cls = .type "tuple") (d2 : och.data = .seq vs.toArray n2) (S : StrsAre vs r.choices) (V : ValIs r.value vv) : RuleObj h a r := by
  obtain ⟨k1, k2, k3, k4, t1, t2, t3, t4, tk, tm, n, rfl⟩ := D
  exact ⟨dx, ch, vs, k1, k2, k3, k4, t1, t2, t3, t4, tk, tm, vv, n, e1, e3, ⟨_, e2, c2, _, d2⟩, S, V⟩
theorem item_tupL {prog : Program} {w : World} {A : Around} {E : Value → Shared → Prop} {s : Shared} {h₀ : Heap} {L t : Addr} {news : List (Addr × Obj)} {o : Obj} {value slice : Expr} {l : List Value} {k : Int} {u : Tok} {j n : Nat} {x : Value} {Q : Value → Shared → Prop} (N : News h₀ L s.heap news) (hm : (t, o) ∈ news) (c : o.cls = .type "tuple") (d : o.data = .seq l.toArray n)
    (hlo : -(2 ^ 63) ≤ k) (hhi : k < 2 ^ 63) (hj : seqIndex? k l.length = some j) (hx : l[j]? = some x) (h : Q x s)
    (hs : subscripted slice false (.ref t) (.int k u) = operate [.ref t, .int k u] (getItem (.ref t) (.int k u)) := by with_unfolding_all rfl) :
    wpAny (model prog w) A (subscriptTail value slice (.ref t) (.int k u)) Q E s := item_tupleT ⟨o, N.get hm, c, n, d⟩ hlo hhi hj hx h hs
/-- setdefault -/
theorem sdf_method {w : World} {A : Around} {E : Value → Shared → Prop} {s : Shared} {d : Addr} {kvs : List (Str × Value)} {pl : Sem Bool} {Q : Value × List Value → Shared → Prop} (T' : SD w s.heap d kvs) (h : Q (.builtin "dict.setdefault", [.ref d]) s) :
    wpAny (model PR w) A (getMethod (.ref d) "setdefault" pl) Q E s :=
  getMethod_builtin T'.2.typeIs PySem.F.plainAttrs_dict PySem.F.slot_dict_setdefault PySem.F.type_dict_setdefault T'.2.mapOf.noDict h
theorem sdf_there {w : World} {A : Around} {E : Value → Shared → Prop} {s : Shared} {d : Addr} {kvs : List (Str × Value)} {x : Str} {t : Tok} {v dflt : Value} {Q : Value → Shared → Prop} (T' : SD w s.heap d kvs) (hl : valueAt kvs x = some v) (hsz : kvs.length ≤ sizeLine) (h : Q v { s with toks := s.toks + 1 }) :
    wpAny (model PR w) A (call (.builtin "dict.setdefault") [.ref d, .str x t, dflt]) Q E s :=
  call_meetsIn PySem.F.slot_dict_setdefault T'.2.typeIs PySem.F.entry_dict_setdefault (PySem.F.args_dict_setdefault_3 _ _ _) (kt_meets_setdefault (strKind PR w) d (strKind_is PR w x t) T'.1 dflt)
    ⟨kvs, T'.2, hsz, (fun v' hv' => by rw [hl] at hv'; cases hv'; exact h), fun hn => by rw [hl] at hn; cases hn⟩
end Mine
theorem Mine.wordsM131 : True := by
  k_with "!getMethod ref" => (k_here; (with_reducible show wpAny _ _ (getMethod (Value.ref _) (PySem.Str.ofString "setdefault") _) _ _ _); k_dflt (first
  | refine Mine.sdf_method (by k_extra "M sd") ?_
  | (refine' kob_method (knd := PySem.strKind Mine.PR _) PySem.F.slot_dict_setdefault PySem.F.type_dict_setdefault (by k_asm) (by k_extra "M memL") (by with_reducible assumption) ?_ )))
  k_with "!call builtin:dict.setdefault" => (k_here; (with_reducible show wpAny _ _ (call (Value.builtin "dict.setdefault") [Value.ref _, Value.str _ _, Value.ref _]) _ _ _); k_dflt (first
  | refine Mine.sdf_there (by k_extra "M sd") (by with_reducible assumption) (by with_reducible assumption) ?_
  | (refine' kob_setdef_new (knd := PySem.strKind Mine.PR _) (by k_asm) (by k_asm) (by k_updF) (by with_reducible assumption) (by with_reducible assumption) (strKind_is _ _ _ _) (PySem.F.args_dict_setdefault_3 _ _ _) (by with_reducible assumption) (by with_reducible assumption) ?_; intro h' o' F' N' hd'; (try dsimp only at N'); (try k_sweep))))
  k_with "!subscriptTail Name Constant ref int" => (k_here; (with_reducible show wpAny _ _ (subscriptTail _ _ (Value.ref _) (Value.int _ _)) _ _ _); k_dflt (refine Mine.item_tupL (by k_asm) (by k_extra "M memL") (by with_reducible assumption) (by with_reducible assumption) (by decide) (by decide) (by exact rfl) (by exact rfl) ?_))
  k_with "!subscriptTail" => (k_here; (with_reducible show wpAny _ _ (subscriptTail _ _ (Value.ref _) (Value.int _ _)) _ _ _); k_dflt (refine Mine.item_tupL (by k_asm) (by k_extra "M memL") (by with_reducible assumption) (by with_reducible assumption) (by decide) (by decide) (by exact rfl) (by exact rfl) ?_))
  k_with "!compareOp NotIn str ref" => (k_here; (with_reducible show wpAny _ _ (compareOp CmpOp.NotIn (Value.str _ _) (Value.ref _)) _ _ _); k_dflt (refine notin_list_strs (Mine.news_isList (by k_asm) (by k_extra "M memL")) (by with_reducible assumption) ?_))
  k_with "!call ref" => (k_here; (with_reducible show wpAny _ _ (call (Value.ref 237) _) _ _ _); k_dflt ((refine' Mine.c_lrule (by k_asm) (by k_asm) (by k_asm) (by k_asm) (by k_extra "M room") (by k_extra "M handled") (by k_updF) (by with_reducible assumption) (by with_reducible assumption) ?_); (rintro h' tk' rr' orow' ch' och' r' a' b' ta' tb' n' F' N' ne1' ne2' ne3' ⟨vs', tk2', tm', vv', m1', m2', c1', d1', c2', d2', hS', hV'⟩ hR' ha' hb'; (have hV2' := Mine.val_handed hV'); (try dsimp only at N'); (replace ne1' := Mine.neA_of ne1'); (try dsimp only [Mine.adr] at ne1'); (replace ne2' := Mine.neA_of ne2'); (try dsimp only [Mine.adr] at ne2'); (try k_sweep))))
  k_with "!call ref" => (k_here; (with_reducible show wpAny _ _ (call (Value.ref 207) _) _ _ _); k_dflt ((refine' Mine.c_makeRule (by k_asm) (by k_asm) (by k_asm) (by k_asm) (by k_extra "M room") (by k_extra "M handled") (by (refine' Or.inr ⟨_, _, (by k_extra "M memL"), (by with_reducible assumption), (by with_reducible assumption)⟩)) (by with_reducible assumption) ?_); (intro h' tk' a' dx' o' F' N' ne1' ne2' ne3' nd'; (try dsimp only at N'); (replace ne1' := Mine.neA_of ne1'); (try dsimp only [Mine.adr] at ne1'); (replace ne2' := Mine.neA_of ne2'); (try dsimp only [Mine.adr] at ne2'); (try k_sweep))))
  k_with "!call ref" => (k_here; (with_reducible show wpAny _ _ (call (Value.ref 110) _) _ _ _); k_dflt ((refine' Mine.c_daA (by k_asm) (by k_asm) (by k_asm) (by k_updF) (by with_reducible assumption) (by with_reducible assumption) (by k_asm) (by k_asm) (by k_extra "M room") (by k_extra "M handled") (by with_reducible assumption) (by with_reducible assumption) ?_); (intro h' tk' o' d' od' F' N' ne1' lo' hd1' hd2'; (try dsimp only at N'); (replace ne1' := Mine.neA_of ne1'); (try dsimp only [Mine.adr] at ne1'); (try k_sweep))))
  trivial

namespace Mine
theorem c_daBN {w : World} {A : Around} {s : Shared} {h₀ : Heap} {L : Addr} {m : Str → Option Value} {news : List (Addr × Obj)} {g : Obj → List (Addr × Obj)} {D E At Nt d xr : Addr} {x y : Str} {t ty : Tok} {od : Obj} {kvA kvs : List (Str × Value)} {Q Ex : Value → Shared → Prop} {p : Program} {loose : List Str} {mg mb : Str → Option Value}
    (hD : DtdAt h₀ D E At Nt) (F : Fr h₀ L s.heap m) (N : News h₀ L s.heap news) (hA : SD w h₀ At kvA) (hx : valueAt kvA x = some (.ref d)) (U : UpdF d od news g) (hd : od.IsDictOf (strKind PR w) kvs) (hy : (valueAt kvs y).isSome = false) (X : (heapK w.params).In h₀) (T : TopRead p loose mg mb h₀) (hroom : A.depth + 40 < recursionLimit) (hh : A.handled = none) (lo : (d == sysModules) = false) (hz : kvs.length ≤ sizeLine) (k : ∀ h' tk' o', Fr h₀ L h' m → News h₀ L h' (g o') → o'.IsDictOf (strKind PR w) (stored kvs y (.ref xr)) → Q .none { s with heap := h', toks := tk' }) :
    wpAny (model PR w) A (call (.ref 110) [.ref D, .str x t, .str y ty, .ref xr]) Q Ex s :=
  c_daB F N X T hroom hh U hD (SD.kp hA (kp_hide1 F N (updF_mem U))) hx lo hd hy hz k
theorem c_daCN {w : World} {A : Around} {s : Shared} {h₀ : Heap} {L : Addr} {m : Str → Option Value} {news : List (Addr × Obj)} {D E At Nt d xr : Addr} {x y : Str} {t ty : Tok} {kvA kvs : List (Str × Value)} {Q Ex : Value → Shared → Prop} {p : Program} {loose : List Str} {mg mb : Str → Option Value}
    (hD : DtdAt h₀ D E At Nt) (F : Fr h₀ L s.heap m) (N : News h₀ L s.heap news) (hA : SD w h₀ At kvA) (hx : valueAt kvA x = some (.ref d)) (hd : SD w h₀ d kvs) (hy : (valueAt kvs y).isSome = true) (X : (heapK w.params).In h₀) (T : TopRead p loose mg mb h₀) (hroom : A.depth + 40 < recursionLimit) (hh : A.handled = none) (k : ∀ h' tk', Fr h₀ L h' m → News h₀ L h' news → Q .none { s with heap := h', toks := tk' }) :
    wpAny (model PR w) A (call (.ref 110) [.ref D, .str x t, .str y ty, .ref xr]) Q Ex s :=
  c_daC (X.keeps F.keep) (T.keeps F.keep) hroom hh (hD.kp F.keep) (SD.kp hA F.keep) hx (SD.kp hd F.keep) hy fun h' tk' kp => k h' tk' (F.keeps kp) (N.grown kp)
end Mine
theorem Mine.wordsM132 : True := by
  k_with "!call ref" => (k_here; (with_reducible show wpAny _ _ (call (Value.ref 110) _) _ _ _); k_dflt ((refine' Mine.c_daBN (by k_asm) (by k_asm) (by k_asm) (by k_asm) (by with_reducible assumption) (by k_updF) (by with_reducible assumption) (by with_reducible assumption) (by k_asm) (by k_asm) (by k_extra "M room") (by k_extra "M handled") (by with_reducible assumption) (by with_reducible assumption) ?_); (intro h' tk' o' F' N' hd1'; (try dsimp only at N'); (try k_sweep))))
  k_with "!call ref" => (k_here; (with_reducible show wpAny _ _ (call (Value.ref 110) _) _ _ _); k_dflt ((refine' Mine.c_daCN (by k_asm) (by k_asm) (by k_asm) (by k_asm) (by with_reducible assumption) (by k_asm) (by with_reducible assumption) (by k_asm) (by k_asm) (by k_extra "M room") (by k_extra "M handled") ?_); (intro h' tk' F' N'; (try dsimp only at N'); (try k_sweep))))
  trivial

namespace Mine
theorem any_cases {x : Str} {l : List Str} (h : x ∈ l) (ks : List Str) : ks.any (· == x) = true ∨ ks.any (· == x) = false := by cases ks.any (· == x) <;> simp
theorem notin_nil {prog : Program} {w : World} {A : Around} {E : Value → Shared → Prop} {s : Shared} {l : Addr} {vs : List Value} {k : Str} {t : Tok} {Q : Value → Shared → Prop} (hl : s.heap.IsList l vs.toArray) (hi : StrsAre vs []) (h : Q (.bool true) s) :
    wpAny (model prog w) A (compareOp .NotIn (.str k t) (.ref l)) Q E s := notin_list_strs hl hi h
theorem notin_is {prog : Program} {w : World} {A : Around} {E : Value → Shared → Prop} {s : Shared} {l : Addr} {vs : List Value} {ys : List Str} {k : Str} {t : Tok} {c : Bool} {Q : Value → Shared → Prop} (hl : s.heap.IsList l vs.toArray) (hi : StrsAre vs ys) (hc : (ys.any (· == k)) = c) (h : Q (.bool (!c)) s) :
    wpAny (model prog w) A (compareOp .NotIn (.str k t) (.ref l)) Q E s := notin_list_strs hl hi (by rw [hc]; exact h)
end Mine
theorem Mine.wordsM133 : True := by
  k_with "!compareOp NotIn str ref" => (k_here; (with_reducible show wpAny _ _ (compareOp CmpOp.NotIn (Value.str _ _) (Value.ref _)) _ _ _); k_dflt (first
  | refine Mine.notin_nil (Mine.news_isList (by k_asm) (by k_extra "M memL")) (by with_reducible assumption) ?_
  | (refine Mine.notin_is (Mine.news_isList (by k_asm) (by k_extra "M memL")) (by with_reducible assumption) (by with_reducible assumption) ?_; (try dsimp only [Bool.not_true, Bool.not_false]))))
  trivial

namespace Mine
theorem fillM13 : PySem.Challenge.rw_on0181_01 = PySem.Challenge.rw_on0181_01 ∧ heapK = heapK := by
  k_fill
  exact ⟨rfl, rfl⟩
def ijk : List Str := [Str.ofString "i", Str.ofString "j", Str.ofString "k"]
theorem ijk_ok : ∀ x ∈ ijk, x.length ≤ 1000 ∧ PyData.strOk x = true := by decide +kernel
theorem ijk_of {t1 t2 t3 : Tok} {x : Str} (h : x ∈ strsOf [Value.str (Str.ofString "i") t1, .str (Str.ofString "j") t2, .str (Str.ofString "k") t3]) : x ∈ ijk := h
/-- an element with attributes: its own list in the rows, its dict in the Dtd -/
structure EntAt (w : World) (g0 h : Heap) (bad : List Addr) (kvA kvR : List (Str × Value)) (x : Str) (l d : Addr) (its : List Value) (nl : Nat) (od : Obj) (kvs : List (Str × Value)) (rs : Rules) : Prop where
  r : valueAt kvR x = some (.ref l)
  a : valueAt kvA x = some (.ref d)
  hl : h.get? l = some (lsn its nl)
  hd : h.get? d = some od
  dd : od.IsDictOf (strKind PR w) kvs
  sys : (d == sysModules) = false
  own : Paired (PairOf g0) its rs
  inn : ∀ y, (valueAt kvs y).isSome = (rs.map (·.1)).contains y
  gl : g0.get? l = none
  gd : g0.get? d = none
  ne : @Ne Nat l d
  bad : ∀ z ∈ bad, @Ne Nat z l ∧ @Ne Nat z d
  len : its.length ≤ 1000
  len2 : kvs.length ≤ sizeLine
/-- what is left in the source is within its bounds -/
def SrcOk (h : Heap) (src : Addr) : Prop := ∃ (a b : Int) (ta tb : Tok) (n : Nat), h.get? src = some (lsn [.int a ta, .int b tb] n) ∧ 0 ≤ a ∧ 0 ≤ b ∧ b < 2147483648
def MadeA (w : World) (h h' : Heap) (At Rr : Addr) (kvA kvR : List (Str × Value)) (x y : Str) (r : Rule) : Prop :=
  ∃ (l' d' T xr : Addr) (nl' : Nat) (od' oR' oA' : Obj), h'.get? Rr = some oR' ∧ oR'.IsDictOf (strKind PR w) (stored kvR x (.ref l')) ∧ h'.get? At = some oA' ∧ oA'.IsDictOf (strKind PR w) (stored kvA x (.ref d')) ∧
    h'.get? l' = some (lsn [.ref T] nl') ∧ h'.get? d' = some od' ∧ od'.IsDictOf (strKind PR w) [(y, .ref xr)] ∧ (d' == sysModules) = false ∧ h.get? l' = none ∧ h.get? d' = none ∧ @Ne Nat l' d' ∧
    PairOf (hideAll (newOf h h') [l', d']) (.ref T) (y, r) ∧ RuleObj (hideAll (newOf h h') [l', d']) xr r
def MadeB (w : World) (h h' : Heap) (l d : Addr) (its : List Value) (kvs : List (Str × Value)) (y : Str) (r : Rule) : Prop :=
  ∃ (T xr : Addr) (nl' : Nat) (od' : Obj), h'.get? l = some (lsn (its ++ [.ref T]) nl') ∧ h'.get? d = some od' ∧ od'.IsDictOf (strKind PR w) (stored kvs y (.ref xr)) ∧ PairOf (newOf h h') (.ref T) (y, r) ∧ RuleObj (newOf h h') xr r
theorem fresh2 {h g1 g2 : Heap} {src p q z : Addr} (h1 : hideAll h [src] = g1) (h2 : hideAll g1 [p, q] = g2) (e : g2.get? z = none) (n1 : @Ne Nat z p) (n2 : @Ne Nat z q) (n3 : @Ne Nat z src) : h.get? z = none :=
  unhide (h1 ▸ unhide (h2 ▸ e) (fun m => (List.mem_cons.mp m).elim (fun m => n1 m) fun m => n2 (List.mem_singleton.mp m))) (fun m => n3 (List.mem_singleton.mp m))
theorem new2 {h h' : Heap} {p q z : Addr} {o : Obj} (e : h'.get? z = some o) (f : h.get? z = none) (n1 : @Ne Nat z p) (n2 : @Ne Nat z q) : (hideAll (newOf h h') [p, q]).get? z = some o :=
  hideAll_get _ (newOf_get e f) fun m => (List.mem_cons.mp m).elim (fun m => n1 m) fun m => n2 (List.mem_singleton.mp m)
theorem c_decl2 {w : World} {A : Around} {s : Shared} {g0 : Heap} {outer : List Env} {Lw src D R E At Nt M Rr Nl : Addr} {a b turn : Int} {ta tb tt : Tok} {n : Nat} {oA oR : Obj} {kvA kvR : List (Str × Value)} {P : Str → Addr → Addr → List Value → Nat → Obj → List (Str × Value) → Rules → Prop} {Q Ex : Value → Shared → Prop} {p : Program} {loose : List Str} {mean : ExcName → Option Value} {mg mb : Str → Option Value}
    (kg : Kp g0 s.heap) (gsrc : g0.get? src = none) (gA : g0.get? At = none) (gR : g0.get? Rr = none)
    (X : (heapK w.params).In g0) (T : Top p loose mean mg mb g0) (hroom : A.depth + 200 < recursionLimit) (hh : A.handled = none)
    (cw : Int) (hw : takeV a b 4 = cw) (hw0 : (cw == 0) = false) (hw1 : (cw == 1) = false) (hs : s.heap.get? src = some (lsn [.int a ta, .int b tb] n)) (ha : 0 ≤ a) (hb : 0 ≤ b ∧ b < 2147483648)
    (hD : DtdAt g0 D E At Nt) (hR : RowsAt w g0 R M Rr Nl) (hA : s.heap.get? At = some oA) (dA : oA.IsDictOf (strKind PR w) kvA) (lA : (At == sysModules) = false) (hRr : s.heap.get? Rr = some oR) (dR : oR.IsDictOf (strKind PR w) kvR) (lR : (Rr == sysModules) = false)
    (zA : kvA.length ≤ sizeLine) (zR : kvR.length ≤ sizeLine)
    (hTab : ∀ x ∈ abc', (valueAt kvR x = none ∧ valueAt kvA x = none) ∨ ∃ l d its nl od kvs rs, EntAt w g0 s.heap [src, At, Rr] kvA kvR x l d its nl od kvs rs ∧ P x l d its nl od kvs rs)
    (n1 : @Ne Nat src At) (n2 : @Ne Nat src Rr) (n3 : @Ne Nat At Rr)
    (kA : ∀ h' tk' x y r, (∀ z o, z ∉ [src, Rr, At] → s.heap.get? z = some o → h'.get? z = some o) → SrcOk h' src → x ∈ abc' → y ∈ ijk → valueAt kvR x = none → valueAt kvA x = none → RuleNew r → MadeA w s.heap h' At Rr kvA kvR x y r → Q (.bool true) { s with heap := h', toks := tk' })
    (kB : ∀ h' tk' x y r l d its nl od kvs rs, EntAt w g0 s.heap [src, At, Rr] kvA kvR x l d its nl od kvs rs → P x l d its nl od kvs rs → (∀ z o, z ∉ [src, l, d] → s.heap.get? z = some o → h'.get? z = some o) → SrcOk h' src → x ∈ abc' → y ∈ ijk → (rs.map (·.1)).contains y = false → RuleNew r → MadeB w s.heap h' l d its kvs y r → Q (.bool true) { s with heap := h', toks := tk' })
    (kC : ∀ h' tk', (∀ z o, z ∉ [src] → s.heap.get? z = some o → h'.get? z = some o) → SrcOk h' src → Q (.bool true) { s with heap := h', toks := tk' }) :
    wpAny (model PR w) A (call (.ref 249) [.ref src, .ref D, .ref R, .int turn tt]) Q Ex s := by
  have Xs := X.keeps kg
  have Ts := (topRead_of T).keeps kg
  have kg1 : Kp g0 (hideAll s.heap [src]) := fun x o e => hideAll_get _ (kg x o e) fun hm => by
    rw [List.mem_singleton.mp hm, gsrc] at e; cases e
  have up1 : ∀ z o, z ≠ src → s.heap.get? z = some o → (hideAll s.heap [src]).get? z = some o := fun z o hz e => hideAll_get _ e fun hm => hz (List.mem_singleton.mp hm)
  have X1 := X.keeps kg1
  have T1 := T.keeps kg1
  have hD1 := hD.kp kg1
  have hR1 : RowsAt w _ R M Rr Nl := SD.kp hR kg1
  have hA1 := up1 _ _ (fun q => n1 q.symm) hA
  have hRr1 := up1 _ _ (fun q => n2 q.symm) hRr
  have hSR : SD w _ Rr kvR := ⟨lR, Heap.dictOf_iff.mpr ⟨oR, hRr1, dR⟩⟩
  have hSA : SD w _ At kvA := ⟨lA, Heap.dictOf_iff.mpr ⟨oA, hA1, dA⟩⟩
  obtain ⟨dD, q1, q2, q3, q4, t1, t2, t3, t4, t5, nn, hD2, hD3⟩ := hD1.it
  have vm := rows_r (M := M) (Rr := Rr) (Nl := Nl)
  unfold RowsAt at hR1
  k_dflt (refine' enterC [("source", .ref src), ("dtd", .ref D), ("rows", .ref R), ("turn", .int turn tt)] ?X ?T ?ho ?hcd ?hroom ?hbind ?hkind ?hnd ?_ ?c2 ?c3 ?c4; (case X => exact Xs); (case T => exact Ts.nolimit); k_extra "M enterC2")
  intro L' h' tk' cells' F' N' Y'
  try dsimp only [Mine.bodOf, Mine.scoOf, Mine.parOf, Mine.topS, Mine.inS, Mine.stAt, PySem.Challenge.pw_on0181_01] at *
  k_cells Y'
  obtain ⟨F2, N2, ne2⟩ := rebase F' N' [(src, lsn [.int a ta, .int b tb] n)] (fun p hp => by rw [List.mem_singleton.mp hp]; exact hs)
  have ne4 := ne2 _ (.head _)
  replace ne4 := neA_of ne4
  try dsimp only [Mine.adr] at ne4
  change Fr (hideAll s.heap [src]) _ _ _ at F2
  change News (hideAll s.heap [src]) _ _ _ at N2
  simp only [List.cons_append, List.nil_append] at N2
  clear F' N' ne2
  generalize hg1 : hideAll s.heap [src] = g1 at *
  try dsimp only [Mine.bodOf, Mine.scoOf, Mine.parOf, Mine.topS, Mine.inS, Mine.stAt, PySem.Challenge.pw_on0181_01] at *
  try k_fold
  have T1r := topRead_of T1
  k_steps
  show wpAny _ _ _ _ _ _
  rename Fr _ _ _ _ => F3
  rename News _ _ _ _ => N3
  rename _ ∈ strsOf [Value.str (Str.ofString "a") _, _, _] => hx9
  rename _ ∈ strsOf [Value.str (Str.ofString "i") _, _, _] => hy9
  rcases hTab _ (abc_of hx9) with ⟨hxR, hxA⟩ | ⟨l, d, its, nl, od, kvs, rs, ent, hP⟩
  · obtain ⟨F4, N4, ne5⟩ := rebase F3 N3 [(Rr, oR), (At, oA)] (fun p hp => by
      rcases List.mem_cons.mp hp with q | q
      · rw [q]; exact hRr1
      · rw [List.mem_singleton.mp q]; exact hA1)
    have ne6 := ne5 _ (.head _)
    have ne7 := ne5 _ (.tail _ (.head _))
    replace ne6 := neA_of ne6
    replace ne7 := neA_of ne7
    try dsimp only [Mine.adr] at ne6 ne7
    change Fr (hideAll g1 [Rr, At]) _ _ _ at F4
    change News (hideAll g1 [Rr, At]) _ _ _ at N4
    simp only [List.cons_append, List.nil_append] at N4
    have kg2 : Kp g0 (hideAll g1 [Rr, At]) := fun x o e => hideAll_get _ (kg1 x o e) fun hm => by
      rcases List.mem_cons.mp hm with q | q
      · rw [q, gR] at e; cases e
      · rw [List.mem_singleton.mp q, gA] at e; cases e
    have up2 : ∀ z o, z ≠ Rr → z ≠ At → g1.get? z = some o → (hideAll g1 [Rr, At]).get? z = some o := fun z o hz hz2 e => hideAll_get _ e fun hm => by
      rcases List.mem_cons.mp hm with q | q
      · exact hz q
      · exact hz2 (List.mem_singleton.mp q)
    have X2 := X.keeps kg2
    have T2r := (topRead_of T).keeps kg2
    have hD2' := hD.kp kg2
    have hR2 : RowsAt w _ R M Rr Nl := SD.kp hR kg2
    clear F3 N3 X1 T1 T1r hSR hSA hRr1 hA1 hR1 hD1 hD2 hD3 ne5 T X hD hR hTab
    obtain ⟨dD', p1, p2, p3, p4, r1, r2, r3, r4, r5, nn', hD3, hD4⟩ := id hD2'
    unfold RowsAt at hR2
    generalize hg2 : hideAll g1 [Rr, At] = g2 at *
    k_steps
    rename Fr _ _ _ _ => F5
    rename News _ _ _ _ => N5
    refine lcN_val (fun _ zs => StrsAre zs []) (fun _ _ _ _ => finE_mono) hh F5 N5 (.list (.inr ⟨_, by k_extra "M mem", rfl, _, rfl⟩)) (by decide) .nil ?_ ?_
    · intro i v I oI D' oL C m₂ h tk ys nw E' hi
      exact absurd hi (Nat.not_lt_zero _)
    · intro zs hJ D' h tk F' N' off
      clear F5 N5
      replace off := neA_of (allNe_of off)
      try dsimp only [Mine.adr] at off
      dsimp only
      k_steps
      rename Fr _ _ _ _ => F9
      rename News _ _ _ _ => N9
      rename RuleNew _ => hr9
      have m1 := N9 _ (.head _)
      have m2 := N9 _ (.tail _ (.head _))
      have m3 := N9 _ (.tail _ (.tail _ (.head _)))
      have m4 := N9 _ (.tail _ (.tail _ (.tail _ (.head _))))
      have m6 := News.get N9 (a := Rr) (by k_extra "M memL")
      have m7 := News.get N9 (a := At) (by k_extra "M memL")
      have m8 := N9 _ (.tail _ (.tail _ (.tail _ (.tail _ (.tail _ (.tail _ (.tail _ (.head _))))))))
      have m9 := N9 _ (.tail _ (.tail _ (.tail _ (.tail _ (.tail _ (.tail _ (.tail _ (.tail _ (.head _)))))))))
      have m10 := N9 _ (.tail _ (.tail _ (.tail _ (.tail _ (.tail _ (.tail _ (.tail _ (.tail _ (.tail _ (.head _))))))))))
      have m11 := News.get N9 (a := src) (by k_extra "M memL")
      have f1 := fresh2 hg1 hg2 m1.2.2 (by k_ne) (by k_ne) (by k_ne)
      have f2 := fresh2 hg1 hg2 m2.2.2 (by k_ne) (by k_ne) (by k_ne)
      have f3 := fresh2 hg1 hg2 m3.2.2 (by k_ne) (by k_ne) (by k_ne)
      have f4 := fresh2 hg1 hg2 m4.2.2 (by k_ne) (by k_ne) (by k_ne)
      have f8 := fresh2 hg1 hg2 m8.2.2 (by k_ne) (by k_ne) (by k_ne)
      have f9 := fresh2 hg1 hg2 m9.2.2 (by k_ne) (by k_ne) (by k_ne)
      have f10 := fresh2 hg1 hg2 m10.2.2 (by k_ne) (by k_ne) (by k_ne)
      refine kA _ _ _ _ _ (fun z o hz e => ?_) ⟨_, _, _, _, _, m11, by with_reducible assumption, by with_reducible assumption⟩ (abc_of hx9) (ijk_of hy9) hxR hxA hr9 ⟨_, _, _, _, _, _, _, _, m6, by with_reducible assumption, m7, by with_reducible assumption, m8.1, m1.1, by with_reducible assumption, by with_reducible assumption, f8, f1, by k_ne, ⟨_, _, _, rfl, ⟨_, new2 m4.1 f4 (by k_ne) (by k_ne), rfl, _, rfl⟩, rowAt_of (new2 m9.1 f9 (by k_ne) (by k_ne)) (new2 m10.1 f10 (by k_ne) (by k_ne)) (by with_reducible assumption) (by with_reducible assumption) (by with_reducible assumption) (by with_reducible assumption) (by with_reducible assumption) (by with_reducible assumption)⟩, ruleObj_of (new2 m2.1 f2 (by k_ne) (by k_ne)) (new2 m3.1 f3 (by k_ne) (by k_ne)) (by with_reducible assumption) (new2 m10.1 f10 (by k_ne) (by k_ne)) (by with_reducible assumption) (by with_reducible assumption) (by with_reducible assumption) (by with_reducible assumption)⟩
      simp only [List.mem_cons, List.not_mem_nil, or_false, not_or] at hz
      exact F9.keep _ _ (up2 _ _ hz.2.1 hz.2.2 (up1 _ _ hz.1 e))
  · have ent0 := ent
    obtain ⟨exR, exA, ehl, ehd, edd, esys, eown, einn, egl, egd, ene, ebad, elen, elen2⟩ := ent
    have hl1 := up1 _ _ (fun q => (ebad src (.head _)).1 q.symm) ehl
    have hd1 := up1 _ _ (fun q => (ebad src (.head _)).2 q.symm) ehd
    have eown1 := Paired.mono (fun _ _ x => x.kp kg1) eown
    have hSd : SD w g1 d kvs := ⟨esys, Heap.dictOf_iff.mpr ⟨od, hd1, edd⟩⟩
    k_steps
    rename Fr _ _ _ _ => F5
    rename News _ _ _ _ => N5
    have hil := Paired.length eown1
    refine lcN_val (fun i zs => StrsAre zs ((rs.take i).map (·.1))) (fun _ _ _ _ => finE_mono) hh F5 N5 (.list (.inl ⟨_, hl1, rfl, _, rfl⟩)) (fewer (by rw [List.size_toArray]; exact elen)) .nil ?_ ?_
    · intro i3 v3 I3 oI3 D3 oL3 C3 m3 h tk ys nw E' hi3 hv3 hx3 hJ3 hsub F' N'
      obtain ⟨r3, hr3, T3, rr3, t3, rfl, hT3, hrow3⟩ := paired_get eown1 i3 v3 (by simpa using hv3)
      clear F5 N5
      unfold VTurn
      refine wpAny_tests_nil ?_
      k_steps
      dsimp only
      rw [namesTake hr3, List.map_append]
      exact strs_snoc hJ3
    · intro zs hJ D' h tk F' N' off
      replace hJ : StrsAre zs (rs.map (·.1)) := by
        rw [show (List.toArray _).size = rs.length by rw [List.size_toArray]; exact hil, List.take_length] at hJ
        exact hJ
      clear F5 N5
      replace off := neA_of (allNe_of off)
      try dsimp only [Mine.adr] at off
      dsimp only
      rcases any_cases hy9 (rs.map (·.1)) with hc | hc
      · have hnn : (valueAt kvs _).isSome = true := (einn _).trans ((any_contains _ _).symm.trans hc)
        k_steps
        rename Fr _ _ _ _ => F9
        rename News _ _ _ _ => N9
        refine kC _ _ (fun z o hz e => F9.keep _ _ (up1 _ _ (fun q => hz (by rw [q]; exact .head _)) e)) ⟨_, _, _, _, _, News.get N9 (a := src) (by k_extra "M memL"), by assumption, ?_⟩
        assumption
      · k_steps
        rename Fr _ _ _ _ => F6
        rename News _ _ _ _ => N6
        show wpAny _ _ _ _ _ _
        obtain ⟨F7, N7, ne5⟩ := rebase F6 N6 [(l, lsn its nl), (d, od)] (fun p hp => by
          rcases List.mem_cons.mp hp with q | q
          · rw [q]; exact hl1
          · rw [List.mem_singleton.mp q]; exact hd1)
        have ne6 := ne5 _ (.head _)
        have ne7 := ne5 _ (.tail _ (.head _))
        replace ne6 := neA_of ne6
        replace ne7 := neA_of ne7
        try dsimp only [Mine.adr] at ne6 ne7
        change Fr (hideAll g1 [l, d]) _ _ _ at F7
        change News (hideAll g1 [l, d]) _ _ _ at N7
        simp only [List.cons_append, List.nil_append] at N7
        have kg2 : Kp g0 (hideAll g1 [l, d]) := fun x o e => hideAll_get _ (kg1 x o e) fun hm => by
          rcases List.mem_cons.mp hm with q | q
          · rw [q, egl] at e; cases e
          · rw [List.mem_singleton.mp q, egd] at e; cases e
        have up2 : ∀ z o, z ≠ l → z ≠ d → g1.get? z = some o → (hideAll g1 [l, d]).get? z = some o := fun z o hz hz2 e => hideAll_get _ e fun hm => by
          rcases List.mem_cons.mp hm with q | q
          · exact hz q
          · exact hz2 (List.mem_singleton.mp q)
        have X2 := X.keeps kg2
        have T2r := (topRead_of T).keeps kg2
        have hD2' := hD.kp kg2
        have hR2 : RowsAt w _ R M Rr Nl := SD.kp hR kg2
        have hSA2 : SD w _ At kvA := ⟨lA, Heap.dictOf_iff.mpr ⟨oA, up2 _ _ (ebad At (.tail _ (.head _))).1 (ebad At (.tail _ (.head _))).2 hA1, dA⟩⟩
        have hnn : (valueAt kvs _).isSome = false := (einn _).trans ((any_contains _ _).symm.trans hc)
        clear F6 N6 X1 T1 T1r hSR hSA hRr1 hA1 hR1 hD1 hD2 hD3 ne5 T X hD hR hTab hSd hl1 hd1 eown1 eown
        obtain ⟨dD', p1, p2, p3, p4, r1, r2, r3, r4, r5, nn', hD3, hD4⟩ := id hD2'
        unfold RowsAt at hR2
        generalize hg2 : hideAll g1 [l, d] = g2 at *
        k_steps
        rename Fr _ _ _ _ => F9
        rename News _ _ _ _ => N9
        rename RuleNew _ => hr9
        have m1 := N9 _ (.head _)
        have m2 := N9 _ (.tail _ (.head _))
        have m3 := N9 _ (.tail _ (.tail _ (.head _)))
        have m4 := News.get N9 (a := l) (by k_extra "M memL")
        have m5 := News.get N9 (a := d) (by k_extra "M memL")
        have m8 := N9 _ (.tail _ (.tail _ (.tail _ (.tail _ (.tail _ (.tail _ (.tail _ (.head _))))))))
        have m9 := N9 _ (.tail _ (.tail _ (.tail _ (.tail _ (.tail _ (.tail _ (.tail _ (.tail _ (.head _)))))))))
        have m11 := News.get N9 (a := src) (by k_extra "M memL")
        have f1 := fresh2 hg1 hg2 m1.2.2 (by k_ne) (by k_ne) (by k_ne)
        have f2 := fresh2 hg1 hg2 m2.2.2 (by k_ne) (by k_ne) (by k_ne)
        have f3 := fresh2 hg1 hg2 m3.2.2 (by k_ne) (by k_ne) (by k_ne)
        have f8 := fresh2 hg1 hg2 m8.2.2 (by k_ne) (by k_ne) (by k_ne)
        have f9 := fresh2 hg1 hg2 m9.2.2 (by k_ne) (by k_ne) (by k_ne)
        refine kB _ _ _ _ _ _ _ _ _ _ _ _ ent0 hP (fun z o hz e => ?_) ⟨_, _, _, _, _, m11, by with_reducible assumption, by with_reducible assumption⟩ (abc_of hx9) (ijk_of hy9) ((any_contains _ _).symm.trans hc) hr9 ⟨_, _, _, _, m4, m5, by with_reducible assumption, ⟨_, _, _, rfl, ⟨_, newOf_get m3.1 f3, rfl, _, rfl⟩, rowAt_of (newOf_get m8.1 f8) (newOf_get m9.1 f9) (by with_reducible assumption) (by with_reducible assumption) (by with_reducible assumption) (by with_reducible assumption) (by with_reducible assumption) (by with_reducible assumption)⟩, ruleObj_of (newOf_get m1.1 f1) (newOf_get m2.1 f2) (by with_reducible assumption) (newOf_get m9.1 f9) (by with_reducible assumption) (by with_reducible assumption) (by with_reducible assumption) (by with_reducible assumption)⟩
        simp only [List.mem_cons, List.not_mem_nil, or_false, not_or] at hz
        exact F9.keep _ _ (up2 _ _ hz.2.1 hz.2.2 (up1 _ _ hz.1 e))
end Mine
theorem Mine.offL1 : True := by
  w_top off
  trivial
set_option maxHeartbeats 800000
namespace Mine
theorem not_hidden {h : Heap} {S : List Addr} {b : Addr} {o : Obj} (e : (hideAll h S).get? b = some o) : b ∉ S := fun hm => by rw [hideAll_none S hm] at e; cases e
theorem kp_move {h h' : Heap} {S S' C : List Addr} (k : ∀ z o, z ∉ C → h.get? z = some o → h'.get? z = some o) (hC : ∀ z ∈ C, z ∈ S) (hS : ∀ z ∈ S', z ∈ S ∨ h.get? z = none) : Kp (hideAll h S) (hideAll h' S') := fun b o e => by
  have hb := not_hidden e
  have e' := of_hideAll _ e
  exact hideAll_get _ (k b o (fun hc => hb (hC b hc)) e') fun hm => (hS b hm).elim hb fun n => by rw [n] at e'; cases e'
theorem kp_new {h h' : Heap} {S' : List Addr} (a : ∀ z ∈ S', ∃ o, h.get? z = some o) : Kp (newOf h h') (hideAll h' S') := fun b o e => by
  have n := newOf_old e
  exact hideAll_get _ (newOf_kp h h' b o e) fun hm => by obtain ⟨o', e'⟩ := a b hm; rw [n] at e'; cases e'
theorem kp_new2 {h h' : Heap} {S X : List Addr} (a : ∀ z ∈ S, ∃ o, h.get? z = some o) : Kp (hideAll (newOf h h') X) (hideAll h' (S ++ X)) := fun b o e => by
  have hb := not_hidden e
  have e1 := of_hideAll _ e
  have n := newOf_old e1
  exact hideAll_get _ (newOf_kp h h' b o e1) fun hm => by
    rcases List.mem_append.mp hm with hm | hm
    · obtain ⟨o', e'⟩ := a b hm; rw [n] at e'; cases e'
    · exact hb hm
theorem SD.at {w : World} {h h' : Heap} {d : Addr} {kvs : List (Str × Value)} (x : SD w h d kvs) (e : ∀ o, h.get? d = some o → h'.get? d = some o) : SD w h' d kvs := by
  obtain ⟨o, a, b⟩ := Heap.dictOf_iff.mp x.2
  exact ⟨x.1, Heap.dictOf_iff.mpr ⟨o, e o a, b⟩⟩
theorem SD.of {w : World} {h : Heap} {d : Addr} {o : Obj} {kvs : List (Str × Value)} (lo : (d == sysModules) = false) (e : h.get? d = some o) (x : o.IsDictOf (strKind PR w) kvs) : SD w h d kvs := ⟨lo, Heap.dictOf_iff.mpr ⟨o, e, x⟩⟩
theorem SD.obj {w : World} {h : Heap} {d : Addr} {kvs : List (Str × Value)} (x : SD w h d kvs) : ∃ o, h.get? d = some o ∧ o.IsDictOf (strKind PR w) kvs := Heap.dictOf_iff.mp x.2
theorem LamOk.hit {g : Heap} {ps : Array Value} {pos : Pos} {q : Str} {c' : Addr} (t : TriplesOk ps.toList) (hn : codeAmong pos ps.toList = none) (r : g.CodeRec (.ref c') q) : LamOk g (ps ++ #[rawInt pos.line, rawInt pos.col, .ref c']) pos q :=
  .inr ⟨c', by rw [Array.toList_append]; exact codeAmong_snoc _ t hn, r⟩
theorem LamOk.other {g : Heap} {ps : Array Value} {pos : Pos} {q : Str} {c' : Addr} {a b : Int} (x : LamOk g ps pos q) (t : TriplesOk ps.toList) (ne : (a == pos.line && b == pos.col) = false) : LamOk g (ps ++ #[rawInt a, rawInt b, .ref c']) pos q :=
  x.elim (fun hn => .inl (by rw [Array.toList_append]; exact among_other _ t hn ne)) fun ⟨c, p, r⟩ => .inr ⟨c, by rw [Array.toList_append]; exact among_snoc _ t p, r⟩
theorem tri_snoc {ps : Array Value} {a b : Int} {c : Value} (t : TriplesOk ps.toList) : TriplesOk (ps ++ #[rawInt a, rawInt b, c]).toList := by
  rw [Array.toList_append]; exact TriplesOk_snoc a b c _ t

/-- one element with attributes: its list in the rows, its dict in the Dtd -/
structure Ent where
  x : Str
  l : Addr
  d : Addr
  its : List Value
  nl : Nat
  od : Obj
  kvs : List (Str × Value)
  rs : Rules
/-- a rule of the law's, with its name -/
structure RFine (e : Str × Rule) : Prop where
  ok : RuleOk e
  mode : e.2.mode ∈ modes4
  str : PyData.strOk e.1 = true
  good : RuleGood e.2
  noz : e.1 ≠ Str.ofString "z"
structure EntOk (w : World) (g0 h : Heap) (e : Ent) : Prop where
  hl : h.get? e.l = some (lsn e.its e.nl)
  hd : h.get? e.d = some e.od
  dd : e.od.IsDictOf (strKind PR w) e.kvs
  sys : (e.d == sysModules) = false
  own : Paired (PairOf g0) e.its e.rs
  prs : Paired (fun kv r => kv.1 = r.1 ∧ RuleRef g0 kv.2 r.2) e.kvs e.rs
  fine : ∀ r ∈ e.rs, RFine r
  key : e.x ∈ Str.ofString "e" :: abc'
theorem EntOk.move {w : World} {g0 g1 h h' : Heap} {e : Ent} (x : EntOk w g0 h e) (k : Kp g0 g1) (e1 : ∀ o, h.get? e.l = some o → h'.get? e.l = some o) (e2 : ∀ o, h.get? e.d = some o → h'.get? e.d = some o) : EntOk w g1 h' e where
  hl := e1 _ x.hl
  hd := e2 _ x.hd
  dd := x.dd
  sys := x.sys
  own := Paired.mono (fun _ _ y => y.kp k) x.own
  prs := Paired.mono (fun _ _ ⟨a, y, b, c⟩ => ⟨a, y, b, c.kp k⟩) x.prs
  fine := x.fine
  key := x.key
/-- the addresses that stay -/
structure Cst where
  src : Addr
  D : Addr
  R : Addr
  E : Addr
  At : Addr
  Nt : Addr
  M : Addr
  Rr : Addr
  Nl : Addr
/-- what has been declared so far -/
structure Dat where
  kvE : List (Str × Value)
  kvM : List (Str × Value)
  kvN : List (Str × Value)
  ents : List Ent
  nots : List Str
  ys : List Value
  mo : Str → Option PyData
  ps : Array Value
def flatE (es : List Ent) : List Addr := es.flatMap fun e => [e.l, e.d]
def muts (c : Cst) : List Addr := [246, c.src, c.E, c.M, c.Nt, c.Nl, c.At, c.Rr]
def hid (bad : List Addr) (c : Cst) (es : List Ent) : List Addr := muts c ++ (bad ++ flatE es)
def kvD (es : List Ent) : List (Str × Value) := es.map fun e => (e.x, .ref e.d)
def kvL (es : List Ent) : List (Str × Value) := es.map fun e => (e.x, .ref e.l)
abbrev lamQ : Str := Str.ofString "_law_declared.<locals>.<lambda>"
def ModsOk (g0 : Heap) (t : Dat) : Prop := ∀ x, (t.mo x = none ∧ valueAt t.kvE x = none ∧ valueAt t.kvM x = none) ∨ ∃ (e : PyData) (a : Addr) (as : List Addr), t.mo x = some e ∧ valueAt t.kvE x = some (.ref a) ∧ valueAt t.kvM x = some (.ref a) ∧ Reads g0 (.ref a) e as ∧ SeqAt.shaped e = true
theorem ModsOk.kp {g0 g1 : Heap} {t : Dat} (x : ModsOk g0 t) (k : Kp g0 g1) : ModsOk g1 t := fun y => (x y).elim .inl fun ⟨e, a, as, p, q, r, s, u⟩ => .inr ⟨e, a, as, p, q, r, Reads.keeps k s, u⟩
/-- all is as the law has told it so far -/
structure Ok (w : World) (g h : Heap) (bad : List Addr) (c : Cst) (i : Nat) (t : Dat) : Prop where
  kg : Kp g h
  gS : ∀ z ∈ hid bad c t.ents, g.get? z = none
  live : ∀ z ∈ bad, ∃ o, h.get? z = some o
  nd : (hid bad c t.ents).Nodup
  src : SrcOk h c.src
  tab : h.get? 246 = some (tabObj t.ps)
  tri : TriplesOk t.ps.toList
  lamE : LamOk (hideAll h (hid bad c t.ents)) t.ps posE lamQ
  lamN : LamOk (hideAll h (hid bad c t.ents)) t.ps posN lamQ
  dtd : DtdAt (hideAll h (hid bad c t.ents)) c.D c.E c.At c.Nt
  row : RowsAt w (hideAll h (hid bad c t.ents)) c.R c.M c.Rr c.Nl
  dE : SD w h c.E t.kvE
  dM : SD w h c.M t.kvM
  dN : SD w h c.Nt t.kvN
  dA : SD w h c.At (kvD t.ents)
  dR : SD w h c.Rr (kvL t.ents)
  dL : ∃ nl, h.get? c.Nl = some (lsn t.ys nl)
  mods : ModsOk (hideAll h (hid bad c t.ents)) t
  nos : Paired (fun kv x => kv.1 = x ∧ NotObj (hideAll h (hid bad c t.ents)) kv.2 x) t.kvN t.nots
  noy : StrsAre t.ys t.nots
  ent : ∀ e ∈ t.ents, EntOk w (hideAll h (hid bad c t.ents)) h e
  zE : t.kvE.length ≤ i
  zM : t.kvM.length ≤ i
  zN : t.nots.length ≤ i
  zR : ∀ e ∈ t.ents, e.rs.length ≤ i
  nok : ∀ x ∈ t.nots, x ∈ gpx
section
variable {w : World} {g h h' : Heap} {bad : List Addr} {c : Cst} {i : Nat} {t : Dat}
theorem mem_flatE {es : List Ent} {z : Addr} (hz : z ∈ flatE es) : ∃ e ∈ es, z = e.l ∨ z = e.d := by
  obtain ⟨e, he, hz⟩ := List.mem_flatMap.mp hz
  refine ⟨e, he, ?_⟩
  rcases List.mem_cons.mp hz with q | q
  · exact .inl q
  · exact .inr (List.mem_singleton.mp q)
theorem flatE_l {es : List Ent} {e : Ent} (he : e ∈ es) : e.l ∈ flatE es := List.mem_flatMap.mpr ⟨e, he, .head _⟩
theorem flatE_d {es : List Ent} {e : Ent} (he : e ∈ es) : e.d ∈ flatE es := List.mem_flatMap.mpr ⟨e, he, .tail _ (.head _)⟩
theorem SD.live {d : Addr} {kvs : List (Str × Value)} (x : SD w h d kvs) : ∃ o, h.get? d = some o := let ⟨o, e, _⟩ := x.obj; ⟨o, e⟩
theorem Ok.alive (x : Ok w g h bad c i t) : ∀ z ∈ hid bad c t.ents, ∃ o, h.get? z = some o := by
  intro z hz
  rcases List.mem_append.mp hz with hz | hz
  · simp only [muts, List.mem_cons, List.not_mem_nil, or_false] at hz
    rcases hz with rfl | rfl | rfl | rfl | rfl | rfl | rfl | rfl
    · exact ⟨_, x.tab⟩
    · obtain ⟨_, _, _, _, _, e, _⟩ := x.src; exact ⟨_, e⟩
    · exact x.dE.live
    · exact x.dM.live
    · exact x.dN.live
    · obtain ⟨_, e⟩ := x.dL; exact ⟨_, e⟩
    · exact x.dA.live
    · exact x.dR.live
  · rcases List.mem_append.mp hz with hz | hz
    · exact x.live z hz
    · obtain ⟨e, he, rfl | rfl⟩ := mem_flatE hz
      · exact ⟨_, (x.ent e he).hl⟩
      · exact ⟨_, (x.ent e he).hd⟩
theorem Ok.kg0 (x : Ok w g h bad c i t) : Kp g (hideAll h (hid bad c t.ents)) := fun b o e => hideAll_get _ (x.kg b o e) fun hm => by rw [x.gS b hm] at e; cases e
/-- two of the named places differ -/
theorem nodup_ix {l : List Addr} (hn : l.Nodup) {i j : Nat} {a b : Addr} (ha : l[i]? = some a) (hb : l[j]? = some b) (hij : i ≠ j) : a ≠ b := by
  intro q
  subst q
  obtain ⟨hi, ha⟩ := List.getElem?_eq_some_iff.mp ha
  obtain ⟨hj, hb⟩ := List.getElem?_eq_some_iff.mp hb
  have p := List.pairwise_iff_getElem.mp hn
  rcases Nat.lt_or_gt_of_ne hij with q | q
  · exact p i j hi hj q (ha.trans hb.symm)
  · exact p j i hj hi q (hb.trans ha.symm)
theorem Ok.ne (x : Ok w g h bad c i t) (p q : Nat) {a b : Addr} (ha : (muts c)[p]? = some a) (hb : (muts c)[q]? = some b) (hpq : p ≠ q) : a ≠ b :=
  nodup_ix (List.nodup_append.mp x.nd).1 ha hb hpq
theorem Ok.off (x : Ok w g h bad c i t) (p : Nat) {a z : Addr} (ha : (muts c)[p]? = some a) (hz : z ∈ bad ++ flatE t.ents) : z ≠ a := fun q =>
  (List.nodup_append.mp x.nd).2.2 a (List.mem_of_getElem? ha) z hz q.symm
theorem Ok.offB (x : Ok w g h bad c i t) {a z : Addr} (ha : a ∈ bad) (hz : z ∈ flatE t.ents) : z ≠ a := fun q =>
  (List.nodup_append.mp (List.nodup_append.mp x.nd).2.1).2.2 a ha z hz q.symm
end
end Mine
theorem Mine.offL2 : True := by
  w_top off
  trivial
set_option maxHeartbeats 800000
namespace Mine
section
variable {w : World} {g h h' : Heap} {bad : List Addr} {c : Cst} {i j : Nat} {t : Dat} {C : List Addr}
theorem Ok.up (x : Ok w g h bad c i t) (hij : i ≤ j) : Ok w g h bad c j t :=
  { x with zE := Nat.le_trans x.zE hij, zM := Nat.le_trans x.zM hij, zN := Nat.le_trans x.zN hij, zR := fun e he => Nat.le_trans (x.zR e he) hij }
theorem Ok.kgC (x : Ok w g h bad c i t) (keep : ∀ z o, z ∉ C → h.get? z = some o → h'.get? z = some o) (hC : ∀ z ∈ C, z ∈ hid bad c t.ents) : Kp g h' := fun b o e => keep b o (fun hm => by rw [x.gS b (hC b hm)] at e; cases e) (x.kg b o e)
/-- no place but the named ones (by their number) is touched -/
theorem Ok.kept (x : Ok w g h bad c i t) (keep : ∀ z o, z ∉ C → h.get? z = some o → h'.get? z = some o) (P : Nat → Prop) (hC : ∀ z ∈ C, (∃ p, P p ∧ (muts c)[p]? = some z) ∨ z ∈ bad) (q : Nat) {a : Addr} (ha : (muts c)[q]? = some a) (hq : ¬ P q) : ∀ o, h.get? a = some o → h'.get? a = some o := fun o e =>
  keep a o (fun hm => by
    rcases hC a hm with ⟨p, hp, hb⟩ | hb
    · exact x.ne q p ha hb (fun z => hq (z ▸ hp)) rfl
    · exact x.off q ha (List.mem_append_left _ hb) rfl) e
theorem Ok.keptE (x : Ok w g h bad c i t) (keep : ∀ z o, z ∉ C → h.get? z = some o → h'.get? z = some o) (P : Nat → Prop) (hC : ∀ z ∈ C, (∃ p, P p ∧ (muts c)[p]? = some z) ∨ z ∈ bad) {a : Addr} (ha : a ∈ flatE t.ents) : ∀ o, h.get? a = some o → h'.get? a = some o := fun o e =>
  keep a o (fun hm => by
    rcases hC a hm with ⟨p, hp, hb⟩ | hb
    · exact x.off p hb (List.mem_append_right _ ha) rfl
    · exact x.offB hb ha rfl) e
theorem inHid (P : Nat → Prop) (hC : ∀ z ∈ C, (∃ p, P p ∧ (muts c)[p]? = some z) ∨ z ∈ bad) (es : List Ent) : ∀ z ∈ C, z ∈ hid bad c es := fun z hz => (hC z hz).elim (fun ⟨_, _, hb⟩ => List.mem_append_left _ (List.mem_of_getElem? hb)) fun hb => List.mem_append_right _ (List.mem_append_left _ hb)
theorem kp_same (x : Ok w g h bad c i t) (keep : ∀ z o, z ∉ C → h.get? z = some o → h'.get? z = some o) (hC : ∀ z ∈ C, z ∈ hid bad c t.ents) : Kp (hideAll h (hid bad c t.ents)) (hideAll h' (hid bad c t.ents)) := kp_move keep hC fun z hz => .inl hz
/-- only the source, or what is set aside, has changed -/
theorem Ok.move (x : Ok w g h bad c i t) (keep : ∀ z o, z ∉ C → h.get? z = some o → h'.get? z = some o) (hC : ∀ z ∈ C, (∃ p, p = 1 ∧ (muts c)[p]? = some z) ∨ z ∈ bad) (live : ∀ z ∈ bad, ∃ o, h'.get? z = some o) (src : SrcOk h' c.src) : Ok w g h' bad c i t :=
  have k := kp_same x keep (inHid _ hC _)
  { kg := x.kgC keep (inHid _ hC _), gS := x.gS, live := live, nd := x.nd, src := src
    tab := x.kept keep _ hC 0 rfl (by decide) _ x.tab
    tri := x.tri, lamE := x.lamE.kp k, lamN := x.lamN.kp k, dtd := x.dtd.kp k, row := SD.kp x.row k
    dE := x.dE.at (x.kept keep _ hC 2 rfl (by decide))
    dM := x.dM.at (x.kept keep _ hC 3 rfl (by decide))
    dN := x.dN.at (x.kept keep _ hC 4 rfl (by decide))
    dL := let ⟨nl, e⟩ := x.dL; ⟨nl, x.kept keep _ hC 5 rfl (by decide) _ e⟩
    dA := x.dA.at (x.kept keep _ hC 6 rfl (by decide))
    dR := x.dR.at (x.kept keep _ hC 7 rfl (by decide))
    mods := x.mods.kp k
    nos := Paired.mono (fun _ _ ⟨p, q⟩ => ⟨p, q.kp k⟩) x.nos
    noy := x.noy
    ent := fun e he => (x.ent e he).move k (x.keptE keep _ hC (flatE_l he)) (x.keptE keep _ hC (flatE_d he))
    zE := x.zE, zM := x.zM, zN := x.zN, zR := x.zR, nok := x.nok }
theorem Ok.srcKeep (x : Ok w g h bad c i t) (keep : ∀ z o, z ∉ C → h.get? z = some o → h'.get? z = some o) (hC : ∀ z ∈ C, z ∈ bad) : SrcOk h' c.src := by
  obtain ⟨a, b, ta, tb, n, e, r⟩ := x.src
  exact ⟨a, b, ta, tb, n, keep _ _ (fun hm => x.off 1 rfl (List.mem_append_left _ (hC _ hm)) rfl) e, r⟩
/-- only what is set aside has changed -/
theorem Ok.moveB (x : Ok w g h bad c i t) (keep : ∀ z o, z ∉ C → h.get? z = some o → h'.get? z = some o) (hC : ∀ z ∈ C, z ∈ bad) (live : ∀ z ∈ C, ∃ o, h'.get? z = some o) : Ok w g h' bad c i t :=
  x.move keep (fun z hz => .inr (hC z hz)) (fun z hz => by
    by_cases hm : z ∈ C
    · exact live z hm
    · obtain ⟨o, e⟩ := x.live z hz; exact ⟨o, keep z o hm e⟩) (x.srcKeep keep hC)
/-- the table of codes has grown (or not) by a lambda -/
theorem Ok.grow {L : Addr} (x : Ok w g h bad c i t) (hL : L ∈ bad) (keep : ∀ z o, z ∉ [L, c.src, 246] → h.get? z = some o → h'.get? z = some o) (hLs : ∀ o, h.get? L = some o → ∃ sl, h'.get? L = some { o with slots := sl }) (src : SrcOk h' c.src) {ps' : Array Value}
    (tab : h'.get? 246 = some (tabObj ps')) (tri : TriplesOk ps'.toList) (lamE : ∀ g', Kp (hideAll h (hid bad c t.ents)) g' → Kp (newOf h h') g' → LamOk g' ps' posE lamQ) (lamN : ∀ g', Kp (hideAll h (hid bad c t.ents)) g' → Kp (newOf h h') g' → LamOk g' ps' posN lamQ) :
    Ok w g h' bad c i { t with ps := ps' } :=
  have hC : ∀ z ∈ [L, c.src, 246], (∃ p, (p = 1 ∨ p = 0) ∧ (muts c)[p]? = some z) ∨ z ∈ bad := fun z hz => by
    simp only [List.mem_cons, List.not_mem_nil, or_false] at hz
    rcases hz with rfl | rfl | rfl
    · exact .inr hL
    · exact .inl ⟨1, .inl rfl, rfl⟩
    · exact .inl ⟨0, .inr rfl, rfl⟩
  have k := kp_same x keep (inHid _ hC _)
  have kn := kp_new (h' := h') x.alive
  { kg := x.kgC keep (inHid _ hC _), gS := x.gS, nd := x.nd, src := src
    live := fun z hz => by
      obtain ⟨o, e⟩ := x.live z hz
      by_cases hm : z = L
      · subst hm; obtain ⟨sl, e'⟩ := hLs o e; exact ⟨_, e'⟩
      · refine ⟨o, keep z o (fun q => ?_) e⟩
        simp only [List.mem_cons, List.not_mem_nil, or_false] at q
        rcases q with q | q | q
        · exact hm q
        · exact x.off 1 rfl (List.mem_append_left _ hz) q
        · exact x.off 0 rfl (List.mem_append_left _ hz) q
    tab := tab, tri := tri, lamE := lamE _ k kn, lamN := lamN _ k kn, dtd := x.dtd.kp k, row := SD.kp x.row k
    dE := x.dE.at (x.kept keep _ hC 2 rfl (by decide))
    dM := x.dM.at (x.kept keep _ hC 3 rfl (by decide))
    dN := x.dN.at (x.kept keep _ hC 4 rfl (by decide))
    dL := let ⟨nl, e⟩ := x.dL; ⟨nl, x.kept keep _ hC 5 rfl (by decide) _ e⟩
    dA := x.dA.at (x.kept keep _ hC 6 rfl (by decide))
    dR := x.dR.at (x.kept keep _ hC 7 rfl (by decide))
    mods := ModsOk.kp (t := t) x.mods k
    nos := Paired.mono (fun _ _ ⟨p, q⟩ => ⟨p, q.kp k⟩) x.nos
    noy := x.noy
    ent := fun e he => (x.ent e he).move k (x.keptE keep _ hC (flatE_l he)) (x.keptE keep _ hC (flatE_d he))
    zE := x.zE, zM := x.zM, zN := x.zN, zR := x.zR, nok := x.nok }
theorem valueAt_snoc {kvs : List (Str × Value)} {x y : Str} {v : Value} (h : valueAt kvs x = none) : valueAt (kvs ++ [(x, v)]) y = if y = x then some v else valueAt kvs y := by
  unfold valueAt at h ⊢
  rw [List.find?_append]
  by_cases q : y = x
  · subst q
    rw [if_pos rfl]
    cases e : kvs.find? fun e => e.1 = y with
    | none => simp
    | some o => rw [e] at h; cases h
  · rw [if_neg q]
    have q' : ¬ x = y := fun z => q z.symm
    cases e : kvs.find? fun e => e.1 = y with
    | none => simp [q']
    | some o => rfl
theorem none_of_isSome {kvs : List (Str × Value)} {x : Str} (h : (valueAt kvs x).isSome = false) : valueAt kvs x = none := by
  cases e : valueAt kvs x with
  | none => rfl
  | some o => rw [e] at h; cases h
/-- an element has been declared -/
theorem Ok.elem {x : Str} {mv : Addr} {oE' oM' : Obj} {e : PyData} {as : List Addr} (X : Ok w g h bad c i t) (keep : ∀ z o, z ∉ [c.src, c.E, c.M] → h.get? z = some o → h'.get? z = some o) (src : SrcOk h' c.src)
    (hE : h'.get? c.E = some oE') (dE : oE'.IsDictOf (strKind PR w) (stored t.kvE x (.ref mv))) (hM : h'.get? c.M = some oM') (dM : oM'.IsDictOf (strKind PR w) (stored t.kvM x (.ref mv))) (hx : (valueAt t.kvM x).isSome = false) (r : Reads (newOf h h') (.ref mv) e as) (sh : SeqAt.shaped e = true) :
    Ok w g h' bad c (i + 1) { t with kvE := t.kvE ++ [(x, .ref mv)], kvM := t.kvM ++ [(x, .ref mv)], mo := fun y => if y = x then some e else t.mo y } :=
  have hC : ∀ z ∈ [c.src, c.E, c.M], (∃ p, (p = 1 ∨ p = 2 ∨ p = 3) ∧ (muts c)[p]? = some z) ∨ z ∈ bad := fun z hz => by
    simp only [List.mem_cons, List.not_mem_nil, or_false] at hz
    rcases hz with rfl | rfl | rfl
    · exact .inl ⟨1, .inl rfl, rfl⟩
    · exact .inl ⟨2, .inr (.inl rfl), rfl⟩
    · exact .inl ⟨3, .inr (.inr rfl), rfl⟩
  have k := kp_same X keep (inHid _ hC _)
  have kn := kp_new (h' := h') X.alive
  have xM : valueAt t.kvM x = none := none_of_isSome hx
  have xE : valueAt t.kvE x = none := by
    rcases X.mods x with ⟨_, q, _⟩ | ⟨_, _, _, _, _, q, _⟩
    · exact q
    · rw [xM] at q; cases q
  { kg := X.kgC keep (inHid _ hC _), gS := X.gS, nd := X.nd, src := src
    live := fun z hz => by
      obtain ⟨o, e⟩ := X.live z hz
      refine ⟨o, keep z o (fun q => ?_) e⟩
      simp only [List.mem_cons, List.not_mem_nil, or_false] at q
      rcases q with q | q | q
      · exact X.off 1 rfl (List.mem_append_left _ hz) q
      · exact X.off 2 rfl (List.mem_append_left _ hz) q
      · exact X.off 3 rfl (List.mem_append_left _ hz) q
    tab := X.kept keep _ hC 0 rfl (by decide) _ X.tab
    tri := X.tri, lamE := X.lamE.kp k, lamN := X.lamN.kp k, dtd := X.dtd.kp k, row := SD.kp X.row k
    dE := SD.of X.dE.1 hE (by rw [stored_absent xE] at dE; exact dE)
    dM := SD.of X.dM.1 hM (by rw [stored_absent xM] at dM; exact dM)
    dN := X.dN.at (X.kept keep _ hC 4 rfl (by decide))
    dL := let ⟨nl, e⟩ := X.dL; ⟨nl, X.kept keep _ hC 5 rfl (by decide) _ e⟩
    dA := X.dA.at (X.kept keep _ hC 6 rfl (by decide))
    dR := X.dR.at (X.kept keep _ hC 7 rfl (by decide))
    mods := fun y => by
      show (_ ∨ _)
      by_cases q : y = x
      · refine .inr ⟨e, mv, as, by simp [q], ?_, ?_, Reads.keeps kn r, sh⟩
        · show valueAt (t.kvE ++ _) y = _
          rw [valueAt_snoc xE, if_pos q]
        · show valueAt (t.kvM ++ _) y = _
          rw [valueAt_snoc xM, if_pos q]
      · rcases (ModsOk.kp (t := t) X.mods k) y with ⟨a, b, d⟩ | ⟨e', a, bs, p1, p2, p3, p4, p5⟩
        · refine .inl ⟨by simpa [q] using a, ?_, ?_⟩
          · show valueAt (t.kvE ++ _) y = _
            rw [valueAt_snoc xE, if_neg q]; exact b
          · show valueAt (t.kvM ++ _) y = _
            rw [valueAt_snoc xM, if_neg q]; exact d
        · refine .inr ⟨e', a, bs, by simpa [q] using p1, ?_, ?_, p4, p5⟩
          · show valueAt (t.kvE ++ _) y = _
            rw [valueAt_snoc xE, if_neg q]; exact p2
          · show valueAt (t.kvM ++ _) y = _
            rw [valueAt_snoc xM, if_neg q]; exact p3
    nos := Paired.mono (fun _ _ ⟨p, q⟩ => ⟨p, q.kp k⟩) X.nos
    noy := X.noy
    ent := fun e he => (X.ent e he).move k (X.keptE keep _ hC (flatE_l he)) (X.keptE keep _ hC (flatE_d he))
    zE := by show (t.kvE ++ _).length ≤ _; rw [List.length_append]; exact Nat.succ_le_succ X.zE
    zM := by show (t.kvM ++ _).length ≤ _; rw [List.length_append]; exact Nat.succ_le_succ X.zM
    zN := Nat.le_succ_of_le X.zN, zR := fun e he => Nat.le_succ_of_le (X.zR e he), nok := X.nok }
/-- a notation has been declared -/
theorem Ok.nota {x : Str} {tx : Tok} {nv : Addr} {oN' : Obj} {nl' : Nat} (X : Ok w g h bad c i t) (keep : ∀ z o, z ∉ [c.src, c.Nt, c.Nl] → h.get? z = some o → h'.get? z = some o) (src : SrcOk h' c.src)
    (hN : h'.get? c.Nt = some oN') (dN : oN'.IsDictOf (strKind PR w) (stored t.kvN x (.ref nv))) (hL : h'.get? c.Nl = some (lsn (t.ys ++ [.str x tx]) nl')) (hx : x ∈ gpx) (hn : t.nots.contains x = false) (ob : NotObj (newOf h h') (.ref nv) x) :
    Ok w g h' bad c (i + 1) { t with kvN := t.kvN ++ [(x, .ref nv)], nots := t.nots ++ [x], ys := t.ys ++ [.str x tx] } :=
  have hC : ∀ z ∈ [c.src, c.Nt, c.Nl], (∃ p, (p = 1 ∨ p = 4 ∨ p = 5) ∧ (muts c)[p]? = some z) ∨ z ∈ bad := fun z hz => by
    simp only [List.mem_cons, List.not_mem_nil, or_false] at hz
    rcases hz with rfl | rfl | rfl
    · exact .inl ⟨1, .inl rfl, rfl⟩
    · exact .inl ⟨4, .inr (.inl rfl), rfl⟩
    · exact .inl ⟨5, .inr (.inr rfl), rfl⟩
  have k := kp_same X keep (inHid _ hC _)
  have kn := kp_new (h' := h') X.alive
  have xN : valueAt t.kvN x = none := none_of_isSome ((nots_has X.nos x).trans hn)
  { kg := X.kgC keep (inHid _ hC _), gS := X.gS, nd := X.nd, src := src
    live := fun z hz => by
      obtain ⟨o, e⟩ := X.live z hz
      refine ⟨o, keep z o (fun q => ?_) e⟩
      simp only [List.mem_cons, List.not_mem_nil, or_false] at q
      rcases q with q | q | q
      · exact X.off 1 rfl (List.mem_append_left _ hz) q
      · exact X.off 4 rfl (List.mem_append_left _ hz) q
      · exact X.off 5 rfl (List.mem_append_left _ hz) q
    tab := X.kept keep _ hC 0 rfl (by decide) _ X.tab
    tri := X.tri, lamE := X.lamE.kp k, lamN := X.lamN.kp k, dtd := X.dtd.kp k, row := SD.kp X.row k
    dE := X.dE.at (X.kept keep _ hC 2 rfl (by decide))
    dM := X.dM.at (X.kept keep _ hC 3 rfl (by decide))
    dN := SD.of X.dN.1 hN (by rw [stored_absent xN] at dN; exact dN)
    dL := ⟨_, hL⟩
    dA := X.dA.at (X.kept keep _ hC 6 rfl (by decide))
    dR := X.dR.at (X.kept keep _ hC 7 rfl (by decide))
    mods := ModsOk.kp (t := t) X.mods k
    nos := paired_append (Paired.mono (fun _ _ ⟨p, q⟩ => ⟨p, q.kp k⟩) X.nos) (.cons ⟨rfl, ob.kp kn⟩ .nil)
    noy := strs_snoc X.noy
    ent := fun e he => (X.ent e he).move k (X.keptE keep _ hC (flatE_l he)) (X.keptE keep _ hC (flatE_d he))
    zE := Nat.le_succ_of_le X.zE, zM := Nat.le_succ_of_le X.zM
    zN := by show (t.nots ++ _).length ≤ _; rw [List.length_append]; exact Nat.succ_le_succ X.zN
    zR := fun e he => Nat.le_succ_of_le (X.zR e he)
    nok := fun y hy => (List.mem_append.mp hy).elim (X.nok y) fun hy => by rw [List.mem_singleton.mp hy]; exact hx }
end
end Mine
theorem Mine.offL3 : True := by
  w_top off
  trivial
set_option maxHeartbeats 800000
namespace Mine
theorem kinds_ok : ∀ k ∈ kinds8, PyData.strOk k = true := by decide +kernel
theorem modes_ok : ∀ k ∈ modes4', PyData.strOk k = true := by decide +kernel
theorem ijk_z : ∀ k ∈ ijk, k ≠ Str.ofString "z" := by decide +kernel
theorem v_ok : PyData.strOk (Str.ofString "v") = true := by decide +kernel
theorem rfine_of {y : Str} {r : Rule} (hy : y ∈ ijk) (h : RuleNew r) : RFine (y, r) := by
  obtain ⟨a, b, d, e, f⟩ := h
  have hb : ∀ c ∈ r.choices, c.length ≤ 1000 ∧ PyData.strOk c = true := fun c hc => gpx_ok c (b c hc)
  refine ⟨⟨(ijk_ok y hy).1, Nat.le_trans d (by decide), fun c hc => ⟨(hb c hc).2, (hb c hc).1⟩⟩, e, (ijk_ok y hy).2, ⟨kinds_ok _ a, fun c hc => (hb c hc).2, modes_ok _ e, fun v hv => ?_⟩, ijk_z y hy⟩
  rcases f with f | f
  · rw [f] at hv; cases hv
  · rw [f] at hv; cases hv; exact v_ok
theorem flatE_append (a b : List Ent) : flatE (a ++ b) = flatE a ++ flatE b := List.flatMap_append ..
theorem flatE_cons (e : Ent) (b : List Ent) : flatE (e :: b) = [e.l, e.d] ++ flatE b := rfl
theorem names_has {h : Heap} : ∀ {kvs : List (Str × Value)} {rs : Rules}, Paired (fun kv (r : Str × Rule) => kv.1 = r.1 ∧ RuleRef h kv.2 r.2) kvs rs → ∀ y, (valueAt kvs y).isSome = (rs.map (·.1)).contains y
  | _, _, .nil, y => rfl
  | kv :: kvs, r :: rs, .cons f p, y => by
    have ih := names_has p y
    unfold valueAt at ih ⊢
    rw [List.map_cons, List.contains_cons, ← ih, List.find?_cons, ← f.1]
    by_cases q : kv.1 = y
    · simp [q]
    · have q' : (y == kv.1) = false := beq_eq_false_iff_ne.mpr fun z => q z.symm
      simp [q, q']
section
variable {w : World} {g h h' : Heap} {bad : List Addr} {c : Cst} {i j : Nat} {t : Dat} {C : List Addr}
/-- an element has got its first attribute -/
theorem Ok.newE {x y : Str} {r : Rule} (X : Ok w g h bad c i t) (hi : 1 ≤ i) (keep : ∀ z o, z ∉ [c.src, c.Rr, c.At] → h.get? z = some o → h'.get? z = some o) (src : SrcOk h' c.src) (hx : x ∈ abc') (hy : y ∈ ijk) (xR : valueAt (kvL t.ents) x = none) (xA : valueAt (kvD t.ents) x = none)
    (hr : RuleNew r) (hM : MadeA w h h' c.At c.Rr (kvD t.ents) (kvL t.ents) x y r) : ∃ t', Ok w g h' bad c (i + 1) t' := by
  obtain ⟨l', d', T, xr, nl', od', oR', oA', m1, m2, m3, m4, m5, m6, m7, m8, m9, m10, m11, m12, m13⟩ := hM
  have hC : ∀ z ∈ [c.src, c.Rr, c.At], (∃ p, (p = 1 ∨ p = 7 ∨ p = 6) ∧ (muts c)[p]? = some z) ∨ z ∈ bad := fun z hz => by
    simp only [List.mem_cons, List.not_mem_nil, or_false] at hz
    rcases hz with rfl | rfl | rfl
    · exact .inl ⟨1, .inl rfl, rfl⟩
    · exact .inl ⟨7, .inr (.inl rfl), rfl⟩
    · exact .inl ⟨6, .inr (.inr rfl), rfl⟩
  have hH : hid bad c (t.ents ++ [⟨x, l', d', [.ref T], nl', od', [(y, .ref xr)], [(y, r)]⟩]) = hid bad c t.ents ++ [l', d'] := by
    unfold hid; rw [flatE_append]; simp only [List.append_assoc]; rfl
  have fr : ∀ z ∈ [l', d'], h.get? z = none := fun z hz => by
    rcases List.mem_cons.mp hz with q | q
    · rw [q]; exact m9
    · rw [List.mem_singleton.mp q]; exact m10
  have k : Kp (hideAll h (hid bad c t.ents)) (hideAll h' (hid bad c t.ents ++ [l', d'])) := kp_move keep (inHid _ hC _) fun z hz => (List.mem_append.mp hz).imp id (fr z)
  have kn := kp_new2 (h' := h') (X := [l', d']) X.alive
  refine ⟨{ t with ents := t.ents ++ [⟨x, l', d', [.ref T], nl', od', [(y, .ref xr)], [(y, r)]⟩] }, ?_⟩
  constructor <;> try rw [hH]
  case kg => exact X.kgC keep (inHid _ hC _)
  case gS =>
    intro z hz
    rcases List.mem_append.mp hz with hz | hz
    · exact X.gS z hz
    · exact none_kp X.kg (fr z hz)
  case live =>
    intro z hz
    obtain ⟨o, e⟩ := X.live z hz
    refine ⟨o, keep z o (fun q => ?_) e⟩
    simp only [List.mem_cons, List.not_mem_nil, or_false] at q
    rcases q with q | q | q
    · exact X.off 1 rfl (List.mem_append_left _ hz) q
    · exact X.off 7 rfl (List.mem_append_left _ hz) q
    · exact X.off 6 rfl (List.mem_append_left _ hz) q
  case nd =>
    refine List.nodup_append.mpr ⟨X.nd, ?_, fun a ha b hb q => ?_⟩
    · exact List.nodup_cons.mpr ⟨fun q => m11 (List.mem_singleton.mp q), List.nodup_cons.mpr ⟨List.not_mem_nil, List.nodup_nil⟩⟩
    · obtain ⟨o, e⟩ := X.alive a ha
      rw [q, fr b hb] at e; cases e
  case src => exact src
  case tab => exact X.kept keep _ hC 0 rfl (by decide) _ X.tab
  case tri => exact X.tri
  case lamE => exact X.lamE.kp k
  case lamN => exact X.lamN.kp k
  case dtd => exact X.dtd.kp k
  case row => exact SD.kp X.row k
  case dE => exact X.dE.at (X.kept keep _ hC 2 rfl (by decide))
  case dM => exact X.dM.at (X.kept keep _ hC 3 rfl (by decide))
  case dN => exact X.dN.at (X.kept keep _ hC 4 rfl (by decide))
  case dL => obtain ⟨nl, e⟩ := X.dL; exact ⟨nl, X.kept keep _ hC 5 rfl (by decide) _ e⟩
  case dA =>
    rw [stored_absent xA] at m4
    show SD w h' c.At (kvD (_ ++ _))
    unfold kvD at m4 ⊢
    rw [List.map_append]
    exact SD.of X.dA.1 m3 m4
  case dR =>
    rw [stored_absent xR] at m2
    show SD w h' c.Rr (kvL (_ ++ _))
    unfold kvL at m2 ⊢
    rw [List.map_append]
    exact SD.of X.dR.1 m1 m2
  case mods => exact ModsOk.kp (t := t) X.mods k
  case nos => exact Paired.mono (fun _ _ ⟨p, q⟩ => ⟨p, q.kp k⟩) X.nos
  case noy => exact X.noy
  case ent =>
    intro e he
    rcases List.mem_append.mp he with he | he
    · exact (X.ent e he).move k (X.keptE keep _ hC (flatE_l he)) (X.keptE keep _ hC (flatE_d he))
    · rw [List.mem_singleton.mp he]
      exact ⟨m5, m6, m7, m8, .cons (m12.kp kn) .nil, .cons ⟨rfl, xr, rfl, m13.kp kn⟩ .nil, fun r' hr' => by rw [List.mem_singleton.mp hr']; exact rfine_of hy hr, .tail _ hx⟩
  case zE => exact Nat.le_succ_of_le X.zE
  case zM => exact Nat.le_succ_of_le X.zM
  case zN => exact Nat.le_succ_of_le X.zN
  case zR =>
    intro e he
    rcases List.mem_append.mp he with he | he
    · exact Nat.le_succ_of_le (X.zR e he)
    · rw [List.mem_singleton.mp he]; exact Nat.succ_le_succ (Nat.zero_le _)
  case nok => exact X.nok
/-- an element has got one attribute more -/
theorem Ok.moreE {pre post : List Ent} {e0 : Ent} {y : Str} {r : Rule} (X : Ok w g h bad c i t) (he : t.ents = pre ++ e0 :: post) (keep : ∀ z o, z ∉ [c.src, e0.l, e0.d] → h.get? z = some o → h'.get? z = some o) (src : SrcOk h' c.src) (hy : y ∈ ijk)
    (hn : (e0.rs.map (·.1)).contains y = false) (hr : RuleNew r) (hM : MadeB w h h' e0.l e0.d e0.its e0.kvs y r) : ∃ t', Ok w g h' bad c (i + 1) t' := by
  obtain ⟨T, xr, nl', od', m1, m2, m3, m4, m5⟩ := hM
  have e0m : e0 ∈ t.ents := by rw [he]; exact List.mem_append_right _ (.head _)
  have X0 := X.ent e0 e0m
  have hC : ∀ z ∈ [c.src, e0.l, e0.d], z ∈ hid bad c t.ents := fun z hz => by
    simp only [List.mem_cons, List.not_mem_nil, or_false] at hz
    rcases hz with rfl | rfl | rfl
    · exact List.mem_append_left _ (.tail _ (.head _))
    · exact List.mem_append_right _ (List.mem_append_right _ (flatE_l e0m))
    · exact List.mem_append_right _ (List.mem_append_right _ (flatE_d e0m))
  have hf : flatE (pre ++ { e0 with its := e0.its ++ [.ref T], nl := nl', od := od', kvs := e0.kvs ++ [(y, .ref xr)], rs := e0.rs ++ [(y, r)] } :: post) = flatE t.ents := by
    rw [he, flatE_append, flatE_append, flatE_cons, flatE_cons]
  have hH : hid bad c (pre ++ { e0 with its := e0.its ++ [.ref T], nl := nl', od := od', kvs := e0.kvs ++ [(y, .ref xr)], rs := e0.rs ++ [(y, r)] } :: post) = hid bad c t.ents := by
    unfold hid; rw [hf]
  have hA : kvD (pre ++ { e0 with its := e0.its ++ [.ref T], nl := nl', od := od', kvs := e0.kvs ++ [(y, .ref xr)], rs := e0.rs ++ [(y, r)] } :: post) = kvD t.ents := by
    unfold kvD; rw [he, List.map_append, List.map_append]; rfl
  have hR : kvL (pre ++ { e0 with its := e0.its ++ [.ref T], nl := nl', od := od', kvs := e0.kvs ++ [(y, .ref xr)], rs := e0.rs ++ [(y, r)] } :: post) = kvL t.ents := by
    unfold kvL; rw [he, List.map_append, List.map_append]; rfl
  have k := kp_same X keep hC
  have kn := kp_new (h' := h') X.alive
  have at1 : ∀ (q : Nat) {a : Addr}, (muts c)[q]? = some a → q ≠ 1 → ∀ o, h.get? a = some o → h'.get? a = some o := fun q a ha hq o e => keep a o (fun hm => by
    simp only [List.mem_cons, List.not_mem_nil, or_false] at hm
    rcases hm with z | z | z
    · exact X.ne q 1 ha (b := c.src) rfl hq z
    · exact X.off q ha (List.mem_append_right _ (flatE_l e0m)) z.symm
    · exact X.off q ha (List.mem_append_right _ (flatE_d e0m)) z.symm) e
  have nd : (flatE t.ents).Nodup := (List.nodup_append.mp (List.nodup_append.mp X.nd).2.1).2.1
  have nd' := nd
  rw [he, flatE_append, flatE_cons] at nd'
  have other : ∀ e, e ∈ pre ∨ e ∈ post → EntOk w (hideAll h' (hid bad c t.ents)) h' e := by
    intro e hm
    have hme : e ∈ t.ents := by
      rw [he]
      rcases hm with hm | hm
      · exact List.mem_append_left _ hm
      · exact List.mem_append_right _ (.tail _ hm)
    have dis : ∀ z ∈ flatE t.ents, (z ∈ flatE pre ∨ z ∈ flatE post) → ∀ o, h.get? z = some o → h'.get? z = some o := fun z hz hm o e => keep z o (fun q => by
      simp only [List.mem_cons, List.not_mem_nil, or_false] at q
      rcases q with q | q
      · exact X.off 1 rfl (List.mem_append_right _ hz) q
      · have q' : z ∈ [e0.l, e0.d] := by rcases q with q | q <;> simp [q]
        rcases hm with hm | hm
        · exact (List.nodup_append.mp nd').2.2 z hm z (List.mem_append_left _ q') rfl
        · exact (List.nodup_append.mp (List.nodup_append.mp nd').2.1).2.2 z q' z hm rfl) e
    exact (X.ent e hme).move k (dis _ (flatE_l hme) (hm.imp flatE_l flatE_l)) (dis _ (flatE_d hme) (hm.imp flatE_d flatE_d))
  have hno : valueAt e0.kvs y = none := none_of_isSome ((names_has X0.prs y).trans hn)
  refine ⟨{ t with ents := pre ++ { e0 with its := e0.its ++ [.ref T], nl := nl', od := od', kvs := e0.kvs ++ [(y, .ref xr)], rs := e0.rs ++ [(y, r)] } :: post }, ?_⟩
  constructor <;> try rw [hH]
  case kg => exact X.kgC keep hC
  case gS => exact X.gS
  case live =>
    intro z hz
    obtain ⟨o, e⟩ := X.live z hz
    refine ⟨o, keep z o (fun q => ?_) e⟩
    simp only [List.mem_cons, List.not_mem_nil, or_false] at q
    rcases q with q | q | q
    · exact X.off 1 rfl (List.mem_append_left _ hz) q
    · exact X.offB hz (flatE_l e0m) q.symm
    · exact X.offB hz (flatE_d e0m) q.symm
  case nd => exact X.nd
  case src => exact src
  case tab => exact at1 0 rfl (by decide) _ X.tab
  case tri => exact X.tri
  case lamE => exact X.lamE.kp k
  case lamN => exact X.lamN.kp k
  case dtd => exact X.dtd.kp k
  case row => exact SD.kp X.row k
  case dE => exact X.dE.at (at1 2 rfl (by decide))
  case dM => exact X.dM.at (at1 3 rfl (by decide))
  case dN => exact X.dN.at (at1 4 rfl (by decide))
  case dL => obtain ⟨nl, e⟩ := X.dL; exact ⟨nl, at1 5 rfl (by decide) _ e⟩
  case dA =>
    show SD w h' c.At (kvD (_ ++ _))
    rw [hA]
    exact X.dA.at (at1 6 rfl (by decide))
  case dR =>
    show SD w h' c.Rr (kvL (_ ++ _))
    rw [hR]
    exact X.dR.at (at1 7 rfl (by decide))
  case mods => exact ModsOk.kp (t := t) X.mods k
  case nos => exact Paired.mono (fun _ _ ⟨p, q⟩ => ⟨p, q.kp k⟩) X.nos
  case noy => exact X.noy
  case ent =>
    intro e hm
    rcases List.mem_append.mp hm with hm | hm
    · exact other e (.inl hm)
    · rcases List.mem_cons.mp hm with rfl | hm
      · refine ⟨m1, m2, ?_, X0.sys, paired_append (Paired.mono (fun _ _ z => z.kp k) X0.own) (.cons (m4.kp kn) .nil), paired_append (Paired.mono (fun _ _ ⟨a, z, b, d⟩ => ⟨a, z, b, d.kp k⟩) X0.prs) (.cons ⟨rfl, xr, rfl, m5.kp kn⟩ .nil), fun r' hr' => ?_, X0.key⟩
        · rw [stored_absent hno] at m3; exact m3
        · rcases List.mem_append.mp hr' with hr' | hr'
          · exact X0.fine r' hr'
          · rw [List.mem_singleton.mp hr']; exact rfine_of hy hr
      · exact other e (.inr hm)
  case zE => exact Nat.le_succ_of_le X.zE
  case zM => exact Nat.le_succ_of_le X.zM
  case zN => exact Nat.le_succ_of_le X.zN
  case zR =>
    intro e hm
    rcases List.mem_append.mp hm with hm | hm
    · exact Nat.le_succ_of_le (X.zR e (by rw [he]; exact List.mem_append_left _ hm))
    · rcases List.mem_cons.mp hm with rfl | hm
      · show (e0.rs ++ _).length ≤ _
        rw [List.length_append]
        exact Nat.succ_le_succ (X.zR e0 e0m)
      · exact Nat.le_succ_of_le (X.zR e (by rw [he]; exact List.mem_append_right _ (.tail _ hm)))
  case nok => exact X.nok
/-- an element's entry, or none -/
theorem find_ent (x : Str) : ∀ es : List Ent, (valueAt (kvL es) x = none ∧ valueAt (kvD es) x = none) ∨ ∃ pre e post, es = pre ++ e :: post ∧ e.x = x ∧ valueAt (kvL es) x = some (.ref e.l) ∧ valueAt (kvD es) x = some (.ref e.d)
  | [] => .inl ⟨rfl, rfl⟩
  | e :: es => by
    by_cases q : e.x = x
    · exact .inr ⟨[], e, es, rfl, q, by simp [kvL, valueAt, q], by simp [kvD, valueAt, q]⟩
    · have q1 : valueAt (kvL (e :: es)) x = valueAt (kvL es) x := by simp [kvL, valueAt, q]
      have q2 : valueAt (kvD (e :: es)) x = valueAt (kvD es) x := by simp [kvD, valueAt, q]
      rcases find_ent x es with ⟨a, b⟩ | ⟨pre, e', post, a, b, c, d⟩
      · exact .inl ⟨q1.trans a, q2.trans b⟩
      · exact .inr ⟨e :: pre, e', post, by rw [a]; rfl, b, q1.trans c, q2.trans d⟩
end
end Mine
theorem Mine.offL4 : True := by
  w_top off
  trivial
set_option maxHeartbeats 800000
namespace Mine
theorem nodup_few {α : Type} [BEq α] [LawfulBEq α] : ∀ {l ks : List α}, l.Nodup → (∀ x ∈ l, x ∈ ks) → l.length ≤ ks.length
  | [], _, _, _ => Nat.zero_le _
  | x :: r, ks, hn, hs => by
    obtain ⟨hx, hr⟩ := List.nodup_cons.mp hn
    have hm := hs x (.head _)
    have ih := nodup_few (l := r) (ks := ks.erase x) hr fun y hy => (List.mem_erase_of_ne fun q => hx (by rw [← q]; exact hy)).mpr (hs y (.tail _ hy))
    have hl := List.length_erase_of_mem hm
    have hp := List.length_pos_of_mem hm
    rw [List.length_cons]; omega
def keys4 : List Str := Str.ofString "e" :: abc'
theorem keys4_ok : ∀ x ∈ keys4, x.length ≤ 1000 ∧ PyData.strOk x = true := by decide +kernel
def rowsD (es : List Ent) : AllRules := es.map fun e => (e.x, e.rs)
theorem look_none {rs : Rules} {z : Str} (h : ∀ r ∈ rs, r.1 ≠ z) : look rs z = none := by
  unfold look
  rw [List.find?_eq_none.mpr fun r hr => by simpa using h r hr]
  rfl
section
variable {w : World} {g h h' : Heap} {bad : List Addr} {c : Cst} {i j : Nat} {t : Dat} {C : List Addr}
theorem Ok.down (x : Ok w g h bad c i t) : Kp (hideAll h (hid bad c t.ents)) h := hide_kp _ _
theorem paired_map {α β γ : Type} {F : β → γ → Prop} {f : α → β} {k : α → γ} : ∀ {l : List α}, (∀ a ∈ l, F (f a) (k a)) → Paired F (l.map f) (l.map k)
  | [], _ => .nil
  | a :: r, h => .cons (h a (.head _)) (paired_map fun b hb => h b (.tail _ hb))
theorem c_toldI {A : Around} {s : Shared} {L : Addr} {m : Str → Option Value} {Q Ex : Value → Shared → Prop} {p : Program} {loose : List Str} {mg mb : Str → Option Value}
    (x : Ok w g s.heap bad c i t) (hi : i ≤ 1000) (X : (heapK w.params).In g) (T : TopRead p loose mg mb g) (hroom : A.depth + 60 < recursionLimit) (hun : A.units + 400 < cLine) (hh : A.handled = none)
    (k : ∀ h' tk', Kp s.heap h' → Q (.bool true) { s with heap := h', toks := tk' }) : wpAny (model PR w) A (call (.ref 259) [.ref c.D, .ref c.R]) Q Ex s := by
  have dn := x.down
  have fine : ∀ e ∈ rowsD t.ents, e.1 ∈ keys4 ∧ e.2.length ≤ 1000 ∧ ∀ r ∈ e.2, RFine r := fun e he => by
    obtain ⟨e', he', rfl⟩ := List.mem_map.mp he
    exact ⟨(x.ent e' he').key, Nat.le_trans (x.zR e' he') hi, (x.ent e' he').fine⟩
  refine c_toldS (nots := t.nots) (mo := t.mo) (σ := rowsD t.ents) (kvE := t.kvE) (kvM := t.kvM) (X.keeps x.kg) (T.keeps x.kg) hroom hun hh (x.dtd.kp dn) ⟨t.kvN, x.dN, Paired.mono (fun _ _ ⟨a, b⟩ => ⟨a, b.kp dn⟩) x.nos⟩ ⟨x.dE, fun y => ?_⟩ ⟨kvD t.ents, x.dA, ?_⟩ (SD.kp x.row dn) ⟨x.dM, fun y => ?_⟩ ⟨kvL t.ents, x.dR, ?_⟩ ?_ ?_ ?_ ?_ ?_ ?_ (Nat.le_trans x.zN hi) (fun y hy => (gpx_ok y (x.nok y hy)).2) k
  · rcases (x.mods.kp dn) y with ⟨a, b, _⟩ | ⟨e, a, as, p1, p2, p3, p4, p5⟩
    · exact .inl ⟨a, b⟩
    · exact .inr ⟨e, a, as, p1, p2, p4, p5⟩
  · refine paired_map fun e he => ⟨rfl, e.d, rfl, e.kvs, SD.of (x.ent e he).sys (x.ent e he).hd (x.ent e he).dd, Paired.mono (fun _ _ ⟨a, y, b, q⟩ => ⟨a, y, b, q.kp dn⟩) (x.ent e he).prs⟩
  · rcases (x.mods.kp dn) y with ⟨a, _, b⟩ | ⟨e, a, as, p1, p2, p3, p4, p5⟩
    · exact .inl ⟨a, b⟩
    · exact .inr ⟨e, a, as, p1, p3, p4, p5⟩
  · refine paired_map fun e he => ⟨rfl, e.l, rfl, e.its, ⟨_, (x.ent e he).hl, rfl, _, rfl⟩, Paired.mono (fun _ _ y => y.kp dn) (x.ent e he).own⟩
  · obtain ⟨nl, e⟩ := x.dL
    exact ⟨t.ys, ⟨_, e, rfl, _, rfl⟩, x.noy⟩
  · have hn := x.dA.nodup
    have e1 : (kvD t.ents).map (·.1) = t.ents.map (·.x) := by unfold kvD; rw [List.map_map]; rfl
    rw [e1] at hn
    have := nodup_few (ks := keys4) hn fun y hy => by
      obtain ⟨e, he, rfl⟩ := List.mem_map.mp hy
      exact (x.ent e he).key
    rw [List.length_map] at this
    show (t.ents.map _).length ≤ 10
    rw [List.length_map]
    exact Nat.le_trans this (by decide)
  · intro e he
    obtain ⟨a, b, d⟩ := fine e he
    exact ⟨(keys4_ok _ a).1, b, fun r hr => ⟨(d r hr).ok, (d r hr).mode⟩⟩
  · intro e he r hr
    exact ⟨((fine e he).2.2 r hr).str, ((fine e he).2.2 r hr).good⟩
  · intro y
    exact look_none (rulesOf_all (P := fun r => r.1 ≠ Str.ofString "z") (fun e he r hr => ((fine e he).2.2 r hr).noz) y)
  · intro e he
    exact (keys4_ok _ (fine e he).1).2
theorem below_law {A : Around} {env : Env} {L : Addr} {m : Str → Option Value} (hA : A.frames = some [env]) (hk : env.scope.kind ≠ .module) (hf : env.frame = some L) (F : Fr g L h m) : Below A (hideAll h [L]) [env] h :=
  ⟨hA, hide_kp _ _, Heap.FunFrames.cons hk hf F.ns (hideAll_none _ (.head _)) trivial⟩
theorem way_cases (v : Int) : v = 0 ∨ v = 1 ∨ ((v == 0) = false ∧ (v == 1) = false) := by
  by_cases a : v = 0
  · exact .inl a
  · by_cases b : v = 1
    · exact .inr (.inl b)
    · exact .inr (.inr ⟨beq_eq_false_iff_ne.mpr a, beq_eq_false_iff_ne.mpr b⟩)
theorem ns_slots {L : Addr} {m : Str → Option Value} (n : h.Ns L m) (k : ∀ o, h.get? L = some o → ∃ sl, h'.get? L = some { o with slots := sl }) : h'.Ns L m := by
  obtain ⟨o, es, ep, ho, hd, r⟩ := n
  obtain ⟨sl, hs⟩ := k o ho
  exact ⟨_, es, ep, hs, hd, r⟩
theorem c_declI {A : Around} {s : Shared} {L : Addr} {m : Str → Option Value} {turn : Int} {tt : Tok} {env : Env} {Q Ex : Value → Shared → Prop} {p : Program} {loose : List Str} {mean : ExcName → Option Value} {mg mb : Str → Option Value}
    (x : Ok w g s.heap bad c i t) (hi1 : 1 ≤ i) (hi : i ≤ 500) (F : Fr g L s.heap m) (hL : L ∈ bad) (X : (heapK w.params).In g) (T : Top p loose mean mg mb g) (Cd : CodeHd g 248 246) (hroom : A.depth + 200 < recursionLimit) (hh : A.handled = none)
    (hA : A.frames = some [env]) (hk : env.scope.kind ≠ .module) (hf : env.frame = some L)
    (k : ∀ h' tk' t', Ok w g h' bad c (i + 1) t' → Fr g L h' m → (∀ z ∈ bad, z ≠ L → ∀ o, s.heap.get? z = some o → h'.get? z = some o) → Q (.bool true) { s with heap := h', toks := tk' }) :
    wpAny (model PR w) A (call (.ref 249) [.ref c.src, .ref c.D, .ref c.R, .int turn tt]) Q Ex s := by
  have hz : ∀ {n : Nat}, n ≤ i → n ≤ sizeLine := fun q => fewer (Nat.le_trans q hi) (by decide)
  have kg0 := x.kg0
  have X0 := X.keeps kg0
  have T0 := T.keeps kg0
  have C0 := Cd.keeps kg0
  have none0 : ∀ q a, (muts c)[q]? = some a → (hideAll s.heap (hid bad c t.ents)).get? a = none := fun q a ha => hideAll_none _ (List.mem_append_left _ (List.mem_of_getElem? ha))
  have noneL : (hideAll s.heap (hid bad c t.ents)).get? L = none := hideAll_none _ (List.mem_append_right _ (List.mem_append_left _ hL))
  have hLb : L ∈ bad ++ flatE t.ents := List.mem_append_left _ hL
  obtain ⟨a, b, ta, tb, n, hs, ha, hb⟩ := id x.src
  obtain ⟨oL, es, ep, hoL, hdL, _⟩ := id F.ns
  have hLd : ∀ vs, oL.data ≠ .fields vs := fun vs q => by rw [hdL] at q; cases q
  have K := below_law hA hk hf F
  have frk : ∀ {h' : Heap} {C : List Addr}, (∀ z o, z ∉ C → s.heap.get? z = some o → h'.get? z = some o) → L ∉ C → Kp g h' → Fr g L h' m := fun keep hc kg => ⟨F.ns.at' fun o e => keep _ o hc e, kg, F.above⟩
  have noB : ∀ {C : List Addr}, (∀ z ∈ C, (∃ p, (muts c)[p]? = some z) ∨ z ∈ flatE t.ents) → ∀ z ∈ bad, z ∉ C := fun hC z hz hm => by
    rcases hC z hm with ⟨p, hp⟩ | hp
    · exact x.off p hp (List.mem_append_left _ hz) rfl
    · exact x.offB hz hp rfl
  rcases way_cases (takeV a b 4) with hw | hw | ⟨hw0, hw1⟩
  · obtain ⟨oE, hE, dE⟩ := x.dE.obj
    obtain ⟨oM, hM, dM⟩ := x.dM.obj
    have hEM : ∀ y, (valueAt t.kvE y).isSome = (valueAt t.kvM y).isSome := fun y => by
      rcases x.mods y with ⟨_, p, q⟩ | ⟨_, _, _, _, p, q, _⟩ <;> rw [p, q]
    have inC : ∀ z ∈ [c.src, c.E, c.M], (∃ p, (muts c)[p]? = some z) ∨ z ∈ flatE t.ents := fun z hz => by
      simp only [List.mem_cons, List.not_mem_nil, or_false] at hz
      rcases hz with rfl | rfl | rfl
      · exact .inl ⟨1, rfl⟩
      · exact .inl ⟨2, rfl⟩
      · exact .inl ⟨3, rfl⟩
    refine c_decl0 K (hide_kp _ _) noneL (none0 0 _ rfl) (none0 1 _ rfl) (none0 2 _ rfl) (none0 3 _ rfl) X0 T0 C0 hroom hh hw hs ha hb x.tab x.tri x.dtd x.row hE dE x.dE.1 hM dM x.dM.1 hEM (hz x.zE) (hz x.zM)
      (x.ne 1 2 rfl rfl (by decide)) (x.ne 1 3 rfl rfl (by decide)) (x.ne 2 3 rfl rfl (by decide)) (x.ne 1 0 rfl rfl (by decide)) (x.ne 2 0 rfl rfl (by decide)) (x.ne 3 0 rfl rfl (by decide)) (x.off 0 rfl hLb) (x.off 1 rfl hLb) (x.off 2 rfl hLb) (x.off 3 rfl hLb) hoL hLd x.lamE ?_ ?_
    · intro h' tk' y mv a' b' ta' tb' n' oE' oM' keep s1 s2 s3 e1 e2 e3 e4 hy hn hr
      obtain ⟨e, as, r1, r2⟩ := hr
      have y1 := x.elem keep ⟨_, _, _, _, _, s1, s2, s3⟩ e1 e2 e3 e4 hn r1 r2
      exact k h' tk' _ y1 (frk keep (noB inC L hL) y1.kg) fun z hz _ o e => keep z o (noB inC z hz) e
    · intro h' tk' a' b' ta' tb' n' ps' keep hsl s1 s2 s3 e1 hps
      have y1 : ∃ t', Ok w g h' bad c i t' := by
        rcases hps with rfl | ⟨hnf, c', rfl, rec⟩
        · exact ⟨_, x.grow hL keep hsl ⟨_, _, _, _, _, s1, s2, s3⟩ e1 x.tri (fun g' k _ => x.lamE.kp k) (fun g' k _ => x.lamN.kp k)⟩
        · exact ⟨_, x.grow hL keep hsl ⟨_, _, _, _, _, s1, s2, s3⟩ e1 (tri_snoc x.tri) (fun g' _ kn => LamOk.hit (pos := posE) x.tri hnf (rec.keeps kn)) (fun g' k _ => (x.lamN.kp k).other x.tri (by decide))⟩
      obtain ⟨t', y1⟩ := y1
      refine k h' tk' _ (y1.up (Nat.le_succ _)) ⟨ns_slots F.ns hsl, y1.kg, F.above⟩ fun z hz hne o e => keep z o (fun q => ?_) e
      simp only [List.mem_cons, List.not_mem_nil, or_false] at q
      rcases q with q | q | q
      · exact hne q
      · exact x.off 1 rfl (List.mem_append_left _ hz) q
      · exact x.off 0 rfl (List.mem_append_left _ hz) q
  · obtain ⟨oN, hN, dN⟩ := x.dN.obj
    obtain ⟨nl, hNl⟩ := x.dL
    have hNN : ∀ y, (valueAt t.kvN y).isSome = t.nots.contains y := nots_has x.nos
    have zN : t.kvN.length ≤ i := by rw [Paired.length x.nos]; exact x.zN
    have zL : t.ys.length ≤ 1000 := by rw [StrsAre.length x.noy]; exact Nat.le_trans x.zN (Nat.le_trans hi (by decide))
    have inC : ∀ z ∈ [c.src, c.Nt, c.Nl], (∃ p, (muts c)[p]? = some z) ∨ z ∈ flatE t.ents := fun z hz => by
      simp only [List.mem_cons, List.not_mem_nil, or_false] at hz
      rcases hz with rfl | rfl | rfl
      · exact .inl ⟨1, rfl⟩
      · exact .inl ⟨4, rfl⟩
      · exact .inl ⟨5, rfl⟩
    refine c_decl1 K (hide_kp _ _) noneL (none0 0 _ rfl) (none0 1 _ rfl) (none0 4 _ rfl) (none0 5 _ rfl) X0 T0 C0 hroom hh hw hs ha hb x.tab x.tri x.dtd x.row hN dN x.dN.1 hNl x.noy hNN (hz zN) zL
      (x.ne 1 4 rfl rfl (by decide)) (x.ne 1 5 rfl rfl (by decide)) (x.ne 4 5 rfl rfl (by decide)) (x.ne 1 0 rfl rfl (by decide)) (x.ne 4 0 rfl rfl (by decide)) (x.ne 5 0 rfl rfl (by decide)) (x.off 0 rfl hLb) (x.off 1 rfl hLb) (x.off 4 rfl hLb) (x.off 5 rfl hLb) hoL hLd x.lamN ?_ ?_
    · intro h' tk' y t a' b' ta' tb' n' oN' nv nl' keep s1 s2 s3 e1 e2 e3 hy hn ob
      have y1 := x.nota keep ⟨_, _, _, _, _, s1, s2, s3⟩ e1 e2 e3 hy hn ob
      exact k h' tk' _ y1 (frk keep (noB inC L hL) y1.kg) fun z hz _ o e => keep z o (noB inC z hz) e
    · intro h' tk' a' b' ta' tb' n' ps' keep hsl s1 s2 s3 e1 hps
      have y1 : ∃ t', Ok w g h' bad c i t' := by
        rcases hps with rfl | ⟨hnf, c', rfl, rec⟩
        · exact ⟨_, x.grow hL keep hsl ⟨_, _, _, _, _, s1, s2, s3⟩ e1 x.tri (fun g' k _ => x.lamE.kp k) (fun g' k _ => x.lamN.kp k)⟩
        · exact ⟨_, x.grow hL keep hsl ⟨_, _, _, _, _, s1, s2, s3⟩ e1 (tri_snoc x.tri) (fun g' k _ => (x.lamE.kp k).other x.tri (by decide)) (fun g' _ kn => LamOk.hit (pos := posN) x.tri hnf (rec.keeps kn))⟩
      obtain ⟨t', y1⟩ := y1
      refine k h' tk' _ (y1.up (Nat.le_succ _)) ⟨ns_slots F.ns hsl, y1.kg, F.above⟩ fun z hz hne o e => keep z o (fun q => ?_) e
      simp only [List.mem_cons, List.not_mem_nil, or_false] at q
      rcases q with q | q | q
      · exact hne q
      · exact x.off 1 rfl (List.mem_append_left _ hz) q
      · exact x.off 0 rfl (List.mem_append_left _ hz) q
  · obtain ⟨oA, hA', dA⟩ := x.dA.obj
    obtain ⟨oR, hR', dR⟩ := x.dR.obj
    have len4 : t.ents.length ≤ 4 := by
      have hn := x.dA.nodup
      have e1 : (kvD t.ents).map (·.1) = t.ents.map (·.x) := by unfold kvD; rw [List.map_map]; rfl
      rw [e1] at hn
      have := nodup_few (ks := keys4) hn fun y hy => by
        obtain ⟨e, he, rfl⟩ := List.mem_map.mp hy
        exact (x.ent e he).key
      rwa [List.length_map] at this
    have zA : (kvD t.ents).length ≤ sizeLine := by unfold kvD; rw [List.length_map]; exact fewer len4 (by decide)
    have zR : (kvL t.ents).length ≤ sizeLine := by unfold kvL; rw [List.length_map]; exact fewer len4 (by decide)
    refine c_decl2 (outer := [env]) (Lw := L) (P := fun y l d its nl od kvs rs => ∃ pre post, t.ents = pre ++ ⟨y, l, d, its, nl, od, kvs, rs⟩ :: post) (hide_kp _ _) (none0 1 _ rfl) (none0 6 _ rfl) (none0 7 _ rfl) X0 T0 hroom hh _ rfl hw0 hw1 hs ha hb x.dtd x.row hA' dA x.dA.1 hR' dR x.dR.1 zA zR ?_
      (x.ne 1 6 rfl rfl (by decide)) (x.ne 1 7 rfl rfl (by decide)) (x.ne 6 7 rfl rfl (by decide)) ?_ ?_ ?_
    · intro y hy
      rcases find_ent y t.ents with q | ⟨pre, e, post, he, rfl, q1, q2⟩
      · exact .inl q
      · have em : e ∈ t.ents := by rw [he]; exact List.mem_append_right _ (.head _)
        have X1 := x.ent e em
        have fl := flatE_l em
        have fd := flatE_d em
        have zl : e.its.length = e.rs.length := Paired.length X1.own
        have zk : e.kvs.length = e.rs.length := Paired.length X1.prs
        refine .inr ⟨e.l, e.d, e.its, e.nl, e.od, e.kvs, e.rs, ⟨q1, q2, X1.hl, X1.hd, X1.dd, X1.sys, X1.own, names_has X1.prs, ?_, ?_, ?_, fun z hz => ?_, ?_, ?_⟩, pre, post, he⟩
        · exact hideAll_none _ (List.mem_append_right _ (List.mem_append_right _ fl))
        · exact hideAll_none _ (List.mem_append_right _ (List.mem_append_right _ fd))
        · have nd : (flatE t.ents).Nodup := (List.nodup_append.mp (List.nodup_append.mp x.nd).2.1).2.1
          rw [he, flatE_append, flatE_cons] at nd
          have := (List.nodup_append.mp (List.nodup_append.mp nd).2.1).1
          exact fun q => (List.nodup_cons.mp this).1 (by rw [show e.l = e.d from q]; exact .head _)
        · simp only [List.mem_cons, List.not_mem_nil, or_false] at hz
          rcases hz with rfl | rfl | rfl
          · exact ⟨(x.off 1 rfl (List.mem_append_right _ fl)).symm, (x.off 1 rfl (List.mem_append_right _ fd)).symm⟩
          · exact ⟨(x.off 6 rfl (List.mem_append_right _ fl)).symm, (x.off 6 rfl (List.mem_append_right _ fd)).symm⟩
          · exact ⟨(x.off 7 rfl (List.mem_append_right _ fl)).symm, (x.off 7 rfl (List.mem_append_right _ fd)).symm⟩
        · rw [zl]; exact Nat.le_trans (x.zR e em) (Nat.le_trans hi (by decide))
        · rw [zk]; exact hz (x.zR e em)
    · intro h' tk' y y2 r keep src hy hy2 xR xA hr hM
      obtain ⟨t', y1⟩ := x.newE hi1 keep src hy hy2 xR xA hr hM
      have inC : ∀ z ∈ [c.src, c.Rr, c.At], (∃ p, (muts c)[p]? = some z) ∨ z ∈ flatE t.ents := fun z hz => by
        simp only [List.mem_cons, List.not_mem_nil, or_false] at hz
        rcases hz with rfl | rfl | rfl
        · exact .inl ⟨1, rfl⟩
        · exact .inl ⟨7, rfl⟩
        · exact .inl ⟨6, rfl⟩
      exact k h' tk' _ y1 (frk keep (noB inC L hL) y1.kg) fun z hz _ o e => keep z o (noB inC z hz) e
    · rintro h' tk' y y2 r l d its nl od kvs rs _ ⟨pre, post, he⟩ keep src hy hy2 hn hr hM
      obtain ⟨t', y1⟩ := x.moreE he keep src hy2 hn hr hM
      have em : (⟨y, l, d, its, nl, od, kvs, rs⟩ : Ent) ∈ t.ents := by rw [he]; exact List.mem_append_right _ (.head _)
      have inC : ∀ z ∈ [c.src, l, d], (∃ p, (muts c)[p]? = some z) ∨ z ∈ flatE t.ents := fun z hz => by
        simp only [List.mem_cons, List.not_mem_nil, or_false] at hz
        rcases hz with rfl | rfl | rfl
        · exact .inl ⟨1, rfl⟩
        · exact .inr (flatE_l em)
        · exact .inr (flatE_d em)
      exact k h' tk' _ y1 (frk keep (noB inC L hL) y1.kg) fun z hz _ o e => keep z o (noB inC z hz) e
    · intro h' tk' keep src
      have inC : ∀ z ∈ [c.src], (∃ p, (muts c)[p]? = some z) ∨ z ∈ flatE t.ents := fun z hz => by
        rw [List.mem_singleton.mp hz]; exact .inl ⟨1, rfl⟩
      have y1 := x.move keep (fun z hz => .inl ⟨1, rfl, by rw [List.mem_singleton.mp hz]; rfl⟩) (fun z hz => by
        obtain ⟨o, e⟩ := x.live z hz
        exact ⟨o, keep z o (noB inC z hz) e⟩) src
      exact k h' tk' _ (y1.up (Nat.le_succ _)) (frk keep (noB inC L hL) y1.kg) fun z hz _ o e => keep z o (noB inC z hz) e
end
end Mine
theorem Mine.offL5 : True := by
  w_top off
  trivial
theorem Mine.preL5 : True := by
  k_with_none
  k_with "M skip" => (first | with_reducible exact rfl | (refine Mine.ite_skip (by with_reducible assumption) ?_; k_extra "M skip"))
  k_with "M has" => (first | with_reducible exact Mine.ix0 | (with_reducible refine Mine.ixS ?_; k_extra "M has"))
  k_with "M ix" => ((fail_if_success (fail_if_success (k_extra "M has"))); first | exact ⟨0, rfl⟩ | exact ⟨1, rfl⟩ | exact ⟨2, rfl⟩ | exact ⟨3, rfl⟩ | exact ⟨4, rfl⟩ | exact ⟨5, rfl⟩ | exact ⟨6, rfl⟩ | exact ⟨7, rfl⟩ | exact ⟨8, rfl⟩ | exact ⟨9, rfl⟩ | exact ⟨10, rfl⟩ | exact ⟨11, rfl⟩ | exact ⟨12, rfl⟩ | exact ⟨13, rfl⟩ | exact ⟨14, rfl⟩ | exact ⟨15, rfl⟩ | exact ⟨16, rfl⟩ | exact ⟨17, rfl⟩ | exact ⟨18, rfl⟩ | exact ⟨19, rfl⟩ | exact ⟨20, rfl⟩ | exact ⟨21, rfl⟩ | exact ⟨22, rfl⟩ | exact ⟨23, rfl⟩ | exact ⟨24, rfl⟩ | exact ⟨25, rfl⟩ | exact ⟨26, rfl⟩ | exact ⟨27, rfl⟩ | exact ⟨28, rfl⟩ | exact ⟨29, rfl⟩ | exact ⟨30, rfl⟩ | exact ⟨31, rfl⟩ | exact ⟨32, rfl⟩ | exact ⟨33, rfl⟩)
  k_with "M lt1" => (first | exact Nat.lt_succ_self _ | (refine Nat.lt_succ_of_lt ?_; k_extra "M lt1"))
  k_with "M ne3" => ((with_reducible rename Mine.NeA _ _ => l9); first | (refine Mine.neA_r l9 ?_; k_extra "M ix") | (refine Mine.neA_l l9 ?_; k_extra "M ix") | (clear l9; k_extra "M ne3"))
  k_with "M ne" => (refine neN ?_; (try dsimp only); first
    | (refine Mine.neN_i ?_; with_reducible assumption)
    | (refine Mine.neN_s ?_; with_reducible assumption)
    | with_reducible assumption
    | (refine Ne.symm ?_; with_reducible assumption)
    | (refine Nat.ne_of_lt ?_; with_reducible assumption)
    | (refine Nat.ne_of_gt ?_; with_reducible assumption)
    | (refine Mine.ltA_r (by with_reducible assumption) ?_; k_extra "M ix")
    | (refine Mine.ltA_l (by with_reducible assumption) ?_; k_extra "M ix")
    | (refine Mine.neA_r (by with_reducible assumption) ?_; k_extra "M ix")
    | (refine Mine.neA_l (by with_reducible assumption) ?_; k_extra "M ix")
    | (refine Nat.ne_of_lt ?_; k_extra "M lt1")
    | (refine Nat.ne_of_gt ?_; k_extra "M lt1")
    | k_extra "M ne3"
    | omega
    | ((simp only [Mine.LtA, Mine.NeA] at *); omega))
  k_with "M memR" => (first | with_reducible exact List.mem_cons_self | (with_reducible refine List.mem_cons_of_mem _ ?_; k_extra "M memR") | ((fail_if_success (with_reducible refine List.mem_cons_of_mem _ ?_)); with_reducible assumption))
  k_with "M mem" => (first | with_reducible assumption | k_extra "M memR")
  k_with "M enter" => (
  (case X => first | assumption | exact Frag.In.keeps (by k_asm) (Fr.keep (by k_asm)))
  (case T => exact TopRead.nolimit (by assumption))
  (case ho => k_is)
  (case hcd => k_is)
  (case hroom => omega)
  (case hbind => exact BindsTo.of_eq rfl)
  (case hloc => exact locs rfl)
  (case c1 => decide)
  (case c2 => exact rfl)
  (case c3 => exact rfl)
  (case c4 => exact rfl)
  intro L' h' F' N'
  try dsimp only [Mine.bodOf, Mine.scoOf, Mine.parOf, Mine.topS, Mine.inS, Mine.stAt, PySem.Challenge.pw_on0181_01]
  try k_fold)
  k_with "M enterC" => (
  (case X => first | assumption | exact Frag.In.keeps (by k_asm) (Fr.keep (by k_asm)))
  (case T => exact TopRead.nolimit (by assumption))
  (case ho => k_is)
  (case hcd => k_is)
  (case hroom => omega)
  (case hbind => exact BindsTo.of_eq rfl)
  (case hkind => exact rfl)
  (case hnd => decide +kernel)
  (case c2 => exact rfl)
  (case c3 => exact rfl)
  (case c4 => exact rfl)
  intro L' h' tk' cells' F' N' Y'
  try dsimp only [Mine.bodOf, Mine.scoOf, Mine.parOf, Mine.topS, Mine.inS, Mine.stAt, PySem.Challenge.pw_on0181_01] at *
  k_cells Y'
  try dsimp only [Mine.bodOf, Mine.scoOf, Mine.parOf, Mine.topS, Mine.inS, Mine.stAt, PySem.Challenge.pw_on0181_01]
  try k_fold)
  k_with "M sd" => (first | exact Mine.SD.fr (by k_asm) (by k_asm) | exact Mine.ExactNew (by k_asm) (by k_mem) (by k_asm) (by k_asm))
  k_with "M inst" => exact Mine.inst_base (by k_asm) (by k_asm) (by k_asm)
  k_with "!getMethod ref" => (k_here; (first | (with_reducible show wpAny _ _ (getMethod (Value.ref _) (PySem.Str.ofString "get") _) _ _ _) | (with_reducible show wpAny _ _ (getMethod (Value.ref _) (PySem.Str.ofString "setdefault") _) _ _ _)); refine Mine.sd_mget (by k_extra "M sd") ?_)
  k_with "!getMethod ref" => (k_here; (with_reducible show wpAny _ _ (getMethod (Value.ref _) (PySem.Str.ofString "append") _) _ _ _); k_dflt (refine PySem.W.listMethod_K (by k_asm) (by k_extra "M mem") PySem.F.slot_list_append PySem.F.type_list_append ?_))
  k_with "!callWith ref" => (k_here; k_dflt (first | refine PySem.W.callWith_K (by k_asm) (by k_is) ?_ | refine PySem.W.callWith_K0 (by k_in) (by k_is) ?_))
  k_with "!call builtin:dict.get" => (k_here; first | refine Mine.sd_get1 (by k_extra "M sd") ?_ | refine Mine.sd_get2 (by k_extra "M sd") ?_)
  k_with "!call builtin:dict.get" => (k_here; first | refine Mine.sd_get1v (by k_extra "M sd") (by with_reducible assumption) ?_ | refine Mine.sd_get1n (by k_extra "M sd") (by with_reducible assumption) ?_ | refine Mine.sd_get2v (by k_extra "M sd") (by with_reducible assumption) ?_ | refine Mine.sd_get2n (by k_extra "M sd") (by with_reducible assumption) ?_)
  k_with "!compareOp In str ref" => (k_here; refine Mine.sd_in (by k_extra "M sd") ?_)
  k_with "!compareOp NotIn str ref" => (k_here; refine Mine.sd_notin (by k_extra "M sd") ?_)
  k_with "!subscriptTail" => (k_here; (with_reducible show wpAny _ _ (subscriptTail _ _ (Value.ref _) (Value.str _ _)) _ _ _); refine Mine.sd_item (by k_extra "M sd") (by k_asm) ?_)
  k_with "!eval Name" => (k_here; (with_reducible show wpAny _ _ (eval (Expr.Name _ _) (compEnvC _ _ _ _)) _ _ _); k_dflt (first
  | refine Mine.cx_L (by k_asm) (by with_reducible assumption) ?_
  | refine Mine.cx_C (by k_asm) (by exact rfl) (by k_extra "M mem") (by k_asm) ?_
  | refine Mine.cx_K (by k_asm) (by k_asm) (by k_asm) (by k_is) ?_
  | refine Mine.cx_B (by k_asm) (by k_asm) (by k_asm) (by k_is) (by boot_by_name) (by decide) ?_))
  k_with "!eval ListComp" => (k_here; (with_reducible show wpAny _ _ (eval (Expr.ListComp _ [⟨Expr.Name _ _, _, _, _⟩] _ _) _) _ _ _); k_dflt (refine Mine.lc_name (by k_asm) (by exact rfl) (by decide) (by exact rfl) (by decide) (by exact rfl) ?_))
  k_with "!eval ListComp" => (k_here; (with_reducible show wpAny _ _ (eval (Expr.ListComp _ [⟨Expr.Tuple _ _ _, _, _, _⟩] _ _) _) _ _ _); k_dflt (refine Mine.lc_pair (by k_asm) (by exact rfl) (by decide) (by exact rfl) (by decide) (by exact rfl) (by exact rfl) (by decide) ?_))
  k_with "!exec Assign cons ListComp" => (k_here; k_dflt (
  refine Mine.lc_name_assign (by k_asm) (by exact rfl) (by with_unfolding_all rfl) (by exact rfl) (by decide) (by exact rfl) (by decide) (by exact rfl) (by exact rfl) (by exact rfl) ?_))
  k_with "M room" => (first | (refine Mine.rm0 (by with_reducible assumption) ?_; decide) | (refine Mine.rm1 (by with_reducible assumption) ?_; decide) | (refine Mine.rm2 (by with_reducible assumption) ?_; decide) | ((try simp only [depth_deeper, depth_in1] at *); omega))
  k_with "M sub" => (first | exact fun _ h => h | (intro p9 hp9; repeat (first | exact hp9 | refine List.mem_cons_of_mem _ ?_)))
  k_with "!CEnd" => (refine Mine.CEnd.intro (by k_asm) (by k_asm) (by k_extra "M sub"))
  k_with "M units" => (first | (refine Mine.un0 (by with_reducible assumption) ?_; decide) | (refine Mine.un1 (by with_reducible assumption) ?_; decide) | (refine Mine.un2 (by with_reducible assumption) ?_; decide) | ((try simp only [units_deeper, units_in1, Around.deeper_units] at *); omega))
  k_with "M len" => (first | with_reducible exact Mine.len_lit _ | ((with_reducible refine' Mine.len_app ?_ ?_) <;> k_extra "M len") | with_reducible assumption)
  k_with "!binaryOp Add str str" => (k_here; (with_reducible show wpAny _ _ (binaryOp Operator.Add (Value.str _ _) (Value.str _ _)) _ _ _); (refine Mine.add_strS (by k_extra "M len") (by k_extra "M len") (by decide +kernel) ?_); intro t9 tk9)
  k_with "M reads" => (first
  | exact Reads.none
  | exact Reads.str _ _
  | exact Reads.keeps (Fr.keep (by k_asm)) (by with_reducible assumption)
  | exact reads_tuple_at (News.get (by k_asm) (by k_extra "M mem")) rfl rfl (by k_extra "M readsAll")
  | exact Mine.reads_strs (by k_asm) (by k_extra "M mem") (by with_reducible assumption))
  k_with "M readsAll" => (first
  | exact ReadsAll.nil
  | exact ReadsAll.cons (by k_extra "M reads") (by k_extra "M readsAll"))
  k_with "M shaped" => (first | with_reducible assumption | exact rfl | decide +kernel)
  k_with "!compareOp Eq ref ref" => (k_here; k_dflt (refine eq_dataH (by k_extra "M reads") (by k_extra "M reads") (by k_extra "M shaped") (by k_extra "M shaped") (by k_extra "M units") ?_))
  k_with "!compareOp Eq none ref" => (k_here; k_dflt (refine eq_dataH (by k_extra "M reads") (by k_extra "M reads") (by k_extra "M shaped") (by k_extra "M shaped") (by k_extra "M units") ?_))
  k_with "M for" => (k_here; k_dflt (refine Mine.for_rule (by k_asm) (by exact rfl) ?_))
  k_with "!exec For Name Tuple cons nil" => k_extra "M for"
  k_with "!exec For Name Name cons nil" => k_extra "M for"
  k_with "!exec For Name Attribute cons nil" => k_extra "M for"
  k_with "!exec For Name List cons nil" => k_extra "M for"
  k_with "!exec For Name Subscript cons nil" => k_extra "M for"
  k_with "!exec For Tuple Name cons nil" => k_extra "M for"
  k_with "!execs cons Assign cons" => (k_here; refine wpAny_execs_cons ?_)
  k_with "!call builtin:list.append" => (k_here; (with_reducible show wpAny _ _ (call (Value.builtin _) [Value.ref _, _]) _ _ _); k_dflt (refine' Mine.append_L (by k_asm) (by k_asm) (by k_upd) (by ((try simp only [List.length_append, List.length_singleton]); omega)) ?_; k_whole); intro h' F' N'; (try k_sweep))
  k_with "M fsub" => (first | exact List.forall_mem_nil _ | (refine List.forall_mem_cons.mpr ⟨⟨by k_extra "M mem", by k_ne⟩, ?_⟩; k_extra "M fsub"))
  k_with "!subscriptTail Name Constant ref int" => (k_here; (with_reducible show wpAny _ _ (subscriptTail _ _ (Value.ref _) (Value.int _ _)) _ _ _); k_dflt (refine Mine.item_tupB (by k_asm) (by with_reducible assumption) (by decide) (by decide) (by exact rfl) (by exact rfl) ?_))
  k_with "!subscriptTail" => (k_here; (with_reducible show wpAny _ _ (subscriptTail _ _ (Value.ref _) (Value.int _ _)) _ _ _); k_dflt (refine Mine.item_tupB (by k_asm) (by with_reducible assumption) (by decide) (by decide) (by exact rfl) (by exact rfl) ?_))
  k_with "M memL" => (first | exact List.mem_cons_self | (refine List.mem_cons_of_mem _ ?_; k_extra "M memL"))
  k_with "M memall" => (first | exact True.intro | (refine And.intro (by k_extra "M memL") ?_; k_extra "M memall"))
  k_with "!call ref" => (k_here; k_dflt ((refine' Mine.c_rules (by k_asm) (by k_asm) (by k_asm) (by k_asm) (by k_extra "M room") (by k_asm) (by k_asm) ?_ ?_); (intro h' tk' d' F' N' hI'; obtain ⟨kvs', hS', hP'⟩ := hI'; (try k_sweep); rotate_left; intro h' tk' d' o' F' N' hr' hs' lo' ne'; (replace ne' := Mine.allNe_of ne'); (replace ne' := Mine.neA_of ne'); (try dsimp only [Mine.adr] at ne'); (try k_sweep); rotate_right)))
  k_with "M few" => (first | with_reducible assumption | exact Nat.le_trans (Mine.namesOf_len _ _) (by with_reducible assumption))
  k_with "!call builtin:len" => (k_here; (with_reducible show wpAny _ _ (call (Value.builtin "len") [Value.ref _]) _ _ _); k_dflt (refine Mine.len_strs (by k_asm) (by k_extra "M mem") (by with_reducible assumption) (by k_extra "M few") ?_))
  k_with "M handled" => (first | assumption | exact rfl)
  k_with "M ok" => (first | exact Mine.ok_nil | assumption)
  k_with "!compareOp NotEq ref ref" => (k_here; k_dflt (refine Mine.ne_strs (by k_asm) (by k_extra "M mem") (by k_extra "M mem") (by first | with_reducible assumption | exact PyProof.Rows.StrsAre.nil) (by first | with_reducible assumption | exact PyProof.Rows.StrsAre.nil) (by k_extra "M ok") (by k_extra "M ok") (by k_extra "M units") ?_))
  k_with "!subscriptTail Name Constant ref int" => (k_here; (with_reducible show wpAny _ _ (subscriptTail _ _ (Value.ref _) (Value.int 0 _)) _ _ _); k_dflt (refine Mine.item_strs0 (by k_asm) (by k_extra "M mem") (by with_reducible assumption) (by with_reducible assumption) ?_); intro y' r' t' hx')
  k_with "!subscriptTail" => (k_here; (with_reducible show wpAny _ _ (subscriptTail _ _ (Value.ref _) (Value.int 0 _)) _ _ _); k_dflt (refine Mine.item_strs0 (by k_asm) (by k_extra "M mem") (by with_reducible assumption) (by with_reducible assumption) ?_); intro y' r' t' hx')
  k_with "!call ref" => (k_here; k_dflt ((refine' Mine.c_nok (by k_asm) (by k_asm) (by k_asm) (by k_asm) (by k_extra "M room") (by k_extra "M handled") (by k_asm) (by k_asm) (by assumption) ?_); (intro h' tk' a' ys' F' N' ne' hS'; (replace ne' := Mine.allNe_of ne'); (replace ne' := Mine.neA_of ne'); (try dsimp only [Mine.adr] at ne'); try k_sweep)))
  k_with "!call ref" => (k_here; k_dflt ((refine' Mine.c_model (by k_asm) (by k_asm) (by k_asm) (by k_asm) (by k_extra "M room") (by k_asm) (by k_asm) ?_); (intro h' tk' F' N'; (try k_sweep); (first | (rename valueAt _ _ = _ => hv9; rw [hv9]; dsimp only [Option.getD_some, Option.getD_none]) | skip))))
  k_with "!binaryOp Add ref ref" => (k_here; (with_reducible show wpAny _ _ (binaryOp _ (Value.ref _) (Value.ref _)) _ _ _); k_dflt (refine' Mine.add_L (by k_asm) (by k_asm) (by k_extra "M mem") (by k_extra "M mem") (by ((try simp only [List.length_append, List.length_singleton]); omega)) ?_ ); intro D' h' F' N' ne'; (replace ne' := Mine.neA_of ne'); (try dsimp only [Mine.adr] at ne'); (try k_sweep))
  k_with "!call ref" => (k_here; k_dflt ((refine' Mine.c_nf (by k_asm) (by k_asm) (by k_asm) (by k_asm) (by k_extra "M room") (by k_extra "M units") (by k_extra "M handled") (by k_asm) (by k_asm) (by k_asm) (by k_asm) (by with_reducible assumption) (by with_reducible assumption) (by with_reducible assumption) (by with_reducible assumption) ?_); (intro h' tk' a' ys' n' F' N' ne' hS'; (have hnl' := Mine.nf_len hS'); (replace ne' := Mine.allNe_of ne'); (replace ne' := Mine.neA_of ne'); (try dsimp only [Mine.adr] at ne'); try k_sweep)))
  k_with "!call ref" => (k_here; k_dflt ((refine' Mine.c_ef (by k_asm) (by k_asm) (by k_asm) (by k_asm) (by k_extra "M room") (by k_extra "M units") (by k_extra "M handled") (by k_asm) (by k_asm) (by k_asm) (by k_asm) (by with_reducible assumption) (by with_reducible assumption) (by with_reducible assumption) ?_); (intro h' tk' a' ys' n' F' N' ne' hS' hl'; (replace ne' := Mine.allNe_of ne'); (replace ne' := Mine.neA_of ne'); (try dsimp only [Mine.adr] at ne'); try k_sweep)))
  k_with "!call builtin:list.count" => (k_here; (with_reducible show wpAny _ _ (call (Value.builtin _) [Value.ref _, Value.str _ _]) _ _ _); k_dflt (refine Mine.count_L (by k_asm) (by k_extra "M mem") (by with_reducible assumption) ?_))
  k_with "!call builtin:list.extend" => (k_here; (with_reducible show wpAny _ _ (call (Value.builtin _) [Value.ref _, Value.ref _]) _ _ _); k_dflt (refine' Mine.extend_L (by k_asm) (by k_asm) (by k_updF) (by k_extra "M mem") (by ((try simp only [List.length_append, List.length_singleton]); omega)) ?_ ); intro h' n' F' N'; (try dsimp only at N'); (try k_sweep))
  k_with "!assign Tuple" => (k_here; k_dflt (refine' Mine.assign_pair (by k_asm) (by k_asm) (by exact rfl) (by k_extra "M handled") (by with_reducible assumption) (by exact rfl) (by exact rfl) (by exact rfl) ?_ ); intro h' tk' F' N'; (try k_sweep))
  k_with "!compareOp NotIn str ref" => (k_here; (with_reducible show wpAny _ _ (compareOp CmpOp.NotIn (Value.str _ _) (Value.ref _)) _ _ _); k_dflt (refine notin_list_strs (PySem.Heap.IsList.at (by k_asm) fun o e => Fr.keep (by k_asm) _ o e) (by with_reducible assumption) ?_))
  k_with "M enterM" => (
  (case X => first | assumption | exact Frag.In.keeps (by k_asm) (Fr.keep (by k_asm)))
  (case T => exact TopRead.nolimit (by assumption))
  (case ho => k_is)
  (case hcd => k_is)
  (case hroom => omega)
  (case hbind => exact BindsTo.of_eq rfl)
  (case hloc => exact locs rfl)
  (case c1 => decide)
  (case c2 => exact rfl)
  (case c3 => exact rfl)
  (case c4 => exact rfl))
  k_with "!call ref" => (k_here; k_dflt ((refine' Mine.c_take (by k_asm) (by k_asm) (by k_asm) (by k_asm) (by k_extra "M room") (by k_updF) (by with_reducible assumption) (by with_reducible assumption) (by first | with_reducible assumption | decide) ?_); (intro h' tk' v' t' a' b' ta' tb' n' F' N' _ hv' ha' hb'; (try dsimp only at N'); (try k_sweep))))
  k_with "!call builtin:len" => (k_here; (with_reducible show wpAny _ _ (call (Value.builtin "len") [Value.ref _]) _ _ _); k_dflt (refine Mine.len_B (by k_asm) (by with_reducible assumption) (by with_reducible assumption) ?_))
  k_with "!subscriptTail Name Constant ref int" => (k_here; (with_reducible show wpAny _ _ (subscriptTail _ _ (Value.ref _) (Value.int _ _)) _ _ _); k_dflt (refine Mine.item_B (by k_asm) (by with_reducible assumption) (by with_reducible assumption) (by with_reducible assumption) ?_); intro x' hx')
  k_with "!subscriptTail" => (k_here; (with_reducible show wpAny _ _ (subscriptTail _ _ (Value.ref _) (Value.int _ _)) _ _ _); k_dflt (refine Mine.item_B (by k_asm) (by with_reducible assumption) (by with_reducible assumption) (by with_reducible assumption) ?_); intro x' hx')
  k_with "!setItem ref str" => (k_here; (with_reducible show wpAny _ _ (setItem (Value.ref _) (Value.str _ _) _) _ _ _); k_dflt (refine' kda_set (knd := PySem.strKind Mine.PR _) (by k_asm) (by k_asm) (by k_updF) (by with_reducible assumption) (by exact strKind_is _ _ _ _) (by with_reducible assumption) ?_ ); intro h' o' F' N' hd'; (try dsimp only at N'); (try k_sweep))
  k_with "M enterM2" => (
  (case ho => k_is)
  (case hcd => k_is)
  (case hroom => omega)
  (case hbind => exact BindsTo.of_eq rfl)
  (case hloc => exact locs rfl)
  (case c1 => decide)
  (case c2 => exact rfl)
  (case c3 => exact rfl)
  (case c4 => exact rfl))
  k_with "!call ref" => (k_here; (with_reducible show wpAny _ _ (call (Value.ref 78) _) _ _ _); k_dflt ((refine' Mine.c_makeNot (by k_asm) (by k_asm) (by k_asm) (by k_asm) (by k_extra "M room") (by first | assumption | exact rfl) ?_); (intro h' tk' a' dx' o' F' N' ne1' ne2' ne3' hN'; (try dsimp only at N'); (replace ne1' := Mine.neA_of ne1'); (try dsimp only [Mine.adr] at ne1'); (replace ne2' := Mine.neA_of ne2'); (try dsimp only [Mine.adr] at ne2'); (try k_sweep))))
  k_with "M enterC2" => (
  (case ho => k_is)
  (case hcd => k_is)
  (case hroom => omega)
  (case hbind => exact BindsTo.of_eq rfl)
  (case hkind => exact rfl)
  (case hnd => decide +kernel)
  (case c2 => exact rfl)
  (case c3 => exact rfl)
  (case c4 => exact rfl))
  k_with "!call type:tuple" => (k_here; (with_reducible show wpAny _ _ (call (Value.type _) [Value.ref _]) _ _ _); k_dflt (refine' Mine.tuple_lsn (by k_asm) (by k_asm) (by k_extra "M memL") (by with_reducible assumption) ?_ ); intro D' h' F' N' ne1; (replace ne1 := Mine.neA_of ne1); (try dsimp only [Mine.adr] at ne1); (try k_sweep))
  k_with "M csub" => (first | exact List.forall_mem_nil _ | (refine List.forall_mem_cons.mpr ⟨by k_extra "M memL", ?_⟩; k_extra "M csub"))
  k_with "M listhere" => (refine' ⟨_, _, (by k_extra "M memL"), (by exact rfl), (by exact rfl)⟩ )
  k_with "!call ref" => (k_here; (with_reducible show wpAny _ _ (call (Value.ref 232) _) _ _ _); k_dflt ((refine' Mine.c_oneS (by k_asm) (by k_asm) (by k_asm) (by k_asm) (by k_extra "M room") (by k_updF) (by with_reducible assumption) (by with_reducible assumption) (by k_extra "M listhere") (by exact rfl) (by k_ne) (by exact rfl) ?_); (intro h' tk' x' t' a' b' ta' tb' n' F' N' hx' ha' hb'; (try dsimp only at N'); (try k_sweep))))
  k_with "!eval ListComp" => (k_here; (with_reducible show wpAny _ _ (eval (Expr.ListComp (Expr.Call (Expr.Name _ _) _ _ _) [⟨Expr.Name _ _, Expr.Call (Expr.Name (PySem.Str.ofString "range") _) _ _ _, [], _⟩] _ _) _) _ _ _); k_dflt (refine Mine.lc_range (by k_asm) (by exact rfl) (by decide) (by exact rfl) (by decide) (by exact rfl) ?_))
  k_with "!getMethod" => (k_here; (with_reducible show wpAny _ _ (getMethod (Value.type "Exception") _ _) _ _ _); k_dflt (refine' method_type (by k_asm) (by k_asm) (by first | rfl | kernel_rfl) (by decide +kernel) (by k_dflt k_is) (by k_handed) ?_ ))
  k_with "!call builtin:Exception.__init__" => (k_here; k_dflt (refine' Mine.exc_initL (by k_asm) (by k_asm) (by k_updF) (by with_reducible assumption) (by with_reducible assumption) ?_ ); intro h' t' F' N'; (try dsimp only at N'); (try k_sweep))
  k_with "!setAttr" => (k_here; k_dflt (refine' Mine.set_excNL (by k_asm) (by k_asm) (by k_asm) (by k_updF) (by k_is) (by k_is) (by rfl) (by rfl) (by k_is) ?_ ); intro h' dx' tk' F' N' ne'; (try dsimp only at N'); (replace ne' := Mine.neA_of ne'); (try dsimp only [Mine.adr] at ne'); (try k_sweep))
  k_with "!call ref" => (k_here; k_dflt ((refine' Mine.c_init1L (by k_asm) (by k_asm) (by k_asm) (by k_asm) (by k_extra "M room") (by with_reducible assumption) (by with_reducible assumption) (by k_updF) ?_); (intro h' tk' dx' t' tk9 F' N' ne'; (try dsimp only at N'); (replace ne' := Mine.neA_of ne'); (try dsimp only [Mine.adr] at ne'); (try k_sweep))))
  k_with "!setAttr" => (k_here; k_dflt (refine' Mine.set_excIL (by k_asm) (by k_asm) (by k_asm) (by k_extra "M mem") (by k_updF) (by k_is) (by k_is) (by rfl) (by rfl) (by k_is) (by rfl) (by rfl) (by exact Nat.le_of_lt (by show 2 < 1000; decide)) ?_ ); intro h' F' N'; (try dsimp only at N'); (try k_sweep))
  k_with "M enterN" => (
  (case T => exact TopRead.nolimit (by assumption))
  (case hcd => k_is)
  (case hroom => omega)
  (case hloc => exact locs rfl)
  (case c1 => decide)
  (case c2 => exact rfl)
  (case c3 => exact rfl)
  (case c4 => exact rfl))
  k_with "!exec Raise" => (k_here; k_dflt (refine Mine.exec_raise (C := 59) (N := 58) (bm := Mine.bm59) (by decide) (by first | assumption | exact rfl) ?_))
  k_with "!call ref" => (k_here; (with_reducible show wpAny _ _ (call (Value.ref 59) [Value.str _ _, Value.int _ _]) _ _ _); k_dflt ((refine' Mine.c_fault (by k_asm) (by k_asm) (by k_asm) (by k_asm) (by k_extra "M room") ?_); (intro h' tk' e' dx' t' t1' t2' F' N' ne1' ne2' ne3'; (try dsimp only at N'); (replace ne1' := Mine.neA_of ne1'); (try dsimp only [Mine.adr] at ne1'); (replace ne2' := Mine.neA_of ne2'); (try dsimp only [Mine.adr] at ne2'); (try k_sweep))))
  k_with "!exec Try" => (k_here; (refine wpAny_Try_except ?_))
  k_with "!getAttr ref" => (k_here; k_dflt (refine' Mine.exc_getL (C := 59) (by k_asm) (by k_asm) (by k_asm) (by exact List.mem_cons_self) (by exact List.mem_cons_of_mem _ List.mem_cons_self) (by with_reducible assumption) (by with_reducible assumption) (by with_reducible assumption) (by k_is) (by k_is) (by k_is) (by k_is) (by rfl) (by k_is) (by rfl) ?_ ))
  k_with "!getMethod ref" => (k_here; (with_reducible show wpAny _ _ (getMethod (Value.ref _) (PySem.Str.ofString "append") _) _ _ _); (refine Mine.Stop.mk ?_))
  k_with "!setItem ref str" => (k_here; plain_pass; (with_reducible show wpAny _ _ (setItem (Value.ref _) (Value.str _ _) (Value.ref _)) _ _ _); (refine Mine.Stop.mk ?_))
  k_with "!call builtin:dict.setdefault" => (k_here; (with_reducible show wpAny _ _ (call (Value.builtin "dict.setdefault") _) _ _ _); (refine Mine.Stop.mk ?_))
  k_with "!setItem ref str" => (k_here; (with_reducible show wpAny _ _ (setItem (Value.ref _) (Value.str _ _) _) _ _ _); k_dflt (refine' kda_set (knd := PySem.strKind Mine.PR _) (by k_asm) (by k_asm) (by k_updF) (by with_reducible assumption) (by exact strKind_is _ _ _ _) (by with_reducible assumption) ?_ ); intro h' o' F' N' hd'; (try dsimp only at N'); (try k_sweep))
  k_with "!getMethod ref" => (k_here; (with_reducible show wpAny _ _ (getMethod (Value.ref _) (PySem.Str.ofString "append") _) _ _ _); k_dflt (refine PySem.W.listMethod_K (by k_asm) (by k_extra "M mem") PySem.F.slot_list_append PySem.F.type_list_append ?_))
  k_with "!getMethod ref" => (k_here; (with_reducible show wpAny _ _ (getMethod (Value.ref _) (PySem.Str.ofString "append") _) _ _ _); k_dflt (refine Mine.listMethod_L (by k_asm) (by k_extra "M mem") PySem.F.slot_list_append PySem.F.type_list_append ?_))
  k_with "!call ref" => (k_here; k_dflt ((refine' Mine.c_rulesV (by k_asm) (by k_asm) (by k_asm) (by k_asm) (by k_extra "M room") (by k_asm) (by with_reducible assumption) (by with_reducible assumption) ?_); (intro h' tk' F' N'; (try k_sweep))))
  k_with "!call ref" => (k_here; k_dflt ((refine' Mine.c_rulesU (by k_asm) (by k_asm) (by k_asm) (by k_asm) (by k_extra "M room") (by k_asm) (by k_asm) ?_); (intro h' tk' d' kvs' F' N' hS' hP'; (try k_sweep))))
  k_with "!call ref" => (k_here; k_dflt ((refine' Mine.c_ruleS (by k_asm) (by k_asm) (by k_asm) (by k_asm) (by k_extra "M room") (by k_asm) (by k_asm) (by with_reducible assumption) ?_); (intro h' tk' xr' F' N' hR'; obtain ⟨dx', ch', vs', p1', p2', p3', p4', u1', u2', u3', u4', uk', um', vv', n2', g1', g2', g3', g4', g5'⟩ := id hR'; (try k_sweep))))
  k_with "!call ref" => (k_here; k_dflt ((refine' Mine.c_ruleN (by k_asm) (by k_asm) (by k_asm) (by k_asm) (by k_extra "M room") (by k_asm) (by k_asm) (by with_reducible assumption) ?_); (intro h' tk' F' N'; (try k_sweep))))
  k_with "!call ref" => (k_here; k_dflt ((refine' Mine.c_rowN (by k_asm) (by k_asm) (by k_asm) (by k_asm) (by k_extra "M room") (by k_asm) ?_); (intro h' tk' a' o' F' N' ne' hO'; (replace ne' := Mine.neA_of ne'); (try dsimp only [Mine.adr] at ne'); (try k_sweep))))
  k_with "!call ref" => (k_here; k_dflt ((refine' Mine.c_id (by k_asm) (by k_asm) (by k_asm) (by k_asm) (by k_extra "M room") (by k_extra "M units") (by k_extra "M handled") (by k_asm) (by k_asm) (by with_reducible assumption) (by with_reducible assumption) ?_); (intro h' tk' v' F' N' hv'; (try k_sweep))))
  k_with "!call type:list" => (k_here; (with_reducible show wpAny _ _ (call (Value.type "list") [Value.ref _]) _ _ _); k_dflt ((refine' Mine.list_sd (by k_extra "M handled") (by k_asm) (by k_asm) (by with_reducible assumption) (by with_reducible assumption) (by with_reducible assumption) ?_); (intro D' c' h' tk' vs' F' N' ne' hS'; (replace ne' := Mine.neA_of ne'); (try dsimp only [Mine.adr] at ne'); (try k_sweep))))
  k_with "!call builtin:dict.get" => (k_here; (with_reducible show wpAny _ _ (call (Value.builtin _) [Value.ref _, Value.str _ _, Value.ref _]) _ _ _); k_dflt (refine Mine.own_get (by k_asm) (by with_reducible assumption) ?_); intro ao' its' hsrc' hPr')
  k_with "!compareOp NotEq ref ref" => (k_here; k_dflt (refine Mine.ne_same (Mine.reads_strs (by k_asm) (by k_extra "M mem") (by with_reducible assumption)) (Mine.reads_strs (by k_asm) (by k_extra "M mem") (by with_reducible assumption)) (Mine.shaped_strs (by k_extra "M ok")) (by k_extra "M units") ?_))
  k_with "!subscriptTail Name Constant ref int" => (k_here; (with_reducible show wpAny _ _ (subscriptTail _ _ (Value.ref _) (Value.int 0 _)) _ _ _); k_dflt (refine Mine.item_any0 (by k_asm) (by k_extra "M mem") (by with_reducible assumption) ?_))
  k_with "!subscriptTail" => (k_here; (with_reducible show wpAny _ _ (subscriptTail _ _ (Value.ref _) (Value.int 0 _)) _ _ _); k_dflt (refine Mine.item_any0 (by k_asm) (by k_extra "M mem") (by with_reducible assumption) ?_))
  k_with "!call builtin:len" => (k_here; (with_reducible show wpAny _ _ (call (Value.builtin "len") [Value.ref _]) _ _ _); k_dflt (refine Mine.len_LE (by k_asm) (by k_extra "M mem") (by with_reducible assumption) (by with_reducible assumption) ?_))
  k_with "!call builtin:len" => (k_here; (with_reducible show wpAny _ _ (call (Value.builtin "len") [Value.ref _]) _ _ _); k_dflt (refine Mine.len_SE (by k_asm) (by with_reducible assumption) (by with_reducible assumption) (by with_reducible assumption) ?_))
  k_with "!compareOp Eq ref ref" => (k_here; k_dflt (refine Mine.eq_same (Mine.reads_strs (by k_asm) (by k_extra "M mem") (by with_reducible assumption)) (Mine.reads_strs (by k_asm) (by k_extra "M mem") (by with_reducible assumption)) (Mine.shaped_strs (by k_extra "M ok")) (by k_extra "M units") ?_))
  k_with "!call ref" => (k_here; k_dflt ((refine' Mine.c_faults (by k_asm) (by k_asm) (by k_asm) (by k_asm) (by k_extra "M room") (by k_extra "M units") (by k_extra "M handled") (by k_asm) (by k_asm) (by k_asm) (by k_asm) (by with_reducible assumption) (by with_reducible assumption) (by with_reducible assumption) ?_); (intro h' tk' a' ys' n' F' N' ne' hS' hl'; (replace ne' := Mine.allNe_of ne'); (replace ne' := Mine.neA_of ne'); (try dsimp only [Mine.adr] at ne'); try k_sweep)))
  k_with "!call ref" => (k_here; k_dflt ((refine' Mine.c_texts (by k_asm) (by k_asm) (by k_asm) (by k_asm) (by k_extra "M room") (by k_extra "M units") (by k_extra "M handled") (by with_reducible assumption) (by k_asm) (by k_asm) (by k_asm) (by with_reducible assumption) (by with_reducible assumption) ?_); (intro h' tk' a' ys' n' F' N' ne' hS' hl'; (replace ne' := Mine.allNe_of ne'); (replace ne' := Mine.neA_of ne'); (try dsimp only [Mine.adr] at ne'); try k_sweep)))
  k_with "!eval Name" => (k_here; kc_free; k_dflt (refine' Mine.nameX_B (by k_asm) (by exact rfl) (by with_reducible assumption) (by k_asm) ?_ (by rfl) (by rfl); k_whole))
  k_with "!assign Tuple" => (k_here; k_dflt (refine' Mine.assign_pairW (by k_asm) (by k_asm) (by k_extra "M handled") (by k_extra "M memL") (by exact rfl) (by exact rfl) ?_ ); (try (rename Mine.LtA _ _ => lz9; clear lz9)); intro h' F' N'; (replace N' := Mine.news_tail N'); (try k_sweep))
  k_with "!call ref" => (k_here; (with_reducible show wpAny _ _ (call (Value.ref 232) _) _ _ _); k_dflt ((refine' Mine.c_oneR (by k_asm) (by k_asm) (by k_asm) (by k_asm) (by k_extra "M room") (by k_updF) (by with_reducible assumption) (by with_reducible assumption) (by k_extra "M listhere") (by exact rfl) (by k_ne) (by exact rfl) ?_); (try (rename Mine.LtA _ _ => lz9; clear lz9)); (intro h' tk' x' a' b' ta' tb' n' F' N' hx' ha' hb'; (try dsimp only at N'); (replace N' := Mine.news_tail N'); (try k_sweep))))
  k_with "!call ref" => (k_here; (with_reducible show wpAny _ _ (call (Value.ref 232) _) _ _ _); k_dflt ((refine' Mine.c_oneS (by k_asm) (by k_asm) (by k_asm) (by k_asm) (by k_extra "M room") (by k_updF) (by with_reducible assumption) (by with_reducible assumption) (by k_extra "M listhere") (by exact rfl) (by k_ne) (by exact rfl) ?_); (try (rename Mine.LtA _ _ => lz9; clear lz9)); (intro h' tk' x' t' a' b' ta' tb' n' F' N' hx' ha' hb'; (try dsimp only at N'); (replace N' := Mine.news_tail N'); (try k_sweep))))
  k_with "!call ref" => (k_here; (with_reducible show wpAny _ _ (call (Value.ref 103) _) _ _ _); k_dflt ((refine' Mine.c_elO (by k_asm) (by k_asm) (by k_asm) (by k_asm) (by k_extra "M room") (by k_updF) (by k_asm) (by with_reducible assumption) (by with_reducible assumption) (by with_reducible assumption) (by with_reducible assumption) (by exact rfl) ?_); (intro h' tk' o' F' N' hd'; (try dsimp only at N'); (try k_sweep))))
  k_with "!eval Lambda" => (k_here; kn_here; k_dflt (refine' kla_eval (by exact rfl) ?_ ); (first | (k_dflt (refine' kla_nest (by k_asm) (by k_asm) (by k_asm) (by kn_code) (by exact rfl) (by k_updF) (by assumption) (by assumption) (by exact rfl) ?_; k_whole); intro f' c' oc' vs' t' ct' h' tk' F' N' d1' d2' l1 l2; (try dsimp only at N'); (try k_lt l1); (try k_lt2 l2)) | (k_dflt (refine' kla_hit (by k_asm) (by k_asm) (by k_asm) (by kn_code) (by exact rfl) (by k_mem) (by assumption) (by assumption) (by exact rfl) ?_; k_whole); intro f' ct' h' tk' F' N' l1; (try dsimp only at N'); (try k_lt l1))))
  k_with "!call ref" => (k_here; (with_reducible show wpAny _ _ (call (Value.ref 225) _) _ _ _); k_dflt ((refine' Mine.c_takeC (by k_asm) (by k_asm) (by k_asm) (by k_asm) (by k_extra "M room") (by k_updF) (by with_reducible assumption) (by with_reducible assumption) (by with_reducible assumption) (by first | with_reducible assumption | decide) ?_); (intro h' tk' t' a' b' ta' tb' n' F' N' ha' hb'; (try dsimp only at N'); (try k_sweep))))
  k_with "!call ref" => (k_here; (with_reducible show wpAny _ _ (call (Value.ref 117) _) _ _ _); k_dflt ((refine' Mine.c_noO (by k_asm) (by k_asm) (by k_asm) (by k_asm) (by k_extra "M room") (by k_extra "M handled") (by k_updF) (by k_asm) (by with_reducible assumption) (by with_reducible assumption) (by with_reducible assumption) (by with_reducible assumption) ?_); (intro h' tk' o' a' dx' od' F' N' ne1' ne2' ne3' nd' hd'; (try dsimp only at N'); (replace ne1' := Mine.neA_of ne1'); (try dsimp only [Mine.adr] at ne1'); (replace ne2' := Mine.neA_of ne2'); (try dsimp only [Mine.adr] at ne2'); (try k_sweep))))
  k_with "!compareOp In str ref" => (k_here; (with_reducible show wpAny _ _ (compareOp CmpOp.In (Value.str _ _) (Value.ref _)) _ _ _); k_dflt (refine in_list_strs (PySem.Heap.IsList.at (by k_asm) fun o e => Fr.keep (by k_asm) _ o e) (by with_reducible assumption) ?_))
  k_with "!getMethod ref" => (k_here; (with_reducible show wpAny _ _ (getMethod (Value.ref _) (PySem.Str.ofString "setdefault") _) _ _ _); k_dflt (first
  | refine Mine.sdf_method (by k_extra "M sd") ?_
  | (refine' kob_method (knd := PySem.strKind Mine.PR _) PySem.F.slot_dict_setdefault PySem.F.type_dict_setdefault (by k_asm) (by k_extra "M memL") (by with_reducible assumption) ?_ )))
  k_with "!call builtin:dict.setdefault" => (k_here; (with_reducible show wpAny _ _ (call (Value.builtin "dict.setdefault") [Value.ref _, Value.str _ _, Value.ref _]) _ _ _); k_dflt (first
  | refine Mine.sdf_there (by k_extra "M sd") (by with_reducible assumption) (by with_reducible assumption) ?_
  | (refine' kob_setdef_new (knd := PySem.strKind Mine.PR _) (by k_asm) (by k_asm) (by k_updF) (by with_reducible assumption) (by with_reducible assumption) (strKind_is _ _ _ _) (PySem.F.args_dict_setdefault_3 _ _ _) (by with_reducible assumption) (by with_reducible assumption) ?_; intro h' o' F' N' hd'; (try dsimp only at N'); (try k_sweep))))
  k_with "!subscriptTail Name Constant ref int" => (k_here; (with_reducible show wpAny _ _ (subscriptTail _ _ (Value.ref _) (Value.int _ _)) _ _ _); k_dflt (refine Mine.item_tupL (by k_asm) (by k_extra "M memL") (by with_reducible assumption) (by with_reducible assumption) (by decide) (by decide) (by exact rfl) (by exact rfl) ?_))
  k_with "!subscriptTail" => (k_here; (with_reducible show wpAny _ _ (subscriptTail _ _ (Value.ref _) (Value.int _ _)) _ _ _); k_dflt (refine Mine.item_tupL (by k_asm) (by k_extra "M memL") (by with_reducible assumption) (by with_reducible assumption) (by decide) (by decide) (by exact rfl) (by exact rfl) ?_))
  k_with "!compareOp NotIn str ref" => (k_here; (with_reducible show wpAny _ _ (compareOp CmpOp.NotIn (Value.str _ _) (Value.ref _)) _ _ _); k_dflt (refine notin_list_strs (Mine.news_isList (by k_asm) (by k_extra "M memL")) (by with_reducible assumption) ?_))
  k_with "!call ref" => (k_here; (with_reducible show wpAny _ _ (call (Value.ref 237) _) _ _ _); k_dflt ((refine' Mine.c_lrule (by k_asm) (by k_asm) (by k_asm) (by k_asm) (by k_extra "M room") (by k_extra "M handled") (by k_updF) (by with_reducible assumption) (by with_reducible assumption) ?_); (rintro h' tk' rr' orow' ch' och' r' a' b' ta' tb' n' F' N' ne1' ne2' ne3' ⟨vs', tk2', tm', vv', m1', m2', c1', d1', c2', d2', hS', hV'⟩ hR' ha' hb'; (have hV2' := Mine.val_handed hV'); (try dsimp only at N'); (replace ne1' := Mine.neA_of ne1'); (try dsimp only [Mine.adr] at ne1'); (replace ne2' := Mine.neA_of ne2'); (try dsimp only [Mine.adr] at ne2'); (try k_sweep))))
  k_with "!call ref" => (k_here; (with_reducible show wpAny _ _ (call (Value.ref 207) _) _ _ _); k_dflt ((refine' Mine.c_makeRule (by k_asm) (by k_asm) (by k_asm) (by k_asm) (by k_extra "M room") (by k_extra "M handled") (by (refine' Or.inr ⟨_, _, (by k_extra "M memL"), (by with_reducible assumption), (by with_reducible assumption)⟩)) (by with_reducible assumption) ?_); (intro h' tk' a' dx' o' F' N' ne1' ne2' ne3' nd'; (try dsimp only at N'); (replace ne1' := Mine.neA_of ne1'); (try dsimp only [Mine.adr] at ne1'); (replace ne2' := Mine.neA_of ne2'); (try dsimp only [Mine.adr] at ne2'); (try k_sweep))))
  k_with "!call ref" => (k_here; (with_reducible show wpAny _ _ (call (Value.ref 110) _) _ _ _); k_dflt ((refine' Mine.c_daA (by k_asm) (by k_asm) (by k_asm) (by k_updF) (by with_reducible assumption) (by with_reducible assumption) (by k_asm) (by k_asm) (by k_extra "M room") (by k_extra "M handled") (by with_reducible assumption) (by with_reducible assumption) ?_); (intro h' tk' o' d' od' F' N' ne1' lo' hd1' hd2'; (try dsimp only at N'); (replace ne1' := Mine.neA_of ne1'); (try dsimp only [Mine.adr] at ne1'); (try k_sweep))))
  k_with "!call ref" => (k_here; (with_reducible show wpAny _ _ (call (Value.ref 110) _) _ _ _); k_dflt ((refine' Mine.c_daBN (by k_asm) (by k_asm) (by k_asm) (by k_asm) (by with_reducible assumption) (by k_updF) (by with_reducible assumption) (by with_reducible assumption) (by k_asm) (by k_asm) (by k_extra "M room") (by k_extra "M handled") (by with_reducible assumption) (by with_reducible assumption) ?_); (intro h' tk' o' F' N' hd1'; (try dsimp only at N'); (try k_sweep))))
  k_with "!call ref" => (k_here; (with_reducible show wpAny _ _ (call (Value.ref 110) _) _ _ _); k_dflt ((refine' Mine.c_daCN (by k_asm) (by k_asm) (by k_asm) (by k_asm) (by with_reducible assumption) (by k_asm) (by with_reducible assumption) (by k_asm) (by k_asm) (by k_extra "M room") (by k_extra "M handled") ?_); (intro h' tk' F' N'; (try dsimp only at N'); (try k_sweep))))
  k_with "!compareOp NotIn str ref" => (k_here; (with_reducible show wpAny _ _ (compareOp CmpOp.NotIn (Value.str _ _) (Value.ref _)) _ _ _); k_dflt (first
  | refine Mine.notin_nil (Mine.news_isList (by k_asm) (by k_extra "M memL")) (by with_reducible assumption) ?_
  | (refine Mine.notin_is (Mine.news_isList (by k_asm) (by k_extra "M memL")) (by with_reducible assumption) (by with_reducible assumption) ?_; (try dsimp only [Bool.not_true, Bool.not_false]))))
  trivial
set_option maxHeartbeats 2000000
namespace Mine
theorem len_P {prog : Program} {w : World} {A : Around} {E : Value → Shared → Prop} {s : Shared} {h₀ : Heap} {L a : Addr} {m : Str → Option Value} {ys : List Value} {Q : Value → Shared → Prop}
    (F : Fr h₀ L s.heap m) (hT : h₀.IsList a ys.toArray) (hl : ys.length ≤ 63) (h : Q (.int ys.length (s.toks + 1)) { s with toks := s.toks + 1 + 1 }) :
    wpAny (model prog w) A (call (.builtin "len") [.ref a]) Q E s := by
  have hL : s.heap.IsList a ys.toArray := hT.at fun o e => F.keep _ o e
  have e : ys.toArray.size = ys.length := by rw [List.size_toArray]
  exact call_len_list hL (by rw [e]; omega) (by rw [e]; exact h)
theorem item_P {prog : Program} {w : World} {A : Around} {E : Value → Shared → Prop} {s : Shared} {h₀ : Heap} {L a : Addr} {m : Str → Option Value} {ys : List Value} {ns : List Int} {u : Tok} {value slice : Expr} {Q : Value → Shared → Prop}
    (F : Fr h₀ L s.heap m) (hT : h₀.IsList a ys.toArray) (hI : IntsAre ys ns) (hp : 0 < (ys.length : Int)) (h : ∀ x t, Q (.int x t) s)
    (hs : subscripted slice false (.ref a) (.int 0 u) = operate [.ref a, .int 0 u] (getItem (.ref a) (.int 0 u)) := by with_unfolding_all rfl) :
    wpAny (model prog w) A (subscriptTail value slice (.ref a) (.int 0 u)) Q E s := by
  have hL : s.heap.IsList a ys.toArray := hT.at fun o e => F.keep _ o e
  cases hI with
  | nil => exact absurd hp (by decide)
  | cons i t hI =>
    have q : wpAny (model prog w) A (getItem (.ref a) (.int 0 u)) Q E s := wpAny_getItem_list hL (by decide) (by decide) (by rfl) (h i t)
    exact tail_any hL.typeIs slot_list_getitem.lookup q hs
theorem max_P {prog : Program} {w : World} {A : Around} {E : Value → Shared → Prop} {s : Shared} {h₀ : Heap} {L : Addr} {m : Str → Option Value} {news : List (Addr × Obj)} {a b : Int} {t u : Tok} {Q : Value → Shared → Prop} (hh : A.handled = none) (F : Fr h₀ L s.heap m) (N : News h₀ L s.heap news)
    (h : ∀ h' tk v t, Fr h₀ L h' m → News h₀ L h' news → a ≤ v ∧ b ≤ v → Q (.int v t) { s with heap := h', toks := tk }) :
    wpAny (model prog w) A (call (.builtin "max") [.int a t, .int b u]) Q E s :=
  max_two_N hh F N fun h' tk F' N' => h h' tk _ _ F' N' (by split <;> omega)
end Mine
theorem Mine.wordsL51 : True := by
  k_with "!call builtin:max" => (k_here; (with_reducible show wpAny _ _ (call (Value.builtin _) [Value.int _ _, Value.int _ _]) _ _ _); k_dflt (refine Mine.max_P (by k_extra "M handled") (by k_asm) (by k_asm) ?_); intro h' tk' v' t' F' N' hv')
  k_with "!call builtin:len" => (k_here; (with_reducible show wpAny _ _ (call (Value.builtin "len") [Value.ref _]) _ _ _); k_dflt (refine Mine.len_P (by k_asm) (by with_reducible assumption) (by with_reducible assumption) ?_))
  k_with "!subscriptTail Name Constant ref int" => (k_here; (with_reducible show wpAny _ _ (subscriptTail _ _ (Value.ref _) (Value.int 0 _)) _ _ _); k_dflt (refine Mine.item_P (by k_asm) (by with_reducible assumption) (by with_reducible assumption) (by with_reducible assumption) ?_); intro x' t')
  k_with "!subscriptTail" => (k_here; (with_reducible show wpAny _ _ (subscriptTail _ _ (Value.ref _) (Value.int 0 _)) _ _ _); k_dflt (refine Mine.item_P (by k_asm) (by with_reducible assumption) (by with_reducible assumption) (by with_reducible assumption) ?_); intro x' t')
  trivial

namespace Mine
theorem fillL5 : PySem.Challenge.rw_on0181_01 = PySem.Challenge.rw_on0181_01 ∧ heapK = heapK := by
  k_fill
  exact ⟨rfl, rfl⟩
theorem c_pool {w : World} {A : Around} {s : Shared} {l : Addr} {vs : List Value} {ns : List Int} {Q Ex : Value → Shared → Prop} {p : Program} {loose : List Str} {mg mb : Str → Option Value}
    (X : (heapK w.params).In s.heap) (T : TopRead p loose mg mb s.heap) (hroom : A.depth + 10 < recursionLimit) (hh : A.handled = none) (hT : s.heap.IsList l vs.toArray) (hI : IntsAre vs ns) (hl : vs.length ≤ 63)
    (k : ∀ h' tk' a ta b tb r n, Kp s.heap h' → h'.get? r = some (lsn [.int a ta, .int b tb] n) → s.heap.get? r = none → 0 ≤ a → 0 ≤ b ∧ b < 2147483648 → Q (.ref r) { s with heap := h', toks := tk' }) :
    wpAny (model PR w) A (call (.ref 218) [.ref l]) Q Ex s := by
  k_dflt (refine' enter [("script", .ref l)] ?X ?T ?ho ?hcd ?hroom ?hbind ?hloc ?_ ?c1 ?c2 ?c3 ?c4; k_extra "M enter")
  k_steps
  all_goals (
    rename Fr _ _ _ _ => F
    rename News _ _ _ _ => N
    rename _ ≤ _ ∧ _ ≤ _ => hv
    refine k _ _ _ _ _ _ _ _ F.keep (N _ (.head _)).1 (N _ (.head _)).2.2 (Int.mul_nonneg (by omega) (by split <;> decide)) ⟨Int.fmod_nonneg_of_pos _ (by decide), Int.lt_trans (Int.fmod_lt_of_pos _ (by decide)) (by decide)⟩)
end Mine
theorem Mine.offL6 : True := by
  w_top off
  trivial
set_option maxHeartbeats 2000000
namespace Mine
theorem fillL6 : PySem.Challenge.rw_on0181_01 = PySem.Challenge.rw_on0181_01 ∧ heapK = heapK := by
  k_fill
  exact ⟨rfl, rfl⟩
/-- an object made by a class of the text, with what its making has made besides -/
theorem make_ownX {w : World} {A : Around} {s : Shared} {K : Frag} {h₀ : Heap} {L C fI : Addr} {m : Str → Option Value} {news : List (Addr × Obj)} {rest : List Value} {od : Obj → List (Addr × Obj) → Prop} {Q E : Value → Shared → Prop} (F : Fr h₀ L s.heap m) (N : News h₀ L s.heap news) (X : K.In h₀) (hm : makesIn K C = true)
    (hi : findIn K (.ref C) "__init__" = some (some (.ref fI))) (hf : typeIn K (.ref fI) = some (.type "function"))
    (hh : A.handled = none)
    (ini : ∀ (A' : Around) (s1 : Shared) x dx (R : Result → Shared → Prop), A'.depth = A.depth + 1 → A'.handled = none → Kp h₀ (hideAll s1.heap [x, dx]) → Kp h₀ s1.heap → s1.heap.get? x = some (instObj C dx) → s1.heap.get? dx = some emptyDict → x ≠ dx →
      (∀ h' tk' o nw, Kp (hideAll s1.heap [x, dx]) h' → h'.get? x = some (instObj C dx) → h'.get? dx = some o → (∀ p ∈ nw, h'.get? p.1 = some p.2 ∧ s1.heap.get? p.1 = none) → od o nw → R (.ok (.ret .none)) { s1 with heap := h', toks := tk' }) →
      codeAny (model PR w) A' (.call (.ref fI) ⟨.ref x :: rest, []⟩) R s1)
    (k : ∀ h' tk' a dx o nw, Fr h₀ L h' m → News h₀ L h' ((a, instObj C dx) :: (dx, o) :: (nw ++ news)) → AllNe a news → AllNe dx news → a ≠ dx → od o nw → (∀ p ∈ nw, p.1 ≠ a ∧ p.1 ≠ dx ∧ AllNe p.1 news) → Q (.ref a) { s with heap := h', toks := tk' }) :
    wpAny (model PR w) A (call (.ref C) rest) Q E s := by
  refine wpAny_call (make_K F N (X.keeps F.keep) hm hi hf fun x dx h1 F1 N1 l1 l2 => ?_)
  have hx := N1 _ (.head _)
  have hd := N1 _ (.tail _ (.head _))
  have hne : x ≠ dx := Nat.ne_of_gt l2
  have kh : Kp h₀ (hideAll h1 [x, dx]) := kp_hide' F1.keep fun a ha => by
    rcases List.mem_cons.mp ha with q | q
    · rw [q]; exact hx.2.2
    · rw [List.mem_singleton.mp q]; exact hd.2.2
  refine ini _ _ x dx _ (depth_under_make _ _ _) hh kh F1.keep hx.1 hd.1 hne fun h' tk' o nw kp e1 e2 e3 ho => ⟨rfl, ?_⟩
  have kb : KpBut [x, dx] h1 h' := kpBut_of kp
  have F2 : Fr h₀ L h' m := fr_kpBut F1 kb fun a ha => by
    rcases List.mem_cons.mp ha with q | q
    · rw [q]; exact hx.2
    · rw [List.mem_singleton.mp q]; exact hd.2
  obtain ⟨oL, hoL⟩ := ns_some F1.ns
  refine k h' tk' x dx o nw F2 (fun p hp => ?_) (allNe_of fun p hp => Nat.ne_of_lt (Nat.lt_trans (l1 p hp) l2)) (allNe_of fun p hp => Nat.ne_of_lt (l1 p hp)) hne ho fun p hp => ⟨fun q => ?_, fun q => ?_, allNe_of fun r hr q => ?_⟩
  · rcases List.mem_cons.mp hp with rfl | hp
    · exact ⟨e1, hx.2⟩
    rcases List.mem_cons.mp hp with rfl | hp
    · exact ⟨e2, hd.2⟩
    rcases List.mem_append.mp hp with hp | hp
    · refine ⟨(e3 p hp).1, fun q => ?_, none_kp F1.keep (e3 p hp).2⟩
      have := (e3 p hp).2
      rw [show p.1 = L from q, hoL] at this; cases this
    · refine ⟨kb _ _ (fun q => ?_) (N1 p (.tail _ (.tail _ hp))).1, (N1 p (.tail _ (.tail _ hp))).2⟩
      have l := l1 p hp
      rcases List.mem_cons.mp q with q | q
      · exact absurd q (Nat.ne_of_lt (Nat.lt_trans l l2))
      · exact absurd (List.mem_singleton.mp q) (Nat.ne_of_lt l)
  · have := (e3 p hp).2; rw [q, hx.1] at this; cases this
  · have := (e3 p hp).2; rw [q, hd.1] at this; cases this
  · have := (e3 p hp).2
    rw [← q, (N1 r (.tail _ (.tail _ hr))).1] at this; cases this
/-- the fields of a Dtd just made, and its three empty dicts -/
def DtdNew (w : World) (o : Obj) (nw : List (Addr × Obj)) : Prop := ∃ (E At Nt : Addr) (oE oA oN : Obj) (k1 k2 k3 k4 : Int) (t1 t2 t3 t4 t5 : Tok) (n : Nat), nw = [(Nt, oN), (At, oA), (E, oE)] ∧
  o = dictOf [⟨k1, .str (Str.ofString "root") t1, .str (Str.ofString "a") t5⟩, ⟨k2, .str (Str.ofString "elements") t2, .ref E⟩, ⟨k3, .str (Str.ofString "attributes") t3, .ref At⟩, ⟨k4, .str (Str.ofString "notations") t4, .ref Nt⟩] n ∧
  (E == sysModules) = false ∧ (At == sysModules) = false ∧ (Nt == sysModules) = false ∧ oE.IsDictOf (strKind PR w) [] ∧ oA.IsDictOf (strKind PR w) [] ∧ oN.IsDictOf (strKind PR w) [] ∧ @Ne Nat E At ∧ @Ne Nat E Nt ∧ @Ne Nat At Nt
theorem ini96_end {w : World} {s : Shared} {R : Result → Shared → Prop} {x dx L' E At Nt : Addr} {g0 h : Heap} {m' : Str → Option Value} {oE oA oN : Obj} {k1 k2 k3 k4 : Int} {t1 t2 t3 t4 t5 : Tok} {n tk : Nat}
    (k : ∀ h' tk' o nw, Kp g0 h' → h'.get? x = some (instObj 172 dx) → h'.get? dx = some o → (∀ p ∈ nw, h'.get? p.1 = some p.2 ∧ s.heap.get? p.1 = none) → DtdNew w o nw → R (.ok (.ret .none)) { s with heap := h', toks := tk' })
    (F : Fr g0 L' h m') (N : News g0 L' h [(Nt, oN), (At, oA), (E, oE), (x, instObj 172 dx), (dx, dictOf [⟨k1, .str (Str.ofString "root") t1, .str (Str.ofString "a") t5⟩, ⟨k2, .str (Str.ofString "elements") t2, .ref E⟩, ⟨k3, .str (Str.ofString "attributes") t3, .ref At⟩, ⟨k4, .str (Str.ofString "notations") t4, .ref Nt⟩] n)])
    (un : ∀ z, g0.get? z = none → z ≠ x → z ≠ dx → s.heap.get? z = none) (lE : (E == sysModules) = false) (lA : (At == sysModules) = false) (lN : (Nt == sysModules) = false) (dE : oE.IsDictOf (strKind PR w) []) (dA : oA.IsDictOf (strKind PR w) []) (dN : oN.IsDictOf (strKind PR w) [])
    (n1 : @Ne Nat E At) (n2 : @Ne Nat E Nt) (n3 : @Ne Nat At Nt) (n4 : @Ne Nat E x) (n5 : @Ne Nat E dx) (n6 : @Ne Nat At x) (n7 : @Ne Nat At dx) (n8 : @Ne Nat Nt x) (n9 : @Ne Nat Nt dx) : R (.ok (.ret .none)) { s with heap := h, toks := tk } := by
  have mN := N _ (.head _)
  have mA := N _ (.tail _ (.head _))
  have mE := N _ (.tail _ (.tail _ (.head _)))
  refine k _ _ _ [(Nt, oN), (At, oA), (E, oE)] F.keep (N _ (.tail _ (.tail _ (.tail _ (.head _))))).1 (N _ (.tail _ (.tail _ (.tail _ (.tail _ (.head _)))))).1 (fun p hp => ?_) ⟨E, At, Nt, oE, oA, oN, _, _, _, _, _, _, _, _, _, _, rfl, rfl, lE, lA, lN, dE, dA, dN, n1, n2, n3⟩
  rcases List.mem_cons.mp hp with rfl | hp
  · exact ⟨mN.1, un _ mN.2.2 n8 n9⟩
  rcases List.mem_cons.mp hp with rfl | hp
  · exact ⟨mA.1, un _ mA.2.2 n6 n7⟩
  rw [List.mem_singleton.mp hp]
  exact ⟨mE.1, un _ mE.2.2 n4 n5⟩
theorem ini96 {w : World} {A : Around} {s : Shared} {x dx : Addr} {t : Tok} {R : Result → Shared → Prop} {p : Program} {loose : List Str} {mg mb : Str → Option Value}
    (Xs : (heapK w.params).In s.heap) (Ts : TopRead p loose mg mb s.heap) (X : (heapK w.params).In (hideAll s.heap [x, dx])) (T : TopRead p loose mg mb (hideAll s.heap [x, dx])) (hroom : A.depth + 10 < recursionLimit)
    (hx : s.heap.get? x = some (instObj 172 dx)) (hd : s.heap.get? dx = some emptyDict) (hne : x ≠ dx)
    (k : ∀ h' tk' o nw, Kp (hideAll s.heap [x, dx]) h' → h'.get? x = some (instObj 172 dx) → h'.get? dx = some o → (∀ p ∈ nw, h'.get? p.1 = some p.2 ∧ s.heap.get? p.1 = none) → DtdNew w o nw → R (.ok (.ret .none)) { s with heap := h', toks := tk' }) :
    codeAny (model PR w) A (.call (.ref 96) ⟨[.ref x, .str (Str.ofString "a") t], []⟩) R s := by
  k_dflt (refine' enterMC [("self", .ref x), ("root", .str (Str.ofString "a") t)] [(x, instObj 172 dx), (dx, emptyDict)] ?hn ?X ?T ?ho ?hcd ?hroom ?hbind ?hloc ?_ ?c1 ?c2 ?c3 ?c4; (case X => exact Xs); (case T => exact Ts.nolimit); k_extra "M enterM2")
  case hn => intro p hp; rcases List.mem_cons.mp hp with rfl | hp; exact hx; rw [List.mem_singleton.mp hp]; exact hd
  change ∀ L h₁, Fr (hideAll s.heap [x, dx]) L h₁ _ → News (hideAll s.heap [x, dx]) L h₁ _ → _
  have un : ∀ z, (hideAll s.heap [x, dx]).get? z = none → z ≠ x → z ≠ dx → s.heap.get? z = none := fun z e a b => unhide e fun q => (List.mem_cons.mp q).elim a fun q => b (List.mem_singleton.mp q)
  generalize hideAll s.heap [x, dx] = g0 at *
  clear Xs Ts hd hx
  intro L' h' F' N'
  try dsimp only [Mine.bodOf, Mine.scoOf, Mine.parOf, Mine.topS, Mine.inS, Mine.stAt, PySem.Challenge.pw_on0181_01]
  try k_fold
  k_steps
  rename Fr _ _ _ _ => F
  rename News _ _ _ _ => N
  refine ini96_end k F N un ?_ ?_ ?_ ?_ ?_ ?_ (by k_ne) (by k_ne) (by k_ne) (by k_ne) (by k_ne) (by k_ne) (by k_ne) (by k_ne) (by k_ne)
  all_goals assumption
theorem c_mkDtd {w : World} {A : Around} {s : Shared} {h₀ : Heap} {L : Addr} {m : Str → Option Value} {news : List (Addr × Obj)} {t : Tok} {Q Ex : Value → Shared → Prop} {p : Program} {loose : List Str} {mg mb : Str → Option Value}
    (F : Fr h₀ L s.heap m) (N : News h₀ L s.heap news) (X : (heapK w.params).In h₀) (T : TopRead p loose mg mb h₀) (hroom : A.depth + 20 < recursionLimit) (hh : A.handled = none)
    (k : ∀ h' tk' a dx o E At Nt oE oA oN, Fr h₀ L h' m → News h₀ L h' ((a, instObj 172 dx) :: (dx, o) :: (Nt, oN) :: (At, oA) :: (E, oE) :: news) → AllNe a news → AllNe dx news → AllNe Nt news → AllNe At news → AllNe E news → a ≠ dx → Nt ≠ a → Nt ≠ dx → At ≠ a → At ≠ dx → E ≠ a → E ≠ dx →
      DtdNew w o [(Nt, oN), (At, oA), (E, oE)] → Q (.ref a) { s with heap := h', toks := tk' }) :
    wpAny (model PR w) A (call (.ref 172) [.str (Str.ofString "a") t]) Q Ex s :=
  make_ownX (K := heapK w.params) (od := DtdNew w) F N X (by k_is) (by k_is) (by k_is) hh
    (fun A' s1 x dx R hA _ kh ks hx hdd hne kk => ini96 (X.keeps ks) (T.keeps ks) (X.keeps kh) (T.keeps kh) (by omega) hx hdd hne kk)
    fun h' tk' a dx o nw F' N' n1 n2 n3 ho n4 => by
      obtain ⟨E, At, Nt, oE, oA, oN, r⟩ := id ho
      obtain ⟨k1, k2, k3, k4, t1, t2, t3, t4, t5, n, rfl, _⟩ := r
      obtain ⟨a1, a2, a3⟩ := n4 _ (.head _)
      obtain ⟨b1, b2, b3⟩ := n4 _ (.tail _ (.head _))
      obtain ⟨c1, c2, c3⟩ := n4 _ (.tail _ (.tail _ (.head _)))
      exact k h' tk' a dx o E At Nt oE oA oN F' N' n1 n2 a3 b3 c3 n3 a1 a2 b1 b2 c1 c2 ho
end Mine
theorem Mine.offL7 : True := by
  w_top off
  trivial
set_option maxHeartbeats 800000
namespace Mine
section
variable {prog : Program} {w : World} {A : Around} {E : Value → Shared → Prop} {s : Shared} {env : Env}
/-- where a turn of a for over a range ends -/
def REnd (I : Addr) (J : Heap → Prop) (h : Heap) (s₁ : Shared) (Q : Flow → Shared → Prop) (f : Flow) (s' : Shared) : Prop :=
  match f with
  | .ret v => Q (.ret v) s'
  | .brk => Q .next s'
  | _ => ∃ h' tk', s' = { s₁ with heap := h', toks := tk' } ∧ J h' ∧ ∀ o, h.get? I = some o → h'.get? I = some o
def FoR (prog : Program) (w : World) (A : Around) (env : Env) (x : Str) (px : Pos) (body : List Stmt) (Q : Flow → Shared → Prop) (E : Value → Shared → Prop) (xv : Value) (s₁ : Shared) : Prop :=
  ∃ (r : Addr) (b₀ : Int) (t u v : Tok) (n : Nat) (J : Nat → Addr → Heap → Prop), A.handled = none ∧ xv = .ref r ∧ IsRange s₁.heap r 0 b₀ 1 t u v ∧ Builtin.Range.small 0 b₀ 1 = true ∧ Builtin.Range.rangeSize 0 b₀ 1 = (n : Int) ∧
    (∀ I h', I = s₁.heap.objs.size → Kp s₁.heap h' → (∃ o, h'.get? I = some o) → J 0 I h') ∧
    (∀ i I h h', J i I h → (∀ b o, b ≠ I → h.get? b = some o → h'.get? b = some o) → (∃ o, h'.get? I = some o) → J i I h') ∧
    (∀ i I h (z : Int) t tk, i < n → J i I h → wpAny (model prog w) A (assign (.Name x px) env (.int z t)) (fun _ s₃ => wpAny (model prog w) A (execs body env) (REnd I (J (i + 1) I) h s₁ Q) E s₃) E { s₁ with heap := h, toks := tk }) ∧
    (∀ I h h' tk, J n I h → (∀ b o, b ≠ I → h.get? b = some o → h'.get? b = some o) → Q .next { s₁ with heap := h', toks := tk })
theorem for_range {x : Str} {px : Pos} {iter : Expr} {body : List Stmt} {pos : Pos} {Q : Flow → Shared → Prop}
    (h : wpAny (model prog w) A (eval iter env) (FoR prog w A env x px body Q E) E s)
    (hs : ∀ x, foldedSetIterable iter env x = pure x := by intro _; rfl)
    (hE : PassesOwn (model prog w) A env E := by passes_own) :
    wpAny (model prog w) A (exec (.For (.Name x px) iter body [] pos) env) Q E s := by
  refine wpAny_For (wpAny_mono h (fun xv s₁ h₁ => ?_) fun _ _ e => e) hs
  obtain ⟨r, b₀, t, u, v, n, J, hh, rfl, hr, hsm, hn, h0, hJ, turn, fin⟩ := h₁
  refine wpAny_pyIter_range hr hsm ?_
  have up : ∀ b o, s₁.heap.get? b = some o → (s₁.heap.push { cls := .type "range_iterator", data := .fields #[rawInt 0, rawInt (Builtin.Range.rangeSize 0 b₀ 1), rawInt 1] }).get? b = some o := fun b o e => Heap.get?_push_of_some _ e
  have hI : (s₁.heap.push { cls := .type "range_iterator", data := .fields #[rawInt 0, rawInt (Builtin.Range.rangeSize 0 b₀ 1), rawInt 1] }).get? s₁.heap.objs.size = some { cls := .type "range_iterator", data := .fields #[rawInt 0, rawInt (Builtin.Range.rangeSize 0 b₀ 1), rawInt 1] } := Heap.get?_push_size _ rfl
  generalize s₁.heap.push { cls := .type "range_iterator", data := .fields #[rawInt 0, rawInt (Builtin.Range.rangeSize 0 b₀ 1), rawInt 1] } = H at up hI ⊢
  generalize hIe : s₁.heap.objs.size = I at hI ⊢
  have W := Walks.range (prog := prog) (w := w) hh I 0 1 n
  have st0 : IsRangeIter H I (0 + ((0 : Nat) : Int) * 1) ((n : Int) - ((0 : Nat) : Int)) 1 := by
    rw [hn] at hI
    simpa using hI
  refine codeAny_forLoop_any
    (fun k s' => ∃ h' tk i, s' = { s₁ with heap := h', toks := tk } ∧ IsRangeIter h' I (0 + (i : Nat) * 1) ((n : Int) - (i : Nat)) 1 ∧ J i I h' ∧ i ≤ n ∧ k = n + 1 - i) ?_ (n + 1)
    ⟨H, s₁.toks, 0, rfl, st0, h0 _ _ hIe.symm up ⟨_, hI⟩, Nat.zero_le _, rfl⟩
  rintro k s' ⟨h', tk, i, rfl, hst, hj, hi, rfl⟩
  by_cases hlt : i < n
  · refine W.item i _ _ _ hlt hst fun v h₂ tk₂ hP hst₂ hk₂ => ?_
    refine wpAny_of_eq (rfl : letOwnedTupleGo (.Name x px) _ _ = pure ()) ?_
    have j₂ := hJ _ _ _ _ hj (fun b o hb e => hk₂ b o (by simpa using hb) e) ⟨_, hst₂⟩
    obtain ⟨tv, rfl⟩ := hP
    refine wpAny_mono (turn i I h₂ _ tv tk₂ hlt j₂) (fun _ s₃ h₃ => wpAny_mono h₃ (fun f s₄ h₄ => ?_) hE) hE
    have step : (∃ h₅ tk', s₄ = { s₁ with heap := h₅, toks := tk' } ∧ J (i + 1) I h₅ ∧ ∀ o, h₂.get? I = some o → h₅.get? I = some o) →
        ∃ k, k < n + 1 - i ∧ ∃ h' tk i, s₄ = { s₁ with heap := h', toks := tk } ∧ IsRangeIter h' I (0 + (i : Nat) * 1) ((n : Int) - (i : Nat)) 1 ∧ J i I h' ∧ i ≤ n ∧ k = n + 1 - i := by
      rintro ⟨h₅, tk₅, rfl, j₅, e₅⟩
      exact ⟨n + 1 - (i + 1), by omega, h₅, tk₅, i + 1, rfl, e₅ _ hst₂, j₅, hlt, rfl⟩
    cases f with
    | ret v => exact h₄
    | brk => exact h₄
    | next => exact step h₄
    | cont => exact step h₄
  · obtain rfl : i = n := Nat.le_antisymm hi (Nat.not_lt.mp hlt)
    refine W.done _ _ _ hst fun h₂ tk₂ hk₂ => wpAny_execs_nil ?_
    exact fin I h' h₂ tk₂ hj fun b o hb e => hk₂ b o (by simpa using hb) e
end
end Mine
theorem Mine.offL8 : True := by
  w_top off
  trivial
set_option maxHeartbeats 2000000
namespace Mine
section
variable {w : World} {A : Around} {s : Shared} {h₀ : Heap} {L : Addr} {m : Str → Option Value} {news : List (Addr × Obj)} {Q Ex : Value → Shared → Prop} {p : Program} {loose : List Str} {mg mb : Str → Option Value}
theorem ite_ffP {a b : Prop} {i : Decidable (false = true)} (h : b) : @ite Prop (false = true) i a b := by rw [if_neg Bool.false_ne_true]; exact h
theorem ite_ttP {a b : Prop} {i : Decidable (true = true)} (h : a) : @ite Prop (true = true) i a b := by rw [if_pos rfl]; exact h
theorem c_poolN {l : Addr} {vs : List Value} {ns : List Int} (F : Fr h₀ L s.heap m) (N : News h₀ L s.heap news) (X : (heapK w.params).In h₀) (T : TopRead p loose mg mb h₀) (hroom : A.depth + 10 < recursionLimit) (hh : A.handled = none) (hT : h₀.IsList l vs.toArray) (hI : IntsAre vs ns) (hl : vs.length ≤ 63)
    (k : ∀ h' tk' a ta b tb r n, Fr h₀ L h' m → News h₀ L h' ((r, lsn [.int a ta, .int b tb] n) :: news) → AllNe r news → 0 ≤ a → 0 ≤ b ∧ b < 2147483648 → Q (.ref r) { s with heap := h', toks := tk' }) :
    wpAny (model PR w) A (call (.ref 218) [.ref l]) Q Ex s :=
  c_pool (X.keeps F.keep) (T.keeps F.keep) hroom hh (hT.at fun o e => F.keep _ o e) hI hl fun h' tk' a ta b tb r n hk hr hn ha hb => k h' tk' a ta b tb r n (F.keeps hk) (news_new F N hk hr hn) (allNe_of (ne_new N hn)) ha hb
theorem dtdNew_at {h : Heap} {D dD E At Nt : Addr} {o oE oA oN : Obj} (e1 : h.get? D = some (instObj 172 dD)) (e2 : h.get? dD = some o) (hn : DtdNew w o [(Nt, oN), (At, oA), (E, oE)]) : DtdAt h D E At Nt := by
  obtain ⟨E', At', Nt', oE', oA', oN', k1, k2, k3, k4, t1, t2, t3, t4, t5, n, e, rfl, _⟩ := hn
  cases e
  exact ⟨dD, k1, k2, k3, k4, t1, t2, t3, t4, t5, n, e1, e2⟩
theorem c_mkDtdN {t : Tok} (F : Fr h₀ L s.heap m) (N : News h₀ L s.heap news) (X : (heapK w.params).In h₀) (T : TopRead p loose mg mb h₀) (hroom : A.depth + 20 < recursionLimit) (hh : A.handled = none)
    (k : ∀ h' tk' a dx E At Nt oE oA oN k1 k2 k3 k4 t1 t2 t3 t4 t5 n, Fr h₀ L h' m → News h₀ L h' ((a, instObj 172 dx) :: (dx, dictOf [⟨k1, .str (Str.ofString "root") t1, .str (Str.ofString "a") t5⟩, ⟨k2, .str (Str.ofString "elements") t2, .ref E⟩, ⟨k3, .str (Str.ofString "attributes") t3, .ref At⟩, ⟨k4, .str (Str.ofString "notations") t4, .ref Nt⟩] n) :: (Nt, oN) :: (At, oA) :: (E, oE) :: news) →
      AllNe a news → AllNe dx news → AllNe Nt news → AllNe At news → AllNe E news → a ≠ dx → Nt ≠ a → Nt ≠ dx → At ≠ a → At ≠ dx → E ≠ a → E ≠ dx → @Ne Nat E At → @Ne Nat E Nt → @Ne Nat At Nt →
      DtdNew w (dictOf [⟨k1, .str (Str.ofString "root") t1, .str (Str.ofString "a") t5⟩, ⟨k2, .str (Str.ofString "elements") t2, .ref E⟩, ⟨k3, .str (Str.ofString "attributes") t3, .ref At⟩, ⟨k4, .str (Str.ofString "notations") t4, .ref Nt⟩] n) [(Nt, oN), (At, oA), (E, oE)] → Q (.ref a) { s with heap := h', toks := tk' }) :
    wpAny (model PR w) A (call (.ref 172) [.str (Str.ofString "a") t]) Q Ex s :=
  c_mkDtd F N X T hroom hh fun h' tk' a dx o E At Nt oE oA oN F' N' a1 a2 a3 a4 a5 a6 a7 a8 a9 b1 b2 b3 hn => by
    obtain ⟨E', At', Nt', oE', oA', oN', k1, k2, k3, k4, t1, t2, t3, t4, t5, n, e, rfl, e3, e4, e5, e6, e7, e8, n1, n2, n3⟩ := id hn
    cases e
    exact k h' tk' a dx E At Nt oE oA oN k1 k2 k3 k4 t1 t2 t3 t4 t5 n F' N' a1 a2 a3 a4 a5 a6 a7 a8 a9 b1 b2 b3 n1 n2 n3 hn
theorem c_daA1 {g : Obj → List (Addr × Obj)} {D dD E At Nt xr : Addr} {x y : Str} {t ty : Tok} {o oE oA oN : Obj}
    (F : Fr h₀ L s.heap m) (N : News h₀ L s.heap news) (X : (heapK w.params).In h₀) (T : TopRead p loose mg mb h₀) (hroom : A.depth + 40 < recursionLimit) (hh : A.handled = none) (mD : (D, instObj 172 dD) ∈ news) (hn : DtdNew w o [(Nt, oN), (At, oA), (E, oE)]) (md : (dD, o) ∈ news) (U : UpdF At oA news g) (n1 : D ≠ At) (n2 : dD ≠ At) (k : ∀ h' tk' o' d od, Fr h₀ L h' m → News h₀ L h' ((d, od) :: g o') → AllNe d news → (d == sysModules) = false → od.IsDictOf (strKind PR w) [(y, .ref xr)] → o'.IsDictOf (strKind PR w) [(x, .ref d)] → Q .none { s with heap := h', toks := tk' }) :
    wpAny (model PR w) A (call (.ref 110) [.ref D, .str x t, .str y ty, .ref xr]) Q Ex s := by
  have hN := hn
  obtain ⟨E', At', Nt', oE', oA', oN', k1, k2, k3, k4, t1, t2, t3, t4, t5, n, e, e2, lE, lA, lN, dE, dA, dN, _⟩ := hn
  cases e
  exact c_daA0 F N X T hroom hh U (dtdNew_at (hideAll_get _ (N _ mD).1 fun q => n1 (List.mem_singleton.mp q)) (hideAll_get _ (N _ md).1 fun q => n2 (List.mem_singleton.mp q)) hN) lA dA rfl (Nat.zero_le _) k
theorem c_daC1 {D dD E At Nt d xr xr0 : Addr} {x y : Str} {t ty : Tok} {o oE oA0 oA oN od : Obj}
    (F : Fr h₀ L s.heap m) (N : News h₀ L s.heap news) (X : (heapK w.params).In h₀) (T : TopRead p loose mg mb h₀) (hroom : A.depth + 40 < recursionLimit) (hh : A.handled = none) (mD : (D, instObj 172 dD) ∈ news) (hn : DtdNew w o [(Nt, oN), (At, oA0), (E, oE)]) (md : (dD, o) ∈ news) (dA : oA.IsDictOf (strKind PR w) [(x, .ref d)]) (mA : (At, oA) ∈ news) (dd : od.IsDictOf (strKind PR w) [(y, .ref xr0)]) (m0 : (d, od) ∈ news) (lo : (d == sysModules) = false) (k : ∀ h' tk', Fr h₀ L h' m → News h₀ L h' news → Q .none { s with heap := h', toks := tk' }) :
    wpAny (model PR w) A (call (.ref 110) [.ref D, .str x t, .str y ty, .ref xr]) Q Ex s := by
  have hD := dtdNew_at (N _ mD).1 (N _ md).1 hn
  obtain ⟨E', At', Nt', oE', oA', oN', k1, k2, k3, k4, t1, t2, t3, t4, t5, n, e, e2, lE, lA, lN, _⟩ := hn
  cases e
  exact c_daC (X.keeps F.keep) (T.keeps F.keep) hroom hh hD (SD.of lA (N _ mA).1 dA) (by simp [valueAt]) (SD.of lo (N _ m0).1 dd) (by simp [valueAt]) fun h' tk' hk => k h' tk' (F.keeps hk) (N.grown hk)
theorem c_rule1 {D dD E At Nt d xr0 : Addr} {x y : Str} {t ty : Tok} {o oE oA0 oA oN od : Obj}
    (F : Fr h₀ L s.heap m) (N : News h₀ L s.heap news) (X : (heapK w.params).In h₀) (T : TopRead p loose mg mb h₀) (hroom : A.depth + 10 < recursionLimit) (mD : (D, instObj 172 dD) ∈ news) (hn : DtdNew w o [(Nt, oN), (At, oA0), (E, oE)]) (md : (dD, o) ∈ news) (dA : oA.IsDictOf (strKind PR w) [(x, .ref d)]) (mA : (At, oA) ∈ news) (dd : od.IsDictOf (strKind PR w) [(y, .ref xr0)]) (m0 : (d, od) ∈ news) (lo : (d == sysModules) = false) (k : ∀ h' tk', Fr h₀ L h' m → News h₀ L h' news → Q (.ref xr0) { s with heap := h', toks := tk' }) :
    wpAny (model PR w) A (call (.ref 138) [.ref D, .str x t, .str y ty]) Q Ex s := by
  have hD := dtdNew_at (N _ mD).1 (N _ md).1 hn
  obtain ⟨E', At', Nt', oE', oA', oN', k1, k2, k3, k4, t1, t2, t3, t4, t5, n, e, e2, lE, lA, lN, _⟩ := hn
  cases e
  exact c_ruleW (X.keeps F.keep) (T.keeps F.keep) hroom hD (SD.of lA (N _ mA).1 dA) (by simp [valueAt]) (SD.of lo (N _ m0).1 dd) (by simp [valueAt]) fun h' tk' hk => k h' tk' (F.keeps hk) (N.grown hk)
def rule0 : Rule := ⟨Str.ofString "CDATA", [], Str.ofString "implied", none⟩
theorem ids0 {x y : Str} : namesOf (rulesOf [(x, [(y, rule0)])] x) "ID" = [] := by
  unfold rulesOf look
  simp only [List.find?_cons, decide_true]
  unfold namesOf rule0
  simp only [Option.map_some, Option.getD_some]
  rw [List.filter_cons, if_neg (by show ¬ ((Str.ofString "CDATA" == Str.ofString "ID") = true); decide +kernel)]
  rfl
theorem c_id1 {D dD E At Nt d xr0 dx ch : Addr} {x y : Str} {t : Tok} {o oE oA0 oA oN od ox och : Obj} {n : Nat}
    (F : Fr h₀ L s.heap m) (N : News h₀ L s.heap news) (X : (heapK w.params).In h₀) (T : TopRead p loose mg mb h₀) (hroom : A.depth + 20 < recursionLimit) (hun : A.units + 100 < cLine) (hh : A.handled = none) (mD : (D, instObj 172 dD) ∈ news) (hn : DtdNew w o [(Nt, oN), (At, oA0), (E, oE)]) (md : (dD, o) ∈ news) (dA : oA.IsDictOf (strKind PR w) [(x, .ref d)]) (mA : (At, oA) ∈ news) (dd : od.IsDictOf (strKind PR w) [(y, .ref xr0)]) (m0 : (d, od) ∈ news) (lo : (d == sysModules) = false) (hr : RuleDict ch (Str.ofString "CDATA") (Str.ofString "implied") .none ox) (mx : (xr0, instObj 207 dx) ∈ news) (mdx : (dx, ox) ∈ news) (mch : (ch, och) ∈ news) (cc : och.cls = .type "tuple") (cd : och.data = .seq #[] n) (k : ∀ h' tk', Fr h₀ L h' m → News h₀ L h' news → Q .none { s with heap := h', toks := tk' }) :
    wpAny (model PR w) A (call (.ref 150) [.ref D, .str x t]) Q Ex s := by
  have hD := dtdNew_at (N _ mD).1 (N _ md).1 hn
  obtain ⟨E', At', Nt', oE', oA', oN', k1, k2, k3, k4, t1, t2, t3, t4, t5, n, e, e2, lE, lA, lN, _⟩ := hn
  cases e
  have ro : RuleObj s.heap xr0 rule0 := ruleObj_of (r := rule0) (vs := []) (vv := .none) (N _ mx).1 (N _ mdx).1 hr (N _ mch).1 cc cd .nil rfl
  have hA : Attrs w s.heap At [(x, [(y, rule0)])] := ⟨_, SD.of lA (N _ mA).1 dA, .cons ⟨rfl, d, rfl, _, SD.of lo (N _ m0).1 dd, .cons ⟨rfl, xr0, rfl, ro⟩ .nil⟩ .nil⟩
  refine c_idS (X.keeps F.keep) (T.keeps F.keep) hroom hun hh hD hA ?_ ?_ fun h' tk' v hk hv => ?_
  · exact rulesOf_len (fun e he => by rw [List.mem_singleton.mp he]; exact (by decide : 1 ≤ 1000)) x
  · rw [ids0]; intro y hy; nomatch hy
  · rw [ids0] at hv
    rcases hv with ⟨_, rfl⟩ | ⟨_, _, _, e, _⟩
    · exact k h' tk' (F.keeps hk) (N.grown hk)
    · cases e
end
end Mine
theorem Mine.offLA : True := by
  w_top off
  trivial
set_option maxHeartbeats 2000000
namespace Mine
def Hold (p : Prop) : Prop := p
theorem range_few {v : Int} (h : 0 ≤ v ∧ v < 9) : Builtin.Range.small 0 (6 + v) 1 = true ∧ ∃ n : Nat, Builtin.Range.rangeSize 0 (6 + v) 1 = (n : Int) ∧ n ≤ 14 := by
  have : v = 0 ∨ v = 1 ∨ v = 2 ∨ v = 3 ∨ v = 4 ∨ v = 5 ∨ v = 6 ∨ v = 7 ∨ v = 8 := by omega
  rcases this with rfl | rfl | rfl | rfl | rfl | rfl | rfl | rfl | rfl
  · exact ⟨by decide, 6, by decide, by decide⟩
  · exact ⟨by decide, 7, by decide, by decide⟩
  · exact ⟨by decide, 8, by decide, by decide⟩
  · exact ⟨by decide, 9, by decide, by decide⟩
  · exact ⟨by decide, 10, by decide, by decide⟩
  · exact ⟨by decide, 11, by decide, by decide⟩
  · exact ⟨by decide, 12, by decide, by decide⟩
  · exact ⟨by decide, 13, by decide, by decide⟩
  · exact ⟨by decide, 14, by decide, by decide⟩
theorem nm_nil {a : Addr} : a ∉ ([] : List Addr) := List.not_mem_nil
theorem nm_cons {a b : Addr} {l : List Addr} (h : @Ne Nat a b) (t : a ∉ l) : a ∉ b :: l := fun m => (List.mem_cons.mp m).elim h t
section
variable {w : World} {g h h' : Heap} {bad : List Addr} {c : Cst} {i j : Nat} {t : Dat}
theorem rule0_fine : RFine (Str.ofString "k", rule0) :=
  ⟨⟨by decide +kernel, Nat.zero_le _, fun c hc => nomatch hc⟩, by decide +kernel, by decide +kernel, ⟨by decide +kernel, (fun c hc => nomatch hc), by decide +kernel, fun v hv => nomatch hv⟩, by decide +kernel⟩
abbrev tup (xs : List Value) : Obj := { cls := .type "tuple", data := .seq xs.toArray }
theorem ok_start {L l0 T0 rr0 ch1 d0 x0 dx0 ch0 Nl Rr M R D dD Nt At E src : Addr} {m : Str → Option Value} {n0 nl n : Nat} {tk1 tk2 tk3 ta tb : Tok} {a b : Int} {od0 ox oRr oM oR o oN oA oA0 oE : Obj} {p5 p6 p7 p8 p12 : Addr × Obj}
    (F : Fr g L h m) (N : News g L h [(l0, lsn [.ref T0] n0), (T0, tup [.str (Str.ofString "k") tk1, .ref rr0]), (rr0, tup [.str (Str.ofString "CDATA") tk2, .ref ch1, .str (Str.ofString "implied") tk3, .none]), (ch1, tup []), (d0, od0), p5, p6, p7, p8, (x0, instObj 207 dx0), (dx0, ox), (ch0, tup []), p12,
      (Nl, lsn [] nl), (Rr, oRr), (M, oM), (R, oR), (D, instObj 172 dD), (dD, o), (Nt, oN), (At, oA), (E, oE), (src, lsn [.int a ta, .int b tb] n), (246, tabObj #[])])
    (ha : 0 ≤ a) (hb : 0 ≤ b ∧ b < 2147483648) (hn : DtdNew w o [(Nt, oN), (At, oA0), (E, oE)]) (hr : RuleDict ch0 (Str.ofString "CDATA") (Str.ofString "implied") .none ox)
    (lR : (R == sysModules) = false) (dR : oR.IsDictOf (strKind PR w) [(Str.ofString "models", .ref M), (Str.ofString "rules", .ref Rr), (Str.ofString "notations", .ref Nl)])
    (lM : (M == sysModules) = false) (dM : oM.IsDictOf (strKind PR w) []) (lRr : (Rr == sysModules) = false) (dRr : oRr.IsDictOf (strKind PR w) [(Str.ofString "e", .ref l0)])
    (dA : oA.IsDictOf (strKind PR w) [(Str.ofString "e", .ref d0)]) (l0' : (d0 == sysModules) = false) (dd0 : od0.IsDictOf (strKind PR w) [(Str.ofString "k", .ref x0)])
    (nd : [246, src, E, M, Nt, Nl, At, Rr, l0, d0].Nodup)
    (o1 : D ∉ [246, src, E, M, Nt, Nl, At, Rr, l0, d0]) (o2 : dD ∉ [246, src, E, M, Nt, Nl, At, Rr, l0, d0]) (o3 : R ∉ [246, src, E, M, Nt, Nl, At, Rr, l0, d0]) (o4 : T0 ∉ [246, src, E, M, Nt, Nl, At, Rr, l0, d0]) (o5 : rr0 ∉ [246, src, E, M, Nt, Nl, At, Rr, l0, d0])
    (o6 : ch1 ∉ [246, src, E, M, Nt, Nl, At, Rr, l0, d0]) (o7 : x0 ∉ [246, src, E, M, Nt, Nl, At, Rr, l0, d0]) (o8 : dx0 ∉ [246, src, E, M, Nt, Nl, At, Rr, l0, d0]) (o9 : ch0 ∉ [246, src, E, M, Nt, Nl, At, Rr, l0, d0]) :
    ∃ t, Ok w g h [L] ⟨src, D, R, E, At, Nt, M, Rr, Nl⟩ 1 t := by
  have hN := hn
  obtain ⟨E', At', Nt', oE', oA', oN', k1, k2, k3, k4, t1, t2, t3, t4, t5, n', e, rfl, lE, lA, lN, dE, dA0, dN, _⟩ := hn
  cases e
  let es : List Ent := [⟨Str.ofString "e", l0, d0, [.ref T0], n0, od0, [(Str.ofString "k", .ref x0)], [(Str.ofString "k", rule0)]⟩]
  have hH : hid [L] ⟨src, D, R, E, At, Nt, M, Rr, Nl⟩ es = [246, src, E, M, Nt, Nl, At, Rr, L, l0, d0] := rfl
  have N0 : ∀ {p : Addr × Obj} (q : Nat), ([(l0, lsn [.ref T0] n0), (T0, tup [.str (Str.ofString "k") tk1, .ref rr0]), (rr0, tup [.str (Str.ofString "CDATA") tk2, .ref ch1, .str (Str.ofString "implied") tk3, .none]), (ch1, tup []), (d0, od0), p5, p6, p7, p8, (x0, instObj 207 dx0), (dx0, ox), (ch0, tup []), p12,
      (Nl, lsn [] nl), (Rr, oRr), (M, oM), (R, oR), (D, instObj 172 dD), (dD, dictOf [⟨k1, .str (Str.ofString "root") t1, .str (Str.ofString "a") t5⟩, ⟨k2, .str (Str.ofString "elements") t2, .ref E⟩, ⟨k3, .str (Str.ofString "attributes") t3, .ref At⟩, ⟨k4, .str (Str.ofString "notations") t4, .ref Nt⟩] n'), (Nt, oN), (At, oA), (E, oE), (src, lsn [.int a ta, .int b tb] n), (246, tabObj #[])] : List (Addr × Obj))[q]? = some p → h.get? p.1 = some p.2 ∧ p.1 ≠ L ∧ g.get? p.1 = none := fun q hq => N _ (List.mem_of_getElem? hq)
  have gL : g.get? L = none := Heap.get?_none_of_le F.above
  obtain ⟨oL, hoL⟩ := ns_some F.ns
  have up : ∀ {z : Addr} {ob : Obj}, z ∉ [246, src, E, M, Nt, Nl, At, Rr, l0, d0] → (h.get? z = some ob ∧ z ≠ L ∧ g.get? z = none) → (hideAll h [246, src, E, M, Nt, Nl, At, Rr, L, l0, d0]).get? z = some ob := fun hz e => hideAll_get _ e.1 fun q => by
    simp only [List.mem_cons, List.not_mem_nil, or_false, not_or] at q hz
    obtain ⟨z1, z2, z3, z4, z5, z6, z7, z8, z9, z10⟩ := hz
    rcases q with q | q | q | q | q | q | q | q | q | q | q
    · exact z1 q
    · exact z2 q
    · exact z3 q
    · exact z4 q
    · exact z5 q
    · exact z6 q
    · exact z7 q
    · exact z8 q
    · exact e.2.1 q
    · exact z9 q
    · exact z10 q
  refine ⟨⟨[], [], [], es, [], [], fun _ => none, #[]⟩, ?_⟩
  constructor <;> (try dsimp only) <;> (try rw [hH])
  case kg => exact F.keep
  case gS =>
    intro z hz
    simp only [List.mem_cons, List.not_mem_nil, or_false] at hz
    rcases hz with rfl | rfl | rfl | rfl | rfl | rfl | rfl | rfl | rfl | rfl | rfl
    · exact (N0 23 rfl).2.2
    · exact (N0 22 rfl).2.2
    · exact (N0 21 rfl).2.2
    · exact (N0 15 rfl).2.2
    · exact (N0 19 rfl).2.2
    · exact (N0 13 rfl).2.2
    · exact (N0 20 rfl).2.2
    · exact (N0 14 rfl).2.2
    · exact gL
    · exact (N0 0 rfl).2.2
    · exact (N0 4 rfl).2.2
  case live => intro z hz; rw [List.mem_singleton.mp hz]; exact ⟨_, hoL⟩
  case nd =>
    have p1 : [246, src, E, M, Nt, Nl, At, Rr, L, l0, d0] = [246, src, E, M, Nt, Nl, At, Rr] ++ L :: [l0, d0] := rfl
    have p2 : [246, src, E, M, Nt, Nl, At, Rr, l0, d0] = [246, src, E, M, Nt, Nl, At, Rr] ++ [l0, d0] := rfl
    rw [p2] at nd
    obtain ⟨n1, n2, n3⟩ := List.nodup_append.mp nd
    rw [p1]
    have hL1 : ∀ z ∈ [l0, d0], z ≠ L := fun z hz => by
      simp only [List.mem_cons, List.not_mem_nil, or_false] at hz
      rcases hz with rfl | rfl
      · exact (N0 0 rfl).2.1
      · exact (N0 4 rfl).2.1
    have hL2 : ∀ z ∈ [246, src, E, M, Nt, Nl, At, Rr], z ≠ L := fun z hz => by
      simp only [List.mem_cons, List.not_mem_nil, or_false] at hz
      rcases hz with rfl | rfl | rfl | rfl | rfl | rfl | rfl | rfl
      · exact (N0 23 rfl).2.1
      · exact (N0 22 rfl).2.1
      · exact (N0 21 rfl).2.1
      · exact (N0 15 rfl).2.1
      · exact (N0 19 rfl).2.1
      · exact (N0 13 rfl).2.1
      · exact (N0 20 rfl).2.1
      · exact (N0 14 rfl).2.1
    refine List.nodup_append.mpr ⟨n1, List.nodup_cons.mpr ⟨fun q => hL1 L q rfl, n2⟩, fun x hx y hy q => ?_⟩
    rcases List.mem_cons.mp hy with rfl | hy
    · exact hL2 x hx q
    · exact n3 x hx y hy q
  case src => exact ⟨_, _, _, _, _, (N0 22 rfl).1, ha, hb⟩
  case tab => exact (N0 23 rfl).1
  case tri => exact trivial
  case lamE => exact .inl rfl
  case lamN => exact .inl rfl
  case dtd => exact dtdNew_at (up o1 (N0 17 rfl)) (up o2 (N0 18 rfl)) hN
  case row => exact SD.of lR (up o3 (N0 16 rfl)) dR
  case dE => exact SD.of lE (N0 21 rfl).1 dE
  case dM => exact SD.of lM (N0 15 rfl).1 dM
  case dN => exact SD.of lN (N0 19 rfl).1 dN
  case dA => exact SD.of lA (N0 20 rfl).1 dA
  case dR => exact SD.of lRr (N0 14 rfl).1 dRr
  case dL => exact ⟨_, (N0 13 rfl).1⟩
  case mods => exact fun x => .inl ⟨rfl, rfl, rfl⟩
  case nos => exact .nil
  case noy => exact .nil
  case ent =>
    intro e he
    rw [List.mem_singleton.mp he]
    refine ⟨(N0 0 rfl).1, (N0 4 rfl).1, dd0, l0', .cons ⟨T0, rr0, tk1, rfl, ⟨_, up o4 (N0 1 rfl), rfl, _, rfl⟩, ch1, [], tk2, tk3, .none, ⟨_, up o5 (N0 2 rfl), rfl, _, rfl⟩, ⟨_, up o6 (N0 3 rfl), rfl, _, rfl⟩, .nil, rfl⟩ .nil, .cons ⟨rfl, x0, rfl, ?_⟩ .nil, fun r hr => by rw [List.mem_singleton.mp hr]; exact rule0_fine, .head _⟩
    exact ruleObj_of (r := rule0) (vs := []) (vv := .none) (up o7 (N0 9 rfl)) (up o8 (N0 10 rfl)) hr (up o9 (N0 11 rfl)) rfl rfl .nil rfl
  case zE => exact Nat.zero_le _
  case zM => exact Nat.zero_le _
  case zN => exact Nat.zero_le _
  case zR => intro e he; rw [List.mem_singleton.mp he]; exact Nat.le_refl _
  case nok => intro x hx; nomatch hx
theorem Ok.addBad {L I : Addr} (x : Ok w g h [L] c i t) (k : Kp h h') (hI : h.get? I = none) (hI' : ∃ o, h'.get? I = some o) : Ok w g h' [L, I] c i t := by
  have hH : ∀ z ∈ hid [L, I] c t.ents, z ∈ hid [L] c t.ents ∨ z = I := fun z hz => by
    rcases List.mem_append.mp hz with hz | hz
    · exact .inl (List.mem_append_left _ hz)
    · rcases List.mem_cons.mp hz with hz | hz
      · exact .inl (List.mem_append_right _ (List.mem_append_left _ (by rw [hz]; exact .head _)))
      · rcases List.mem_cons.mp hz with hz | hz
        · exact .inr hz
        · exact .inl (List.mem_append_right _ (List.mem_append_right _ hz))
  have kk : Kp (hideAll h (hid [L] c t.ents)) (hideAll h' (hid [L, I] c t.ents)) := kp_move (C := []) (fun z o _ e => k z o e) (fun _ hz => nomatch hz) fun z hz => (hH z hz).imp id fun q => by rw [q]; exact hI
  have hne : ∀ z ∈ hid [L] c t.ents, z ≠ I := fun z hz q => by
    obtain ⟨o, e⟩ := x.alive z hz
    rw [q, hI] at e; cases e
  exact { kg := x.kg.trans k, src := let ⟨a, b, ta, tb, n, e, r⟩ := x.src; ⟨a, b, ta, tb, n, k _ _ e, r⟩
          gS := fun z hz => (hH z hz).elim (x.gS z) fun q => by rw [q]; exact none_kp x.kg hI
          live := fun z hz => by
            rcases List.mem_cons.mp hz with rfl | hz
            · obtain ⟨o, e⟩ := x.live z (.head _); exact ⟨o, k _ _ e⟩
            · rw [List.mem_singleton.mp hz]; exact hI'
          nd := by
            obtain ⟨n1, n2, n3⟩ := List.nodup_append.mp x.nd
            obtain ⟨n4, n5⟩ := List.nodup_cons.mp n2
            refine List.nodup_append.mpr ⟨n1, List.nodup_cons.mpr ⟨fun q => ?_, List.nodup_cons.mpr ⟨fun q => ?_, n5⟩⟩, fun a ha b hb q => ?_⟩
            · rcases List.mem_cons.mp q with q | q
              · exact hne L (List.mem_append_right _ (.head _)) q
              · exact n4 q
            · exact hne I (List.mem_append_right _ (.tail _ q)) rfl
            · rcases List.mem_cons.mp hb with hb | hb
              · exact n3 a ha b (by rw [hb]; exact .head _) q
              · rcases List.mem_cons.mp hb with hb | hb
                · exact hne a (List.mem_append_left _ ha) (q.trans hb)
                · exact n3 a ha b (.tail _ hb) q
          tab := k _ _ x.tab, tri := x.tri, lamE := x.lamE.kp kk, lamN := x.lamN.kp kk, dtd := x.dtd.kp kk, row := SD.kp x.row kk
          dE := x.dE.kp k, dM := x.dM.kp k, dN := x.dN.kp k, dA := x.dA.kp k, dR := x.dR.kp k
          dL := let ⟨nl, e⟩ := x.dL; ⟨nl, k _ _ e⟩
          mods := x.mods.kp kk
          nos := Paired.mono (fun _ _ ⟨p, q⟩ => ⟨p, q.kp kk⟩) x.nos
          noy := x.noy
          ent := fun e he => (x.ent e he).move kk (fun o => k _ o) (fun o => k _ o)
          zE := x.zE, zM := x.zM, zN := x.zN, zR := x.zR, nok := x.nok }
/-- what holds between the turns -/
def LawJ (w : World) (g : Heap) (L : Addr) (m : Str → Option Value) (c : Cst) (i : Nat) (I : Addr) (h : Heap) : Prop :=
  ∃ u t, Fr g L h (fun z => if z = Str.ofString "turn" then u else m z) ∧ Ok w g h [L, I] c (i + 1) t
theorem upd1_init {a : Str} {m : Str → Option Value} : m = fun z => if z = a then m a else m z := by
  funext z
  by_cases q : z = a
  · rw [if_pos q, q]
  · rw [if_neg q]
theorem lawJ_start {L I : Addr} {m : Str → Option Value} (F : Fr g L h m) (x : ∃ t, Ok w g h [L] c 1 t) (k : Kp h h') (hI : h.get? I = none) (hI' : ∃ o, h'.get? I = some o) : LawJ w g L m c 0 I h' := by
  obtain ⟨t, x⟩ := x
  refine ⟨m (Str.ofString "turn"), t, ?_, x.addBad k hI hI'⟩
  rw [← upd1_init]
  exact F.keeps k
theorem lawJ_ne {L I : Addr} {m : Str → Option Value} (x : LawJ w g L m c i I h) : L ≠ I := by
  obtain ⟨_, _, _, x⟩ := x
  have := (List.nodup_append.mp (List.nodup_append.mp x.nd).2.1).1
  exact fun q => (List.nodup_cons.mp this).1 (by rw [q]; exact .head _)
theorem lawJ_move {L I : Addr} {m : Str → Option Value} (x : LawJ w g L m c i I h) (keep : ∀ b o, b ≠ I → h.get? b = some o → h'.get? b = some o) (hI' : ∃ o, h'.get? I = some o) : LawJ w g L m c i I h' := by
  have hLI := lawJ_ne x
  obtain ⟨u, t, F, O⟩ := x
  have O' : Ok w g h' [L, I] c (i + 1) t := O.moveB (C := [I]) (fun z o hz e => keep z o (fun q => hz (by rw [q]; exact .head _)) e) (fun z hz => by rw [List.mem_singleton.mp hz]; exact .tail _ (.head _)) (fun z hz => by rw [List.mem_singleton.mp hz]; exact hI')
  exact ⟨u, t, ⟨F.ns.at' fun o e => keep _ o hLI e, O'.kg, F.above⟩, O'⟩
theorem c_declJ {A : Around} {s : Shared} {L I src D R : Addr} {m : Str → Option Value} {turn : Int} {tt : Tok} {env : Env} {Q Ex : Value → Shared → Prop} {p : Program} {loose : List Str} {mean : ExcName → Option Value} {mg mb : Str → Option Value}
    (F : Fr g L s.heap m) (x : Ok w g s.heap [L, I] c i t) (e1 : c.src = src) (e2 : c.D = D) (e3 : c.R = R) (hi1 : 1 ≤ i) (hi : i ≤ 500) (X : (heapK w.params).In g) (T : Hold (Top p loose mean mg mb g)) (Cd : Hold (CodeHd g 248 246)) (hroom : A.depth + 200 < recursionLimit) (hh : A.handled = none)
    (hA : A.frames = some [env]) (hk : env.scope.kind ≠ .module) (hf : env.frame = some L)
    (k : ∀ h' tk' t', Fr g L h' m → Ok w g h' [L, I] c (i + 1) t' → (∀ o, s.heap.get? I = some o → h'.get? I = some o) → Q (.bool true) { s with heap := h', toks := tk' }) :
    wpAny (model PR w) A (call (.ref 249) [.ref src, .ref D, .ref R, .int turn tt]) Q Ex s := by
  subst e1; subst e2; subst e3
  have hLI : L ≠ I := by
    have := (List.nodup_append.mp (List.nodup_append.mp x.nd).2.1).1
    exact fun q => (List.nodup_cons.mp this).1 (by rw [q]; exact .head _)
  exact c_declI x hi1 hi F (.head _) X T Cd hroom hh hA hk hf fun h' tk' t' x' F' keep => k h' tk' t' F' x' (keep I (.tail _ (.head _)) fun q => hLI q.symm)
theorem c_toldJ {A : Around} {s : Shared} {L I D R : Addr} {m : Str → Option Value} {Q Ex : Value → Shared → Prop} {p : Program} {loose : List Str} {mg mb : Str → Option Value}
    (F : Fr g L s.heap m) (x : Ok w g s.heap [L, I] c i t) (e2 : c.D = D) (e3 : c.R = R) (hi : i ≤ 1000) (X : (heapK w.params).In g) (T : TopRead p loose mg mb g) (hroom : A.depth + 60 < recursionLimit) (hun : A.units + 400 < cLine) (hh : A.handled = none)
    (k : ∀ h' tk', Fr g L h' m → Ok w g h' [L, I] c i t → (∀ o, s.heap.get? I = some o → h'.get? I = some o) → Q (.bool true) { s with heap := h', toks := tk' }) :
    wpAny (model PR w) A (call (.ref 259) [.ref D, .ref R]) Q Ex s := by
  subst e2; subst e3
  exact c_toldI (L := L) (m := m) x hi X T hroom hun hh fun h' tk' kp => k h' tk' (F.keeps kp) (x.moveB (C := []) (fun z o _ e => kp z o e) (fun _ hz => nomatch hz) fun _ hz => nomatch hz) fun o e => kp _ _ e
/-- where a turn of the law's loop ends -/
def LEnd (w : World) (g : Heap) (L I : Addr) (m : Str → Option Value) (c : Cst) (i : Nat) (h : Heap) (s₁ : Shared) (Q : Flow → Shared → Prop) (f : Flow) (s' : Shared) : Prop := match f with
  | .ret v => Q (.ret v) s'
  | .brk => Q .next s'
  | _ => ∃ h' tk' u' t', s' = { s₁ with heap := h', toks := tk' } ∧ Fr g L h' (fun y => if y = Str.ofString "turn" then u' else m y) ∧ Ok w g h' [L, I] c (i + 1 + 1) t' ∧ ∀ o, h.get? I = some o → h'.get? I = some o
theorem LEnd.mk {L I : Addr} {m : Str → Option Value} {s₁ : Shared} {Q : Flow → Shared → Prop} {h1 h2 : Heap} {tk : Nat} {u : Option Value} (F : Fr g L h2 (fun y => if y = Str.ofString "turn" then u else m y)) (x : Ok w g h2 [L, I] c (i + 1 + 1) t) (k1 : ∀ o, h.get? I = some o → h1.get? I = some o) (k2 : ∀ o, h1.get? I = some o → h2.get? I = some o) :
    LEnd w g L I m c i h s₁ Q .next { s₁ with heap := h2, toks := tk } := ⟨h2, tk, u, t, rfl, F, x, fun o e => k2 o (k1 o e)⟩
/-- the law's loop -/
theorem foR_law {prog : Program} {A : Around} {env : Env} {px : Pos} {body : List Stmt} {Q : Flow → Shared → Prop} {E : Value → Shared → Prop} {s₁ : Shared} {L r : Addr} {m : Str → Option Value} {b₀ : Int} {tr ur vr : Tok} {n : Nat}
    (F : Fr g L s₁.heap m) (ok : ∃ t, Ok w g s₁.heap [L] c 1 t) (hh : A.handled = none) (hr : IsRange s₁.heap r 0 b₀ 1 tr ur vr) (hsm : Builtin.Range.small 0 b₀ 1 = true) (hn : Builtin.Range.rangeSize 0 b₀ 1 = (n : Int))
    (hLe : env.locals = L) (hx : env.kindOf (Str.ofString "turn") = some .local) (hp : (env.scope.kind == .class || (env.scope.kind == .module && env.locals != env.globals)) = false)
    (turn : ∀ i I h z t tk tt, i < n → Fr g L h (fun y => if y = Str.ofString "turn" then some (.int z t) else m y) → Ok w g h [L, I] c (i + 1) tt →
      wpAny (model prog w) A (execs body env) (LEnd w g L I m c i h s₁ Q) E { s₁ with heap := h, toks := tk })
    (fin : ∀ h tk u ps dD k1 k2 k3 k4 t1 t2 t3 t4 t5 n', Fr g L h (fun y => if y = Str.ofString "turn" then u else m y) → News g L h [(246, tabObj ps)] → h.get? c.D = some ⟨.ref 172, some dD, .plain, #[]⟩ →
      h.get? dD = some (dictOf [⟨k1, .str (Str.ofString "root") t1, .str (Str.ofString "a") t5⟩, ⟨k2, .str (Str.ofString "elements") t2, .ref c.E⟩, ⟨k3, .str (Str.ofString "attributes") t3, .ref c.At⟩, ⟨k4, .str (Str.ofString "notations") t4, .ref c.Nt⟩] n') → Q .next { s₁ with heap := h, toks := tk }) :
    FoR prog w A env (Str.ofString "turn") px body Q E (.ref r) s₁ := by
  subst hLe
  refine ⟨r, b₀, tr, ur, vr, n, LawJ w g env.locals m c, hh, rfl, hr, hsm, hn, ?_, ?_, ?_, ?_⟩
  · intro I h' hI k hI'
    exact lawJ_start F ok k (by rw [hI]; exact Heap.get?_none_of_le (Nat.le_refl _)) hI'
  · intro i I h h' x keep hI'
    exact lawJ_move x keep hI'
  · intro i I h z t tk hi x
    have hLI := lawJ_ne x
    obtain ⟨u, tt, F1, O1⟩ := x
    refine wpAny_assign_Name (wpAny_storeName_local hx F1.ns (fun h₃ hn₃ hs₃ => ?_) hp)
    have O3 : Ok w g h₃ [env.locals, I] c (i + 1) tt := O1.moveB (C := [env.locals]) (fun z o hz e => hs₃.extBut z o (fun q => hz (by rw [q]; exact .head _)) e) (fun z hz => by rw [List.mem_singleton.mp hz]; exact .head _) (fun z hz => by
      rw [List.mem_singleton.mp hz]
      obtain ⟨o, _, _, e, _⟩ := hn₃
      exact ⟨o, e⟩)
    have F3 : Fr g env.locals h₃ (fun y => if y = Str.ofString "turn" then some (.int z t) else m y) := ⟨by
      have := hn₃
      rw [upd_upd] at this
      exact this, O3.kg, F1.above⟩
    have hI3 : ∀ o, h.get? I = some o → h₃.get? I = some o := fun o e => hs₃.extBut I o (fun q => hLI q.symm) e
    refine wpAny_mono (turn i I h₃ z t _ tt hi F3 O3) (fun f s' h' => ?_) fun _ _ e => e
    have step : (∃ h' tk' u' t', s' = { s₁ with heap := h', toks := tk' } ∧ Fr g env.locals h' (fun y => if y = Str.ofString "turn" then u' else m y) ∧ Ok w g h' [env.locals, I] c (i + 1 + 1) t' ∧ ∀ o, h₃.get? I = some o → h'.get? I = some o) →
        ∃ h' tk', s' = { s₁ with heap := h', toks := tk' } ∧ LawJ w g env.locals m c (i + 1) I h' ∧ ∀ o, h.get? I = some o → h'.get? I = some o := by
      rintro ⟨h₄, tk₄, u', t', e1, F4, O4, e4⟩
      exact ⟨h₄, tk₄, e1, ⟨u', t', F4, O4⟩, fun o e => e4 o (hI3 o e)⟩
    cases f with
    | ret v => exact h'
    | brk => exact h'
    | next => exact step h'
    | cont => exact step h'
  · intro I h h' tk x keep
    have hLI := lawJ_ne x
    obtain ⟨u, tt, F1, O1⟩ := x
    obtain ⟨dD, k1, k2, k3, k4, t1, t2, t3, t4, t5, n', e1, e2⟩ := O1.dtd.it
    have hIm : I ∈ hid [env.locals, I] c tt.ents := List.mem_append_right _ (.tail _ (.head _))
    have d1 := keep _ _ (fun q => not_hidden e1 (by rw [q]; exact hIm)) (of_hideAll _ e1)
    have d2 := keep _ _ (fun q => not_hidden e2 (by rw [q]; exact hIm)) (of_hideAll _ e2)
    have h246 : @Ne Nat 246 I := (O1.off 0 rfl (List.mem_append_left _ (.tail _ (.head _)))).symm
    have h246L : @Ne Nat 246 env.locals := (O1.off 0 rfl (List.mem_append_left _ (.head _))).symm
    have g246 := O1.gS 246 (List.mem_append_left _ (.head _))
    have kg' : Kp g h' := fun b o e => keep b o (fun q => by rw [q, O1.gS I hIm] at e; cases e) (F1.keep b o e)
    exact fin h' tk u tt.ps dD k1 k2 k3 k4 t1 t2 t3 t4 t5 n' ⟨F1.ns.at' fun o e => keep _ o hLI e, kg', F1.above⟩ (fun p hp => by rw [List.mem_singleton.mp hp]; exact ⟨keep _ _ h246 O1.tab, h246L, g246⟩) d1 d2
theorem inst_here {h : Heap} {x C dx : Addr} {od : Obj} {sl : Array (Option Value)} (h1 : h.get? x = some ⟨.ref C, some dx, .plain, sl⟩) (h2 : h.get? dx = some od) :
    InstAt h x ⟨.ref C, some dx, .plain, sl⟩ C (some od) := ⟨h1, rfl, rfl, h2⟩
end
end Mine
theorem Mine.offL9 : True := by
  w_top off
  trivial
set_option maxHeartbeats 2000000
set_option pp.proofs false
theorem Mine.wordsL91 : True := by
  k_with "M room" => (simp only [depth_deeper, depth_in1, depth_caller]; decide)
  k_with "M units" => (simp only [units_deeper, units_in1, Around.deeper_units, units_caller]; decide)
  k_with "!call ref" => (k_here; (with_reducible show wpAny _ _ (call (Value.ref 218) _) _ _ _); k_dflt ((refine' Mine.c_poolN (by k_asm) (by k_asm) (by k_asm) (by k_asm) (by k_extra "M room") (by k_extra "M handled") (by with_reducible assumption) (by with_reducible assumption) (by with_reducible assumption) ?_); (intro h' tk' a' ta' b' tb' r' n' F' N' ne1' ha' hb'; (replace ne1' := Mine.neA_of ne1'); (try dsimp only [Mine.adr] at ne1'); (try k_sweep))))
  k_with "!call ref" => (k_here; (with_reducible show wpAny _ _ (call (Value.ref 172) _) _ _ _); k_dflt ((refine' Mine.c_mkDtdN (by k_asm) (by k_asm) (by k_asm) (by k_asm) (by k_extra "M room") (by k_extra "M handled") ?_); (intro h' tk' a' dx' E' At' Nt' oE' oA' oN' q1' q2' q3' q4' u1' u2' u3' u4' u5' n' F' N' ne1' ne2' ne3' ne4' ne5' ne6' ne7' ne8' ne9' neA' neB' neC' neD' neE' neF' nd'; (replace neD' : Mine.NeN _ _ := neD'); (replace neE' : Mine.NeN _ _ := neE'); (replace neF' : Mine.NeN _ _ := neF'); (replace ne6' : Mine.NeN _ _ := ne6'); (replace ne7' : Mine.NeN _ _ := ne7'); (replace ne8' : Mine.NeN _ _ := ne8'); (replace ne9' : Mine.NeN _ _ := ne9'); (replace neA' : Mine.NeN _ _ := neA'); (replace neB' : Mine.NeN _ _ := neB'); (replace neC' : Mine.NeN _ _ := neC'); (replace ne1' := Mine.neA_of ne1'); (try dsimp only [Mine.adr] at ne1'); (replace ne2' := Mine.neA_of ne2'); (try dsimp only [Mine.adr] at ne2'); (replace ne3' := Mine.neA_of ne3'); (try dsimp only [Mine.adr] at ne3'); (replace ne4' := Mine.neA_of ne4'); (try dsimp only [Mine.adr] at ne4'); (replace ne5' := Mine.neA_of ne5'); (try dsimp only [Mine.adr] at ne5'); (try k_sweep))))
  k_with "!call ref" => (k_here; (with_reducible show wpAny _ _ (call (Value.ref 207) _) _ _ _); k_dflt ((refine' Mine.c_makeRule (vs := []) (by k_asm) (by k_asm) (by k_asm) (by k_asm) (by k_extra "M room") (by k_extra "M handled") (by (refine' Or.inr ⟨_, _, (by k_extra "M memL"), (by exact rfl), (by exact rfl)⟩ )) (by exact rfl) ?_); (intro h' tk' a' dx' o' F' N' ne1' ne2' ne3' nd'; (try dsimp only at N'); (replace ne3' : Mine.NeN _ _ := ne3'); (replace ne1' := Mine.neA_of ne1'); (try dsimp only [Mine.adr] at ne1'); (replace ne2' := Mine.neA_of ne2'); (try dsimp only [Mine.adr] at ne2'); (try k_sweep))))
  k_with "!call ref" => (k_here; (with_reducible show wpAny _ _ (call (Value.ref 110) _) _ _ _); k_dflt ((refine' Mine.c_daA1 (by k_asm) (by k_asm) (by k_asm) (by k_asm) (by k_extra "M room") (by k_extra "M handled") (by k_extra "M memL") (by with_reducible assumption) (by k_extra "M memL") (by k_updF) (by k_ne) (by k_ne) ?_); (intro h' tk' o' d' od' F' N' ne1' lo' hd1' hd2'; (try dsimp only at N'); (replace ne1' := Mine.neA_of ne1'); (try dsimp only [Mine.adr] at ne1'); (try k_sweep))))
  k_with "!call ref" => (k_here; (with_reducible show wpAny _ _ (call (Value.ref 110) _) _ _ _); k_dflt ((refine' Mine.c_daC1 (by k_asm) (by k_asm) (by k_asm) (by k_asm) (by k_extra "M room") (by k_extra "M handled") (by k_extra "M memL") (by with_reducible assumption) (by k_extra "M memL") (by with_reducible assumption) (by k_extra "M memL") (by with_reducible assumption) (by k_extra "M memL") (by with_reducible assumption) ?_); (intro h' tk' F' N'; (try k_sweep))))
  k_with "!call ref" => (k_here; (with_reducible show wpAny _ _ (call (Value.ref 138) _) _ _ _); k_dflt ((refine' Mine.c_rule1 (by k_asm) (by k_asm) (by k_asm) (by k_asm) (by k_extra "M room") (by k_extra "M memL") (by with_reducible assumption) (by k_extra "M memL") (by with_reducible assumption) (by k_extra "M memL") (by with_reducible assumption) (by k_extra "M memL") (by with_reducible assumption) ?_); (intro h' tk' F' N'; (try k_sweep))))
  k_with "!call ref" => (k_here; (with_reducible show wpAny _ _ (call (Value.ref 150) _) _ _ _); k_dflt ((refine' Mine.c_id1 (y := PySem.Str.ofString "k") (by k_asm) (by k_asm) (by k_asm) (by k_asm) (by k_extra "M room") (by k_extra "M units") (by k_extra "M handled") (by k_extra "M memL") (by with_reducible assumption) (by k_extra "M memL") (by with_reducible assumption) (by k_extra "M memL") (by with_reducible assumption) (by k_extra "M memL") (by with_reducible assumption) (by with_reducible assumption) (by k_extra "M memL") (by k_extra "M memL") (by k_extra "M memL") (by exact rfl) (by exact rfl) ?_); (intro h' tk' F' N'; (try k_sweep))))
  k_with "!ite" => (first | with_reducible refine Mine.ite_ffP ?_ | with_reducible refine Mine.ite_ttP ?_)
  k_with "!exec For Name Call cons nil" => (k_here; k_dflt (refine Mine.for_range ?_))
  k_with "!call ref" => (k_here; (with_reducible show wpAny _ _ (call (Value.ref 249) _) _ _ _); k_dflt ((refine' Mine.c_declJ (by k_asm) (by with_reducible assumption) (by exact rfl) (by exact rfl) (by exact rfl) (by exact Nat.succ_le_succ (Nat.zero_le _)) (by with_reducible assumption) (by k_asm) (by with_reducible assumption) (by with_reducible assumption) (by k_extra "M room") (by k_extra "M handled") (by exact Around.frames_deeper rfl) (by exact (fun q => by cases q)) (by exact rfl) ?_); (intro h' tk' t' F' O' hI'; (try k_sweep))))
  k_with "!call ref" => (k_here; (with_reducible show wpAny _ _ (call (Value.ref 259) _) _ _ _); k_dflt ((refine' Mine.c_toldJ (by k_asm) (by with_reducible assumption) (by exact rfl) (by exact rfl) (by with_reducible assumption) (by k_asm) (by k_asm) (by k_extra "M room") (by k_extra "M units") (by k_extra "M handled") ?_); (intro h' tk' F' O' hI'; (try k_sweep))))
  k_with "M inst" => exact Mine.inst_here (by with_reducible assumption) (by with_reducible assumption)
  k_with "M nm" => (first | exact Mine.nm_nil | (refine Mine.nm_cons (by k_ne) ?_; k_extra "M nm"))
  k_with "M nd" => (first | exact List.nodup_nil | (refine List.nodup_cons.mpr ⟨by k_extra "M nm", ?_⟩; k_extra "M nd"))
  trivial

noncomputable def Mine.posOf : Stmt → Pos
  | .FunctionDef _ _ _ _ _ _ _ _ _ p => p
  | _ => ⟨0, 0, 0, 0⟩
theorem Mine.law_holds : PySem.Challenge.rw_on0181_01.Holds := by
  refine Mine.headK fun {d kwd} hd => ?_
  have e0 : defOf Mine.viewK PySem.Challenge.rw_on0181_01.row.name = some (⟨Str.ofString "law", Mine.parOf (Mine.topS 18), Mine.bodOf (Mine.topS 18), Mine.scoOf (Mine.topS 18), Mine.posOf (Mine.topS 18)⟩, []) := by rfl
  obtain ⟨rfl, rfl⟩ := Prod.mk.inj (Option.some.inj (e0.symm.trans hd))
  clear hd e0
  dsimp only [Mine.posOf, Mine.bodOf, Mine.scoOf, Mine.parOf, Mine.topS, Mine.inS, Mine.stAt, PySem.Challenge.pw_on0181_01]
  k_go0
  (all_goals try k_fold)
  rename_i w s0 s1 mg mb G Y fa o pm cd doc kV ho hcd hgens Xm V T0 B TE TW ns hs hl0 hl1 hl3 hl4 la1 la2 ax vs la3 hL ra w1 r0 hI hr hc1 hc2 hDf h1 X T K F N l0
  have hvl : vs.length ≤ 63 := by have e := IntsAre.length hI; rw [e]; omega
  have hT : Mine.Hold (Top _ _ _ _ _ _) := T
  have hC : Mine.Hold (CodeHd _ 248 246) := codeHd
  have Tr := topRead_of T
  clear G Y ho hcd Xm V T0 B TE TW hT8 hT9 hs hl0 hl1 hl3 hl4 w1 r0 ra hL hr hc1 hc2 hDf K T codeHd la3 la2 la1
  generalize hg : ghostOf s1.heap [(248, 246)] = g at *
  generalize hL : s1.heap.objs.size = L at *
  dsimp only at *
  k_steps
  rename IsRange _ _ _ _ _ _ _ _ => hr
  rename _ ≤ _ ∧ _ < (9 : Int) => hv
  rename Fr _ _ _ _ => F9
  rename News _ _ _ _ => N9
  rename Mine.DtdNew _ _ _ => hn9
  rename ∀ (b : Addr) (o : Obj), _ = some o → _ = some o => hup
  obtain ⟨hsm, n9, hn2, hn14⟩ := Mine.range_few hv
  have ok0 := Mine.ok_start F9 N9 (by with_reducible assumption) (by with_reducible assumption) hn9 (by with_reducible assumption) (by with_reducible assumption) (by with_reducible assumption) (by with_reducible assumption) (by with_reducible assumption) (by with_reducible assumption) (by with_reducible assumption) (by with_reducible assumption) (by with_reducible assumption) (by with_reducible assumption)
    (by k_extra "M nd") (by k_extra "M nm") (by k_extra "M nm") (by k_extra "M nm") (by k_extra "M nm") (by k_extra "M nm") (by k_extra "M nm") (by k_extra "M nm") (by k_extra "M nm") (by k_extra "M nm")
  refine Mine.foR_law F9 ok0 rfl hr hsm hn2 rfl rfl rfl ?_ ?_
  · intro i I h z t tk tt hi F O
    have hi5 : i + 1 ≤ 500 := by omega
    have hi6 : i + 1 + 1 ≤ 1000 := by omega
    clear F9 N9 hn9 hup hr hv
    k_steps
    exact Mine.LEnd.mk (by assumption) (by assumption) (by assumption) (by assumption)
  · intro h tk u ps dD k1 k2 k3 k4 t1 t2 t3 t4 t5 n' F N e1 e2
    clear F9 N9 hn9 hup hr hv
    k_steps
theorem PySem.Challenge.cw_on0181_01_holds : PySem.Challenge.rw_on0181_01.Holds :=
  Mine.law_holds
