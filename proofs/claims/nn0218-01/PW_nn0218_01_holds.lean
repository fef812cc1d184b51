import PyProof.Rows.All
import Wide.All
import OpenK.AllK
import Wide.FinOn
import PySem.Challenge.RW_nn0218_01
open PySem PySem.W PyProof.Rows
set_option Elab.async false
set_option maxRecDepth 100000
set_option maxHeartbeats 8000000
set_option linter.all false
namespace Mine
open PySem PySem.W PyProof.Rows
noncomputable def stA (k : Nat) : Stmt := PySem.Challenge.pw_nn0218_01.main.body.getD k (.Pass ⟨0, 0, 0, 0⟩)
noncomputable def stM (k j : Nat) : Stmt := match stA k with
  | .ClassDef _ _ _ body .. => body.getD j (.Pass ⟨0, 0, 0, 0⟩)
  | s => s
noncomputable def fn0 (s : Stmt) (q : Str) : Obj := match s with
  | .FunctionDef name params body _ _ _ scope _ _ _ => { cls := .none, data := .func { name := name, qualname := q, params := params, body := .stmts body, scope := scope, globals := 0, closure := [], defaults := .none, kwdefaults := .none } }
  | _ => default
noncomputable def fn1 (s : Stmt) (q : Str) (d : Value) (m : Str) (t : Tok) (c : Addr) : Obj := match s with
  | .FunctionDef name params body _ _ _ scope _ _ _ => { cls := .type "function", data := .func { name := name, qualname := q, params := params, body := .stmts body, scope := scope, globals := 3, closure := [], defaults := d, kwdefaults := .none, pyModule := .str m t, code := .ref c } }
  | _ => default
noncomputable def emT : Obj := { cls := .type "tuple", data := .seq #[] }
noncomputable def emF : Obj := { cls := .none, data := .fields #[] }
noncomputable def tpO (vs : Array Value) : Obj := { cls := .type "tuple", data := .seq vs }
noncomputable def cdO (vs : Array Value) : Obj := { cls := .type "code", data := .fields vs }
noncomputable def dE (P : Params) (k : Str) (t : Tok) (v : Value) : DictEntry := ⟨PyData.keyHash P k, .str k t, v⟩
noncomputable def h13 (_ : Params) : Obj := cdO #[.str "<module>" 182, .str "<module>" 183, .str "/claim/cut.py" 184, .int 1 0, .int 0 0, .int 0 0, .int 0 0, .int 0 0, .ref 11, .bool false, .int 181 0, .ref 12, .none, .none, .none, .none, .int 185 0, .int 1 0, .str "/claim/cut.py" 186]
noncomputable def h14 (_ : Params) : Obj := { cls := .type "frame", slots := #[some (.ref 13), some (.ref 3), some (.ref 3), none, some (.str "__main__" 164), none, some (.ref 0)] }
noncomputable def h2 (P : Params) : Obj := { cls := .none, data := .dict #[dE P "type.__subclasses__.Exception.0" 232 (.int 46 0), dE P "type.__subclasses__.Exception.n" 233 (.int 1 0)] 2 }
noncomputable def g50 (P : Params) : Obj := { cls := .type "dict", data := .dict #[dE P "__name__" 165 (.str "paperhold.errors" 194), dE P "__doc__" 166 (.none), dE P "__package__" 167 (.none), dE P "__loader__" 168 (.builtin "__main__.__loader__#opaque"), dE P "__spec__" 169 (.none), dE P "__annotations__" 170 (.ref 6), dE P "__builtins__" 171 (.ref 4), dE P "__file__" 173 (.str "/claim/cut.py" 172), dE P "__cached__" 174 (.none), dE P "_wall" 193 (.ref 21), dE P "PaperError" 235 (.ref 46)] 11 }
noncomputable def g51 (_ : Params) : Obj := { cls := .none, data := .fields #[.int 1 0, .int 0 0, .ref 20, .int 5 0, .int 0 0, .ref 27] }
noncomputable def h17 (_ : Params) : Obj := tpO #[.str "k" 190]
noncomputable def h19 (_ : Params) : Obj := fn0 (stA 0) "_wall"
noncomputable def h20 (_ : Params) : Obj := cdO #[.str "_wall" 187, .str "_wall" 188, .str "/claim/cut.py" 189, .int 1 0, .int 1 0, .int 0 0, .int 0 0, .int 3 0, .ref 15, .bool true, .int 181 0, .ref 16, .none, .ref 17, .ref 18, .ref 19, .int 191 0, .int 1 0, .str "/claim/cut.py" 192]
noncomputable def h21 (_ : Params) : Obj := fn1 (stA 0) "_wall" (.none) "__main__" 164 20
noncomputable def h22 (_ : Params) : Obj := tpO #[.type "Exception"]
noncomputable def h23 (_ : Params) : Obj := { cls := .type "builtin_function_or_method", data := .fields #[.builtin "type.__prepare__", .type "type"] }
noncomputable def h24 (P : Params) : Obj := { cls := .type "dict", data := .dict #[dE P "__module__" 203 (.str "paperhold.errors" 194), dE P "__qualname__" 205 (.str "PaperError" 204), dE P "__firstlineno__" 207 (.int 5 206), dE P "__init__" 218 (.ref 36), dE P "told" 225 (.ref 43), dE P "__static_attributes__" 228 (.ref 44)] 6 }
noncomputable def h26 (_ : Params) : Obj := { cls := .none, data := .fields #[.int 7 0, .int 4 0, .ref 35, .int 12 0, .int 4 0, .ref 42] }
noncomputable def h27 (_ : Params) : Obj := cdO #[.str "PaperError" 198, .str "PaperError" 199, .str "/claim/cut.py" 200, .int 5 0, .int 0 0, .int 0 0, .int 0 0, .int 0 0, .ref 25, .bool false, .int 181 0, .ref 26, .none, .none, .none, .none, .int 201 0, .int 5 0, .str "/claim/cut.py" 202]
noncomputable def h28 (_ : Params) : Obj := { cls := .type "frame", slots := #[some (.ref 27), some (.ref 3), some (.ref 24), none, some (.str "paperhold.errors" 194), none, some (.ref 0)] }
noncomputable def h29 (_ : Params) : Obj := tpO #[.int (-1) 209]
noncomputable def h32 (_ : Params) : Obj := tpO #[.str "self" 213, .str "what" 214, .str "at" 215]
noncomputable def h34 (_ : Params) : Obj := fn0 (stM 2 0) "PaperError.__init__"
noncomputable def h35 (_ : Params) : Obj := cdO #[.str "__init__" 210, .str "PaperError.__init__" 211, .str "/claim/cut.py" 212, .int 7 0, .int 3 0, .int 0 0, .int 0 0, .int 3 0, .ref 30, .bool true, .int 181 0, .ref 31, .none, .ref 32, .ref 33, .ref 34, .int 216 0, .int 7 0, .str "/claim/cut.py" 217]
noncomputable def h36 (_ : Params) : Obj := fn1 (stM 2 0) "PaperError.__init__" (.ref 29) "paperhold.errors" 194 35
noncomputable def h39 (_ : Params) : Obj := tpO #[.str "self" 222]
noncomputable def h41 (_ : Params) : Obj := fn0 (stM 2 1) "PaperError.told"
noncomputable def h42 (_ : Params) : Obj := cdO #[.str "told" 219, .str "PaperError.told" 220, .str "/claim/cut.py" 221, .int 12 0, .int 1 0, .int 0 0, .int 0 0, .int 3 0, .ref 37, .bool true, .int 181 0, .ref 38, .none, .ref 39, .ref 40, .ref 41, .int 223 0, .int 12 0, .str "/claim/cut.py" 224]
noncomputable def h43 (_ : Params) : Obj := fn1 (stM 2 1) "PaperError.told" (.none) "paperhold.errors" 194 42
noncomputable def h44 (_ : Params) : Obj := tpO #[.str "at" 226, .str "what" 227]
noncomputable def h45 (P : Params) : Obj := { cls := .type "dict", data := .dict #[dE P "__module__" 203 (.str "paperhold.errors" 194), dE P "__firstlineno__" 207 (.int 5 206), dE P "__init__" 218 (.ref 36), dE P "told" 225 (.ref 43), dE P "__static_attributes__" 228 (.ref 44), dE P "__weakref__" 230 (.ref 47), dE P "__doc__" 231 (.none)] 3 }
noncomputable def g83 (_ : Params) : Obj := { cls := .type "type", data := .cls { name := "PaperError", bases := [.type "Exception"], mro := [.ref 46, .type "Exception", .type "BaseException", .type "object"], ns := 45, qualname := "PaperError" }, slots := #[some (.ref 22), none, some (.str "PaperError" 196), some (.str "PaperError" 204), some (.builtin "Exception.__new__"), some (.bool true)] }
noncomputable def h47 (_ : Params) : Obj := { cls := .type "getset_descriptor", data := .fields #[.str "__weakref__" 229, .ref 46, .builtin "ExceptionGroup.__weakref__", .none] }
noncomputable def h48 (_ : Params) : Obj := { cls := .type "super", data := .fields #[.ref 46, .ref 46, .ref 46] }
noncomputable def h49 (_ : Params) : Obj := { cls := .type "builtin_function_or_method", data := .fields #[.builtin "object.__init_subclass__", .ref 46] }
noncomputable def g87 (P : Params) : Obj := { cls := .type "dict", data := .dict #[dE P "__name__" 165 (.str "paperhold.decimals" 252), dE P "__doc__" 166 (.none), dE P "__package__" 167 (.none), dE P "__loader__" 168 (.builtin "__main__.__loader__#opaque"), dE P "__spec__" 169 (.none), dE P "__annotations__" 170 (.ref 6), dE P "__builtins__" 171 (.ref 4), dE P "__file__" 173 (.str "/claim/cut.py" 172), dE P "__cached__" 174 (.none), dE P "_wall" 193 (.ref 21), dE P "PaperError" 235 (.ref 46), dE P "PaintFault" 251 (.ref 59)] 12 }
noncomputable def g88 (_ : Params) : Obj := { cls := .none, data := .fields #[.int 1 0, .int 0 0, .ref 20, .int 5 0, .int 0 0, .ref 27, .int 14 0, .int 0 0, .ref 55] }
noncomputable def h46 (_ : Params) : Obj := { cls := .type "type", data := .cls { name := "PaperError", bases := [.type "Exception"], mro := [.ref 46, .type "Exception", .type "BaseException", .type "object"], ns := 45, qualname := "PaperError", subclasses := [.ref 59] }, slots := #[some (.ref 22), none, some (.str "PaperError" 196), some (.str "PaperError" 204), some (.builtin "Exception.__new__"), some (.bool true)] }
noncomputable def h50 (_ : Params) : Obj := tpO #[.ref 46]
noncomputable def h51 (_ : Params) : Obj := { cls := .type "builtin_function_or_method", data := .fields #[.builtin "type.__prepare__", .type "type"] }
noncomputable def h52 (P : Params) : Obj := { cls := .type "dict", data := .dict #[dE P "__module__" 243 (.str "paperhold.errors" 194), dE P "__qualname__" 245 (.str "PaintFault" 244), dE P "__firstlineno__" 247 (.int 14 246), dE P "__static_attributes__" 248 (.ref 57)] 4 }
noncomputable def h55 (_ : Params) : Obj := cdO #[.str "PaintFault" 238, .str "PaintFault" 239, .str "/claim/cut.py" 240, .int 14 0, .int 0 0, .int 0 0, .int 0 0, .int 0 0, .ref 53, .bool false, .int 181 0, .ref 54, .none, .none, .none, .none, .int 241 0, .int 14 0, .str "/claim/cut.py" 242]
noncomputable def h56 (_ : Params) : Obj := { cls := .type "frame", slots := #[some (.ref 55), some (.ref 3), some (.ref 52), none, some (.str "paperhold.errors" 194), none, some (.ref 0)] }
noncomputable def h58 (P : Params) : Obj := { cls := .type "dict", data := .dict #[dE P "__module__" 243 (.str "paperhold.errors" 194), dE P "__firstlineno__" 247 (.int 14 246), dE P "__static_attributes__" 248 (.ref 57), dE P "__doc__" 249 (.none)] 2 }
noncomputable def h59 (_ : Params) : Obj := { cls := .type "type", data := .cls { name := "PaintFault", bases := [.ref 46], mro := [.ref 59, .ref 46, .type "Exception", .type "BaseException", .type "object"], ns := 58, qualname := "PaintFault" }, slots := #[some (.ref 50), none, some (.str "PaintFault" 236), some (.str "PaintFault" 244), some (.builtin "Exception.__new__"), some (.bool true)] }
noncomputable def h60 (_ : Params) : Obj := { cls := .type "super", data := .fields #[.ref 59, .ref 59, .ref 59] }
noncomputable def h61 (_ : Params) : Obj := { cls := .type "builtin_function_or_method", data := .fields #[.builtin "object.__init_subclass__", .ref 59] }
noncomputable def g102 (P : Params) : Obj := { cls := .type "dict", data := .dict #[dE P "__name__" 165 (.str "paperhold.decimals" 252), dE P "__doc__" 166 (.none), dE P "__package__" 167 (.none), dE P "__loader__" 168 (.builtin "__main__.__loader__#opaque"), dE P "__spec__" 169 (.none), dE P "__annotations__" 170 (.ref 6), dE P "__builtins__" 171 (.ref 4), dE P "__file__" 173 (.str "/claim/cut.py" 172), dE P "__cached__" 174 (.none), dE P "_wall" 193 (.ref 21), dE P "PaperError" 235 (.ref 46), dE P "PaintFault" 251 (.ref 59), dE P "Decimal" 377 (.ref 155)] 13 }
noncomputable def g103 (_ : Params) : Obj := { cls := .none, data := .fields #[.int 1 0, .int 0 0, .ref 20, .int 5 0, .int 0 0, .ref 27, .int 14 0, .int 0 0, .ref 55, .int 17 0, .int 0 0, .ref 67] }
noncomputable def h63 (_ : Params) : Obj := { cls := .type "builtin_function_or_method", data := .fields #[.builtin "type.__prepare__", .type "type"] }
noncomputable def h64 (P : Params) : Obj := { cls := .type "dict", data := .dict #[dE P "__module__" 261 (.str "paperhold.decimals" 252), dE P "__qualname__" 263 (.str "Decimal" 262), dE P "__firstlineno__" 265 (.int 17 264), dE P "__init__" 274 (.ref 75), dE P "plus" 285 (.ref 82), dE P "minus" 296 (.ref 89), dE P "times" 305 (.ref 96), dE P "negated" 312 (.ref 103), dE P "compared" 323 (.ref 110), dE P "is_whole" 330 (.ref 117), dE P "floor" 337 (.ref 124), dE P "rounded" 345 (.ref 131), dE P "told" 352 (.ref 138), dE P "text" 360 (.ref 145), dE P "least_text" 367 (.ref 152), dE P "__static_attributes__" 370 (.ref 153)] 16 }
noncomputable def h66 (_ : Params) : Obj := { cls := .none, data := .fields #[.int 19 0, .int 4 0, .ref 74, .int 26 0, .int 4 0, .ref 81, .int 30 0, .int 4 0, .ref 88, .int 34 0, .int 4 0, .ref 95, .int 38 0, .int 4 0, .ref 102, .int 41 0, .int 4 0, .ref 109, .int 45 0, .int 4 0, .ref 116, .int 48 0, .int 4 0, .ref 123, .int 51 0, .int 4 0, .ref 130, .int 54 0, .int 4 0, .ref 137, .int 57 0, .int 4 0, .ref 144, .int 64 0, .int 4 0, .ref 151] }
noncomputable def h67 (_ : Params) : Obj := cdO #[.str "Decimal" 256, .str "Decimal" 257, .str "/claim/cut.py" 258, .int 17 0, .int 0 0, .int 0 0, .int 0 0, .int 0 0, .ref 65, .bool false, .int 181 0, .ref 66, .none, .none, .none, .none, .int 259 0, .int 17 0, .str "/claim/cut.py" 260]
noncomputable def h68 (_ : Params) : Obj := { cls := .type "frame", slots := #[some (.ref 67), some (.ref 3), some (.ref 64), none, some (.str "paperhold.decimals" 252), none, some (.ref 0)] }
noncomputable def h71 (_ : Params) : Obj := tpO #[.str "self" 269, .str "top" 270, .str "places" 271]
noncomputable def h73 (_ : Params) : Obj := fn0 (stM 5 0) "Decimal.__init__"
noncomputable def h74 (_ : Params) : Obj := cdO #[.str "__init__" 266, .str "Decimal.__init__" 267, .str "/claim/cut.py" 268, .int 19 0, .int 3 0, .int 0 0, .int 0 0, .int 3 0, .ref 69, .bool true, .int 181 0, .ref 70, .none, .ref 71, .ref 72, .ref 73, .int 272 0, .int 19 0, .str "/claim/cut.py" 273]
noncomputable def h75 (_ : Params) : Obj := fn1 (stM 5 0) "Decimal.__init__" (.none) "paperhold.decimals" 252 74
noncomputable def h78 (_ : Params) : Obj := tpO #[.str "self" 278, .str "other" 279, .str "one" 280, .str "two" 281, .str "places" 282]
noncomputable def h80 (_ : Params) : Obj := fn0 (stM 5 1) "Decimal.plus"
noncomputable def h81 (_ : Params) : Obj := cdO #[.str "plus" 275, .str "Decimal.plus" 276, .str "/claim/cut.py" 277, .int 26 0, .int 2 0, .int 0 0, .int 0 0, .int 3 0, .ref 76, .bool true, .int 181 0, .ref 77, .none, .ref 78, .ref 79, .ref 80, .int 283 0, .int 26 0, .str "/claim/cut.py" 284]
noncomputable def h82 (_ : Params) : Obj := fn1 (stM 5 1) "Decimal.plus" (.none) "paperhold.decimals" 252 81
noncomputable def h85 (_ : Params) : Obj := tpO #[.str "self" 289, .str "other" 290, .str "one" 291, .str "two" 292, .str "places" 293]
noncomputable def h87 (_ : Params) : Obj := fn0 (stM 5 2) "Decimal.minus"
noncomputable def h88 (_ : Params) : Obj := cdO #[.str "minus" 286, .str "Decimal.minus" 287, .str "/claim/cut.py" 288, .int 30 0, .int 2 0, .int 0 0, .int 0 0, .int 3 0, .ref 83, .bool true, .int 181 0, .ref 84, .none, .ref 85, .ref 86, .ref 87, .int 294 0, .int 30 0, .str "/claim/cut.py" 295]
noncomputable def h89 (_ : Params) : Obj := fn1 (stM 5 2) "Decimal.minus" (.none) "paperhold.decimals" 252 88
noncomputable def h92 (_ : Params) : Obj := tpO #[.str "self" 300, .str "other" 301, .str "factor" 302]
noncomputable def h94 (_ : Params) : Obj := fn0 (stM 5 3) "Decimal.times"
noncomputable def h95 (_ : Params) : Obj := cdO #[.str "times" 297, .str "Decimal.times" 298, .str "/claim/cut.py" 299, .int 34 0, .int 2 0, .int 0 0, .int 0 0, .int 3 0, .ref 90, .bool true, .int 181 0, .ref 91, .none, .ref 92, .ref 93, .ref 94, .int 303 0, .int 34 0, .str "/claim/cut.py" 304]
noncomputable def h96 (_ : Params) : Obj := fn1 (stM 5 3) "Decimal.times" (.none) "paperhold.decimals" 252 95
noncomputable def h99 (_ : Params) : Obj := tpO #[.str "self" 309]
noncomputable def h101 (_ : Params) : Obj := fn0 (stM 5 4) "Decimal.negated"
noncomputable def h102 (_ : Params) : Obj := cdO #[.str "negated" 306, .str "Decimal.negated" 307, .str "/claim/cut.py" 308, .int 38 0, .int 1 0, .int 0 0, .int 0 0, .int 3 0, .ref 97, .bool true, .int 181 0, .ref 98, .none, .ref 99, .ref 100, .ref 101, .int 310 0, .int 38 0, .str "/claim/cut.py" 311]
noncomputable def h103 (_ : Params) : Obj := fn1 (stM 5 4) "Decimal.negated" (.none) "paperhold.decimals" 252 102
noncomputable def h106 (_ : Params) : Obj := tpO #[.str "self" 316, .str "other" 317, .str "one" 318, .str "two" 319, .str "places" 320]
noncomputable def h108 (_ : Params) : Obj := fn0 (stM 5 5) "Decimal.compared"
noncomputable def h109 (_ : Params) : Obj := cdO #[.str "compared" 313, .str "Decimal.compared" 314, .str "/claim/cut.py" 315, .int 41 0, .int 2 0, .int 0 0, .int 0 0, .int 3 0, .ref 104, .bool true, .int 181 0, .ref 105, .none, .ref 106, .ref 107, .ref 108, .int 321 0, .int 41 0, .str "/claim/cut.py" 322]
noncomputable def h110 (_ : Params) : Obj := fn1 (stM 5 5) "Decimal.compared" (.none) "paperhold.decimals" 252 109
noncomputable def h113 (_ : Params) : Obj := tpO #[.str "self" 327]
noncomputable def h115 (_ : Params) : Obj := fn0 (stM 5 6) "Decimal.is_whole"
noncomputable def h116 (_ : Params) : Obj := cdO #[.str "is_whole" 324, .str "Decimal.is_whole" 325, .str "/claim/cut.py" 326, .int 45 0, .int 1 0, .int 0 0, .int 0 0, .int 3 0, .ref 111, .bool true, .int 181 0, .ref 112, .none, .ref 113, .ref 114, .ref 115, .int 328 0, .int 45 0, .str "/claim/cut.py" 329]
noncomputable def h117 (_ : Params) : Obj := fn1 (stM 5 6) "Decimal.is_whole" (.none) "paperhold.decimals" 252 116
noncomputable def h120 (_ : Params) : Obj := tpO #[.str "self" 334]
noncomputable def h122 (_ : Params) : Obj := fn0 (stM 5 7) "Decimal.floor"
noncomputable def h123 (_ : Params) : Obj := cdO #[.str "floor" 331, .str "Decimal.floor" 332, .str "/claim/cut.py" 333, .int 48 0, .int 1 0, .int 0 0, .int 0 0, .int 3 0, .ref 118, .bool true, .int 181 0, .ref 119, .none, .ref 120, .ref 121, .ref 122, .int 335 0, .int 48 0, .str "/claim/cut.py" 336]
noncomputable def h124 (_ : Params) : Obj := fn1 (stM 5 7) "Decimal.floor" (.none) "paperhold.decimals" 252 123
noncomputable def h127 (_ : Params) : Obj := tpO #[.str "self" 341, .str "places" 342]
noncomputable def h129 (_ : Params) : Obj := fn0 (stM 5 8) "Decimal.rounded"
noncomputable def h130 (_ : Params) : Obj := cdO #[.str "rounded" 338, .str "Decimal.rounded" 339, .str "/claim/cut.py" 340, .int 51 0, .int 2 0, .int 0 0, .int 0 0, .int 3 0, .ref 125, .bool true, .int 181 0, .ref 126, .none, .ref 127, .ref 128, .ref 129, .int 343 0, .int 51 0, .str "/claim/cut.py" 344]
noncomputable def h131 (_ : Params) : Obj := fn1 (stM 5 8) "Decimal.rounded" (.none) "paperhold.decimals" 252 130
noncomputable def h134 (_ : Params) : Obj := tpO #[.str "self" 349]
noncomputable def h136 (_ : Params) : Obj := fn0 (stM 5 9) "Decimal.told"
noncomputable def h137 (_ : Params) : Obj := cdO #[.str "told" 346, .str "Decimal.told" 347, .str "/claim/cut.py" 348, .int 54 0, .int 1 0, .int 0 0, .int 0 0, .int 3 0, .ref 132, .bool true, .int 181 0, .ref 133, .none, .ref 134, .ref 135, .ref 136, .int 350 0, .int 54 0, .str "/claim/cut.py" 351]
noncomputable def h138 (_ : Params) : Obj := fn1 (stM 5 9) "Decimal.told" (.none) "paperhold.decimals" 252 137
noncomputable def h141 (_ : Params) : Obj := tpO #[.str "self" 356, .str "numerals" 357]
noncomputable def h143 (_ : Params) : Obj := fn0 (stM 5 10) "Decimal.text"
noncomputable def h144 (_ : Params) : Obj := cdO #[.str "text" 353, .str "Decimal.text" 354, .str "/claim/cut.py" 355, .int 57 0, .int 1 0, .int 0 0, .int 0 0, .int 3 0, .ref 139, .bool true, .int 181 0, .ref 140, .none, .ref 141, .ref 142, .ref 143, .int 358 0, .int 57 0, .str "/claim/cut.py" 359]
noncomputable def h145 (_ : Params) : Obj := fn1 (stM 5 10) "Decimal.text" (.none) "paperhold.decimals" 252 144
noncomputable def h148 (_ : Params) : Obj := tpO #[.str "self" 364]
noncomputable def h150 (_ : Params) : Obj := fn0 (stM 5 11) "Decimal.least_text"
noncomputable def h151 (_ : Params) : Obj := cdO #[.str "least_text" 361, .str "Decimal.least_text" 362, .str "/claim/cut.py" 363, .int 64 0, .int 1 0, .int 0 0, .int 0 0, .int 3 0, .ref 146, .bool true, .int 181 0, .ref 147, .none, .ref 148, .ref 149, .ref 150, .int 365 0, .int 64 0, .str "/claim/cut.py" 366]
noncomputable def h152 (_ : Params) : Obj := fn1 (stM 5 11) "Decimal.least_text" (.none) "paperhold.decimals" 252 151
noncomputable def h153 (_ : Params) : Obj := tpO #[.str "places" 368, .str "top" 369]
noncomputable def h154 (P : Params) : Obj := { cls := .type "dict", data := .dict #[dE P "__module__" 261 (.str "paperhold.decimals" 252), dE P "__firstlineno__" 265 (.int 17 264), dE P "__init__" 274 (.ref 75), dE P "plus" 285 (.ref 82), dE P "minus" 296 (.ref 89), dE P "times" 305 (.ref 96), dE P "negated" 312 (.ref 103), dE P "compared" 323 (.ref 110), dE P "is_whole" 330 (.ref 117), dE P "floor" 337 (.ref 124), dE P "rounded" 345 (.ref 131), dE P "told" 352 (.ref 138), dE P "text" 360 (.ref 145), dE P "least_text" 367 (.ref 152), dE P "__static_attributes__" 370 (.ref 153), dE P "__dict__" 372 (.ref 156), dE P "__weakref__" 374 (.ref 157), dE P "__doc__" 375 (.none)] 4 }
noncomputable def h155 (_ : Params) : Obj := { cls := .type "type", data := .cls { name := "Decimal", bases := [.type "object"], mro := [.ref 155, .type "object"], ns := 154, qualname := "Decimal" }, slots := #[none, none, some (.str "Decimal" 254), some (.str "Decimal" 262), some (.builtin "object.__new__"), some (.bool true)] }
noncomputable def h156 (_ : Params) : Obj := { cls := .type "getset_descriptor", data := .fields #[.str "__dict__" 371, .ref 155, .builtin "function.__dict__", .builtin "function.__dict__#set"] }
noncomputable def h157 (_ : Params) : Obj := { cls := .type "getset_descriptor", data := .fields #[.str "__weakref__" 373, .ref 155, .builtin "ExceptionGroup.__weakref__", .none] }
noncomputable def h158 (_ : Params) : Obj := { cls := .type "super", data := .fields #[.ref 155, .ref 155, .ref 155] }
noncomputable def h159 (_ : Params) : Obj := { cls := .type "builtin_function_or_method", data := .fields #[.builtin "object.__init_subclass__", .ref 155] }
noncomputable def g202 (P : Params) : Obj := { cls := .type "dict", data := .dict #[dE P "__name__" 165 (.str "paperhold.paths" 425), dE P "__doc__" 166 (.none), dE P "__package__" 167 (.none), dE P "__loader__" 168 (.builtin "__main__.__loader__#opaque"), dE P "__spec__" 169 (.none), dE P "__annotations__" 170 (.ref 6), dE P "__builtins__" 171 (.ref 4), dE P "__file__" 173 (.str "/claim/cut.py" 172), dE P "__cached__" 174 (.none), dE P "_wall" 193 (.ref 21), dE P "PaperError" 235 (.ref 46), dE P "PaintFault" 251 (.ref 59), dE P "Decimal" 377 (.ref 155), dE P "sign_text" 384 (.ref 166), dE P "sign_of" 391 (.ref 173), dE P "decimal_of" 398 (.ref 180), dE P "at_one_scale" 409 (.ref 187), dE P "halved" 416 (.ref 194), dE P "middle_of" 424 (.ref 201), dE P "MOST_HALVINGS" 428 (.int 8 427), dE P "USUAL_HALVINGS" 430 (.int 3 429), dE P "RULES" 433 (.ref 202)] 22 }
noncomputable def g203 (_ : Params) : Obj := { cls := .none, data := .fields #[.int 1 0, .int 0 0, .ref 20, .int 5 0, .int 0 0, .ref 27, .int 14 0, .int 0 0, .ref 55, .int 17 0, .int 0 0, .ref 67, .int 66 0, .int 0 0, .ref 165, .int 68 0, .int 0 0, .ref 172, .int 72 0, .int 0 0, .ref 179, .int 78 0, .int 0 0, .ref 186, .int 83 0, .int 0 0, .ref 193, .int 85 0, .int 0 0, .ref 200] }
noncomputable def h162 (_ : Params) : Obj := tpO #[.str "number" 381]
noncomputable def h164 (_ : Params) : Obj := fn0 (stA 6) "sign_text"
noncomputable def h165 (_ : Params) : Obj := cdO #[.str "sign_text" 378, .str "sign_text" 379, .str "/claim/cut.py" 380, .int 66 0, .int 1 0, .int 0 0, .int 0 0, .int 3 0, .ref 160, .bool true, .int 181 0, .ref 161, .none, .ref 162, .ref 163, .ref 164, .int 382 0, .int 66 0, .str "/claim/cut.py" 383]
noncomputable def h166 (_ : Params) : Obj := fn1 (stA 6) "sign_text" (.none) "paperhold.decimals" 252 165
noncomputable def h169 (_ : Params) : Obj := tpO #[.str "number" 388]
noncomputable def h171 (_ : Params) : Obj := fn0 (stA 7) "sign_of"
noncomputable def h172 (_ : Params) : Obj := cdO #[.str "sign_of" 385, .str "sign_of" 386, .str "/claim/cut.py" 387, .int 68 0, .int 1 0, .int 0 0, .int 0 0, .int 3 0, .ref 167, .bool true, .int 181 0, .ref 168, .none, .ref 169, .ref 170, .ref 171, .int 389 0, .int 68 0, .str "/claim/cut.py" 390]
noncomputable def h173 (_ : Params) : Obj := fn1 (stA 7) "sign_of" (.none) "paperhold.decimals" 252 172
noncomputable def h176 (_ : Params) : Obj := tpO #[.str "value" 395]
noncomputable def h178 (_ : Params) : Obj := fn0 (stA 8) "decimal_of"
noncomputable def h179 (_ : Params) : Obj := cdO #[.str "decimal_of" 392, .str "decimal_of" 393, .str "/claim/cut.py" 394, .int 72 0, .int 1 0, .int 0 0, .int 0 0, .int 3 0, .ref 174, .bool true, .int 181 0, .ref 175, .none, .ref 176, .ref 177, .ref 178, .int 396 0, .int 72 0, .str "/claim/cut.py" 397]
noncomputable def h180 (_ : Params) : Obj := fn1 (stA 8) "decimal_of" (.none) "paperhold.decimals" 252 179
noncomputable def h183 (_ : Params) : Obj := tpO #[.str "one" 402, .str "other" 403, .str "first" 404, .str "second" 405, .str "places" 406]
noncomputable def h185 (_ : Params) : Obj := fn0 (stA 9) "at_one_scale"
noncomputable def h186 (_ : Params) : Obj := cdO #[.str "at_one_scale" 399, .str "at_one_scale" 400, .str "/claim/cut.py" 401, .int 78 0, .int 2 0, .int 0 0, .int 0 0, .int 3 0, .ref 181, .bool true, .int 181 0, .ref 182, .none, .ref 183, .ref 184, .ref 185, .int 407 0, .int 78 0, .str "/claim/cut.py" 408]
noncomputable def h187 (_ : Params) : Obj := fn1 (stA 9) "at_one_scale" (.none) "paperhold.decimals" 252 186
noncomputable def h190 (_ : Params) : Obj := tpO #[.str "value" 413]
noncomputable def h192 (_ : Params) : Obj := fn0 (stA 10) "halved"
noncomputable def h193 (_ : Params) : Obj := cdO #[.str "halved" 410, .str "halved" 411, .str "/claim/cut.py" 412, .int 83 0, .int 1 0, .int 0 0, .int 0 0, .int 3 0, .ref 188, .bool true, .int 181 0, .ref 189, .none, .ref 190, .ref 191, .ref 192, .int 414 0, .int 83 0, .str "/claim/cut.py" 415]
noncomputable def h194 (_ : Params) : Obj := fn1 (stA 10) "halved" (.none) "paperhold.decimals" 252 193
noncomputable def h197 (_ : Params) : Obj := tpO #[.str "one" 420, .str "other" 421]
noncomputable def h199 (_ : Params) : Obj := fn0 (stA 11) "middle_of"
noncomputable def h200 (_ : Params) : Obj := cdO #[.str "middle_of" 417, .str "middle_of" 418, .str "/claim/cut.py" 419, .int 85 0, .int 2 0, .int 0 0, .int 0 0, .int 3 0, .ref 195, .bool true, .int 181 0, .ref 196, .none, .ref 197, .ref 198, .ref 199, .int 422 0, .int 85 0, .str "/claim/cut.py" 423]
noncomputable def h201 (_ : Params) : Obj := fn1 (stA 11) "middle_of" (.none) "paperhold.decimals" 252 200
noncomputable def h202 (_ : Params) : Obj := tpO #[.str "nonzero" 431, .str "evenodd" 432]
noncomputable def g247 (P : Params) : Obj := { cls := .type "dict", data := .dict #[dE P "__name__" 165 (.str "paperhold.paths" 425), dE P "__doc__" 166 (.none), dE P "__package__" 167 (.none), dE P "__loader__" 168 (.builtin "__main__.__loader__#opaque"), dE P "__spec__" 169 (.none), dE P "__annotations__" 170 (.ref 6), dE P "__builtins__" 171 (.ref 4), dE P "__file__" 173 (.str "/claim/cut.py" 172), dE P "__cached__" 174 (.none), dE P "_wall" 193 (.ref 21), dE P "PaperError" 235 (.ref 46), dE P "PaintFault" 251 (.ref 59), dE P "Decimal" 377 (.ref 155), dE P "sign_text" 384 (.ref 166), dE P "sign_of" 391 (.ref 173), dE P "decimal_of" 398 (.ref 180), dE P "at_one_scale" 409 (.ref 187), dE P "halved" 416 (.ref 194), dE P "middle_of" 424 (.ref 201), dE P "MOST_HALVINGS" 428 (.int 8 427), dE P "USUAL_HALVINGS" 430 (.int 3 429), dE P "RULES" 433 (.ref 202), dE P "Path" 462 (.ref 221), dE P "pair_of" 470 (.ref 232), dE P "is_shut" 477 (.ref 239), dE P "current_point" 485 (.ref 246), dE P "move_to" 495 (.ref 253), dE P "path_with" 505 (.ref 260)] 28 }
noncomputable def g248 (_ : Params) : Obj := { cls := .none, data := .fields #[.int 1 0, .int 0 0, .ref 20, .int 5 0, .int 0 0, .ref 27, .int 14 0, .int 0 0, .ref 55, .int 17 0, .int 0 0, .ref 67, .int 66 0, .int 0 0, .ref 165, .int 68 0, .int 0 0, .ref 172, .int 72 0, .int 0 0, .ref 179, .int 78 0, .int 0 0, .ref 186, .int 83 0, .int 0 0, .ref 193, .int 85 0, .int 0 0, .ref 200, .int 91 0, .int 0 0, .ref 208, .int 95 0, .int 0 0, .ref 231, .int 97 0, .int 0 0, .ref 238, .int 99 0, .int 0 0, .ref 245, .int 106 0, .int 0 0, .ref 252, .int 111 0, .int 0 0, .ref 259] }
noncomputable def h204 (_ : Params) : Obj := { cls := .type "builtin_function_or_method", data := .fields #[.builtin "type.__prepare__", .type "type"] }
noncomputable def h205 (P : Params) : Obj := { cls := .type "dict", data := .dict #[dE P "__module__" 441 (.str "paperhold.paths" 425), dE P "__qualname__" 443 (.str "Path" 442), dE P "__firstlineno__" 445 (.int 91 444), dE P "__init__" 453 (.ref 218), dE P "__static_attributes__" 455 (.ref 219)] 5 }
noncomputable def h207 (_ : Params) : Obj := { cls := .none, data := .fields #[.int 93 0, .int 4 0, .ref 217] }
noncomputable def h208 (_ : Params) : Obj := cdO #[.str "Path" 436, .str "Path" 437, .str "/claim/cut.py" 438, .int 91 0, .int 0 0, .int 0 0, .int 0 0, .int 0 0, .ref 206, .bool false, .int 181 0, .ref 207, .none, .none, .none, .none, .int 439 0, .int 91 0, .str "/claim/cut.py" 440]
noncomputable def h209 (_ : Params) : Obj := { cls := .type "frame", slots := #[some (.ref 208), some (.ref 3), some (.ref 205), none, some (.str "paperhold.paths" 425), none, some (.ref 0)] }
noncomputable def h211 (_ : Params) : Obj := tpO #[.ref 210]
noncomputable def h214 (_ : Params) : Obj := tpO #[.str "self" 449, .str "parts" 450]
noncomputable def h216 (_ : Params) : Obj := fn0 (stM 16 0) "Path.__init__"
noncomputable def h217 (_ : Params) : Obj := cdO #[.str "__init__" 446, .str "Path.__init__" 447, .str "/claim/cut.py" 448, .int 93 0, .int 2 0, .int 0 0, .int 0 0, .int 3 0, .ref 212, .bool true, .int 181 0, .ref 213, .none, .ref 214, .ref 215, .ref 216, .int 451 0, .int 93 0, .str "/claim/cut.py" 452]
noncomputable def h218 (_ : Params) : Obj := fn1 (stM 16 0) "Path.__init__" (.ref 211) "paperhold.paths" 425 217
noncomputable def h219 (_ : Params) : Obj := tpO #[.str "parts" 454]
noncomputable def h220 (P : Params) : Obj := { cls := .type "dict", data := .dict #[dE P "__module__" 441 (.str "paperhold.paths" 425), dE P "__firstlineno__" 445 (.int 91 444), dE P "__init__" 453 (.ref 218), dE P "__static_attributes__" 455 (.ref 219), dE P "__dict__" 457 (.ref 222), dE P "__weakref__" 459 (.ref 223), dE P "__doc__" 460 (.none)] 4 }
noncomputable def h221 (_ : Params) : Obj := { cls := .type "type", data := .cls { name := "Path", bases := [.type "object"], mro := [.ref 221, .type "object"], ns := 220, qualname := "Path" }, slots := #[none, none, some (.str "Path" 434), some (.str "Path" 442), some (.builtin "object.__new__"), some (.bool true)] }
noncomputable def h222 (_ : Params) : Obj := { cls := .type "getset_descriptor", data := .fields #[.str "__dict__" 456, .ref 221, .builtin "function.__dict__", .builtin "function.__dict__#set"] }
noncomputable def h223 (_ : Params) : Obj := { cls := .type "getset_descriptor", data := .fields #[.str "__weakref__" 458, .ref 221, .builtin "ExceptionGroup.__weakref__", .none] }
noncomputable def h224 (_ : Params) : Obj := { cls := .type "super", data := .fields #[.ref 221, .ref 221, .ref 221] }
noncomputable def h225 (_ : Params) : Obj := { cls := .type "builtin_function_or_method", data := .fields #[.builtin "object.__init_subclass__", .ref 221] }
noncomputable def h228 (_ : Params) : Obj := tpO #[.str "x" 466, .str "y" 467]
noncomputable def h230 (_ : Params) : Obj := fn0 (stA 17) "pair_of"
noncomputable def h231 (_ : Params) : Obj := cdO #[.str "pair_of" 463, .str "pair_of" 464, .str "/claim/cut.py" 465, .int 95 0, .int 2 0, .int 0 0, .int 0 0, .int 3 0, .ref 226, .bool true, .int 181 0, .ref 227, .none, .ref 228, .ref 229, .ref 230, .int 468 0, .int 95 0, .str "/claim/cut.py" 469]
noncomputable def h232 (_ : Params) : Obj := fn1 (stA 17) "pair_of" (.none) "paperhold.paths" 425 231
noncomputable def h235 (_ : Params) : Obj := tpO #[.str "part" 474]
noncomputable def h237 (_ : Params) : Obj := fn0 (stA 18) "is_shut"
noncomputable def h238 (_ : Params) : Obj := cdO #[.str "is_shut" 471, .str "is_shut" 472, .str "/claim/cut.py" 473, .int 97 0, .int 1 0, .int 0 0, .int 0 0, .int 3 0, .ref 233, .bool true, .int 181 0, .ref 234, .none, .ref 235, .ref 236, .ref 237, .int 475 0, .int 97 0, .str "/claim/cut.py" 476]
noncomputable def h239 (_ : Params) : Obj := fn1 (stA 18) "is_shut" (.none) "paperhold.paths" 425 238
noncomputable def h242 (_ : Params) : Obj := tpO #[.str "path" 481, .str "part" 482]
noncomputable def h244 (_ : Params) : Obj := fn0 (stA 19) "current_point"
noncomputable def h245 (_ : Params) : Obj := cdO #[.str "current_point" 478, .str "current_point" 479, .str "/claim/cut.py" 480, .int 99 0, .int 1 0, .int 0 0, .int 0 0, .int 3 0, .ref 240, .bool true, .int 181 0, .ref 241, .none, .ref 242, .ref 243, .ref 244, .int 483 0, .int 99 0, .str "/claim/cut.py" 484]
noncomputable def h246 (_ : Params) : Obj := fn1 (stA 19) "current_point" (.none) "paperhold.paths" 425 245
noncomputable def h249 (_ : Params) : Obj := tpO #[.str "path" 489, .str "x" 490, .str "y" 491, .str "parts" 492]
noncomputable def h251 (_ : Params) : Obj := fn0 (stA 20) "move_to"
noncomputable def h252 (_ : Params) : Obj := cdO #[.str "move_to" 486, .str "move_to" 487, .str "/claim/cut.py" 488, .int 106 0, .int 3 0, .int 0 0, .int 0 0, .int 3 0, .ref 247, .bool true, .int 181 0, .ref 248, .none, .ref 249, .ref 250, .ref 251, .int 493 0, .int 106 0, .str "/claim/cut.py" 494]
noncomputable def h253 (_ : Params) : Obj := fn1 (stA 20) "move_to" (.none) "paperhold.paths" 425 252
noncomputable def h256 (_ : Params) : Obj := tpO #[.str "path" 499, .str "segment" 500, .str "start" 501, .str "part" 502]
noncomputable def h258 (_ : Params) : Obj := fn0 (stA 21) "path_with"
noncomputable def h259 (_ : Params) : Obj := cdO #[.str "path_with" 496, .str "path_with" 497, .str "/claim/cut.py" 498, .int 111 0, .int 2 0, .int 0 0, .int 0 0, .int 3 0, .ref 254, .bool true, .int 181 0, .ref 255, .none, .ref 256, .ref 257, .ref 258, .int 503 0, .int 111 0, .str "/claim/cut.py" 504]
noncomputable def h260 (_ : Params) : Obj := fn1 (stA 21) "path_with" (.none) "paperhold.paths" 425 259
noncomputable def g307 (P : Params) : Obj := { cls := .type "dict", data := .dict #[dE P "__name__" 165 (.str "paperhold.paths" 425), dE P "__doc__" 166 (.none), dE P "__package__" 167 (.none), dE P "__loader__" 168 (.builtin "__main__.__loader__#opaque"), dE P "__spec__" 169 (.none), dE P "__annotations__" 170 (.ref 6), dE P "__builtins__" 171 (.ref 4), dE P "__file__" 173 (.str "/claim/cut.py" 172), dE P "__cached__" 174 (.none), dE P "_wall" 193 (.ref 21), dE P "PaperError" 235 (.ref 46), dE P "PaintFault" 251 (.ref 59), dE P "Decimal" 377 (.ref 155), dE P "sign_text" 384 (.ref 166), dE P "sign_of" 391 (.ref 173), dE P "decimal_of" 398 (.ref 180), dE P "at_one_scale" 409 (.ref 187), dE P "halved" 416 (.ref 194), dE P "middle_of" 424 (.ref 201), dE P "MOST_HALVINGS" 428 (.int 8 427), dE P "USUAL_HALVINGS" 430 (.int 3 429), dE P "RULES" 433 (.ref 202), dE P "Path" 462 (.ref 221), dE P "pair_of" 470 (.ref 232), dE P "is_shut" 477 (.ref 239), dE P "current_point" 485 (.ref 246), dE P "move_to" 495 (.ref 253), dE P "path_with" 505 (.ref 260), dE P "line_to" 514 (.ref 267), dE P "close_path" 522 (.ref 274), dE P "rectangle" 538 (.ref 281), dE P "joined_paths" 546 (.ref 288), dE P "mid_point" 554 (.ref 295), dE P "curve_halves" 570 (.ref 302), dE P "curve_points" 583 (.ref 309), dE P "flat_part" 595 (.ref 316), dE P "flattened" 601 (.ref 322), dE P "lines_of" 607 (.ref 328), dE P "places_of" 619 (.ref 336), dE P "at_places" 627 (.ref 343)] 40 }
noncomputable def g308 (_ : Params) : Obj := { cls := .none, data := .fields #[.int 1 0, .int 0 0, .ref 20, .int 5 0, .int 0 0, .ref 27, .int 14 0, .int 0 0, .ref 55, .int 17 0, .int 0 0, .ref 67, .int 66 0, .int 0 0, .ref 165, .int 68 0, .int 0 0, .ref 172, .int 72 0, .int 0 0, .ref 179, .int 78 0, .int 0 0, .ref 186, .int 83 0, .int 0 0, .ref 193, .int 85 0, .int 0 0, .ref 200, .int 91 0, .int 0 0, .ref 208, .int 95 0, .int 0 0, .ref 231, .int 97 0, .int 0 0, .ref 238, .int 99 0, .int 0 0, .ref 245, .int 106 0, .int 0 0, .ref 252, .int 111 0, .int 0 0, .ref 259, .int 119 0, .int 0 0, .ref 266, .int 121 0, .int 0 0, .ref 273, .int 128 0, .int 0 0, .ref 280, .int 136 0, .int 0 0, .ref 287, .int 138 0, .int 0 0, .ref 294, .int 140 0, .int 0 0, .ref 301, .int 145 0, .int 0 0, .ref 308, .int 150 0, .int 0 0, .ref 315, .int 160 0, .int 0 0, .ref 321, .int 164 0, .int 0 0, .ref 327, .int 171 0, .int 0 0, .ref 335, .int 176 0, .int 0 0, .ref 342] }
noncomputable def h263 (_ : Params) : Obj := tpO #[.str "path" 509, .str "x" 510, .str "y" 511]
noncomputable def h265 (_ : Params) : Obj := fn0 (stA 22) "line_to"
noncomputable def h266 (_ : Params) : Obj := cdO #[.str "line_to" 506, .str "line_to" 507, .str "/claim/cut.py" 508, .int 119 0, .int 3 0, .int 0 0, .int 0 0, .int 3 0, .ref 261, .bool true, .int 181 0, .ref 262, .none, .ref 263, .ref 264, .ref 265, .int 512 0, .int 119 0, .str "/claim/cut.py" 513]
noncomputable def h267 (_ : Params) : Obj := fn1 (stA 22) "line_to" (.none) "paperhold.paths" 425 266
noncomputable def h270 (_ : Params) : Obj := tpO #[.str "path" 518, .str "part" 519]
noncomputable def h272 (_ : Params) : Obj := fn0 (stA 23) "close_path"
noncomputable def h273 (_ : Params) : Obj := cdO #[.str "close_path" 515, .str "close_path" 516, .str "/claim/cut.py" 517, .int 121 0, .int 1 0, .int 0 0, .int 0 0, .int 3 0, .ref 268, .bool true, .int 181 0, .ref 269, .none, .ref 270, .ref 271, .ref 272, .int 520 0, .int 121 0, .str "/claim/cut.py" 521]
noncomputable def h274 (_ : Params) : Obj := fn1 (stA 23) "close_path" (.none) "paperhold.paths" 425 273
noncomputable def h277 (_ : Params) : Obj := tpO #[.str "path" 526, .str "x" 527, .str "y" 528, .str "width" 529, .str "height" 530, .str "left" 531, .str "low" 532, .str "right" 533, .str "high" 534, .str "corner" 535]
noncomputable def h279 (_ : Params) : Obj := fn0 (stA 24) "rectangle"
noncomputable def h280 (_ : Params) : Obj := cdO #[.str "rectangle" 523, .str "rectangle" 524, .str "/claim/cut.py" 525, .int 128 0, .int 5 0, .int 0 0, .int 0 0, .int 3 0, .ref 275, .bool true, .int 181 0, .ref 276, .none, .ref 277, .ref 278, .ref 279, .int 536 0, .int 128 0, .str "/claim/cut.py" 537]
noncomputable def h281 (_ : Params) : Obj := fn1 (stA 24) "rectangle" (.none) "paperhold.paths" 425 280
noncomputable def h284 (_ : Params) : Obj := tpO #[.str "one" 542, .str "other" 543]
noncomputable def h286 (_ : Params) : Obj := fn0 (stA 25) "joined_paths"
noncomputable def h287 (_ : Params) : Obj := cdO #[.str "joined_paths" 539, .str "joined_paths" 540, .str "/claim/cut.py" 541, .int 136 0, .int 2 0, .int 0 0, .int 0 0, .int 3 0, .ref 282, .bool true, .int 181 0, .ref 283, .none, .ref 284, .ref 285, .ref 286, .int 544 0, .int 136 0, .str "/claim/cut.py" 545]
noncomputable def h288 (_ : Params) : Obj := fn1 (stA 25) "joined_paths" (.none) "paperhold.paths" 425 287
noncomputable def h291 (_ : Params) : Obj := tpO #[.str "p" 550, .str "q" 551]
noncomputable def h293 (_ : Params) : Obj := fn0 (stA 26) "mid_point"
noncomputable def h294 (_ : Params) : Obj := cdO #[.str "mid_point" 547, .str "mid_point" 548, .str "/claim/cut.py" 549, .int 138 0, .int 2 0, .int 0 0, .int 0 0, .int 3 0, .ref 289, .bool true, .int 181 0, .ref 290, .none, .ref 291, .ref 292, .ref 293, .int 552 0, .int 138 0, .str "/claim/cut.py" 553]
noncomputable def h295 (_ : Params) : Obj := fn1 (stA 26) "mid_point" (.none) "paperhold.paths" 425 294
noncomputable def h298 (_ : Params) : Obj := tpO #[.str "p" 558, .str "q" 559, .str "r" 560, .str "s" 561, .str "pq" 562, .str "qr" 563, .str "rs" 564, .str "one" 565, .str "other" 566, .str "centre" 567]
noncomputable def h300 (_ : Params) : Obj := fn0 (stA 27) "curve_halves"
noncomputable def h301 (_ : Params) : Obj := cdO #[.str "curve_halves" 555, .str "curve_halves" 556, .str "/claim/cut.py" 557, .int 140 0, .int 4 0, .int 0 0, .int 0 0, .int 3 0, .ref 296, .bool true, .int 181 0, .ref 297, .none, .ref 298, .ref 299, .ref 300, .int 568 0, .int 140 0, .str "/claim/cut.py" 569]
noncomputable def h302 (_ : Params) : Obj := fn1 (stA 27) "curve_halves" (.none) "paperhold.paths" 425 301
noncomputable def h305 (_ : Params) : Obj := tpO #[.str "start" 574, .str "first" 575, .str "second" 576, .str "end" 577, .str "depth" 578, .str "one" 579, .str "other" 580]
noncomputable def h307 (_ : Params) : Obj := fn0 (stA 28) "curve_points"
noncomputable def h308 (_ : Params) : Obj := cdO #[.str "curve_points" 571, .str "curve_points" 572, .str "/claim/cut.py" 573, .int 145 0, .int 5 0, .int 0 0, .int 0 0, .int 3 0, .ref 303, .bool true, .int 181 0, .ref 304, .none, .ref 305, .ref 306, .ref 307, .int 581 0, .int 145 0, .str "/claim/cut.py" 582]
noncomputable def h309 (_ : Params) : Obj := fn1 (stA 28) "curve_points" (.none) "paperhold.paths" 425 308
noncomputable def h312 (_ : Params) : Obj := tpO #[.str "part" 587, .str "depth" 588, .str "found" 589, .str "segment" 590, .str "start" 591, .str "p" 592]
noncomputable def h314 (_ : Params) : Obj := fn0 (stA 29) "flat_part"
noncomputable def h315 (_ : Params) : Obj := cdO #[.str "flat_part" 584, .str "flat_part" 585, .str "/claim/cut.py" 586, .int 150 0, .int 2 0, .int 0 0, .int 0 0, .int 3 0, .ref 310, .bool true, .int 181 0, .ref 311, .none, .ref 312, .ref 313, .ref 314, .int 593 0, .int 150 0, .str "/claim/cut.py" 594]
noncomputable def h316 (_ : Params) : Obj := fn1 (stA 29) "flat_part" (.none) "paperhold.paths" 425 315
noncomputable def h317 (_ : Params) : Obj := tpO #[.int 3 429]
noncomputable def h320 (_ : Params) : Obj := fn0 (stA 30) "flattened"
noncomputable def h321 (_ : Params) : Obj := cdO #[.str "flattened" 596, .str "flattened" 597, .str "/claim/cut.py" 598, .int 160 0, .int 2 0, .int 0 0, .int 0 0, .int 3 0, .ref 318, .bool true, .int 181 0, .ref 319, .none, .none, .none, .ref 320, .int 599 0, .int 160 0, .str "/claim/cut.py" 600]
noncomputable def h322 (_ : Params) : Obj := fn1 (stA 30) "flattened" (.ref 317) "paperhold.paths" 425 321
noncomputable def h323 (_ : Params) : Obj := tpO #[.int 3 429]
noncomputable def h326 (_ : Params) : Obj := fn0 (stA 31) "lines_of"
noncomputable def h327 (_ : Params) : Obj := cdO #[.str "lines_of" 602, .str "lines_of" 603, .str "/claim/cut.py" 604, .int 164 0, .int 2 0, .int 0 0, .int 0 0, .int 3 0, .ref 324, .bool true, .int 181 0, .ref 325, .none, .none, .none, .ref 326, .int 605 0, .int 164 0, .str "/claim/cut.py" 606]
noncomputable def h328 (_ : Params) : Obj := fn1 (stA 31) "lines_of" (.ref 323) "paperhold.paths" 425 327
noncomputable def h329 (_ : Params) : Obj := tpO #[.int 0 608]
noncomputable def h332 (_ : Params) : Obj := tpO #[.str "points" 612, .str "known" 613, .str "most" 614, .str "x" 615, .str "y" 616]
noncomputable def h334 (_ : Params) : Obj := fn0 (stA 32) "places_of"
noncomputable def h335 (_ : Params) : Obj := cdO #[.str "places_of" 609, .str "places_of" 610, .str "/claim/cut.py" 611, .int 171 0, .int 2 0, .int 0 0, .int 0 0, .int 3 0, .ref 330, .bool true, .int 181 0, .ref 331, .none, .ref 332, .ref 333, .ref 334, .int 617 0, .int 171 0, .str "/claim/cut.py" 618]
noncomputable def h336 (_ : Params) : Obj := fn1 (stA 32) "places_of" (.ref 329) "paperhold.paths" 425 335
noncomputable def h339 (_ : Params) : Obj := tpO #[.str "value" 623, .str "places" 624]
noncomputable def h341 (_ : Params) : Obj := fn0 (stA 33) "at_places"
noncomputable def h342 (_ : Params) : Obj := cdO #[.str "at_places" 620, .str "at_places" 621, .str "/claim/cut.py" 622, .int 176 0, .int 2 0, .int 0 0, .int 0 0, .int 3 0, .ref 337, .bool true, .int 181 0, .ref 338, .none, .ref 339, .ref 340, .ref 341, .int 625 0, .int 176 0, .str "/claim/cut.py" 626]
noncomputable def h343 (_ : Params) : Obj := fn1 (stA 33) "at_places" (.none) "paperhold.paths" 425 342
noncomputable def g392 (P : Params) : Obj := { cls := .type "dict", data := .dict #[dE P "__name__" 165 (.str "law_nn0218_01" 702), dE P "__doc__" 166 (.none), dE P "__package__" 167 (.none), dE P "__loader__" 168 (.builtin "__main__.__loader__#opaque"), dE P "__spec__" 169 (.none), dE P "__annotations__" 170 (.ref 6), dE P "__builtins__" 171 (.ref 4), dE P "__file__" 173 (.str "/claim/cut.py" 172), dE P "__cached__" 174 (.none), dE P "_wall" 193 (.ref 21), dE P "PaperError" 235 (.ref 46), dE P "PaintFault" 251 (.ref 59), dE P "Decimal" 377 (.ref 155), dE P "sign_text" 384 (.ref 166), dE P "sign_of" 391 (.ref 173), dE P "decimal_of" 398 (.ref 180), dE P "at_one_scale" 409 (.ref 187), dE P "halved" 416 (.ref 194), dE P "middle_of" 424 (.ref 201), dE P "MOST_HALVINGS" 428 (.int 8 427), dE P "USUAL_HALVINGS" 430 (.int 3 429), dE P "RULES" 433 (.ref 202), dE P "Path" 462 (.ref 221), dE P "pair_of" 470 (.ref 232), dE P "is_shut" 477 (.ref 239), dE P "current_point" 485 (.ref 246), dE P "move_to" 495 (.ref 253), dE P "path_with" 505 (.ref 260), dE P "line_to" 514 (.ref 267), dE P "close_path" 522 (.ref 274), dE P "rectangle" 538 (.ref 281), dE P "joined_paths" 546 (.ref 288), dE P "mid_point" 554 (.ref 295), dE P "curve_halves" 570 (.ref 302), dE P "curve_points" 583 (.ref 309), dE P "flat_part" 595 (.ref 316), dE P "flattened" 601 (.ref 322), dE P "lines_of" 607 (.ref 328), dE P "places_of" 619 (.ref 336), dE P "at_places" 627 (.ref 343), dE P "whole_edges" 633 (.ref 348), dE P "crossing" 644 (.ref 355), dE P "winding_number" 655 (.ref 362), dE P "is_filled" 663 (.ref 369), dE P "doubled_area" 677 (.ref 376), dE P "row_text" 683 (.ref 381), dE P "raster" 689 (.ref 387), dE P "met_rows" 695 (.ref 392), dE P "filled_count" 701 (.ref 397), dE P "_law_box" 709 (.ref 402), dE P "_law_draw" 719 (.ref 409), dE P "_law_told" 726 (.ref 416), dE P "_law_number" 736 (.ref 423)] 53 }
noncomputable def g393 (_ : Params) : Obj := { cls := .none, data := .fields #[.int 1 0, .int 0 0, .ref 20, .int 5 0, .int 0 0, .ref 27, .int 14 0, .int 0 0, .ref 55, .int 17 0, .int 0 0, .ref 67, .int 66 0, .int 0 0, .ref 165, .int 68 0, .int 0 0, .ref 172, .int 72 0, .int 0 0, .ref 179, .int 78 0, .int 0 0, .ref 186, .int 83 0, .int 0 0, .ref 193, .int 85 0, .int 0 0, .ref 200, .int 91 0, .int 0 0, .ref 208, .int 95 0, .int 0 0, .ref 231, .int 97 0, .int 0 0, .ref 238, .int 99 0, .int 0 0, .ref 245, .int 106 0, .int 0 0, .ref 252, .int 111 0, .int 0 0, .ref 259, .int 119 0, .int 0 0, .ref 266, .int 121 0, .int 0 0, .ref 273, .int 128 0, .int 0 0, .ref 280, .int 136 0, .int 0 0, .ref 287, .int 138 0, .int 0 0, .ref 294, .int 140 0, .int 0 0, .ref 301, .int 145 0, .int 0 0, .ref 308, .int 150 0, .int 0 0, .ref 315, .int 160 0, .int 0 0, .ref 321, .int 164 0, .int 0 0, .ref 327, .int 171 0, .int 0 0, .ref 335, .int 176 0, .int 0 0, .ref 342, .int 178 0, .int 0 0, .ref 347, .int 188 0, .int 0 0, .ref 354, .int 197 0, .int 0 0, .ref 361, .int 202 0, .int 0 0, .ref 368, .int 208 0, .int 0 0, .ref 375, .int 216 0, .int 0 0, .ref 380, .int 223 0, .int 0 0, .ref 386, .int 231 0, .int 0 0, .ref 391, .int 236 0, .int 0 0, .ref 396, .int 239 0, .int 0 0, .ref 401, .int 248 0, .int 0 0, .ref 408, .int 259 0, .int 0 0, .ref 415, .int 261 0, .int 0 0, .ref 422] }
noncomputable def h346 (_ : Params) : Obj := fn0 (stA 34) "whole_edges"
noncomputable def h347 (_ : Params) : Obj := cdO #[.str "whole_edges" 628, .str "whole_edges" 629, .str "/claim/cut.py" 630, .int 178 0, .int 2 0, .int 0 0, .int 0 0, .int 3 0, .ref 344, .bool true, .int 181 0, .ref 345, .none, .none, .none, .ref 346, .int 631 0, .int 178 0, .str "/claim/cut.py" 632]
noncomputable def h348 (_ : Params) : Obj := fn1 (stA 34) "whole_edges" (.none) "paperhold.paths" 425 347
noncomputable def h351 (_ : Params) : Obj := tpO #[.str "edge" 637, .str "x" 638, .str "y" 639, .str "sign" 640, .str "side" 641]
noncomputable def h353 (_ : Params) : Obj := fn0 (stA 35) "crossing"
noncomputable def h354 (_ : Params) : Obj := cdO #[.str "crossing" 634, .str "crossing" 635, .str "/claim/cut.py" 636, .int 188 0, .int 3 0, .int 0 0, .int 0 0, .int 3 0, .ref 349, .bool true, .int 181 0, .ref 350, .none, .ref 351, .ref 352, .ref 353, .int 642 0, .int 188 0, .str "/claim/cut.py" 643]
noncomputable def h355 (_ : Params) : Obj := fn1 (stA 35) "crossing" (.none) "paperhold.paths" 425 354
noncomputable def h358 (_ : Params) : Obj := tpO #[.str "edges" 648, .str "x" 649, .str "y" 650, .str "total" 651, .str "edge" 652]
noncomputable def h360 (_ : Params) : Obj := fn0 (stA 36) "winding_number"
noncomputable def h361 (_ : Params) : Obj := cdO #[.str "winding_number" 645, .str "winding_number" 646, .str "/claim/cut.py" 647, .int 197 0, .int 3 0, .int 0 0, .int 0 0, .int 3 0, .ref 356, .bool true, .int 181 0, .ref 357, .none, .ref 358, .ref 359, .ref 360, .int 653 0, .int 197 0, .str "/claim/cut.py" 654]
noncomputable def h362 (_ : Params) : Obj := fn1 (stA 36) "winding_number" (.none) "paperhold.paths" 425 361
noncomputable def h365 (_ : Params) : Obj := tpO #[.str "total" 659, .str "rule" 660]
noncomputable def h367 (_ : Params) : Obj := fn0 (stA 37) "is_filled"
noncomputable def h368 (_ : Params) : Obj := cdO #[.str "is_filled" 656, .str "is_filled" 657, .str "/claim/cut.py" 658, .int 202 0, .int 2 0, .int 0 0, .int 0 0, .int 3 0, .ref 363, .bool true, .int 181 0, .ref 364, .none, .ref 365, .ref 366, .ref 367, .int 661 0, .int 202 0, .str "/claim/cut.py" 662]
noncomputable def h369 (_ : Params) : Obj := fn1 (stA 37) "is_filled" (.none) "paperhold.paths" 425 368
noncomputable def h372 (_ : Params) : Obj := tpO #[.str "polygons" 667, .str "total" 668, .str "corners" 669, .str "at" 670, .str "x" 671, .str "y" 672, .str "u" 673, .str "v" 674]
noncomputable def h374 (_ : Params) : Obj := fn0 (stA 38) "doubled_area"
noncomputable def h375 (_ : Params) : Obj := cdO #[.str "doubled_area" 664, .str "doubled_area" 665, .str "/claim/cut.py" 666, .int 208 0, .int 1 0, .int 0 0, .int 0 0, .int 3 0, .ref 370, .bool true, .int 181 0, .ref 371, .none, .ref 372, .ref 373, .ref 374, .int 675 0, .int 208 0, .str "/claim/cut.py" 676]
noncomputable def h376 (_ : Params) : Obj := fn1 (stA 38) "doubled_area" (.none) "paperhold.paths" 425 375
noncomputable def h379 (_ : Params) : Obj := fn0 (stA 39) "row_text"
noncomputable def h380 (_ : Params) : Obj := cdO #[.str "row_text" 678, .str "row_text" 679, .str "/claim/cut.py" 680, .int 216 0, .int 5 0, .int 0 0, .int 0 0, .int 3 0, .ref 377, .bool true, .int 181 0, .ref 378, .none, .none, .none, .ref 379, .int 681 0, .int 216 0, .str "/claim/cut.py" 682]
noncomputable def h381 (_ : Params) : Obj := fn1 (stA 39) "row_text" (.none) "paperhold.paths" 425 380
noncomputable def h382 (_ : Params) : Obj := tpO #[.int 3 429]
noncomputable def h385 (_ : Params) : Obj := fn0 (stA 40) "raster"
noncomputable def h386 (_ : Params) : Obj := cdO #[.str "raster" 684, .str "raster" 685, .str "/claim/cut.py" 686, .int 223 0, .int 5 0, .int 0 0, .int 0 0, .int 3 0, .ref 383, .bool true, .int 181 0, .ref 384, .none, .none, .none, .ref 385, .int 687 0, .int 223 0, .str "/claim/cut.py" 688]
noncomputable def h387 (_ : Params) : Obj := fn1 (stA 40) "raster" (.ref 382) "paperhold.paths" 425 386
noncomputable def h390 (_ : Params) : Obj := fn0 (stA 41) "met_rows"
noncomputable def h391 (_ : Params) : Obj := cdO #[.str "met_rows" 690, .str "met_rows" 691, .str "/claim/cut.py" 692, .int 231 0, .int 2 0, .int 0 0, .int 0 0, .int 3 0, .ref 388, .bool true, .int 181 0, .ref 389, .none, .none, .none, .ref 390, .int 693 0, .int 231 0, .str "/claim/cut.py" 694]
noncomputable def h392 (_ : Params) : Obj := fn1 (stA 41) "met_rows" (.none) "paperhold.paths" 425 391
noncomputable def h395 (_ : Params) : Obj := fn0 (stA 42) "filled_count"
noncomputable def h396 (_ : Params) : Obj := cdO #[.str "filled_count" 696, .str "filled_count" 697, .str "/claim/cut.py" 698, .int 236 0, .int 1 0, .int 0 0, .int 0 0, .int 3 0, .ref 393, .bool true, .int 181 0, .ref 394, .none, .none, .none, .ref 395, .int 699 0, .int 236 0, .str "/claim/cut.py" 700]
noncomputable def h397 (_ : Params) : Obj := fn1 (stA 42) "filled_count" (.none) "paperhold.paths" 425 396
noncomputable def h400 (_ : Params) : Obj := fn0 (stA 44) "_law_box"
noncomputable def h401 (_ : Params) : Obj := cdO #[.str "_law_box" 704, .str "_law_box" 705, .str "/claim/cut.py" 706, .int 239 0, .int 1 0, .int 0 0, .int 0 0, .int 3 0, .ref 398, .bool true, .int 181 0, .ref 399, .none, .none, .none, .ref 400, .int 707 0, .int 239 0, .str "/claim/cut.py" 708]
noncomputable def h402 (_ : Params) : Obj := fn1 (stA 44) "_law_box" (.none) "law_nn0218_01" 702 401
noncomputable def h405 (_ : Params) : Obj := tpO #[.str "pool" 713, .str "most" 714, .str "place" 715, .str "digit" 716]
noncomputable def h407 (_ : Params) : Obj := fn0 (stA 45) "_law_draw"
noncomputable def h408 (_ : Params) : Obj := cdO #[.str "_law_draw" 710, .str "_law_draw" 711, .str "/claim/cut.py" 712, .int 248 0, .int 2 0, .int 0 0, .int 0 0, .int 3 0, .ref 403, .bool true, .int 181 0, .ref 404, .none, .ref 405, .ref 406, .ref 407, .int 717 0, .int 248 0, .str "/claim/cut.py" 718]
noncomputable def h409 (_ : Params) : Obj := fn1 (stA 45) "_law_draw" (.none) "law_nn0218_01" 702 408
noncomputable def h412 (_ : Params) : Obj := tpO #[.str "tenths" 723]
noncomputable def h414 (_ : Params) : Obj := fn0 (stA 46) "_law_told"
noncomputable def h415 (_ : Params) : Obj := cdO #[.str "_law_told" 720, .str "_law_told" 721, .str "/claim/cut.py" 722, .int 259 0, .int 1 0, .int 0 0, .int 0 0, .int 3 0, .ref 410, .bool true, .int 181 0, .ref 411, .none, .ref 412, .ref 413, .ref 414, .int 724 0, .int 259 0, .str "/claim/cut.py" 725]
noncomputable def h416 (_ : Params) : Obj := fn1 (stA 46) "_law_told" (.none) "law_nn0218_01" 702 415
noncomputable def h419 (_ : Params) : Obj := tpO #[.str "pool" 730, .str "low" 731, .str "high" 732, .str "tenths" 733]
noncomputable def h421 (_ : Params) : Obj := fn0 (stA 47) "_law_number"
noncomputable def h422 (_ : Params) : Obj := cdO #[.str "_law_number" 727, .str "_law_number" 728, .str "/claim/cut.py" 729, .int 261 0, .int 3 0, .int 0 0, .int 0 0, .int 3 0, .ref 417, .bool true, .int 181 0, .ref 418, .none, .ref 419, .ref 420, .ref 421, .int 734 0, .int 261 0, .str "/claim/cut.py" 735]
noncomputable def h423 (_ : Params) : Obj := fn1 (stA 47) "_law_number" (.none) "law_nn0218_01" 702 422
noncomputable def h3 (P : Params) : Obj := { cls := .type "dict", data := .dict #[dE P "__name__" 165 (.str "law_nn0218_01" 702), dE P "__doc__" 166 (.none), dE P "__package__" 167 (.none), dE P "__loader__" 168 (.builtin "__main__.__loader__#opaque"), dE P "__spec__" 169 (.none), dE P "__annotations__" 170 (.ref 6), dE P "__builtins__" 171 (.ref 4), dE P "__file__" 173 (.str "/claim/cut.py" 172), dE P "__cached__" 174 (.none), dE P "_wall" 193 (.ref 21), dE P "PaperError" 235 (.ref 46), dE P "PaintFault" 251 (.ref 59), dE P "Decimal" 377 (.ref 155), dE P "sign_text" 384 (.ref 166), dE P "sign_of" 391 (.ref 173), dE P "decimal_of" 398 (.ref 180), dE P "at_one_scale" 409 (.ref 187), dE P "halved" 416 (.ref 194), dE P "middle_of" 424 (.ref 201), dE P "MOST_HALVINGS" 428 (.int 8 427), dE P "USUAL_HALVINGS" 430 (.int 3 429), dE P "RULES" 433 (.ref 202), dE P "Path" 462 (.ref 221), dE P "pair_of" 470 (.ref 232), dE P "is_shut" 477 (.ref 239), dE P "current_point" 485 (.ref 246), dE P "move_to" 495 (.ref 253), dE P "path_with" 505 (.ref 260), dE P "line_to" 514 (.ref 267), dE P "close_path" 522 (.ref 274), dE P "rectangle" 538 (.ref 281), dE P "joined_paths" 546 (.ref 288), dE P "mid_point" 554 (.ref 295), dE P "curve_halves" 570 (.ref 302), dE P "curve_points" 583 (.ref 309), dE P "flat_part" 595 (.ref 316), dE P "flattened" 601 (.ref 322), dE P "lines_of" 607 (.ref 328), dE P "places_of" 619 (.ref 336), dE P "at_places" 627 (.ref 343), dE P "whole_edges" 633 (.ref 348), dE P "crossing" 644 (.ref 355), dE P "winding_number" 655 (.ref 362), dE P "is_filled" 663 (.ref 369), dE P "doubled_area" 677 (.ref 376), dE P "row_text" 683 (.ref 381), dE P "raster" 689 (.ref 387), dE P "met_rows" 695 (.ref 392), dE P "filled_count" 701 (.ref 397), dE P "_law_box" 709 (.ref 402), dE P "_law_draw" 719 (.ref 409), dE P "_law_told" 726 (.ref 416), dE P "_law_number" 736 (.ref 423), dE P "_law_path" 747 (.ref 430), dE P "_law_round" 762 (.ref 437), dE P "_law_cells" 778 (.ref 444), dE P "law" 784 (.ref 449)] 57 }
noncomputable def h12 (_ : Params) : Obj := { cls := .none, data := .fields #[.int 1 0, .int 0 0, .ref 20, .int 5 0, .int 0 0, .ref 27, .int 14 0, .int 0 0, .ref 55, .int 17 0, .int 0 0, .ref 67, .int 66 0, .int 0 0, .ref 165, .int 68 0, .int 0 0, .ref 172, .int 72 0, .int 0 0, .ref 179, .int 78 0, .int 0 0, .ref 186, .int 83 0, .int 0 0, .ref 193, .int 85 0, .int 0 0, .ref 200, .int 91 0, .int 0 0, .ref 208, .int 95 0, .int 0 0, .ref 231, .int 97 0, .int 0 0, .ref 238, .int 99 0, .int 0 0, .ref 245, .int 106 0, .int 0 0, .ref 252, .int 111 0, .int 0 0, .ref 259, .int 119 0, .int 0 0, .ref 266, .int 121 0, .int 0 0, .ref 273, .int 128 0, .int 0 0, .ref 280, .int 136 0, .int 0 0, .ref 287, .int 138 0, .int 0 0, .ref 294, .int 140 0, .int 0 0, .ref 301, .int 145 0, .int 0 0, .ref 308, .int 150 0, .int 0 0, .ref 315, .int 160 0, .int 0 0, .ref 321, .int 164 0, .int 0 0, .ref 327, .int 171 0, .int 0 0, .ref 335, .int 176 0, .int 0 0, .ref 342, .int 178 0, .int 0 0, .ref 347, .int 188 0, .int 0 0, .ref 354, .int 197 0, .int 0 0, .ref 361, .int 202 0, .int 0 0, .ref 368, .int 208 0, .int 0 0, .ref 375, .int 216 0, .int 0 0, .ref 380, .int 223 0, .int 0 0, .ref 386, .int 231 0, .int 0 0, .ref 391, .int 236 0, .int 0 0, .ref 396, .int 239 0, .int 0 0, .ref 401, .int 248 0, .int 0 0, .ref 408, .int 259 0, .int 0 0, .ref 415, .int 261 0, .int 0 0, .ref 422, .int 266 0, .int 0 0, .ref 429, .int 273 0, .int 0 0, .ref 436, .int 285 0, .int 0 0, .ref 443, .int 295 0, .int 0 0, .ref 448] }
noncomputable def h426 (_ : Params) : Obj := tpO #[.str "polygons" 740, .str "path" 741, .str "corners" 742, .str "x" 743, .str "y" 744]
noncomputable def h428 (_ : Params) : Obj := fn0 (stA 48) "_law_path"
noncomputable def h429 (_ : Params) : Obj := cdO #[.str "_law_path" 737, .str "_law_path" 738, .str "/claim/cut.py" 739, .int 266 0, .int 1 0, .int 0 0, .int 0 0, .int 3 0, .ref 424, .bool true, .int 181 0, .ref 425, .none, .ref 426, .ref 427, .ref 428, .int 745 0, .int 266 0, .str "/claim/cut.py" 746]
noncomputable def h430 (_ : Params) : Obj := fn1 (stA 48) "_law_path" (.none) "law_nn0218_01" 702 429
noncomputable def h433 (_ : Params) : Obj := tpO #[.str "polygons" 751, .str "x" 752, .str "y" 753, .str "total" 754, .str "corners" 755, .str "at" 756, .str "p" 757, .str "q" 758, .str "side" 759]
noncomputable def h435 (_ : Params) : Obj := fn0 (stA 49) "_law_round"
noncomputable def h436 (_ : Params) : Obj := cdO #[.str "_law_round" 748, .str "_law_round" 749, .str "/claim/cut.py" 750, .int 273 0, .int 3 0, .int 0 0, .int 0 0, .int 3 0, .ref 431, .bool true, .int 181 0, .ref 432, .none, .ref 433, .ref 434, .ref 435, .int 760 0, .int 273 0, .str "/claim/cut.py" 761]
noncomputable def h437 (_ : Params) : Obj := fn1 (stA 49) "_law_round" (.none) "law_nn0218_01" 702 436
noncomputable def h440 (_ : Params) : Obj := tpO #[.str "polygons" 766, .str "rule" 767, .str "width" 768, .str "height" 769, .str "found" 770, .str "row" 771, .str "y" 772, .str "text" 773, .str "column" 774, .str "total" 775]
noncomputable def h442 (_ : Params) : Obj := fn0 (stA 50) "_law_cells"
noncomputable def h443 (_ : Params) : Obj := cdO #[.str "_law_cells" 763, .str "_law_cells" 764, .str "/claim/cut.py" 765, .int 285 0, .int 4 0, .int 0 0, .int 0 0, .int 3 0, .ref 438, .bool true, .int 181 0, .ref 439, .none, .ref 440, .ref 441, .ref 442, .int 776 0, .int 285 0, .str "/claim/cut.py" 777]
noncomputable def h444 (_ : Params) : Obj := fn1 (stA 50) "_law_cells" (.none) "law_nn0218_01" 702 443
noncomputable def h447 (_ : Params) : Obj := fn0 (stA 51) "law"
noncomputable def h448 (_ : Params) : Obj := cdO #[.str "law" 779, .str "law" 780, .str "/claim/cut.py" 781, .int 295 0, .int 1 0, .int 0 0, .int 0 0, .int 3 0, .ref 445, .bool true, .int 181 0, .ref 446, .none, .none, .none, .ref 447, .int 782 0, .int 295 0, .str "/claim/cut.py" 783]
noncomputable def h449 (_ : Params) : Obj := fn1 (stA 51) "law" (.none) "law_nn0218_01" 702 448
noncomputable def hd.heap_39 (P : Params) : Frag := (nat_lit 2, h2 P) :: (nat_lit 3, h3 P) :: (nat_lit 15, emT) :: (nat_lit 17, h17 P) :: (nat_lit 18, emT) :: (nat_lit 20, h20 P) :: (nat_lit 21, h21 P) :: (nat_lit 22, h22 P) :: (nat_lit 29, h29 P) :: (nat_lit 30, emT) :: (nat_lit 32, h32 P) :: (nat_lit 33, emT) :: (nat_lit 35, h35 P) :: (nat_lit 36, h36 P) :: (nat_lit 37, emT) :: (nat_lit 39, h39 P) :: (nat_lit 40, emT) :: (nat_lit 42, h42 P) :: (nat_lit 43, h43 P) :: (nat_lit 44, h44 P) :: (nat_lit 45, h45 P) :: (nat_lit 46, h46 P) :: (nat_lit 47, h47 P) :: (nat_lit 50, h50 P) :: (nat_lit 57, emT) :: (nat_lit 58, h58 P) :: (nat_lit 59, h59 P) :: (nat_lit 69, emT) :: (nat_lit 71, h71 P) :: (nat_lit 72, emT) :: (nat_lit 74, h74 P) :: (nat_lit 75, h75 P) :: (nat_lit 76, emT) :: (nat_lit 78, h78 P) :: (nat_lit 79, emT) :: (nat_lit 81, h81 P) :: (nat_lit 82, h82 P) :: (nat_lit 83, emT) :: (nat_lit 85, h85 P) :: (nat_lit 86, emT) :: (nat_lit 88, h88 P) :: (nat_lit 89, h89 P) :: (nat_lit 90, emT) :: (nat_lit 92, h92 P) :: (nat_lit 93, emT) :: (nat_lit 95, h95 P) :: (nat_lit 96, h96 P) :: (nat_lit 97, emT) :: (nat_lit 99, h99 P) :: (nat_lit 100, emT) :: (nat_lit 102, h102 P) :: (nat_lit 103, h103 P) :: (nat_lit 104, emT) :: (nat_lit 106, h106 P) :: (nat_lit 107, emT) :: (nat_lit 109, h109 P) :: (nat_lit 110, h110 P) :: (nat_lit 111, emT) :: (nat_lit 113, h113 P) :: (nat_lit 114, emT) :: (nat_lit 116, h116 P) :: (nat_lit 117, h117 P) :: (nat_lit 118, emT) :: (nat_lit 120, h120 P) :: (nat_lit 121, emT) :: (nat_lit 123, h123 P) :: (nat_lit 124, h124 P) :: (nat_lit 125, emT) :: (nat_lit 127, h127 P) :: (nat_lit 128, emT) :: (nat_lit 130, h130 P) :: (nat_lit 131, h131 P) :: (nat_lit 132, emT) :: (nat_lit 134, h134 P) :: (nat_lit 135, emT) :: (nat_lit 137, h137 P) :: (nat_lit 138, h138 P) :: (nat_lit 139, emT) :: (nat_lit 141, h141 P) :: (nat_lit 142, emT) :: (nat_lit 144, h144 P) :: (nat_lit 145, h145 P) :: (nat_lit 146, emT) :: (nat_lit 148, h148 P) :: (nat_lit 149, emT) :: (nat_lit 151, h151 P) :: (nat_lit 152, h152 P) :: (nat_lit 153, h153 P) :: (nat_lit 154, h154 P) :: (nat_lit 155, h155 P) :: (nat_lit 156, h156 P) :: (nat_lit 157, h157 P) :: (nat_lit 160, emT) :: (nat_lit 162, h162 P) :: (nat_lit 163, emT) :: (nat_lit 165, h165 P) :: (nat_lit 166, h166 P) :: (nat_lit 167, emT) :: (nat_lit 169, h169 P) :: (nat_lit 170, emT) :: (nat_lit 172, h172 P) :: (nat_lit 173, h173 P) :: (nat_lit 174, emT) :: (nat_lit 176, h176 P) :: (nat_lit 177, emT) :: (nat_lit 179, h179 P) :: (nat_lit 180, h180 P) :: (nat_lit 181, emT) :: (nat_lit 183, h183 P) :: (nat_lit 184, emT) :: (nat_lit 186, h186 P) :: (nat_lit 187, h187 P) :: (nat_lit 188, emT) :: (nat_lit 190, h190 P) :: (nat_lit 191, emT) :: (nat_lit 193, h193 P) :: (nat_lit 194, h194 P) :: (nat_lit 195, emT) :: (nat_lit 197, h197 P) :: (nat_lit 198, emT) :: (nat_lit 200, h200 P) :: (nat_lit 201, h201 P) :: (nat_lit 202, h202 P) :: (nat_lit 210, emT) :: (nat_lit 211, h211 P) :: (nat_lit 212, emT) :: (nat_lit 214, h214 P) :: (nat_lit 215, emT) :: (nat_lit 217, h217 P) :: (nat_lit 218, h218 P) :: (nat_lit 219, h219 P) :: (nat_lit 220, h220 P) :: (nat_lit 221, h221 P) :: (nat_lit 222, h222 P) :: (nat_lit 223, h223 P) :: (nat_lit 226, emT) :: (nat_lit 228, h228 P) :: (nat_lit 229, emT) :: (nat_lit 231, h231 P) :: (nat_lit 232, h232 P) :: (nat_lit 233, emT) :: (nat_lit 235, h235 P) :: (nat_lit 236, emT) :: (nat_lit 238, h238 P) :: (nat_lit 239, h239 P) :: (nat_lit 240, emT) :: (nat_lit 242, h242 P) :: (nat_lit 243, emT) :: (nat_lit 245, h245 P) :: (nat_lit 246, h246 P) :: (nat_lit 247, emT) :: (nat_lit 249, h249 P) :: (nat_lit 250, emT) :: (nat_lit 252, h252 P) :: (nat_lit 253, h253 P) :: (nat_lit 254, emT) :: (nat_lit 256, h256 P) :: (nat_lit 257, emT) :: (nat_lit 259, h259 P) :: (nat_lit 260, h260 P) :: (nat_lit 261, emT) :: (nat_lit 263, h263 P) :: (nat_lit 264, emT) :: (nat_lit 266, h266 P) :: (nat_lit 267, h267 P) :: (nat_lit 268, emT) :: (nat_lit 270, h270 P) :: (nat_lit 271, emT) :: (nat_lit 273, h273 P) :: (nat_lit 274, h274 P) :: (nat_lit 275, emT) :: (nat_lit 277, h277 P) :: (nat_lit 278, emT) :: (nat_lit 280, h280 P) :: (nat_lit 281, h281 P) :: (nat_lit 282, emT) :: (nat_lit 284, h284 P) :: (nat_lit 285, emT) :: (nat_lit 287, h287 P) :: (nat_lit 288, h288 P) :: (nat_lit 289, emT) :: (nat_lit 291, h291 P) :: (nat_lit 292, emT) :: (nat_lit 294, h294 P) :: (nat_lit 295, h295 P) :: (nat_lit 296, emT) :: (nat_lit 298, h298 P) :: (nat_lit 299, emT) :: (nat_lit 301, h301 P) :: (nat_lit 302, h302 P) :: (nat_lit 303, emT) :: (nat_lit 305, h305 P) :: (nat_lit 306, emT) :: (nat_lit 308, h308 P) :: (nat_lit 309, h309 P) :: (nat_lit 310, emT) :: (nat_lit 312, h312 P) :: (nat_lit 313, emT) :: (nat_lit 315, h315 P) :: (nat_lit 316, h316 P) :: (nat_lit 317, h317 P) :: (nat_lit 318, emT) :: (nat_lit 321, h321 P) :: (nat_lit 322, h322 P) :: (nat_lit 323, h323 P) :: (nat_lit 324, emT) :: (nat_lit 327, h327 P) :: (nat_lit 328, h328 P) :: (nat_lit 329, h329 P) :: (nat_lit 330, emT) :: (nat_lit 332, h332 P) :: (nat_lit 333, emT) :: (nat_lit 335, h335 P) :: (nat_lit 336, h336 P) :: (nat_lit 337, emT) :: (nat_lit 339, h339 P) :: (nat_lit 340, emT) :: (nat_lit 342, h342 P) :: (nat_lit 343, h343 P) :: (nat_lit 344, emT) :: (nat_lit 347, h347 P) :: (nat_lit 348, h348 P) :: (nat_lit 349, emT) :: (nat_lit 351, h351 P) :: (nat_lit 352, emT) :: (nat_lit 354, h354 P) :: (nat_lit 355, h355 P) :: (nat_lit 356, emT) :: (nat_lit 358, h358 P) :: (nat_lit 359, emT) :: (nat_lit 361, h361 P) :: (nat_lit 362, h362 P) :: (nat_lit 363, emT) :: (nat_lit 365, h365 P) :: (nat_lit 366, emT) :: (nat_lit 368, h368 P) :: (nat_lit 369, h369 P) :: (nat_lit 370, emT) :: (nat_lit 372, h372 P) :: (nat_lit 373, emT) :: (nat_lit 375, h375 P) :: (nat_lit 376, h376 P) :: (nat_lit 377, emT) :: (nat_lit 380, h380 P) :: (nat_lit 381, h381 P) :: (nat_lit 382, h382 P) :: (nat_lit 383, emT) :: (nat_lit 386, h386 P) :: (nat_lit 387, h387 P) :: (nat_lit 388, emT) :: (nat_lit 391, h391 P) :: (nat_lit 392, h392 P) :: (nat_lit 393, emT) :: (nat_lit 396, h396 P) :: (nat_lit 397, h397 P) :: (nat_lit 398, emT) :: (nat_lit 401, h401 P) :: (nat_lit 402, h402 P) :: (nat_lit 403, emT) :: (nat_lit 405, h405 P) :: (nat_lit 406, emT) :: (nat_lit 408, h408 P) :: (nat_lit 409, h409 P) :: (nat_lit 424, emT) :: (nat_lit 426, h426 P) :: (nat_lit 427, emT) :: (nat_lit 429, h429 P) :: (nat_lit 430, h430 P) :: (nat_lit 431, emT) :: (nat_lit 433, h433 P) :: (nat_lit 434, emT) :: (nat_lit 436, h436 P) :: (nat_lit 437, h437 P) :: (nat_lit 438, emT) :: (nat_lit 440, h440 P) :: (nat_lit 441, emT) :: (nat_lit 443, h443 P) :: (nat_lit 444, h444 P) :: (nat_lit 445, emT) :: (nat_lit 448, h448 P) :: (nat_lit 449, h449 P) :: []
noncomputable def hd.view_39 : Program := { PySem.Challenge.rw_nn0218_01.row.toRowW.1 with main := { PySem.Challenge.rw_nn0218_01.row.toRowW.1.main with body := [stA 0, stA 2, stA 3, stA 5, stA 6, stA 7, stA 8, stA 9, stA 10, stA 11, stA 13, stA 14, stA 15, stA 16, stA 17, stA 18, stA 19, stA 20, stA 21, stA 22, stA 23, stA 24, stA 25, stA 26, stA 27, stA 28, stA 29, stA 33, stA 34, stA 35, stA 36, stA 37, stA 38, stA 39, stA 41, stA 42, stA 44, stA 45, stA 46, stA 47, stA 48, stA 49, stA 50, stA 51] } }
theorem hd.keys : ∀ P, [2, 3, 15, 17, 18, 20, 21, 22, 29, 30, 32, 33, 35, 36, 37, 39, 40, 42, 43, 44, 45, 46, 47, 50, 57, 58, 59, 69, 71, 72, 74, 75, 76, 78, 79, 81, 82, 83, 85, 86, 88, 89, 90, 92, 93, 95, 96, 97, 99, 100, 102, 103, 104, 106, 107, 109, 110, 111, 113, 114, 116, 117, 118, 120, 121, 123, 124, 125, 127, 128, 130, 131, 132, 134, 135, 137, 138, 139, 141, 142, 144, 145, 146, 148, 149, 151, 152, 153, 154, 155, 156, 157, 160, 162, 163, 165, 166, 167, 169, 170, 172, 173, 174, 176, 177, 179, 180, 181, 183, 184, 186, 187, 188, 190, 191, 193, 194, 195, 197, 198, 200, 201, 202, 210, 211, 212, 214, 215, 217, 218, 219, 220, 221, 222, 223, 226, 228, 229, 231, 232, 233, 235, 236, 238, 239, 240, 242, 243, 245, 246, 247, 249, 250, 252, 253, 254, 256, 257, 259, 260, 261, 263, 264, 266, 267, 268, 270, 271, 273, 274, 275, 277, 278, 280, 281, 282, 284, 285, 287, 288, 289, 291, 292, 294, 295, 296, 298, 299, 301, 302, 303, 305, 306, 308, 309, 310, 312, 313, 315, 316, 317, 318, 321, 322, 323, 324, 327, 328, 329, 330, 332, 333, 335, 336, 337, 339, 340, 342, 343, 344, 347, 348, 349, 351, 352, 354, 355, 356, 358, 359, 361, 362, 363, 365, 366, 368, 369, 370, 372, 373, 375, 376, 377, 380, 381, 382, 383, 386, 387, 388, 391, 392, 393, 396, 397, 398, 401, 402, 403, 405, 406, 408, 409, 424, 426, 427, 429, 430, 431, 433, 434, 436, 437, 438, 440, 441, 443, 444, 445, 448, 449] = (hd.heap_39 P).map (·.1) := fun P => by kernel_rfl
noncomputable abbrev hd.hook : Hook := kHook hd.heap_39 [2, 3, 15, 17, 18, 20, 21, 22, 29, 30, 32, 33, 35, 36, 37, 39, 40, 42, 43, 44, 45, 46, 47, 50, 57, 58, 59, 69, 71, 72, 74, 75, 76, 78, 79, 81, 82, 83, 85, 86, 88, 89, 90, 92, 93, 95, 96, 97, 99, 100, 102, 103, 104, 106, 107, 109, 110, 111, 113, 114, 116, 117, 118, 120, 121, 123, 124, 125, 127, 128, 130, 131, 132, 134, 135, 137, 138, 139, 141, 142, 144, 145, 146, 148, 149, 151, 152, 153, 154, 155, 156, 157, 160, 162, 163, 165, 166, 167, 169, 170, 172, 173, 174, 176, 177, 179, 180, 181, 183, 184, 186, 187, 188, 190, 191, 193, 194, 195, 197, 198, 200, 201, 202, 210, 211, 212, 214, 215, 217, 218, 219, 220, 221, 222, 223, 226, 228, 229, 231, 232, 233, 235, 236, 238, 239, 240, 242, 243, 245, 246, 247, 249, 250, 252, 253, 254, 256, 257, 259, 260, 261, 263, 264, 266, 267, 268, 270, 271, 273, 274, 275, 277, 278, 280, 281, 282, 284, 285, 287, 288, 289, 291, 292, 294, 295, 296, 298, 299, 301, 302, 303, 305, 306, 308, 309, 310, 312, 313, 315, 316, 317, 318, 321, 322, 323, 324, 327, 328, 329, 330, 332, 333, 335, 336, 337, 339, 340, 342, 343, 344, 347, 348, 349, 351, 352, 354, 355, 356, 358, 359, 361, 362, 363, 365, 366, 368, 369, 370, 372, 373, 375, 376, 377, 380, 381, 382, 383, 386, 387, 388, 391, 392, 393, 396, 397, 398, 401, 402, 403, 405, 406, 408, 409, 424, 426, 427, 429, 430, 431, 433, 434, 436, 437, 438, 440, 441, 443, 444, 445, 448, 449] hd.keys
end Mine
namespace Mine
open PySem PySem.W PySem.Calls PyProof.Rows
theorem nn {α : Type} {x : α} {C : Prop} (e : (none : Option α) = some x) : C := by cases e

/-- plain data -/
inductive D where
  | none
  | bool (b : Bool)
  | int (i : Int)
  | str (x : Str)
  | tup (ds : List D)
  | lst (ds : List D)
  | dec (t p : Int)
  | path (d : D)
  | raw (v : Value)

/-- a part of the heap that is not changed any more -/
noncomputable abbrev PM := Addr → Option Obj
noncomputable def PLe (P P' : PM) : Prop := ∀ b o, P b = some o → P' b = some o
noncomputable def PIn (P : PM) (h : Heap) : Prop := ∀ b o, P b = some o → h.get? b = some o
theorem PLe.refl (P : PM) : PLe P P := fun _ _ e => e
theorem PLe.trans {P Q R : PM} (x : PLe P Q) (y : PLe Q R) : PLe P R := fun b o e => y b o (x b o e)

noncomputable abbrev decO (w : World) (t p : Value) (k1 k2 : Tok) : Obj :=
  dictOf [⟨PyData.keyHash w.params (Str.ofString "top"), .str (Str.ofString "top") k1, t⟩, ⟨PyData.keyHash w.params (Str.ofString "places"), .str (Str.ofString "places") k2, p⟩] 2
noncomputable abbrev pathO (w : World) (v : Value) (k1 : Tok) : Obj :=
  dictOf [⟨PyData.keyHash w.params (Str.ofString "parts"), .str (Str.ofString "parts") k1, v⟩] 1

mutual
inductive DH (w : World) (P : PM) : Value → D → Prop
  | none : DH w P Value.none D.none
  | bool (b : Bool) : DH w P (Value.bool b) (D.bool b)
  | int (i : Int) (t : Tok) : DH w P (Value.int i t) (D.int i)
  | str (x : Str) (t : Tok) : DH w P (Value.str x t) (D.str x)
  | tup {a : Addr} {o : Obj} {vs : List Value} {n : Nat} {ds : List D} : P a = some o → o.cls = .type "tuple" → o.data = .seq vs.toArray n → DHs w P vs ds → DH w P (Value.ref a) (D.tup ds)
  | lst {a : Addr} {o : Obj} {vs : List Value} {n : Nat} {ds : List D} : P a = some o → o.cls = .type "list" → o.data = .seq vs.toArray n → DHs w P vs ds → DH w P (Value.ref a) (D.lst ds)
  | dec {a dx : Addr} {t p : Int} {t1 t2 k1 k2 : Tok} : P a = some (instObj 155 dx) → P dx = some (decO w (.int t t1) (.int p t2) k1 k2) → DH w P (Value.ref a) (D.dec t p)
  | path {a dx : Addr} {v : Value} {k1 : Tok} {d : D} : P a = some (instObj 221 dx) → P dx = some (pathO w v k1) → DH w P v d → DH w P (Value.ref a) (D.path d)
  | raw (v : Value) : handedIn v = true → DH w P v (D.raw v)
inductive DHs (w : World) (P : PM) : List Value → List D → Prop
  | nil : DHs w P [] []
  | cons {v : Value} {vs : List Value} {d : D} {ds : List D} : DH w P v d → DHs w P vs ds → DHs w P (v :: vs) (d :: ds)
end
theorem DH.mono {w : World} {P P' : PM} (hs : PLe P P') {v : Value} {d : D} (h : DH w P v d) : DH w P' v d :=
  DH.rec (motive_1 := fun v d _ => DH w P' v d) (motive_2 := fun vs ds _ => DHs w P' vs ds) .none .bool .int .str (fun h a b _ r => .tup (hs _ _ h) a b r) (fun h a b _ r => .lst (hs _ _ h) a b r) (fun h r => .dec (hs _ _ h) (hs _ _ r)) (fun h r _ q => .path (hs _ _ h) (hs _ _ r) q) (fun v h => .raw v h) .nil (fun _ _ h r => .cons h r) h
theorem DHs.mono {w : World} {P P' : PM} (hs : PLe P P') {vs : List Value} {ds : List D} (h : DHs w P vs ds) : DHs w P' vs ds :=
  DHs.rec (motive_1 := fun v d _ => DH w P' v d) (motive_2 := fun vs ds _ => DHs w P' vs ds) .none .bool .int .str (fun h a b _ r => .tup (hs _ _ h) a b r) (fun h a b _ r => .lst (hs _ _ h) a b r) (fun h r => .dec (hs _ _ h) (hs _ _ r)) (fun h r _ q => .path (hs _ _ h) (hs _ _ r) q) (fun v h => .raw v h) .nil (fun _ _ h r => .cons h r) h
section
variable {w : World} {P P' : PM} {v : Value} {d : D} {vs ws : List Value} {ds es : List D}
theorem DHs.length (h : DHs w P vs ds) : vs.length = ds.length := by
  induction vs generalizing ds with
  | nil => cases h; rfl
  | cons v vs ih =>
    cases h with
    | cons _ r => rw [List.length_cons, List.length_cons, ih r]
theorem DHs.append (h : DHs w P vs ds) (k : DHs w P ws es) : DHs w P (vs ++ ws) (ds ++ es) := by
  induction vs generalizing ds with
  | nil => cases h; exact k
  | cons v vs ih =>
    cases h with
    | cons h r => exact .cons h (ih r)
theorem DHs.one (h : DH w P v d) : DHs w P [v] [d] := .cons h .nil
theorem DHs.at (h : DHs w P vs ds) {k : Nat} {v : Value} (hk : vs[k]? = some v) : ∃ d, ds[k]? = some d ∧ DH w P v d := by
  induction vs generalizing ds k with
  | nil => first | exact nn hk | cases hk
  | cons u vs ih =>
    cases h with
    | cons h r =>
      cases k with
      | zero => cases hk; exact ⟨_, rfl, h⟩
      | succ k => exact ih r hk
theorem DHs.get (h : DHs w P vs ds) {k : Nat} {d : D} (hk : ds[k]? = some d) : ∃ v, vs[k]? = some v ∧ DH w P v d := by
  induction vs generalizing ds k with
  | nil => cases h; cases hk
  | cons u vs ih =>
    cases h with
    | cons h r =>
      cases k with
      | zero => cases hk; exact ⟨_, rfl, h⟩
      | succ k => exact ih r hk
theorem DHs.drop (h : DHs w P vs ds) (k : Nat) : DHs w P (vs.drop k) (ds.drop k) := by
  induction k generalizing vs ds with
  | zero => exact h
  | succ k ih =>
    cases h with
    | nil => exact .nil
    | cons _ r => exact ih r
theorem DHs.take (h : DHs w P vs ds) (k : Nat) : DHs w P (vs.take k) (ds.take k) := by
  induction k generalizing vs ds with
  | zero => exact .nil
  | succ k ih =>
    cases h with
    | nil => exact .nil
    | cons a r => exact .cons a (ih r)
end

/-- the heap grows, the kept part grows by new things alone -/
structure Grow (P : PM) (h : Heap) (P' : PM) (h' : Heap) : Prop where
  stay : h.StaysIn h'
  le : PLe P P'
  sub : PIn P' h'
  new : ∀ b o, P' b = some o → P b = some o ∨ h.get? b = none
theorem Grow.refl {P : PM} {h : Heap} (i : PIn P h) : Grow P h P h := ⟨fun _ _ e => e, .refl _, i, fun _ _ e => .inl e⟩
theorem Grow.trans {P Q R : PM} {h k l : Heap} (x : Grow P h Q k) (y : Grow Q k R l) : Grow P h R l :=
  ⟨fun b o e => y.stay b o (x.stay b o e), x.le.trans y.le, y.sub, fun b o e => by
    rcases y.new b o e with q | q
    · exact x.new b o q
    · refine .inr ?_
      cases r : h.get? b with
      | none => rfl
      | some o' => rw [x.stay b o' r] at q; cases q⟩
noncomputable def PM.put (P : PM) (a : Addr) (o : Obj) : PM := fun b => if b = a then some o else P b
theorem PM.put_self (P : PM) (a : Addr) (o : Obj) : P.put a o a = some o := by simp [PM.put]
theorem PM.put_le {P : PM} {a : Addr} {o : Obj} (n : P a = none) : PLe P (P.put a o) := fun b o' e => by
  unfold PM.put
  by_cases q : b = a
  · subst q; rw [n] at e; cases e
  · rw [if_neg q]; exact e
/-- an object that stands in the heap, and was not there before, joins the kept part -/
theorem Grow.add {P Q : PM} {h k : Heap} {a : Addr} {o : Obj} (x : Grow P h Q k) (n : Q a = none) (e : k.get? a = some o) (f : h.get? a = none) : Grow P h (Q.put a o) k :=
  ⟨x.stay, x.le.trans (PM.put_le n), fun b o' q => by
    unfold PM.put at q
    by_cases r : b = a
    · subst r; rw [if_pos rfl] at q; rw [← q]; exact e
    · rw [if_neg r] at q; exact x.sub b o' q,
   fun b o' q => by
    unfold PM.put at q
    by_cases r : b = a
    · subst r; exact .inr f
    · rw [if_neg r] at q; exact x.new b o' q⟩
theorem Grow.then {P Q : PM} {h k l : Heap} (x : Grow P h Q k) (s : k.StaysIn l) : Grow P h Q l := ⟨fun b o e => s b o (x.stay b o e), x.le, fun b o e => s b o (x.sub b o e), x.new⟩
theorem none_of_stays {h k : Heap} {a : Addr} (s : h.StaysIn k) (n : k.get? a = none) : h.get? a = none := by
  cases r : h.get? a with
  | none => rfl
  | some o' => rw [s a o' r] at n; cases n
theorem none_of_in {P : PM} {k : Heap} {a : Addr} (s : PIn P k) (n : k.get? a = none) : P a = none := by
  cases r : P a with
  | none => rfl
  | some o' => rw [s a o' r] at n; cases n
theorem get_size (h : Heap) : h.get? h.objs.size = none := by
  cases r : h.get? h.objs.size with
  | none => rfl
  | some o' => exact absurd (Heap.lt_size r) (Nat.lt_irrefl _)

structure Cx where
  w : World
  p : Program
  loose : List Str
  mean : ExcName → Option Value
  mg : Str → Option Value
  mb : Str → Option Value

noncomputable abbrev PG : Program := PySem.Challenge.rw_nn0218_01.row.prog
/-- the written part -/
noncomputable abbrev KPM (c : Cx) : PM := fun b => (hd.heap_39 c.w.params).lookup b
noncomputable abbrev NoE : Value → Shared → Prop := fun _ _ => False

structure HOK (c : Cx) (h : Heap) : Prop where
  X : (hd.heap_39 c.w.params).In h
  T : Top c.p c.loose c.mean c.mg c.mb h
theorem HOK.keeps {c : Cx} {h h' : Heap} (x : HOK c h) (s : h.StaysIn h') : HOK c h' := ⟨x.X.keeps s, x.T.keeps s⟩
structure AOK (A : Around) (nd nu : Nat) : Prop where
  hh : A.handled = none
  hd : A.depth + nd < recursionLimit
  hu : A.units + nu < cLine

/-- what a def does for every call: its spec on plain data -/
noncomputable def RCon (c : Cx) (nd nu : Nat) (f : Addr) (spec : List D → Option D) : Prop :=
  ∀ args ds d, spec ds = some d → ∀ (A : Around) (s : Shared) (P : PM) (Q : Value → Shared → Prop), AOK A nd nu → HOK c s.heap → PIn P s.heap → PLe (KPM c) P → DHs c.w P args ds →
    (∀ v P' h' tk', Grow P s.heap P' h' → DH c.w P' v d → Q v { s with heap := h', toks := tk' }) → wpAny (model PG c.w) A (call (.ref f) args) Q NoE s
theorem RCon.weaken {c : Cx} {nd nu nd' nu' : Nat} {f : Addr} {spec : List D → Option D} (h : RCon c nd nu f spec) (a : nd ≤ nd' := by decide) (b : nu ≤ nu' := by decide) : RCon c nd' nu' f spec :=
  fun args ds d e A s P Q ok => h args ds d e A s P Q ⟨ok.hh, by have := ok.hd; omega, by have := ok.hu; omega⟩
theorem RCon.spec_le {c : Cx} {nd nu : Nat} {f : Addr} {spec spec' : List D → Option D} (h : RCon c nd nu f spec) (e : ∀ ds d, spec' ds = some d → spec ds = some d) : RCon c nd nu f spec' :=
  fun args ds d x => h args ds d (e ds d x)

structure EnvOK (scope : Scope) (env : Env) : Prop where
  sc : env.scope = scope
  gl : env.globals = mainGlobals
  bi : env.builtins = builtinsNs
  kd : scope.kind = .function

/-- a name can be loaded, now and later -/
noncomputable def Ld (env : Env) (x : Str) (v : Value) (h : Heap) : Prop :=
  ∀ (M : Model) (A : Around) (Q E : Value → Shared → Prop) (s : Shared) (pos : Pos), h.StaysIn s.heap → Q v s → wpAny M A (eval (.Name x pos) env) Q E s
theorem Ld.keeps {env : Env} {x : Str} {v : Value} {h h' : Heap} (l : Ld env x v h) (s : h.StaysIn h') : Ld env x v h' := fun M A Q E st pos k => l M A Q E st pos fun b o e => k b o (s b o e)
noncomputable abbrev Vars := List (Option D)
structure Rd (c : Cx) (env : Env) (nm : List Str) (G : Vars) (P : PM) (h : Heap) : Prop where
  k : PLe (KPM c) P
  v : ∀ (i : Nat) (x : Str) (d : D), nm[i]? = some x → G[i]? = some (some d) → ∃ v, DH c.w P v d ∧ Ld env x v h ∧ ∀ a, env.kindOf x = some .cell → env.cells.lookup x = some a → h.IsCell a (some v)
  cd : ∀ x ∈ nm, env.kindOf x = some .cell → ∃ a, env.cells.lookup x = some a
theorem Rd.grow {c : Cx} {env : Env} {nm : List Str} {G : Vars} {P P' : PM} {h h' : Heap} (r : Rd c env nm G P h) (g : Grow P h P' h') : Rd c env nm G P' h' where
  k := r.k.trans g.le
  v := fun i x d a b =>
    let ⟨v, hv, l, e⟩ := r.v i x d a b
    ⟨v, hv.mono g.le, l.keeps g.stay, fun a p q => (e a p q).keeps g.stay⟩
  cd := r.cd

/-- an expression gives phi of the variables -/
noncomputable def SE (c : Cx) (nd nu : Nat) (scope : Scope) (nm : List Str) (e : Expr) (phi : Vars → Option D) : Prop :=
  ∀ (env : Env) (A : Around) (s : Shared) (P : PM) (G : Vars) (d : D) (Q : Value → Shared → Prop), EnvOK scope env → AOK A nd nu → HOK c s.heap → PIn P s.heap → Rd c env nm G P s.heap → phi G = some d →
    (∀ v P' h' tk', Grow P s.heap P' h' → DH c.w P' v d → Q v { s with heap := h', toks := tk' }) → wpAny (model PG c.w) A (eval e env) Q NoE s
/-- a test gives tau of the variables -/
noncomputable def ST (c : Cx) (nd nu : Nat) (scope : Scope) (nm : List Str) (e : Expr) (tau : Vars → Option Bool) : Prop :=
  ∀ (env : Env) (A : Around) (s : Shared) (P : PM) (G : Vars) (d : Bool) (Q : Bool → Shared → Prop), EnvOK scope env → AOK A nd nu → HOK c s.heap → PIn P s.heap → Rd c env nm G P s.heap → tau G = some d →
    (∀ P' h' tk', Grow P s.heap P' h' → Q d { s with heap := h', toks := tk' }) → wpAny (model PG c.w) A (isTrue e env (eval e env)) Q NoE s
/-- a list of arguments -/
noncomputable def SA (c : Cx) (nd nu : Nat) (scope : Scope) (nm : List Str) (es : List Expr) (phis : Vars → Option (List D)) : Prop :=
  ∀ (env : Env) (pos : Pos) (A : Around) (s : Shared) (P : PM) (G : Vars) (ds : List D) (Q : List Value → Shared → Prop), EnvOK scope env → AOK A nd nu → HOK c s.heap → PIn P s.heap → Rd c env nm G P s.heap → phis G = some ds →
    (∀ vs P' h' tk', Grow P s.heap P' h' → DHs c.w P' vs ds → Q vs { s with heap := h', toks := tk' }) → wpAny (model PG c.w) A (spliced (backTo pos (starEach es env))) Q NoE s

section
variable {c : Cx} {nd nu : Nat} {scope : Scope} {nm : List Str}
theorem wpNoE {α : Type} {M : Model} {A : Around} {t : Sem α} {Q : α → Shared → Prop} {E : Value → Shared → Prop} {s : Shared} (h : wpAny M A t Q NoE s) : wpAny M A t Q E s := wpAny_mono h (fun _ _ x => x) fun _ _ x => x.elim

theorem se_var {x : Str} {pos : Pos} (i : Nat) (hx : nm[i]? = some x) : SE c nd nu scope nm (.Name x pos) (fun G => (G[i]?).join) := by
  intro env A s P G d Q eo ao ho hp rd e q
  have e' : G[i]? = some (some d) := by
    have e : (G[i]?).join = some d := e
    cases r : G[i]? with
    | none => rw [r] at e; cases e
    | some o => rw [r] at e; cases o with | none => cases e | some d' => cases e; rfl
  obtain ⟨v, hv, l, _⟩ := rd.v i x d hx e'
  exact l _ _ _ _ _ _ (fun _ _ y => y) (q v P s.heap s.toks (.refl hp) hv)
theorem se_int {i : Int} {k : Nat} {pos : Pos} : SE c nd nu scope nm (.Constant (.int i) k pos) (fun _ => some (.int i)) := by
  intro env A s P G d Q eo ao ho hp rd e q
  cases e
  exact wpAny_Constant_int (q _ P s.heap _ (.refl hp) (.int _ _))
theorem se_str {x : Str} {k : Nat} {pos : Pos} : SE c nd nu scope nm (.Constant (.str x) k pos) (fun _ => some (.str x)) := by
  intro env A s P G d Q eo ao ho hp rd e q
  cases e
  exact Constant_str (q _ P s.heap _ (.refl hp) (.str _ _))
theorem se_none {k : Nat} {pos : Pos} : SE c nd nu scope nm (.Constant .none k pos) (fun _ => some .none) := by
  intro env A s P G d Q eo ao ho hp rd e q
  cases e
  exact fun _ _ _ => q _ P s.heap s.toks (.refl hp) .none

theorem sa_nil : SA c nd nu scope nm [] (fun _ => some []) := by
  intro env pos A s P G ds Q eo ao ho hp rd e q
  cases e
  exact spliced_nil (q [] P s.heap s.toks (.refl hp) .nil)
noncomputable def plainArg : Expr → Bool
  | .Starred .. => false
  | _ => true
theorem starEach_plain {e : Expr} {rest : List Expr} {env : Env} (h : plainArg e = true) : starEach (e :: rest) env = (false, eval e env) :: starEach rest env := by
  cases e <;> first | rfl | cases h
theorem sa_cons {e : Expr} {es : List Expr} {phi : Vars → Option D} {phis : Vars → Option (List D)} (h1 : SE c nd nu scope nm e phi) (h2 : SA c nd nu scope nm es phis) (hp : plainArg e = true := by rfl) :
    SA c nd nu scope nm (e :: es) (fun G => (phi G).bind fun d => (phis G).map fun ds => d :: ds) := by
  intro env pos A s P G ds Q eo ao ho hpi rd e' q
  obtain ⟨d, e1, e2⟩ := Option.bind_eq_some_iff.mp e'
  obtain ⟨ds', e3, rfl⟩ := Option.map_eq_some_iff.mp e2
  rw [starEach_plain hp]
  show wpAny _ _ (eval e env >>= fun v => _) _ _ _
  refine wpAny_bind (h1 env A s P G d _ eo ao ho hpi rd e1 fun v P1 h1' tk1 g1 hv => ?_)
  refine wpAny_bind (wpAny_pure ?_)
  refine wpAny_bind (wpAny_holding (h2 env pos A _ P1 G ds' _ eo ao (ho.keeps g1.stay) g1.sub (rd.grow g1) e3 fun vs P2 h2' tk2 g2 hvs => ?_))
  exact wpAny_pure (q (v :: vs) P2 h2' tk2 (g1.trans g2) (.cons (hv.mono g2.le) hvs))
end
end Mine
namespace Mine
open PySem PySem.W PySem.Calls PyProof.Rows

/-! binary operators -/
noncomputable def mulOk (a b : Int) : Prop := (-1000000000000 ≤ a ∧ a ≤ 1000000000000) ∨ (-1000000000000 ≤ b ∧ b ≤ 1000000000000)
noncomputable def bAdd (x y : D) : Option D := match x with
  | .int a => (match y with
    | .int b => some (.int (a + b))
    | _ => none)
  | .str a => (match y with
    | .str b => if a.length + b.length ≤ 1000 then some (.str (a ++ b)) else none
    | _ => none)
  | .tup a => (match y with
    | .tup b => if a.length + b.length ≤ 1000 then some (.tup (a ++ b)) else none
    | _ => none)
  | .lst a => (match y with
    | .lst b => if a.length + b.length ≤ 1000 then some (.lst (a ++ b)) else none
    | _ => none)
  | _ => none
theorem bAdd_i {a b : Int} : bAdd (.int a) (.int b) = some (.int (a + b)) := rfl
theorem bAdd_s {a b : Str} : bAdd (.str a) (.str b) = if a.length + b.length ≤ 1000 then some (.str (a ++ b)) else none := rfl
theorem bAdd_t {a b : List D} : bAdd (.tup a) (.tup b) = if a.length + b.length ≤ 1000 then some (.tup (a ++ b)) else none := rfl
theorem bAdd_l {a b : List D} : bAdd (.lst a) (.lst b) = if a.length + b.length ≤ 1000 then some (.lst (a ++ b)) else none := rfl
noncomputable def bSub : D → D → Option D
  | .int a, .int b => some (.int (a - b))
  | _, _ => none
open Classical in
noncomputable def bMul : D → D → Option D
  | .int a, .int b => if mulOk a b then some (.int (a * b)) else none
  | _, _ => none
noncomputable def bMod : D → D → Option D
  | .int a, .int b => if 0 < b then some (.int (a % b)) else none
  | _, _ => none
open Classical in
noncomputable def bDiv : D → D → Option D
  | .int a, .int b => if 0 < b ∧ b ≤ 1000000 then some (.int (a / b)) else none
  | _, _ => none
open Classical in
noncomputable def bPow : D → D → Option D
  | .int a, .int b => if 0 ≤ b ∧ b ≤ 1000 ∧ -1000 ≤ a ∧ a ≤ 1000 then some (.int (a ^ b.toNat)) else none
  | _, _ => none
noncomputable def bop : Operator → D → D → Option D
  | .Add => bAdd
  | .Sub => bSub
  | .Mult => bMul
  | .Mod => bMod
  | .FloorDiv => bDiv
  | .Pow => bPow
  | _ => fun _ _ => none

theorem tup_at {P : PM} {h : Heap} {a : Addr} {o : Obj} {vs : List Value} {n : Nat} (e : P a = some o) (c : o.cls = .type "tuple") (d : o.data = .seq vs.toArray n) (i : PIn P h) : IsTup h a vs.toArray := ⟨o, i a o e, c, n, d⟩
theorem lst_at {P : PM} {h : Heap} {a : Addr} {o : Obj} {vs : List Value} {n : Nat} (e : P a = some o) (c : o.cls = .type "list") (d : o.data = .seq vs.toArray n) (i : PIn P h) : h.IsList a vs.toArray := ⟨o, i a o e, c, n, d⟩

section
variable {w : World} {A : Around} {s : Shared} {P : PM} {Q : Value → Shared → Prop}
/-- a new tuple of known values -/
theorem grow_tup {vs : List Value} {ds : List D} (i : PIn P s.heap) (h : DHs w P vs ds)
    (q : ∀ v P' h' tk', Grow P s.heap P' h' → DH w P' v (.tup ds) → Q v { s with heap := h', toks := tk' }) :
    Q (.ref s.heap.objs.size) { s with heap := s.heap.push { cls := .type "tuple", data := .seq vs.toArray } } := by
  have n := none_of_in i (get_size s.heap)
  have g : Grow P s.heap (P.put s.heap.objs.size { cls := .type "tuple", data := .seq vs.toArray }) (s.heap.push { cls := .type "tuple", data := .seq vs.toArray }) :=
    Grow.add ((Grow.refl i).then fun b o e => Heap.get?_push_of_some _ e) n (Heap.get?_push_size _ rfl) (get_size _)
  exact q _ _ _ s.toks g (.tup (PM.put_self _ _ _) rfl rfl (h.mono g.le))
theorem grow_lst {vs : List Value} {ds : List D} (i : PIn P s.heap) (h : DHs w P vs ds)
    (q : ∀ v P' h' tk', Grow P s.heap P' h' → DH w P' v (.lst ds) → Q v { s with heap := h', toks := tk' }) :
    Q (.ref s.heap.objs.size) { s with heap := s.heap.push { cls := .type "list", data := .seq vs.toArray } } := by
  have n := none_of_in i (get_size s.heap)
  have g : Grow P s.heap (P.put s.heap.objs.size { cls := .type "list", data := .seq vs.toArray }) (s.heap.push { cls := .type "list", data := .seq vs.toArray }) :=
    Grow.add ((Grow.refl i).then fun b o e => Heap.get?_push_of_some _ e) n (Heap.get?_push_size _ rfl) (get_size _)
  exact q _ _ _ s.toks g (.lst (PM.put_self _ _ _) rfl rfl (h.mono g.le))

theorem le_line {n : Nat} (h : n ≤ 1000) : n ≤ sizeLine := by rw [sizeLine_eq]; omega

theorem DH.int_inv {w : World} {P : PM} {v : Value} {i : Int} (h : DH w P v (.int i)) : ∃ t, v = .int i t := by cases h; exact ⟨_, rfl⟩
theorem DH.str_inv {w : World} {P : PM} {v : Value} {i : Str} (h : DH w P v (.str i)) : ∃ t, v = .str i t := by cases h; exact ⟨_, rfl⟩
theorem DH.bool_inv {w : World} {P : PM} {v : Value} {i : Bool} (h : DH w P v (.bool i)) : v = .bool i := by cases h; rfl
theorem DH.none_inv {w : World} {P : PM} {v : Value} (h : DH w P v .none) : v = .none := by cases h; rfl
theorem DH.tup_inv {w : World} {P : PM} {v : Value} {ds : List D} (h : DH w P v (.tup ds)) : ∃ a o vs n, v = .ref a ∧ P a = some o ∧ o.cls = .type "tuple" ∧ o.data = .seq vs.toArray n ∧ DHs w P vs ds := by
  cases h with | tup a b c d => exact ⟨_, _, _, _, rfl, a, b, c, d⟩
theorem DH.lst_inv {w : World} {P : PM} {v : Value} {ds : List D} (h : DH w P v (.lst ds)) : ∃ a o vs n, v = .ref a ∧ P a = some o ∧ o.cls = .type "list" ∧ o.data = .seq vs.toArray n ∧ DHs w P vs ds := by
  cases h with | lst a b c d => exact ⟨_, _, _, _, rfl, a, b, c, d⟩

theorem str_zero {x : Str} (h : (x.length == 0) = true) : x = Str.empty := by
  apply Str.ext'
  have h1 : x.length = 0 := by simpa using h
  have h2 : x.cps.size = 0 := h1
  show x.cps = #[]
  exact Array.eq_empty_of_size_eq_zero h2
theorem add_str_ok {x y : Str} {t u : Tok} (hl : x.length + y.length ≤ 1000) (i : PIn P s.heap) (q : ∀ v P' h' tk', Grow P s.heap P' h' → DH w P' v (.str (x ++ y)) → Q v { s with heap := h', toks := tk' }) :
    wpAny (model PG w) A (binaryOp .Add (.str x t) (.str y u)) Q NoE s := by
  refine PySem.P.add_str ?_
  split
  · rename_i h0
    have hx := str_zero h0
    subst hx
    rw [Str.empty_append] at q
    exact q _ P s.heap s.toks (.refl i) (.str _ _)
  · split
    · rename_i h0
      have hy := str_zero h0
      subst hy
      have e0 : x ++ Str.empty = x := by apply Str.ext'; rw [Str.cps_append]; show x.cps ++ #[] = x.cps; simp
      rw [e0] at q
      exact q _ P s.heap s.toks (.refl i) (.str _ _)
    · refine ⟨?_, q _ P s.heap _ (.refl i) (.str _ _)⟩
      rw [Str.length_append]; exact le_line hl
theorem add_tup_ok {va vb : Value} {ds es : List D} (hl : ds.length + es.length ≤ 1000) (i : PIn P s.heap) (ha : DH w P va (.tup ds)) (hb : DH w P vb (.tup es)) (q : ∀ v P' h' tk', Grow P s.heap P' h' → DH w P' v (.tup (ds ++ es)) → Q v { s with heap := h', toks := tk' }) :
    wpAny (model PG w) A (binaryOp .Add va vb) Q NoE s := by
  obtain ⟨a1, o1, vs, n1, rfl, e1, k1, d1, p1⟩ := ha.tup_inv
  obtain ⟨a2, o2, ws, n2, rfl, e2, k2, d2, p2⟩ := hb.tup_inv
  have t1 := i _ _ e1
  have t2 := i _ _ e2
  obtain ⟨c1, dd1, da1, sl1⟩ := o1
  obtain ⟨c2, dd2, da2, sl2⟩ := o2
  dsimp only at k1 d1 k2 d2
  subst k1 d1 k2 d2
  by_cases hv : vs = []
  · subst hv
    cases p1
    exact concat_meets ⟨_, t1, rfl⟩ ⟨_, t2, rfl⟩ noFill_tuple_add seq_tuple_add PySem.F.slot_tuple_add PySem.F.entry_tuple_add (PySem.F.args_tuple_add_2 _ _)
      (tuple_addW0 _ _ _ _ _ _ _ _ _ _ (by simp)) ⟨t1, t2, q _ P s.heap s.toks (.refl i) hb⟩
  · by_cases hw : ws = []
    · subst hw
      cases p2
      rw [List.append_nil] at q
      exact concat_meets ⟨_, t1, rfl⟩ ⟨_, t2, rfl⟩ noFill_tuple_add seq_tuple_add PySem.F.slot_tuple_add PySem.F.entry_tuple_add (PySem.F.args_tuple_add_2 _ _)
        (tuple_addW1 _ _ _ _ _ _ _ _ _ _ (by simpa using hv) (by simp)) ⟨t1, t2, q _ P s.heap s.toks (.refl i) ha⟩
    · refine concat_meets ⟨_, t1, rfl⟩ ⟨_, t2, rfl⟩ noFill_tuple_add seq_tuple_add PySem.F.slot_tuple_add PySem.F.entry_tuple_add (PySem.F.args_tuple_add_2 _ _)
        (tuple_addW2 _ _ _ _ _ _ _ _ _ _ (by simpa using hv) (by simpa using hw) (by rw [List.size_toArray, List.size_toArray, p1.length, p2.length]; exact le_line hl)) ⟨t1, t2, ?_⟩
      have ee : vs.toArray ++ ws.toArray = (vs ++ ws).toArray := by simp
      rw [ee]
      exact grow_tup i (p1.append p2) q
theorem add_lst_ok {va vb : Value} {ds es : List D} (hl : ds.length + es.length ≤ 1000) (i : PIn P s.heap) (ha : DH w P va (.lst ds)) (hb : DH w P vb (.lst es)) (q : ∀ v P' h' tk', Grow P s.heap P' h' → DH w P' v (.lst (ds ++ es)) → Q v { s with heap := h', toks := tk' }) :
    wpAny (model PG w) A (binaryOp .Add va vb) Q NoE s := by
  obtain ⟨a1, o1, vs, n1, rfl, e1, k1, d1, p1⟩ := ha.lst_inv
  obtain ⟨a2, o2, ws, n2, rfl, e2, k2, d2, p2⟩ := hb.lst_inv
  have t1 := i _ _ e1
  have t2 := i _ _ e2
  obtain ⟨c1, dd1, da1, sl1⟩ := o1
  obtain ⟨c2, dd2, da2, sl2⟩ := o2
  dsimp only at k1 d1 k2 d2
  subst k1 d1 k2 d2
  refine concat_meets ⟨_, t1, rfl⟩ ⟨_, t2, rfl⟩ noFill_list_add seq_list_add PySem.F.slot_list_add PySem.F.entry_list_add (PySem.F.args_list_add_2 _ _)
    (list_addW _ _ _ _ _ _ _ _ _ _ (by rw [List.size_toArray, List.size_toArray, p1.length, p2.length]; exact le_line hl)) ⟨t1, t2, ?_⟩
  have ee : vs.toArray ++ ws.toArray = (vs ++ ws).toArray := by simp
  rw [ee]
  exact grow_lst i (p1.append p2) q

/-- an operator that knows whole numbers alone -/
theorem two_ints {op : Operator} {a b d : D} (h : ∀ a b d, bop op a b = some d → ∃ x y, a = D.int x ∧ b = D.int y) {va vb : Value} (e : bop op a b = some d) (ha : DH w P va a) (hb : DH w P vb b)
    {C : Prop} (q : ∀ x y t u, va = .int x t → vb = .int y u → bop op (.int x) (.int y) = some d → C) : C := by
  obtain ⟨x, y, rfl, rfl⟩ := h a b d e
  obtain ⟨t, rfl⟩ := ha.int_inv
  obtain ⟨u, rfl⟩ := hb.int_inv
  exact q x y t u rfl rfl e
theorem if_some {p : Prop} {i : Decidable p} {β : Type} {x d : β} (e : (if p then some x else none) = some d) : p ∧ x = d := by
  by_cases h : p
  · rw [if_pos h] at e; exact ⟨h, Option.some.inj e⟩
  · rw [if_neg h] at e; cases e
theorem no_sub (a b d : D) (e : bop .Sub a b = some d) : ∃ x y, a = D.int x ∧ b = D.int y := by
  cases a with
  | int x => cases b with
    | int y => exact ⟨x, y, rfl, rfl⟩
    | _ => exact nn e
  | _ => exact nn e
theorem no_mul (a b d : D) (e : bop .Mult a b = some d) : ∃ x y, a = D.int x ∧ b = D.int y := by
  cases a with
  | int x => cases b with
    | int y => exact ⟨x, y, rfl, rfl⟩
    | _ => exact nn e
  | _ => exact nn e
theorem no_mod (a b d : D) (e : bop .Mod a b = some d) : ∃ x y, a = D.int x ∧ b = D.int y := by
  cases a with
  | int x => cases b with
    | int y => exact ⟨x, y, rfl, rfl⟩
    | _ => exact nn e
  | _ => exact nn e
theorem no_div (a b d : D) (e : bop .FloorDiv a b = some d) : ∃ x y, a = D.int x ∧ b = D.int y := by
  cases a with
  | int x => cases b with
    | int y => exact ⟨x, y, rfl, rfl⟩
    | _ => exact nn e
  | _ => exact nn e
theorem no_pow (a b d : D) (e : bop .Pow a b = some d) : ∃ x y, a = D.int x ∧ b = D.int y := by
  cases a with
  | int x => cases b with
    | int y => exact ⟨x, y, rfl, rfl⟩
    | _ => exact nn e
  | _ => exact nn e

theorem bop_ok {op : Operator} {a b d : D} {va vb : Value} (e : bop op a b = some d) (i : PIn P s.heap) (ha : DH w P va a) (hb : DH w P vb b)
    (q : ∀ v P' h' tk', Grow P s.heap P' h' → DH w P' v d → Q v { s with heap := h', toks := tk' }) : wpAny (model PG w) A (binaryOp op va vb) Q NoE s := by
  have fin : ∀ x t, D.int x = d → Q (.int x t) { s with toks := s.toks + 1 } := fun x t h => by subst h; exact q _ P s.heap _ (.refl i) (.int _ _)
  cases op with
  | Add =>
    cases a with
    | int x => cases b with
      | int y =>
        obtain ⟨t, rfl⟩ := ha.int_inv
        obtain ⟨u, rfl⟩ := hb.int_inv
        exact PySem.P.add_int (fin _ _ (Option.some.inj e))
      | _ => exact nn e
    | str x => cases b with
      | str y =>
        obtain ⟨t, rfl⟩ := ha.str_inv
        obtain ⟨u, rfl⟩ := hb.str_inv
        obtain ⟨h, rfl⟩ := if_some e
        exact add_str_ok h i q
      | _ => exact nn e
    | tup x => cases b with
      | tup y =>
        obtain ⟨h, rfl⟩ := if_some e
        exact add_tup_ok h i ha hb q
      | _ => exact nn e
    | lst x => cases b with
      | lst y =>
        obtain ⟨h, rfl⟩ := if_some e
        exact add_lst_ok h i ha hb q
      | _ => exact nn e
    | _ => exact nn e
  | Sub =>
    refine two_ints no_sub e ha hb ?_
    rintro x y t u rfl rfl e
    exact PySem.P.sub_int (fin _ _ (Option.some.inj e))
  | Mult =>
    refine two_ints no_mul e ha hb ?_
    rintro x y t u rfl rfl e
    obtain ⟨hm, e⟩ := if_some e
    refine PySem.P.mul_int (fin _ _ e) ?_
    rcases hm with ⟨h1, h2⟩ | ⟨h1, h2⟩
    · exact PySem.IntMulOk.of_left (PySem.intBits_le_64 (by omega) (by omega))
    · exact PySem.IntMulOk.of_right (PySem.intBits_le_64 (by omega) (by omega))
  | Mod =>
    refine two_ints no_mod e ha hb ?_
    rintro x y t u rfl rfl e
    obtain ⟨hm, e⟩ := if_some e
    refine mod_int' (by omega) ?_
    rw [Int.fmod_eq_emod_of_nonneg _ (by omega)]
    exact fin _ _ e
  | Pow =>
    refine two_ints no_pow e ha hb ?_
    rintro x y t u rfl rfl e
    obtain ⟨hm, e⟩ := if_some e
    exact pow_int_small (by omega) (by omega) (by omega) (fin _ _ e)
  | FloorDiv =>
    refine two_ints no_div e ha hb ?_
    rintro x y t u rfl rfl e
    obtain ⟨hm, e⟩ := if_some e
    refine floordiv_int (by omega) ?_ (Or.inl (PyProof.noPylong_small (by omega)))
    rw [Int.fdiv_eq_ediv_of_nonneg _ (by omega)]
    exact fin _ _ e
  | _ => exact nn e
end
section
variable {c : Cx} {nd nu : Nat} {scope : Scope} {nm : List Str}
theorem se_bin {op : Operator} {l r : Expr} {pos : Pos} {f g : Vars → Option D} (h1 : SE c nd nu scope nm l f) (h2 : SE c nd nu scope nm r g) :
    SE c nd nu scope nm (.BinOp l op r pos) (fun G => (f G).bind fun a => (g G).bind fun b => bop op a b) := by
  intro env A s P G d Q eo ao ho hp rd e q
  obtain ⟨a, ea, e1⟩ := Option.bind_eq_some_iff.mp e
  obtain ⟨b, eb, e2⟩ := Option.bind_eq_some_iff.mp e1
  refine wpAny_BinOp (h1 env A s P G a _ eo ao ho hp rd ea fun va P1 k1 tk1 g1 hva => ?_)
  refine h2 env A _ P1 G b _ eo ao (ho.keeps g1.stay) g1.sub (rd.grow g1) eb fun vb P2 k2 tk2 g2 hvb => ?_
  exact bop_ok e2 g2.sub (hva.mono g2.le) hvb fun v P3 k3 tk3 g3 hv => q v P3 k3 tk3 ((g1.trans g2).trans g3) hv
theorem se_neg {x : Expr} {pos : Pos} {f : Vars → Option D} (h1 : SE c nd nu scope nm x f) :
    SE c nd nu scope nm (.UnaryOp .USub x pos) (fun G => (f G).bind fun | .int a => some (.int (-a)) | _ => none) := by
  intro env A s P G d Q eo ao ho hp rd e q
  obtain ⟨a, ea, e1⟩ := Option.bind_eq_some_iff.mp e
  refine wpAny_UnaryOp (h1 env A s P G a _ eo ao ho hp rd ea fun va P1 k1 tk1 g1 hva => ?_)
  cases a <;> first | exact nn e1 | skip
  cases e1
  obtain ⟨t, rfl⟩ := hva.int_inv
  exact PySem.P.neg_int (q _ P1 k1 _ g1 (.int _ _))
end
end Mine
namespace Mine
open PySem PySem.W PySem.Calls PySem.SeqAt PyProof.Rows

noncomputable def strsOf : List D → Option (List Str)
  | [] => some []
  | .str x :: r => (strsOf r).map (x :: ·)
  | _ => none
noncomputable def cInt (f : Int → Int → Bool) : D → D → Option Bool
  | .int a, .int b => some (f a b)
  | _, _ => none
noncomputable def tupNil : D → Option Bool
  | .tup [] => some true
  | _ => none
noncomputable def cEq (a : D) : D → Option Bool := match a with
  | .int a => fun | .int b => some (decide (a = b)) | _ => none
  | .str a => fun | .str b => some (decide (a = b)) | _ => none
  | .tup ds => fun b => (tupNil b).map fun _ => ds.isEmpty
  | .lst xs => fun | .lst ys => (strsOf xs).bind fun x => (strsOf ys).map fun y => decide (x = y) | _ => none
  | _ => fun _ => none
noncomputable def cNe (a : D) : D → Option Bool := match a with
  | .int a => fun | .int b => some (decide (a ≠ b)) | _ => none
  | .str a => fun | .str b => some (decide (a ≠ b)) | _ => none
  | .tup ds => fun b => (tupNil b).map fun _ => !ds.isEmpty
  | .lst xs => fun | .lst ys => (strsOf xs).bind fun x => (strsOf ys).map fun y => decide (x ≠ y) | _ => none
  | _ => fun _ => none
noncomputable def cIs (a : D) : D → Option Bool := match a with
  | .none => fun | .none => some true | _ => none
  | .tup _ => fun | .none => some false | _ => none
  | _ => fun _ => none
noncomputable def bcmp : CmpOp → D → D → Option Bool
  | .Eq => cEq
  | .NotEq => cNe
  | .Lt => cInt fun a b => decide (a < b)
  | .LtE => cInt fun a b => decide (a ≤ b)
  | .Gt => cInt fun a b => decide (a > b)
  | .GtE => cInt fun a b => decide (a ≥ b)
  | .Is => cIs
  | _ => fun _ _ => none

theorem str_beq (x y : Str) : (x.cps.toList == y.cps.toList) = decide (x = y) := by
  by_cases h : x = y
  · subst h; simp
  · rw [decide_eq_false h, beq_eq_false_iff_ne]
    intro e
    apply h
    apply Str.ext'
    exact Array.toList_inj.mp e
theorem str_bne (x y : Str) : (x.cps.toList != y.cps.toList) = decide (x ≠ y) := by
  unfold bne
  rw [str_beq]
  by_cases h : x = y <;> simp [h]

noncomputable def strVals : List Value → List Str → Prop
  | [], [] => True
  | v :: vs, x :: xs => (∃ t, v = .str x t) ∧ strVals vs xs
  | _, _ => False
theorem strVals_of {w : World} {P : PM} : ∀ {vs : List Value} {ds : List D} {xs : List Str}, DHs w P vs ds → strsOf ds = some xs → strVals vs xs := by
  intro vs ds
  induction ds generalizing vs with
  | nil => intro xs h e; cases h; cases e; trivial
  | cons d r ih =>
    intro xs h e
    cases h with | cons h1 h2 =>
    cases d with
    | str x =>
      obtain ⟨ys, e1, rfl⟩ := Option.map_eq_some_iff.mp e
      exact ⟨h1.str_inv, ih h2 e1⟩
    | _ => exact nn e
theorem strVals_len : ∀ {vs : List Value} {xs : List Str}, strVals vs xs → vs.length = xs.length
  | [], [], _ => rfl
  | _ :: vs, _ :: xs, h => by rw [List.length_cons, List.length_cons, strVals_len h.2]
theorem strVals_get : ∀ {vs : List Value} {xs : List Str}, strVals vs xs → ∀ j (h1 : j < vs.length) (h2 : j < xs.length), ∃ t, vs[j] = .str xs[j] t
  | _ :: _, _ :: _, h, 0, _, _ => h.1
  | _ :: vs, _ :: xs, h, j + 1, h1, h2 => strVals_get h.2 j (Nat.lt_of_succ_lt_succ h1) (Nat.lt_of_succ_lt_succ h2)
theorem all_range_eq (xs ys : List Str) (h : xs.length = ys.length) : ((List.range xs.length).all fun j => decide (xs[j]? = ys[j]?)) = decide (xs = ys) := by
  by_cases e : xs = ys
  · subst e; simp
  · rw [decide_eq_false e]
    rw [Bool.eq_false_iff]
    intro c
    apply e
    rw [List.all_eq_true] at c
    apply List.ext_getElem? fun j => ?_
    by_cases hj : j < xs.length
    · exact of_decide_eq_true (c j (List.mem_range.mpr hj))
    · rw [List.getElem?_eq_none (by omega), List.getElem?_eq_none (by omega)]

section
variable {w : World} {A : Around} {s : Shared} {P : PM} {Q : Value → Shared → Prop}
theorem rc_strs {l b : Addr} {vs ws : List Value} {xs ys : List Str} (hl : s.heap.IsList l vs.toArray) (hb : s.heap.IsList b ws.toArray) (hx : strVals vs xs) (hy : strVals ws ys) (hu : A.units < cLine) :
    RcAt A s (.ref l) (.ref b) (decide (xs = ys)) := by
  by_cases hn : xs.length = ys.length
  · have := RcAt.lists (A := A) (e := fun j => decide (xs[j]? = ys[j]?)) hl hb (by rw [List.size_toArray, List.size_toArray, strVals_len hx, strVals_len hy, hn]) hu (fun j h1 h2 => by
      have h1' : j < vs.length := by simpa using h1
      have h2' : j < ws.length := by simpa using h2
      obtain ⟨t, e1⟩ := strVals_get hx j h1' (strVals_len hx ▸ h1')
      obtain ⟨u, e2⟩ := strVals_get hy j h2' (strVals_len hy ▸ h2')
      have e3 : vs.toArray[j] = .str (xs[j]'(strVals_len hx ▸ h1')) t := by simpa using e1
      have e4 : ws.toArray[j] = .str (ys[j]'(strVals_len hy ▸ h2')) u := by simpa using e2
      rw [e3, e4]
      have := (PySem.MeetsSeq.EqGives.at (PySem.SeqRoads2.EqGives.str (xs[j]'(strVals_len hx ▸ h1')) (ys[j]'(strVals_len hy ▸ h2')) t u) A.in1 s)
      rw [str_beq] at this
      have e5 : decide (xs[j]? = ys[j]?) = decide (xs[j]'(strVals_len hx ▸ h1') = ys[j]'(strVals_len hy ▸ h2')) := by
        rw [List.getElem?_eq_getElem (strVals_len hx ▸ h1'), List.getElem?_eq_getElem (strVals_len hy ▸ h2')]
        simp
      rw [e5]
      exact this)
    rw [List.size_toArray, strVals_len hx, all_range_eq xs ys hn] at this
    exact this
  · have hne : xs ≠ ys := fun e => hn (by rw [e])
    rw [decide_eq_false hne]
    exact RcAt.lists_lengths hl hb (by rw [List.size_toArray, List.size_toArray, strVals_len hx, strVals_len hy]; simpa using hn) hu
theorem rcne_strs {l b : Addr} {vs ws : List Value} {xs ys : List Str} (hl : s.heap.IsList l vs.toArray) (hb : s.heap.IsList b ws.toArray) (hx : strVals vs xs) (hy : strVals ws ys) (hu : A.units < cLine) :
    RcNeAt A s (.ref l) (.ref b) (decide (xs ≠ ys)) := by
  by_cases hn : xs.length = ys.length
  · have := RcNeAt.lists (A := A) (e := fun j => decide (xs[j]? = ys[j]?)) hl hb (by rw [List.size_toArray, List.size_toArray, strVals_len hx, strVals_len hy, hn]) hu (fun j h1 h2 => by
      have h1' : j < vs.length := by simpa using h1
      have h2' : j < ws.length := by simpa using h2
      obtain ⟨t, e1⟩ := strVals_get hx j h1' (strVals_len hx ▸ h1')
      obtain ⟨u, e2⟩ := strVals_get hy j h2' (strVals_len hy ▸ h2')
      have e3 : vs.toArray[j] = .str (xs[j]'(strVals_len hx ▸ h1')) t := by simpa using e1
      have e4 : ws.toArray[j] = .str (ys[j]'(strVals_len hy ▸ h2')) u := by simpa using e2
      rw [e3, e4]
      have := (PySem.MeetsSeq.EqGives.at (PySem.SeqRoads2.EqGives.str (xs[j]'(strVals_len hx ▸ h1')) (ys[j]'(strVals_len hy ▸ h2')) t u) A.in1 s)
      rw [str_beq] at this
      have e5 : decide (xs[j]? = ys[j]?) = decide (xs[j]'(strVals_len hx ▸ h1') = ys[j]'(strVals_len hy ▸ h2')) := by
        rw [List.getElem?_eq_getElem (strVals_len hx ▸ h1'), List.getElem?_eq_getElem (strVals_len hy ▸ h2')]
        simp
      rw [e5]
      exact this)
    rw [List.size_toArray, strVals_len hx, all_range_eq xs ys hn] at this
    have e : (!decide (xs = ys)) = decide (xs ≠ ys) := by by_cases q : xs = ys <;> simp [q]
    rw [e] at this
    exact this
  · have hne : xs ≠ ys := fun e => hn (by rw [e])
    rw [decide_eq_true hne]
    exact RcNeAt.lists_lengths hl hb (by rw [List.size_toArray, List.size_toArray, strVals_len hx, strVals_len hy]; simpa using hn) hu

theorem tupNil_inv {b : D} {t : Bool} (e : tupNil b = some t) : b = .tup [] := by
  cases b with
  | tup ds => cases ds with
    | nil => rfl
    | cons => first | exact nn e | cases e
  | _ => first | exact nn e | cases e
theorem cEq_ok {a b : D} {va vb : Value} {r : Bool} (e : cEq a b = some r) (i : PIn P s.heap) (hu : A.units < cLine) (ha : DH w P va a) (hb : DH w P vb b) (q : Q (.bool r) s) :
    wpAny (model PG w) A (compareOp .Eq va vb) Q NoE s := by
  cases a with
  | int x =>
    cases b with
    | int y =>
      obtain ⟨t, rfl⟩ := ha.int_inv; obtain ⟨u, rfl⟩ := hb.int_inv; cases e
      refine PySem.P.eq_int ?_
      have z : (x == y) = decide (x = y) := by (by_cases h : x = y <;> simp [h])
      rw [z]; exact q
    | _ => first | exact nn e | cases e
  | str x =>
    cases b with
    | str y =>
      obtain ⟨t, rfl⟩ := ha.str_inv; obtain ⟨u, rfl⟩ := hb.str_inv; cases e
      refine PySem.P.eq_str ?_
      rw [str_beq]; exact q
    | _ => first | exact nn e | cases e
  | tup ds =>
    obtain ⟨t, et, rfl⟩ := Option.map_eq_some_iff.mp e
    have := tupNil_inv et; subst this
    obtain ⟨a1, o1, vs, n1, rfl, e1, k1, d1, p1⟩ := ha.tup_inv
    obtain ⟨a2, o2, ws, n2, rfl, e2, k2, d2, p2⟩ := hb.tup_inv
    cases p2
    refine eq_tupleAt (e := fun _ => true) (tup_at e1 k1 d1 i) (tup_at e2 k2 d2 i) hu (fun j h1 h2 => absurd h2 (Nat.not_lt_zero _)) ?_
    have z : ((List.range (min vs.toArray.size ([] : List Value).toArray.size)).all (fun _ => true) && vs.toArray.size == ([] : List Value).toArray.size) = ds.isEmpty := by
      rw [List.size_toArray, p1.length]
      cases ds <;> simp
    rw [z]; exact q
  | lst ds =>
    cases b with
    | lst es =>
      obtain ⟨xs, ex, e'⟩ := Option.bind_eq_some_iff.mp e
      obtain ⟨ys, ey, rfl⟩ := Option.map_eq_some_iff.mp e'
      obtain ⟨a1, o1, vs, n1, rfl, e1, k1, d1, p1⟩ := ha.lst_inv
      obtain ⟨a2, o2, ws, n2, rfl, e2, k2, d2, p2⟩ := hb.lst_inv
      exact rc_strs (lst_at e1 k1 d1 i) (lst_at e2 k2 d2 i) (strVals_of p1 ex) (strVals_of p2 ey) hu _ _ _ _ q
    | _ => first | exact nn e | cases e
  | _ => first | exact nn e | cases e
theorem cNe_ok {a b : D} {va vb : Value} {r : Bool} (e : cNe a b = some r) (i : PIn P s.heap) (hu : A.units < cLine) (ha : DH w P va a) (hb : DH w P vb b) (q : Q (.bool r) s) :
    wpAny (model PG w) A (compareOp .NotEq va vb) Q NoE s := by
  cases a with
  | int x =>
    cases b with
    | int y =>
      obtain ⟨t, rfl⟩ := ha.int_inv; obtain ⟨u, rfl⟩ := hb.int_inv; cases e
      refine PySem.P.ne_int ?_
      have z : (x != y) = decide (x ≠ y) := by (by_cases h : x = y <;> simp [h])
      rw [z]; exact q
    | _ => first | exact nn e | cases e
  | str x =>
    cases b with
    | str y =>
      obtain ⟨t, rfl⟩ := ha.str_inv; obtain ⟨u, rfl⟩ := hb.str_inv; cases e
      refine PySem.P.ne_str ?_
      rw [str_bne]; exact q
    | _ => first | exact nn e | cases e
  | tup ds =>
    obtain ⟨t, et, rfl⟩ := Option.map_eq_some_iff.mp e
    have := tupNil_inv et; subst this
    obtain ⟨a1, o1, vs, n1, rfl, e1, k1, d1, p1⟩ := ha.tup_inv
    obtain ⟨a2, o2, ws, n2, rfl, e2, k2, d2, p2⟩ := hb.tup_inv
    cases p2
    refine RcNeAt.tuples (e := fun _ => true) (tup_at e1 k1 d1 i) (tup_at e2 k2 d2 i) hu (fun j h1 h2 => absurd h2 (Nat.not_lt_zero _)) _ _ _ _ ?_
    have z : (!((List.range (min vs.toArray.size ([] : List Value).toArray.size)).all (fun _ => true) && vs.toArray.size == ([] : List Value).toArray.size)) = !ds.isEmpty := by
      rw [List.size_toArray, p1.length]
      cases ds <;> simp
    rw [z]; exact q
  | lst ds =>
    cases b with
    | lst es =>
      obtain ⟨xs, ex, e'⟩ := Option.bind_eq_some_iff.mp e
      obtain ⟨ys, ey, rfl⟩ := Option.map_eq_some_iff.mp e'
      obtain ⟨a1, o1, vs, n1, rfl, e1, k1, d1, p1⟩ := ha.lst_inv
      obtain ⟨a2, o2, ws, n2, rfl, e2, k2, d2, p2⟩ := hb.lst_inv
      exact rcne_strs (lst_at e1 k1 d1 i) (lst_at e2 k2 d2 i) (strVals_of p1 ex) (strVals_of p2 ey) hu _ _ _ _ q
    | _ => first | exact nn e | cases e
  | _ => first | exact nn e | cases e
theorem cInt_inv {f : Int → Int → Bool} {a b : D} {r : Bool} (e : cInt f a b = some r) : ∃ x y, a = .int x ∧ b = .int y ∧ r = f x y := by
  cases a with
  | int x => cases b with
    | int y => cases e; exact ⟨_, _, rfl, rfl, rfl⟩
    | _ => first | exact nn e | cases e
  | _ => first | exact nn e | cases e
theorem bcmp_ok {op : CmpOp} {a b : D} {va vb : Value} {r : Bool} (e : bcmp op a b = some r) (i : PIn P s.heap) (hu : A.units < cLine) (ha : DH w P va a) (hb : DH w P vb b) (q : Q (.bool r) s) :
    wpAny (model PG w) A (compareOp op va vb) Q NoE s := by
  cases op with
  | Eq => exact cEq_ok e i hu ha hb q
  | NotEq => exact cNe_ok e i hu ha hb q
  | Lt => obtain ⟨x, y, rfl, rfl, rfl⟩ := cInt_inv e; obtain ⟨t, rfl⟩ := ha.int_inv; obtain ⟨u, rfl⟩ := hb.int_inv; exact PySem.P.lt_int q
  | LtE => obtain ⟨x, y, rfl, rfl, rfl⟩ := cInt_inv e; obtain ⟨t, rfl⟩ := ha.int_inv; obtain ⟨u, rfl⟩ := hb.int_inv; exact PySem.P.le_int q
  | Gt => obtain ⟨x, y, rfl, rfl, rfl⟩ := cInt_inv e; obtain ⟨t, rfl⟩ := ha.int_inv; obtain ⟨u, rfl⟩ := hb.int_inv; exact PySem.P.gt_int q
  | GtE => obtain ⟨x, y, rfl, rfl, rfl⟩ := cInt_inv e; obtain ⟨t, rfl⟩ := ha.int_inv; obtain ⟨u, rfl⟩ := hb.int_inv; exact PySem.P.ge_int q
  | Is =>
    cases a with
    | none =>
      cases b with
      | none =>
        cases e
        have := ha.none_inv; subst this
        have := hb.none_inv; subst this
        exact wpAny_is_self rfl q
      | _ => first | exact nn e | cases e
    | tup ds =>
      cases b with
      | none =>
        cases e
        obtain ⟨a1, o1, vs, n1, rfl, e1, k1, d1, p1⟩ := ha.tup_inv
        have := hb.none_inv; subst this
        exact wpAny_is_other rfl (by intro h; cases h) q
      | _ => first | exact nn e | cases e
    | _ => first | exact nn e | cases e
  | _ => first | exact nn e | cases e
end
section
variable {c : Cx} {nd nu : Nat} {scope : Scope} {nm : List Str}
theorem AOK.u {A : Around} (a : AOK A nd nu) : A.units < cLine := by have := a.hu; omega
theorem se_cmp {op : CmpOp} {l r : Expr} {pos : Pos} {f g : Vars → Option D} (h1 : SE c nd nu scope nm l f) (h2 : SE c nd nu scope nm r g) (hm : behindInMarks op r = false := by with_unfolding_all rfl) :
    SE c nd nu scope nm (.Compare l [op] [r] pos) (fun G => (f G).bind fun a => (g G).bind fun b => (bcmp op a b).map D.bool) := by
  intro env A s P G d Q eo ao ho hp rd e q
  obtain ⟨a, ea, e1⟩ := Option.bind_eq_some_iff.mp e
  obtain ⟨b, eb, e2⟩ := Option.bind_eq_some_iff.mp e1
  obtain ⟨r, er, rfl⟩ := Option.map_eq_some_iff.mp e2
  refine wpAny_Compare1 (h1 env A s P G a _ eo ao ho hp rd ea fun va P1 k1 tk1 g1 hva => ?_) hm
  refine h2 env A _ P1 G b _ eo ao (ho.keeps g1.stay) g1.sub (rd.grow g1) eb fun vb P2 k2 tk2 g2 hvb => ?_
  exact bcmp_ok er g2.sub ao.u (hva.mono g2.le) hvb (q _ P2 k2 tk2 (g1.trans g2) (.bool _))
theorem st_cmp {op : CmpOp} {l r : Expr} {pos : Pos} {f g : Vars → Option D} (h1 : SE c nd nu scope nm l f) (h2 : SE c nd nu scope nm r g) (hm : behindInMarks op r = false := by with_unfolding_all rfl) :
    ST c nd nu scope nm (.Compare l [op] [r] pos) (fun G => (f G).bind fun a => (g G).bind fun b => bcmp op a b) := by
  intro env A s P G d Q eo ao ho hp rd e q
  obtain ⟨a, ea, e1⟩ := Option.bind_eq_some_iff.mp e
  obtain ⟨b, eb, er⟩ := Option.bind_eq_some_iff.mp e1
  refine wpAny_isTrue_Compare1 (h1 env A s P G a _ eo ao ho hp rd ea fun va P1 k1 tk1 g1 hva => ?_) hm
  refine h2 env A _ P1 G b _ eo ao (ho.keeps g1.stay) g1.sub (rd.grow g1) eb fun vb P2 k2 tk2 g2 hvb => ?_
  exact bcmp_ok er g2.sub ao.u (hva.mono g2.le) hvb (wpAny_truthy_bool (q P2 k2 tk2 (g1.trans g2)))
theorem st_chain {op op2 : CmpOp} {l r r2 : Expr} {pos : Pos} {f g k : Vars → Option D} (h1 : SE c nd nu scope nm l f) (h2 : SE c nd nu scope nm r g) (h3 : SE c nd nu scope nm r2 k)
    (hm : lastMarks [op, op2] [r, r2] = false := by with_unfolding_all rfl) :
    ST c nd nu scope nm (.Compare l [op, op2] [r, r2] pos) (fun G => (f G).bind fun a => (g G).bind fun b => (bcmp op a b).bind fun t => if t then (k G).bind fun d => bcmp op2 b d else some false) := by
  intro env A s P G d Q eo ao ho hp rd e q
  obtain ⟨a, ea, e1⟩ := Option.bind_eq_some_iff.mp e
  obtain ⟨b, eb, e2⟩ := Option.bind_eq_some_iff.mp e1
  obtain ⟨t, et, e3⟩ := Option.bind_eq_some_iff.mp e2
  refine isTrue_chain (h1 env A s P G a _ eo ao ho hp rd ea fun va P1 k1 tk1 g1 hva => ?_) hm
  refine test_link ?_
  refine h2 env A _ P1 G b _ eo ao (ho.keeps g1.stay) g1.sub (rd.grow g1) eb fun vb P2 k2 tk2 g2 hvb => ?_
  refine bcmp_ok et g2.sub ao.u (hva.mono g2.le) hvb (wpAny_truthy_bool ?_)
  have g12 := g1.trans g2
  cases t with
  | false => cases e3; exact q P2 k2 tk2 g12
  | true =>
    rw [if_pos rfl] at e3 ⊢
    obtain ⟨dd, ed, er⟩ := Option.bind_eq_some_iff.mp e3
    refine test_last ?_
    refine h3 env A _ P2 G dd _ eo ao (ho.keeps g12.stay) g2.sub (rd.grow g12) ed fun vd P3 k3 tk3 g3 hvd => ?_
    exact bcmp_ok er g3.sub ao.u (hvb.mono g3.le) hvd (wpAny_truthy_bool (q P3 k3 tk3 (g12.trans g3)))
theorem st_and {x y : Expr} {pos : Pos} {f g : Vars → Option Bool} (h1 : ST c nd nu scope nm x f) (h2 : ST c nd nu scope nm y g) :
    ST c nd nu scope nm (.BoolOp .And [x, y] pos) (fun G => (f G).bind fun a => if a then g G else some false) := by
  intro env A s P G d Q eo ao ho hp rd e q
  obtain ⟨a, ea, e1⟩ := Option.bind_eq_some_iff.mp e
  refine isTrue_and (h1 env A s P G a _ eo ao ho hp rd ea fun P1 k1 tk1 g1 => ?_)
  cases a with
  | false => cases e1; exact q P1 k1 tk1 g1
  | true =>
    rw [if_pos rfl] at e1 ⊢
    refine isTrue_and (h2 env A _ P1 G d _ eo ao (ho.keeps g1.stay) g1.sub (rd.grow g1) e1 fun P2 k2 tk2 g2 => ?_)
    have := q P2 k2 tk2 (g1.trans g2)
    cases d with
    | false => exact this
    | true => exact isTrue_and_nil this
theorem st_or {x y : Expr} {pos : Pos} {f g : Vars → Option Bool} (h1 : ST c nd nu scope nm x f) (h2 : ST c nd nu scope nm y g) :
    ST c nd nu scope nm (.BoolOp .Or [x, y] pos) (fun G => (f G).bind fun a => if a then some true else g G) := by
  intro env A s P G d Q eo ao ho hp rd e q
  obtain ⟨a, ea, e1⟩ := Option.bind_eq_some_iff.mp e
  refine isTrue_or (h1 env A s P G a _ eo ao ho hp rd ea fun P1 k1 tk1 g1 => ?_)
  cases a with
  | true => cases e1; exact q P1 k1 tk1 g1
  | false =>
    simp only [Bool.false_eq_true, if_false] at e1 ⊢
    refine isTrue_or (h2 env A _ P1 G d _ eo ao (ho.keeps g1.stay) g1.sub (rd.grow g1) e1 fun P2 k2 tk2 g2 => ?_)
    have := q P2 k2 tk2 (g1.trans g2)
    cases d with
    | true => exact this
    | false => exact isTrue_or_nil this
theorem st_val {x : Expr} {f : Vars → Option D} (h1 : SE c nd nu scope nm x f) (he : ∀ (env : Env) (whole : Sem Value), isTrue x env whole = (do let v ← whole; standAt x.pos; holding [v] (truthy v)) := by intro _ _; rfl) :
    ST c nd nu scope nm x (fun G => (f G).bind fun | .bool b => some b | _ => none) := by
  intro env A s P G d Q eo ao ho hp rd e q
  obtain ⟨a, ea, e1⟩ := Option.bind_eq_some_iff.mp e
  cases a <;> first | exact nn e1 | skip
  cases e1
  refine isTrue_plain (h1 env A s P G _ _ eo ao ho hp rd ea fun va P1 k1 tk1 g1 hva => ?_) (he _ _)
  have := hva.bool_inv; subst this
  exact wpAny_truthy_bool (q P1 k1 tk1 g1)
theorem se_ife {t x y : Expr} {pos : Pos} {f : Vars → Option Bool} {g k : Vars → Option D} (h1 : ST c nd nu scope nm t f) (h2 : SE c nd nu scope nm x g) (h3 : SE c nd nu scope nm y k) :
    SE c nd nu scope nm (.IfExp t x y pos) (fun G => (f G).bind fun b => if b then g G else k G) := by
  intro env A s P G d Q eo ao ho hp rd e q
  obtain ⟨a, ea, e1⟩ := Option.bind_eq_some_iff.mp e
  refine wpAny_IfExp (h1 env A s P G a _ eo ao ho hp rd ea fun P1 k1 tk1 g1 => ?_)
  cases a with
  | true =>
    rw [if_pos rfl] at e1 ⊢
    exact h2 env A _ P1 G d _ eo ao (ho.keeps g1.stay) g1.sub (rd.grow g1) e1 fun v P2 k2 tk2 g2 hv => q v P2 k2 tk2 (g1.trans g2) hv
  | false =>
    simp only [Bool.false_eq_true, if_false] at e1 ⊢
    exact h3 env A _ P1 G d _ eo ao (ho.keeps g1.stay) g1.sub (rd.grow g1) e1 fun v P2 k2 tk2 g2 hv => q v P2 k2 tk2 (g1.trans g2) hv
theorem se_tup {es : List Expr} {k : Nat} {pos : Pos} {f : Vars → Option (List D)} (h : SA c nd nu scope nm es f) :
    SE c nd nu scope nm (.Tuple es k pos) (fun G => (f G).bind fun ds => if ds.length ≤ 1000 then some (.tup ds) else none) := by
  intro env A s P G d Q eo ao ho hp rd e q
  obtain ⟨ds, ea, e1⟩ := Option.bind_eq_some_iff.mp e
  split at e1
  · rename_i hl
    cases e1
    refine wpAny_Tuple_spliced (h env pos A s P G ds _ eo ao ho hp rd ea fun vs P1 k1 tk1 g1 hvs => ⟨by rw [hvs.length]; exact le_line hl, ?_⟩)
    exact grow_tup (s := { s with heap := k1, toks := tk1 }) g1.sub hvs fun v P2 k2 tk2 g2 hv => q v P2 k2 tk2 (g1.trans g2) hv
  · first | exact nn e1 | cases e1
theorem se_lst {es : List Expr} {pos : Pos} {f : Vars → Option (List D)} (h : SA c nd nu scope nm es f) :
    SE c nd nu scope nm (.List es pos) (fun G => (f G).bind fun ds => if ds.length ≤ 1000 then some (.lst ds) else none) := by
  intro env A s P G d Q eo ao ho hp rd e q
  obtain ⟨ds, ea, e1⟩ := Option.bind_eq_some_iff.mp e
  split at e1
  · rename_i hl
    cases e1
    refine wpAny_List_spliced (h env pos A s P G ds _ eo ao ho hp rd ea fun vs P1 k1 tk1 g1 hvs => ⟨by rw [hvs.length]; exact le_line hl, ?_⟩)
    exact grow_lst (s := { s with heap := k1, toks := tk1 }) g1.sub hvs fun v P2 k2 tk2 g2 hv => q v P2 k2 tk2 (g1.trans g2) hv
  · first | exact nn e1 | cases e1

/-- an item by an int -/
noncomputable def bidxL (ds : List D) : D → Option D
  | .int k => if -1000 ≤ k ∧ k ≤ 1000 then (seqIndex? k ds.length).bind fun j => ds[j]? else none
  | _ => none
noncomputable def bidx : D → D → Option D
  | .tup ds => bidxL ds
  | .lst ds => bidxL ds
  | _ => fun _ => none
theorem bidxL_inv {ds : List D} {b d : D} (e : bidxL ds b = some d) : ∃ k j, b = .int k ∧ -1000 ≤ k ∧ k ≤ 1000 ∧ seqIndex? k ds.length = some j ∧ ds[j]? = some d := by
  cases b with
  | int k =>
    unfold bidxL at e
    dsimp only at e
    split at e
    · rename_i hk
      obtain ⟨j, ej, ed⟩ := Option.bind_eq_some_iff.mp e
      exact ⟨k, j, rfl, hk.1, hk.2, ej, ed⟩
    · first | exact nn e | cases e
  | _ => first | exact nn e | cases e
theorem seqIndex_inv {k : Int} {n j : Nat} (e : seqIndex? k n = some j) : (k < 0 ∧ -(n : Int) ≤ k ∧ j = (k + n).toNat) ∨ (0 ≤ k ∧ k < n ∧ j = k.toNat) := by
  unfold seqIndex? at e
  dsimp only at e
  by_cases h0 : k < 0
  · rw [if_pos h0] at e
    split at e
    · rename_i hb
      simp only [Bool.and_eq_true, decide_eq_true_eq] at hb
      cases e
      exact .inl ⟨h0, by omega, rfl⟩
    · first | exact nn e | cases e
  · rw [if_neg h0] at e
    split at e
    · rename_i hb
      simp only [Bool.and_eq_true, decide_eq_true_eq] at hb
      cases e
      exact .inr ⟨by omega, by omega, rfl⟩
    · first | exact nn e | cases e
theorem se_idx {v i : Expr} {pos : Pos} {f g : Vars → Option D} (h1 : SE c nd nu scope nm v f) (h2 : SE c nd nu scope nm i g)
    (hs : ∀ a k u, subscripted i false (.ref a) (.int k u) = operate [.ref a, .int k u] (getItem (.ref a) (.int k u)) := by intro _ _ _; with_unfolding_all rfl) :
    SE c nd nu scope nm (.Subscript v i pos) (fun G => (f G).bind fun a => (g G).bind fun b => bidx a b) := by
  intro env A s P G d Q eo ao ho hp rd e q
  obtain ⟨a, ea, e1⟩ := Option.bind_eq_some_iff.mp e
  obtain ⟨b, eb, er⟩ := Option.bind_eq_some_iff.mp e1
  refine Subscript_ (h1 env A s P G a _ eo ao ho hp rd ea fun va P1 k1 tk1 g1 hva => ?_)
  refine h2 env A _ P1 G b _ eo ao (ho.keeps g1.stay) g1.sub (rd.grow g1) eb fun vb P2 k2 tk2 g2 hvb => ?_
  have hva := hva.mono g2.le
  have g12 := g1.trans g2
  have fin : ∀ x, DH c.w P2 x d → Q x { s with heap := k2, toks := tk2 } := fun x hx => q x P2 k2 tk2 g12 hx
  cases a with
  | tup ds =>
    obtain ⟨k, j, rfl, b1, b2, ej, ed⟩ := bidxL_inv er
    obtain ⟨u, rfl⟩ := hvb.int_inv
    obtain ⟨a1, o1, vs, n1, rfl, e1, c1, d1, p1⟩ := hva.tup_inv
    obtain ⟨x, hx, hdx⟩ := p1.get ed
    have t := tup_at e1 c1 d1 g2.sub
    exact tail_any (s := { s with heap := k2, toks := tk2 }) t.typeIs slot_tuple_getitem.lookup (getItem_tuple (s := { s with heap := k2, toks := tk2 }) t (by omega) (by omega) (by rw [List.size_toArray, p1.length]; exact ej) (by simpa using hx) (fin x hdx)) (hs _ _ _)
  | lst ds =>
    obtain ⟨k, j, rfl, b1, b2, ej, ed⟩ := bidxL_inv er
    obtain ⟨u, rfl⟩ := hvb.int_inv
    obtain ⟨a1, o1, vs, n1, rfl, e1, c1, d1, p1⟩ := hva.lst_inv
    obtain ⟨x, hx, hdx⟩ := p1.get ed
    have t := lst_at e1 c1 d1 g2.sub
    rw [← p1.length] at ej
    rcases seqIndex_inv ej with ⟨h0, h1, rfl⟩ | ⟨h0, h1, rfl⟩
    · exact tail_any (s := { s with heap := k2, toks := tk2 }) t.typeIs slot_list_getitem.lookup (wpAny_getItem_list_neg (s := { s with heap := k2, toks := tk2 }) t h0 (by rw [List.size_toArray]; exact h1) (by omega) (by rw [List.size_toArray]; simpa using hx) (fin x hdx)) (hs _ _ _)
    · exact tail_any (s := { s with heap := k2, toks := tk2 }) t.typeIs slot_list_getitem.lookup (wpAny_getItem_list (s := { s with heap := k2, toks := tk2 }) t h0 (by omega) (by simpa using hx) (fin x hdx)) (hs _ _ _)
  | _ => first | exact nn er | cases er
end
end Mine
namespace Mine
open PySem PySem.W PySem.Calls PySem.SeqAt PyProof.Rows
theorem fill4 : PySem.Challenge.rw_nn0218_01 = PySem.Challenge.rw_nn0218_01 ∧ hd.heap_39 = hd.heap_39 := by k_fill; exact ⟨rfl, rfl⟩

section
variable {c : Cx} {nd nu : Nat} {scope : Scope} {nm : List Str}

theorem ld_glob {env : Env} {A : Around} {s : Shared} {x : Str} {pos : Pos} {v : Value} {Q E : Value → Shared → Prop} (eo : EnvOK scope env) (ho : HOK c s.heap) (hx : scope.names.lookup x = some .globalImplicit)
    (e : nsIn (hd.heap_39 c.w.params) mainGlobals x = some (some v)) (h : Q v s) (hdb : (x == ("__debug__" : Str)) = false := by decide) : wpAny (model PG c.w) A (eval (.Name x pos) env) Q E s :=
  Name_function_global (by rw [eo.sc]; exact eo.kd) (by show env.scope.names.lookup x = _; rw [eo.sc]; exact hx) (loadGlobal_global (by rw [eo.gl]; exact ho.T.g) (mg_of ho.X ho.T.g e) h) hdb
theorem ld_boot {env : Env} {A : Around} {s : Shared} {x : Str} {pos : Pos} {v : Value} {Q E : Value → Shared → Prop} (eo : EnvOK scope env) (ho : HOK c s.heap) (hx : scope.names.lookup x = some .globalImplicit)
    (e : nsIn (hd.heap_39 c.w.params) mainGlobals x = some none) (hv : bootBuiltins x = some v) (hn : x ≠ "__name__") (h : Q v s) (hdb : (x == ("__debug__" : Str)) = false := by decide) : wpAny (model PG c.w) A (eval (.Name x pos) env) Q E s :=
  Name_function_global (by rw [eo.sc]; exact eo.kd) (by show env.scope.names.lookup x = _; rw [eo.sc]; exact hx)
    (loadGlobal_builtin (by rw [eo.gl]; exact ho.T.g) (mg_none_of ho.X ho.T.g e) (by rw [eo.bi]; exact ho.T.b) ((ho.T.builtins x hn).trans hv) h) hdb

theorem se_gint {x : Str} {pos : Pos} {i : Int} {t : Tok} (hx : scope.names.lookup x = some .globalImplicit) (e : ∀ p, nsIn (hd.heap_39 p) mainGlobals x = some (some (.int i t)))
    (hdb : (x == ("__debug__" : Str)) = false := by decide) : SE c nd nu scope nm (.Name x pos) (fun _ => some (.int i)) := by
  intro env A s P G d Q eo ao ho hp rd ee q
  cases ee
  exact ld_glob eo ho hx (e _) (q _ P s.heap s.toks (.refl hp) (.int _ _)) hdb

theorem backTo_cons {pos : Pos} {e : Expr} {rest : List Expr} {env : Env} (h : plainArg e = true) : backTo pos (starEach (e :: rest) env) = (false, eval e env) :: backTo pos (starEach rest env) := by
  rw [starEach_plain h]; rfl
theorem plain_none {pos : Pos} {env : Env} : ∀ {es : List Expr}, es.all plainArg = true → (backTo pos (starEach es env)).any (·.1) = false
  | [], _ => rfl
  | e :: r, h => by
    rw [List.all_cons, Bool.and_eq_true] at h
    rw [backTo_cons h.1, List.any_cons, plain_none h.2]; rfl
theorem args_SA {es : List Expr} {f : Vars → Option (List D)} (h : SA c nd nu scope nm es f) (hpl : es.all plainArg = true) {env : Env} {pos : Pos} {A : Around} {s : Shared} {P : PM} {G : Vars} {ds : List D} {fv : Value} {Q : Args → Shared → Prop}
    (eo : EnvOK scope env) (ao : AOK A nd nu) (ho : HOK c s.heap) (hp : PIn P s.heap) (rd : Rd c env nm G P s.heap) (e : f G = some ds)
    (q : ∀ vs P' h' tk', Grow P s.heap P' h' → DHs c.w P' vs ds → Q ⟨vs, []⟩ { s with heap := h', toks := tk' }) : wpAny (model PG c.w) A (evalArgs fv true (backTo pos (starEach es env)) []) Q NoE s := by
  have z := h env pos A s P G ds (fun vs s' => Q ⟨vs, []⟩ s') eo ao ho hp rd e q
  cases es with
  | nil =>
    have z' : wpAny (model PG c.w) A (spliced []) (fun vs s' => Q ⟨vs, []⟩ s') NoE s := z
    show wpAny _ _ (evalArgs fv true [] []) _ _ _
    unfold evalArgs
    show wpAny _ _ (spliced [] >>= _) _ _ _
    refine wpAny_bind (wpAny_mono z' (fun vs s' h' => ?_) fun _ _ x => x)
    refine wpAny_bind (wpAny_pure ?_)
    refine wpAny_holding ?_
    exact wpAny_bind (wpAny_pure (wpAny_bind (wpAny_pure (wpAny_pure h'))))
  | cons x r =>
    rw [List.all_cons, Bool.and_eq_true] at hpl
    rw [backTo_cons hpl.1] at z ⊢
    exact evalArgs_plain z

/-- a call of a def, or of a class, of the text's by its name -/
theorem se_call {x : Str} {np pos : Pos} {es : List Expr} {a : Addr} {spec : List D → Option D} {f : Vars → Option (List D)} (hc : RCon c nd nu a spec) (hx : scope.names.lookup x = some .globalImplicit)
    (e : ∀ p, nsIn (hd.heap_39 p) mainGlobals x = some (some (.ref a))) (hk : ∀ p, keepIn (hd.heap_39 p) (.ref a) = true) (h : SA c nd nu scope nm es f) (hpl : es.all plainArg = true := by rfl) (hdb : (x == ("__debug__" : Str)) = false := by decide) :
    SE c nd nu scope nm (.Call (.Name x np) es [] pos) (fun G => (f G).bind spec) := by
  intro env A s P G d Q eo ao ho hp rd ee q
  obtain ⟨ds, e1, e2⟩ := Option.bind_eq_some_iff.mp ee
  refine wpAny_Call_NameR (ld_glob eo ho hx (e _) ?_ hdb)
  refine callWith_of (P := fun h => (hd.heap_39 c.w.params).In h) (by rw [plain_none hpl]; rfl) (keeps_K (hk _)) ?_
  refine args_SA h hpl eo ao ho hp rd e1 fun vs P1 k1 tk1 g1 hvs => ⟨ho.X.keeps g1.stay, ?_⟩
  exact hc vs ds d e2 A { s with heap := k1, toks := tk1 } P1 Q ao (ho.keeps g1.stay) g1.sub (rd.k.trans g1.le) hvs fun v P2 k2 tk2 g2 hv => q v P2 k2 tk2 (g1.trans g2) hv

theorem se_meth {o : Expr} {name : Str} {apos pos : Pos} {es : List Expr} {a : Addr} {spec : List D → Option D} {f : Vars → Option D} {g : Vars → Option (List D)} (hc : RCon c nd nu a spec) (h1 : SE c nd nu scope nm o f) (h : SA c nd nu scope nm es g)
    (k1 : ∀ p, findIn (hd.heap_39 p) (.ref 155) "__getattribute__" = some (some (.builtin "object.__getattribute__"))) (k2 : ∀ p, findIn (hd.heap_39 p) (.ref 155) "__getattr__" = some none)
    (k3 : ∀ p, findIn (hd.heap_39 p) (.ref 155) name = some (some (.ref a))) (k4 : ∀ p, typeIn (hd.heap_39 p) (.ref a) = some (.type "function"))
    (k5 : ∀ (w : World) t p k1 k2, shadowIn (some (decO w t p k1 k2)) name = some false) (hk : ∀ p, keepIn (hd.heap_39 p) (.ref a) = true)
    (hb : ∀ env, ∃ pl : Sem Bool, eval (.Call (.Attribute o name apos) es [] pos) env = (do
      let ov ← eval o env
      standAt apos.atName
      let (f, first) ← holding [ov] (getMethod ov name pl)
      callWith pos f first (backTo pos (starEach es env)) (backToKw pos (keywordEach [] env)))) (hpl : es.all plainArg = true := by rfl) :
    SE c nd nu scope nm (.Call (.Attribute o name apos) es [] pos) (fun G => (f G).bind fun d => match d with | .dec _ _ => (g G).bind fun ds => spec (d :: ds) | _ => none) := by
  intro env A s P G d Q eo ao ho hp rd ee q
  obtain ⟨pl, hb⟩ := hb env
  obtain ⟨d0, e1, e2⟩ := Option.bind_eq_some_iff.mp ee
  cases d0 with
  | dec t0 p0 =>
    obtain ⟨ds, e3, e4⟩ := Option.bind_eq_some_iff.mp e2
    refine methodCall_KW (pl := pl) (h1 env A s P G _ _ eo ao ho hp rd e1 fun v P1 h1' tk1 g1 hv => ?_) hb
    have hv0 := hv
    cases hv with
    | dec ha hx =>
      refine method_fn (s := { s with heap := h1', toks := tk1 }) (ho.X.keeps g1.stay) ⟨g1.sub _ _ ha, rfl, rfl, g1.sub _ _ hx⟩ (k1 _) (k2 _) (k3 _) (k4 _) (k5 _ _ _ _ _) ?_
      refine callWith_of (P := fun h => (hd.heap_39 c.w.params).In h) (by rw [plain_none hpl]; rfl) (keeps_K (hk _)) ?_
      refine args_SA h hpl eo ao (ho.keeps g1.stay) g1.sub (rd.grow g1) e3 fun vs P2 k2 tk2 g2 hvs => ⟨ho.X.keeps (g1.trans g2).stay, ?_⟩
      exact hc (_ :: vs) (_ :: ds) d e4 A { s with heap := k2, toks := tk2 } P2 Q ao (ho.keeps (g1.trans g2).stay) g2.sub ((rd.k.trans g1.le).trans g2.le) (.cons (hv0.mono g2.le) hvs) fun v P3 k3 tk3 g3 hv => q v P3 k3 tk3 ((g1.trans g2).trans g3) hv
  | _ => first | exact nn e2 | cases e2

theorem se_attr {v : Expr} {name : Str} {pos : Pos} {f : Vars → Option D} (pick : D → Option D) (h1 : SE c nd nu scope nm v f)
    (hpick : ∀ (w : World) (P : PM) (A : Around) (s : Shared) (Q E : Value → Shared → Prop) (x : Value) (d0 d : D) , (hd.heap_39 w.params).In s.heap → PIn P s.heap → DH w P x d0 → pick d0 = some d → (∀ y tk, DH w P y d → Q y { s with toks := tk }) → wpAny (model PG w) A (getAttr x name true) Q E s)
    (he : ∀ env, eval (.Attribute v name pos) env = (do
      let o ← eval v env
      standAt pos.atName
      let r ← holding [o] (getAttr o name true)
      letTemporaryGo v o r
      pure r) := by intro _; with_unfolding_all rfl) :
    SE c nd nu scope nm (.Attribute v name pos) (fun G => (f G).bind pick) := by
  intro env A s P G d Q eo ao ho hp rd ee q
  obtain ⟨d0, e1, e2⟩ := Option.bind_eq_some_iff.mp ee
  refine Attribute_any_ (h1 env A s P G _ _ eo ao ho hp rd e1 fun x P1 h1' tk1 g1 hx => ?_) (he env)
  exact hpick c.w P1 A { s with heap := h1', toks := tk1 } Q NoE x d0 d (ho.X.keeps g1.stay) g1.sub hx e2 fun y tk hy => q y P1 h1' tk g1 hy
noncomputable def pTop : D → Option D
  | .dec t _ => some (.int t)
  | _ => none
noncomputable def pPlaces : D → Option D
  | .dec _ p => some (.int p)
  | _ => none
noncomputable def pParts : D → Option D
  | .path d => some d
  | _ => none
theorem pTop_ok (w : World) (P : PM) (A : Around) (s : Shared) (Q E : Value → Shared → Prop) (x : Value) (d0 d : D) (X : (hd.heap_39 w.params).In s.heap) (i : PIn P s.heap) (h : DH w P x d0) (e : pTop d0 = some d) (q : ∀ y tk, DH w P y d → Q y { s with toks := tk }) :
    wpAny (model PG w) A (getAttr x (Str.ofString "top") true) Q E s := by
  cases h <;> first | exact nn e | skip
  rename_i ha hx
  cases e
  exact get_value X ⟨i _ _ ha, rfl, rfl, i _ _ hx⟩ (by k_is) (findObj_own (by k_is) (by k_is) (by k_is) rfl) rfl (q _ _ (.int _ _))
theorem pPlaces_ok (w : World) (P : PM) (A : Around) (s : Shared) (Q E : Value → Shared → Prop) (x : Value) (d0 d : D) (X : (hd.heap_39 w.params).In s.heap) (i : PIn P s.heap) (h : DH w P x d0) (e : pPlaces d0 = some d) (q : ∀ y tk, DH w P y d → Q y { s with toks := tk }) :
    wpAny (model PG w) A (getAttr x (Str.ofString "places") true) Q E s := by
  cases h <;> first | exact nn e | skip
  rename_i ha hx
  cases e
  exact get_value X ⟨i _ _ ha, rfl, rfl, i _ _ hx⟩ (by k_is) (findObj_own (by k_is) (by k_is) (by k_is) rfl) rfl (q _ _ (.int _ _))
theorem DH.handed {w : World} {P : PM} {v : Value} {d : D} (h : DH w P v d) : handedIn v = true := by cases h <;> first | rfl | assumption
theorem pParts_ok (w : World) (P : PM) (A : Around) (s : Shared) (Q E : Value → Shared → Prop) (x : Value) (d0 d : D) (X : (hd.heap_39 w.params).In s.heap) (i : PIn P s.heap) (h : DH w P x d0) (e : pParts d0 = some d) (q : ∀ y tk, DH w P y d → Q y { s with toks := tk }) :
    wpAny (model PG w) A (getAttr x (Str.ofString "parts") true) Q E s := by
  cases h <;> first | exact nn e | skip
  rename_i ha hx hv
  cases e
  exact get_value X ⟨i _ _ ha, rfl, rfl, i _ _ hx⟩ (by k_is) (findObj_own (by k_is) (by k_is) (by k_is) rfl) hv.handed (q _ _ hv)
end
end Mine
namespace Mine
open PySem PySem.W PySem.Calls PySem.SeqAt PyProof.Rows

noncomputable abbrev Own := Option (Nat × List D)
noncomputable abbrev St := Vars × Own

structure VOK (scope : Scope) (nm : List Str) : Prop where
  kind : ∀ x ∈ nm, scope.names.lookup x = some .local ∨ scope.names.lookup x = some .cell
  dbg : ∀ x ∈ nm, (x == ("__debug__" : Str)) = false
  inj : nm.Nodup
theorem nodup_same {x : Str} : ∀ {nm : List Str}, nm.Nodup → ∀ {i j : Nat}, nm[i]? = some x → nm[j]? = some x → i = j
  | [], _, _, _, a, _ => by cases a
  | y :: r, n, 0, 0, _, _ => rfl
  | y :: r, n, 0, j + 1, a, b => by
    have : y = x := by simpa using a
    subst this
    have : y ∈ r := List.mem_of_getElem? (by simpa using b)
    exact absurd this (List.nodup_cons.mp n).1
  | y :: r, n, i + 1, 0, a, b => by
    have : y = x := by simpa using b
    subst this
    have : y ∈ r := List.mem_of_getElem? (by simpa using a)
    exact absurd this (List.nodup_cons.mp n).1
  | y :: r, n, i + 1, j + 1, a, b => congrArg (· + 1) (nodup_same (List.nodup_cons.mp n).2 (by simpa using a) (by simpa using b))
theorem VOK.same {scope : Scope} {nm : List Str} (V : VOK scope nm) {i j : Nat} {x : Str} (a : nm[i]? = some x) (b : nm[j]? = some x) : i = j := nodup_same V.inj a b

structure FS (c : Cx) (scope : Scope) (nm : List Str) (env : Env) (h₀ : Heap) (P₀ P : PM) (G : Vars) (ow : Own) (l : Addr) (m : Str → Option Value) (h : Heap) : Prop where
  stay : h₀.StaysIn h
  le : PLe P₀ P
  sub : PIn P h
  new : ∀ b o, P b = some o → P₀ b = some o ∨ h₀.get? b = none
  ns : h.Ns env.locals m
  Ln : h₀.get? env.locals = none
  PL : P env.locals = none
  vars : ∀ (i : Nat) (x : Str) (d : D), nm[i]? = some x → scope.names.lookup x = some .local → G[i]? = some (some d) → ∃ v, m x = some v ∧ DH c.w P v d
  cells : ∀ x a, env.cells.lookup x = some a → h₀.get? a = none ∧ P a = none ∧ a ≠ env.locals ∧ ∃ ov, h.IsCell a ov ∧ ∀ (i : Nat) (d : D), nm[i]? = some x → G[i]? = some (some d) → ∃ v, ov = some v ∧ DH c.w P v d
  ckind : ∀ x a, env.cells.lookup x = some a → scope.names.lookup x = some .cell
  cinj : ∀ x y a, env.cells.lookup x = some a → env.cells.lookup y = some a → x = y
  cdef : ∀ x ∈ nm, scope.names.lookup x = some .cell → ∃ a, env.cells.lookup x = some a
  own : ∀ (i : Nat) (ds : List D), ow = some (i, ds) → ∃ x vs, nm[i]? = some x ∧ scope.names.lookup x = some .local ∧ m x = some (.ref l) ∧ h.PlainList l vs.toArray ∧ DHs c.w P vs ds ∧ h₀.get? l = none ∧ P l = none ∧ l ≠ env.locals ∧ ∀ x, env.cells.lookup x ≠ some l
  lin : ∃ o, h.get? l = some o
  kle : PLe (KPM c) P

noncomputable def Kx (env : Env) (l : Addr) (h h' : Heap) : Prop := ∀ b o, h.get? b = some o → b ≠ env.locals → b ≠ l → (∀ x, env.cells.lookup x ≠ some b) → h'.get? b = some o
theorem Kx.of {env : Env} {l : Addr} {h h' : Heap} (s : h.StaysIn h') : Kx env l h h' := fun b o e _ _ _ => s b o e
theorem some_ne_none {h : Heap} {a b : Addr} (x : ∃ o, h.get? a = some o) (y : h.get? b = none) : a ≠ b := by
  rintro rfl
  obtain ⟨o, e⟩ := x
  rw [e] at y; cases y
noncomputable def FlowIs (c : Cx) (P : PM) (r : Option D) (fl : Flow) : Prop := match r with
  | none => fl = .next
  | some d => ∃ v, fl = .ret v ∧ DH c.w P v d

section
variable {c : Cx} {nd nu : Nat} {scope : Scope} {nm : List Str} {env : Env} {h₀ h h' : Heap} {P₀ P P' : PM} {G : Vars} {ow : Own} {l : Addr} {m : Str → Option Value}
theorem FS.rd (F : FS c scope nm env h₀ P₀ P G ow l m h) (eo : EnvOK scope env) (V : VOK scope nm) : Rd c env nm G P h where
  k := F.kle
  v := by
    intro i x d hx hg
    have hmem : x ∈ nm := List.mem_of_getElem? hx
    have hk : env.scope.kind = .function := by rw [eo.sc]; exact eo.kd
    rcases V.kind x hmem with hl | hl
    · obtain ⟨v, hv, hd⟩ := F.vars i x d hx hl hg
      refine ⟨v, hd, fun M A Q E s pos k hq => wpAny_Name (wpAny_loadName_local hk (by show env.scope.names.lookup x = _; rw [eo.sc]; exact hl) (F.ns.keeps k) hv hq) (V.dbg x hmem), fun a e _ => ?_⟩
      rw [show env.kindOf x = some .local by show env.scope.names.lookup x = _; rw [eo.sc]; exact hl] at e; cases e
    · obtain ⟨a, ha⟩ := F.cdef x hmem hl
      obtain ⟨_, _, _, ov, hc, hv⟩ := F.cells x a ha
      obtain ⟨v, rfl, hd⟩ := hv i d hx hg
      exact ⟨v, hd, fun M A Q E s pos k hq => wpAny_Name (wpAny_loadName_cell hk (by show env.scope.names.lookup x = _; rw [eo.sc]; exact hl) ha (hc.keeps k) hq) (V.dbg x hmem), fun b _ e => by rw [ha] at e; cases e; exact hc⟩
  cd := fun x hx e => F.cdef x hx (by rw [← eo.sc]; exact e)

theorem grow_none {a : Addr} (g : Grow P h P' h') (n : P a = none) (e : ∃ o, h.get? a = some o) : P' a = none := by
  cases q : P' a with
  | none => rfl
  | some o =>
    rcases g.new a o q with r | r
    · rw [n] at r; cases r
    · obtain ⟨o', e⟩ := e; rw [e] at r; cases r
theorem Ns.some {a : Addr} (x : h.Ns a m) : ∃ o, h.get? a = some o := let ⟨o, _, _, e, _⟩ := x; ⟨o, e⟩
theorem IsCell.some {a : Addr} {v : Option Value} (x : h.IsCell a v) : ∃ o, h.get? a = some o := let ⟨o, e, _⟩ := x; ⟨o, e⟩
theorem Plain.some {a : Addr} {v : Array Value} (x : h.PlainList a v) : ∃ o, h.get? a = some o := let ⟨_, e⟩ := x; ⟨_, e⟩
theorem FS.grow (F : FS c scope nm env h₀ P₀ P G ow l m h) (g : Grow P h P' h') : FS c scope nm env h₀ P₀ P' G ow l m h' where
  stay := fun b o e => g.stay b o (F.stay b o e)
  le := F.le.trans g.le
  sub := g.sub
  new := fun b o e => by
    rcases g.new b o e with r | r
    · exact F.new b o r
    · exact .inr (none_of_stays F.stay r)
  ns := F.ns.keeps g.stay
  Ln := F.Ln
  PL := grow_none g F.PL (Ns.some F.ns)
  vars := fun i x d a b e => let ⟨v, p, q⟩ := F.vars i x d a b e; ⟨v, p, q.mono g.le⟩
  cells := fun x a e => by
    obtain ⟨h1, h2, h3, ov, h4, h5⟩ := F.cells x a e
    exact ⟨h1, grow_none g h2 (IsCell.some h4), h3, ov, h4.keeps g.stay, fun i d p q => let ⟨v, r, t⟩ := h5 i d p q; ⟨v, r, t.mono g.le⟩⟩
  ckind := F.ckind
  cinj := F.cinj
  cdef := F.cdef
  own := fun i ds e => by
    obtain ⟨x, vs, h1, h2, h3, h4, h5, h6, h7, h8⟩ := F.own i ds e
    exact ⟨x, vs, h1, h2, h3, h4.at fun o q => g.stay _ o q, h5.mono g.le, h6, grow_none g h7 (Plain.some h4), h8⟩
  lin := let ⟨o, e⟩ := F.lin; ⟨o, g.stay _ _ e⟩
  kle := F.kle.trans g.le
theorem FS.pin (F : FS c scope nm env h₀ P₀ P G ow l m h) : PIn P h := F.sub

noncomputable def dropOwn (i : Nat) (ow : Own) : Own := match ow with
  | some (j, ds) => if i = j then none else some (j, ds)
  | none => none
theorem dropOwn_inv {i j : Nat} {ow : Own} {ds : List D} (e : dropOwn i ow = some (j, ds)) : ow = some (j, ds) ∧ i ≠ j := by
  cases ow with
  | none => first | exact nn e | cases e
  | some p =>
    obtain ⟨k, es⟩ := p
    unfold dropOwn at e
    dsimp only at e
    split at e
    · first | exact nn e | cases e
    · rename_i n; cases e; exact ⟨rfl, n⟩

theorem set_inv {i j : Nat} {a : Option D} {d : D} (e : (G.set i a)[j]? = some (some d)) : (i = j ∧ a = some d) ∨ (i ≠ j ∧ G[j]? = some (some d)) := by
  rw [List.getElem?_set] at e
  by_cases h : i = j
  · rw [if_pos h] at e
    split at e
    · cases e; exact .inl ⟨h, rfl⟩
    · first | exact nn e | cases e
  · rw [if_neg h] at e; exact .inr ⟨h, e⟩

/-- a name of the frame is stored -/
theorem FS.store {A : Around} {s : Shared} {E : Value → Shared → Prop} {i : Nat} {x : Str} {v : Value} {a : Option D} {Q : Unit → Shared → Prop} (F : FS c scope nm env h₀ P₀ P G ow l m s.heap) (eo : EnvOK scope env) (V : VOK scope nm) (hx : nm[i]? = some x)
    (hv : ∀ d, a = some d → DH c.w P v d)
    (q : ∀ m' h' tk', FS c scope nm env h₀ P₀ P (G.set i a) (dropOwn i ow) l m' h' → Kx env l s.heap h' → (scope.names.lookup x = some .local → m' x = some v ∧ ∀ y, y ≠ x → m' y = m y) → (∀ b o, b ≠ env.locals → (∀ y, env.cells.lookup y ≠ some b) → s.heap.get? b = some o → h'.get? b = some o) → Q () { s with heap := h', toks := tk' }) :
    wpAny (model PG c.w) A (storeName env x v) Q E s := by
  have hmem : x ∈ nm := List.mem_of_getElem? hx
  have hk : env.scope.kind = .function := by rw [eo.sc]; exact eo.kd
  rcases V.kind x hmem with hl | hl
  · refine wpAny_storeName_local (by show env.scope.names.lookup x = _; rw [eo.sc]; exact hl) F.ns (fun h' hn hs => ?_) (by rw [hk]; rfl)
    have kp : ∀ b o, b ≠ env.locals → s.heap.get? b = some o → h'.get? b = some o := fun b o n e => hs.extBut b o n e
    have other : ∀ b o, P b = some o → h'.get? b = some o := fun b o e => kp b o (by rintro rfl; rw [F.PL] at e; cases e) (F.sub b o e)
    refine q _ h' _ ⟨fun b o e => kp b o (by rintro rfl; rw [F.Ln] at e; cases e) (F.stay b o e), F.le, other, F.new, hn, F.Ln, F.PL, ?_, ?_, F.ckind, F.cinj, F.cdef, ?_, ?_, F.kle⟩ (fun b o e n _ _ => kp b o n e) (fun _ => ⟨by simp, fun y hy => by simp [hy]⟩) (fun b o n _ e => kp b o n e)
    · intro j y d hy hyl hg
      rcases set_inv hg with ⟨rfl, rfl⟩ | ⟨n, hg⟩
      · have : x = y := by rw [hx] at hy; exact Option.some.inj hy
        subst this
        exact ⟨v, by simp, hv d rfl⟩
      · obtain ⟨u, hu, hd⟩ := F.vars j y d hy hyl hg
        have : y ≠ x := by rintro rfl; exact n (V.same hx hy)
        exact ⟨u, by simp [this, hu], hd⟩
    · intro y a' e
      obtain ⟨h1, h2, h3, ov, h4, h5⟩ := F.cells y a' e
      refine ⟨h1, h2, h3, ov, h4.sameBut hs h3, fun j d hy hg => ?_⟩
      rcases set_inv hg with ⟨rfl, rfl⟩ | ⟨n, hg⟩
      · exfalso
        have : x = y := by rw [hx] at hy; exact Option.some.inj hy
        subst this
        have := F.ckind x a' e
        rw [hl] at this; cases this
      · exact h5 j d hy hg
    · intro j ds e
      obtain ⟨e, n⟩ := dropOwn_inv e
      obtain ⟨y, vs, h1, h2, h3, h4, h5, h6, h7, h8, h9⟩ := F.own j ds e
      have : y ≠ x := by rintro rfl; exact n (V.same hx h1)
      exact ⟨y, vs, h1, h2, by simp [this, h3], h4.at fun o q => kp _ o h8 q, h5, h6, h7, h8, h9⟩
    · obtain ⟨o, e⟩ := F.lin
      by_cases hl' : l = env.locals
      · subst hl'; exact Ns.some hn
      · exact ⟨o, kp _ _ hl' e⟩
  · obtain ⟨ca, ha⟩ := F.cdef x hmem hl
    obtain ⟨c1, c2, c3, ov, c4, c5⟩ := F.cells x ca ha
    refine wpAny_storeName_cell hk (by show env.scope.names.lookup x = _; rw [eo.sc]; exact hl) ha c4 (fun h' hc hs => ?_)
    have kp : ∀ b o, b ≠ ca → s.heap.get? b = some o → h'.get? b = some o := fun b o n e => hs.extBut b o n e
    have other : ∀ b o, P b = some o → h'.get? b = some o := fun b o e => kp b o (by rintro rfl; rw [c2] at e; cases e) (F.sub b o e)
    refine q m h' s.toks ⟨fun b o e => kp b o (by rintro rfl; rw [c1] at e; cases e) (F.stay b o e), F.le, other, F.new, F.ns.sameBut hs (Ne.symm c3), F.Ln, F.PL, ?_, ?_, F.ckind, F.cinj, F.cdef, ?_, ?_, F.kle⟩ (fun b o e _ _ n => kp b o (by rintro rfl; exact n x ha) e) (fun h => by rw [hl] at h; cases h) (fun b o _ n e => kp b o (by rintro rfl; exact n x ha) e)
    · intro j y d hy hyl hg
      rcases set_inv hg with ⟨rfl, rfl⟩ | ⟨n, hg⟩
      · have : x = y := by rw [hx] at hy; exact Option.some.inj hy
        subst this
        rw [hl] at hyl; cases hyl
      · exact F.vars j y d hy hyl hg
    · intro y a' e
      obtain ⟨h1, h2, h3, ov', h4, h5⟩ := F.cells y a' e
      by_cases hy : y = x
      · subst hy
        have : a' = ca := by rw [ha] at e; exact (Option.some.inj e).symm
        subst this
        refine ⟨h1, h2, h3, some v, hc, fun j d hj hg => ⟨v, rfl, ?_⟩⟩
        rcases set_inv hg with ⟨rfl, rfl⟩ | ⟨n, hg⟩
        · exact hv d rfl
        · exact absurd (V.same hx hj) n
      · have hne : a' ≠ ca := by rintro rfl; exact hy (F.cinj _ _ _ e ha)
        refine ⟨h1, h2, h3, ov', h4.sameBut hs hne, fun j d hj hg => ?_⟩
        rcases set_inv hg with ⟨rfl, rfl⟩ | ⟨n, hg⟩
        · exfalso; rw [hx] at hj; exact hy (Option.some.inj hj).symm
        · exact h5 j d hj hg
    · intro j ds e
      obtain ⟨e, n⟩ := dropOwn_inv e
      obtain ⟨y, vs, h1, h2, h3, h4, h5, h6, h7, h8, h9⟩ := F.own j ds e
      exact ⟨y, vs, h1, h2, h3, h4.at fun o q => kp _ o (by rintro rfl; exact h9 x ha) q, h5, h6, h7, h8, h9⟩
    · obtain ⟨o, e⟩ := F.lin
      by_cases hl' : l = ca
      · subst hl'; exact IsCell.some hc
      · exact ⟨o, kp _ _ hl' e⟩
end
end Mine
namespace Mine
open PySem PySem.W PySem.Calls PySem.SeqAt PyProof.Rows

/-- what a statement leaves of the heap -/
structure Out (env : Env) (l : Addr) (P : PM) (h : Heap) (P' : PM) (h' : Heap) (l' : Addr) : Prop where
  k : Kx env l h h'
  n : l' = l ∨ h.get? l' = none
  p : PLe P P'
  np : ∀ b o, P' b = some o → P b = some o ∨ h.get? b = none ∨ b = l
theorem Out.grow {env : Env} {l : Addr} {P P' : PM} {h h' : Heap} (g : Grow P h P' h') : Out env l P h P' h' l := ⟨.of g.stay, .inl rfl, g.le, fun b o e => (g.new b o e).imp id .inl⟩
theorem Out.after {env : Env} {l l2 : Addr} {P P1 P2 : PM} {h h1 h2 : Heap} (g : Grow P h P1 h1) (x : Out env l P1 h1 P2 h2 l2) : Out env l P h P2 h2 l2 :=
  ⟨fun b o e n1 n2 n3 => x.k b o (g.stay b o e) n1 n2 n3, x.n.imp id (none_of_stays g.stay), g.le.trans x.p, fun b o e => by
    rcases x.np b o e with q | q | q
    · exact (g.new b o q).imp id .inl
    · exact .inr (.inl (none_of_stays g.stay q))
    · exact .inr (.inr q)⟩
noncomputable def SX (c : Cx) (nd nu : Nat) (scope : Scope) (nm : List Str) (st : Stmt) (psi : St → Option (St × Option D)) : Prop :=
  ∀ (env : Env) (A : Around) (s : Shared) (h₀ : Heap) (P₀ P : PM) (z : St) (l : Addr) (m : Str → Option Value) (z' : St) (r : Option D) (Q : Flow → Shared → Prop), EnvOK scope env → VOK scope nm → AOK A nd nu → HOK c h₀ →
    FS c scope nm env h₀ P₀ P z.1 z.2 l m s.heap → psi z = some (z', r) →
    (∀ fl P' h' tk' l' m', FS c scope nm env h₀ P₀ P' z'.1 z'.2 l' m' h' → Out env l P s.heap P' h' l' → FlowIs c P' r fl → Q fl { s with heap := h', toks := tk' }) →
    wpAny (model PG c.w) A (exec st env) Q NoE s
noncomputable def SL (c : Cx) (nd nu : Nat) (scope : Scope) (nm : List Str) (sts : List Stmt) (psi : St → Option (St × Option D)) : Prop :=
  ∀ (env : Env) (A : Around) (s : Shared) (h₀ : Heap) (P₀ P : PM) (z : St) (l : Addr) (m : Str → Option Value) (z' : St) (r : Option D) (Q : Flow → Shared → Prop), EnvOK scope env → VOK scope nm → AOK A nd nu → HOK c h₀ →
    FS c scope nm env h₀ P₀ P z.1 z.2 l m s.heap → psi z = some (z', r) →
    (∀ fl P' h' tk' l' m', FS c scope nm env h₀ P₀ P' z'.1 z'.2 l' m' h' → Out env l P s.heap P' h' l' → FlowIs c P' r fl → Q fl { s with heap := h', toks := tk' }) →
    wpAny (model PG c.w) A (execs sts env) Q NoE s

section
variable {c : Cx} {nd nu : Nat} {scope : Scope} {nm : List Str} {env : Env}
theorem Out.none {h₀ h h1 : Heap} {P₀ P1 : PM} {G : Vars} {ow : Own} {l l1 : Addr} {m : Str → Option Value} (F : FS c scope nm env h₀ P₀ P1 G ow l1 m h1) (a : Kx env l h h1) {b : Addr} (q : h1.get? b = none) : b = l ∨ h.get? b = none := by
  by_cases hb : b = l
  · exact .inl hb
  · refine .inr ?_
    cases e : h.get? b with
    | none => rfl
    | some o =>
      have : h1.get? b = some o := a b o e (by rintro rfl; obtain ⟨o', e'⟩ := Ns.some F.ns; rw [e'] at q; cases q) hb (fun x hx => by
        obtain ⟨_, _, _, ov, h4, _⟩ := F.cells x b hx
        obtain ⟨o', e'⟩ := IsCell.some h4
        rw [e'] at q; cases q)
      rw [this] at q; cases q
theorem Out.trans {h₀ h h1 h2 : Heap} {P₀ P P1 P2 : PM} {G : Vars} {ow : Own} {l l1 l2 : Addr} {m : Str → Option Value} (F : FS c scope nm env h₀ P₀ P1 G ow l1 m h1) (a : Out env l P h P1 h1 l1) (b : Out env l1 P1 h1 P2 h2 l2) : Out env l P h P2 h2 l2 where
  k := fun x o e n1 n2 n3 => b.k x o (a.k x o e n1 n2 n3) n1 (by rcases a.n with q | q; exact q ▸ n2; rintro rfl; rw [e] at q; cases q) n3
  n := by
    rcases b.n with rfl | q
    · exact a.n
    · exact Out.none F a.k q
  p := a.p.trans b.p
  np := fun x o e => by
    rcases b.np x o e with q | q | rfl
    · exact a.np x o q
    · exact .inr ((Out.none F a.k q).symm)
    · exact .inr (a.n.symm)

theorem sl_nil : SL c nd nu scope nm [] (fun z => some (z, none)) := by
  intro env A s h₀ P₀ P z l m z' r Q eo V ao ho F e q
  cases e
  exact wpAny_execs_nil (q .next P s.heap s.toks l m F (.grow (.refl F.sub)) rfl)
noncomputable def seqS (f g : St → Option (St × Option D)) : St → Option (St × Option D) := fun z => (f z).bind fun x => match x with
  | (z1, some d) => some (z1, some d)
  | (z1, none) => g z1
theorem sl_cons {st : Stmt} {rest : List Stmt} {f g : St → Option (St × Option D)} (h1 : SX c nd nu scope nm st f) (h2 : SL c nd nu scope nm rest g) : SL c nd nu scope nm (st :: rest) (seqS f g) := by
  intro env A s h₀ P₀ P z l m z' r Q eo V ao ho F e q
  obtain ⟨⟨z1, r1⟩, e1, e2⟩ := Option.bind_eq_some_iff.mp e
  refine wpAny_execs_cons (h1 env A s h₀ P₀ P z l m z1 r1 _ eo V ao ho F e1 fun fl P1 k1 tk1 l1 m1 F1 O1 fi => ?_)
  cases r1 with
  | some d =>
    cases e2
    obtain ⟨v, rfl, hv⟩ := fi
    exact q _ P1 k1 tk1 l1 m1 F1 O1 ⟨v, rfl, hv⟩
  | none =>
    have : fl = .next := fi
    subst this
    exact h2 env A { s with heap := k1, toks := tk1 } h₀ P₀ P1 z1 l1 m1 z' r Q eo V ao ho F1 e2 fun fl P2 k2 tk2 l2 m2 F2 O2 fi => q fl P2 k2 tk2 l2 m2 F2 (.trans F1 O1 O2) fi

theorem sx_assign {x : Str} {p pos : Pos} {e : Expr} {phi : Vars → Option D} (i : Nat) (hx : nm[i]? = some x) (h : SE c nd nu scope nm e phi) (hs : ∀ env, swapsWith e (some (.Name x p)) pos.line env = pure false := by intro _; rfl) :
    SX c nd nu scope nm (.Assign [.Name x p] e pos) (fun z => (phi z.1).map fun d => ((z.1.set i (some d), dropOwn i z.2), none)) := by
  intro env A s h₀ P₀ P z l m z' r Q eo V ao ho F e q
  obtain ⟨d, ed, e'⟩ := Option.map_eq_some_iff.mp e
  cases e'
  refine wpAny_Assign_Name (h env A s P z.1 d _ eo ao (ho.keeps F.stay) F.sub (F.rd eo V) ed fun v P1 k1 tk1 g1 hv => ?_) (hs env)
  exact (F.grow g1).store (s := { s with heap := k1, toks := tk1 }) eo V hx (a := some d) (fun d' e => by cases e; exact hv) fun m' h' tk' F' K' _ _ => q .next P1 h' tk' l m' F' (.after g1 ⟨K', .inl rfl, .refl _, fun _ _ e => .inl e⟩) rfl

theorem sx_own {x : Str} {p p2 pos : Pos} (i : Nat) (hx : nm[i]? = some x) (hl : scope.names.lookup x = some .local) :
    SX c nd nu scope nm (.Assign [.Name x p] (.List [] p2) pos) (fun z => some ((z.1.set i none, some (i, [])), none)) := by
  intro env A s h₀ P₀ P z l m z' r Q eo V ao ho F e q
  cases e
  refine wpAny_Assign_Name (wpAny_List_spliced (spliced_nil ⟨Nat.zero_le _, ?_⟩)) rfl
  have st : s.heap.StaysIn (s.heap.push { cls := .type "list", data := .seq ([] : List Value).toArray }) := fun b o e => Heap.get?_push_of_some _ e
  have hn := get_size s.heap
  have hn2 := none_of_in F.sub hn
  have F1 : FS c scope nm env h₀ P₀ P z.1 z.2 l m (s.heap.push { cls := .type "list", data := .seq ([] : List Value).toArray }) := F.grow ((Grow.refl F.sub).then st)
  have hnL : s.heap.objs.size ≠ env.locals := fun e => by obtain ⟨o, h⟩ := Ns.some F.ns; rw [← e, hn] at h; cases h
  have hnc : ∀ y, env.cells.lookup y ≠ some s.heap.objs.size := fun y e => by
    obtain ⟨_, _, _, ov, h4, _⟩ := F.cells y _ e
    obtain ⟨o, h⟩ := IsCell.some h4
    rw [hn] at h; cases h
  refine F1.store (s := { s with heap := s.heap.push { cls := .type "list", data := .seq ([] : List Value).toArray } }) eo V hx (a := none) (fun d e => by cases e) fun m' h' tk' F' K' mm kk => ?_
  have hat : h'.get? s.heap.objs.size = some { cls := .type "list", data := .seq ([] : List Value).toArray } := kk _ _ hnL hnc (Heap.get?_push_size _ rfl)
  refine q .next P h' tk' s.heap.objs.size m' ?_ ⟨fun b o e n1 n2 n3 => K' b o (st b o e) n1 n2 n3, .inr hn, .refl _, fun _ _ e => .inl e⟩ rfl
  exact { stay := F'.stay, le := F'.le, sub := F'.sub, new := F'.new, ns := F'.ns, Ln := F'.Ln, PL := F'.PL, vars := F'.vars, cells := F'.cells, ckind := F'.ckind, cinj := F'.cinj, cdef := F'.cdef,
          own := fun j ds e => by
            cases e
            exact ⟨x, [], hx, hl, (mm hl).1, ⟨0, hat⟩, .nil, none_of_stays F.stay hn, hn2, hnL, hnc⟩,
          lin := ⟨_, hat⟩, kle := F'.kle }

noncomputable def appS (i : Nat) (phi : Vars → Option D) : St → Option (St × Option D) := fun z => match z.2 with
  | some (j, ds) => if j = i then (phi z.1).bind fun d => if ds.length < 1000 then some ((z.1, some (i, ds ++ [d])), none) else none else none
  | none => none
theorem sx_append {x : Str} {np apos pos spos : Pos} {e : Expr} {phi : Vars → Option D} (i : Nat) (hx : nm[i]? = some x) (h : SE c nd nu scope nm e phi) (hpl : plainArg e = true := by rfl) (hline : (apos.endLine == pos.line) = true := by rfl) :
    SX c nd nu scope nm (.Expr (.Call (.Attribute (.Name x np) (Str.ofString "append") apos) [e] [] pos) spos) (appS i phi) := by
  intro env A s h₀ P₀ P z l m z' r Q eo V ao ho F ee q
  obtain ⟨G, ow⟩ := z
  unfold appS at ee
  dsimp only at ee F
  cases ow with
  | none => first | exact nn ee | cases ee
  | some p =>
    obtain ⟨j, ds⟩ := p
    dsimp only at ee
    split at ee
    · rename_i hj
      subst hj
      obtain ⟨d, ed, e2⟩ := Option.bind_eq_some_iff.mp ee
      split at e2
      · rename_i hlen
        cases e2
        obtain ⟨x', vs, h1, h2, h3, h4, h5, h6, h7, h8, h9⟩ := F.own j ds rfl
        have : x' = x := by rw [hx] at h1; exact (Option.some.inj h1).symm
        subst this
        have hk : env.scope.kind = .function := by rw [eo.sc]; exact eo.kd
        refine wpAny_Expr_any ?_ (by unfold interactive; rw [hk]; rfl) rfl
        refine wpAny_Call_append rfl (by rw [backTo_cons hpl]; rfl) hline (by rw [backTo_cons hpl]; rfl) ?_
        refine wpAny_Name (wpAny_loadName_local hk (by show env.scope.names.lookup x' = _; rw [eo.sc]; exact h2) F.ns h3 ?_) (V.dbg x' (List.mem_of_getElem? hx))
        obtain ⟨n0, h4'⟩ := id h4
        refine ⟨l, vs.toArray, rfl, ⟨_, n0, h4', rfl, rfl, rfl⟩, ?_⟩
        refine h env A s P G d _ eo ao (ho.keeps F.stay) F.sub (F.rd eo V) ed fun v P1 k1 tk1 g1 hv => ?_
        have F1 := F.grow g1
        obtain ⟨x2, vs2, _, _, _, i4, i5, i6, i7, i8, i9⟩ := F1.own j ds rfl
        have hvs : vs2.length < 1000 := by rw [i5.length]; exact hlen
        refine wpAny_list_append_plain (s := { s with heap := k1, toks := tk1 }) i4 (fun h' hp' hs' => ?_) (by rw [List.size_toArray]; exact le_line (by omega))
        have kp : ∀ b o, b ≠ l → k1.get? b = some o → h'.get? b = some o := fun b o n e => hs'.extBut b o n e
        have ee : vs2.toArray.push v = (vs2 ++ [v]).toArray := by simp
        rw [ee] at hp'
        refine q .next P1 h' tk1 l m ?_ (.after g1 ⟨fun b o e _ n _ => kp b o n e, .inl rfl, .refl _, fun _ _ e => .inl e⟩) rfl
        exact { stay := fun b o e => kp b o (by rintro rfl; rw [i6] at e; cases e) (F1.stay b o e), le := F1.le, sub := fun b o e => kp b o (by rintro rfl; rw [i7] at e; cases e) (F1.sub b o e), new := F1.new,
                ns := F1.ns.sameBut hs' (Ne.symm i8), Ln := F1.Ln, PL := F1.PL, vars := F1.vars,
                cells := fun y a e => by
                  obtain ⟨c1, c2, c3, ov, c4, c5⟩ := F1.cells y a e
                  exact ⟨c1, c2, c3, ov, c4.sameBut hs' (by rintro rfl; exact i9 y e), c5⟩,
                ckind := F1.ckind, cinj := F1.cinj, cdef := F1.cdef,
                own := fun j' ds' e => by
                  cases e
                  exact ⟨x', vs2 ++ [v], hx, h2, h3, hp', i5.append (.one hv), i6, i7, i8, i9⟩,
                lin := Plain.some hp', kle := F1.kle }
      · first | exact nn e2 | cases e2
    · first | exact nn ee | cases ee

theorem sx_if {t : Expr} {b o : List Stmt} {pos : Pos} {tau : Vars → Option Bool} {f g : St → Option (St × Option D)} (h1 : ST c nd nu scope nm t tau) (h2 : SL c nd nu scope nm b f) (h3 : SL c nd nu scope nm o g) :
    SX c nd nu scope nm (.If t b o pos) (fun z => (tau z.1).bind fun x => if x then f z else g z) := by
  intro env A s h₀ P₀ P z l m z' r Q eo V ao ho F e q
  obtain ⟨x, ex, e2⟩ := Option.bind_eq_some_iff.mp e
  refine wpAny_If (h1 env A s P z.1 x _ eo ao (ho.keeps F.stay) F.sub (F.rd eo V) ex fun P1 k1 tk1 g1 => ?_)
  have F1 := F.grow g1
  cases x with
  | true =>
    rw [if_pos rfl] at e2 ⊢
    exact h2 env A { s with heap := k1, toks := tk1 } h₀ P₀ P1 z l m z' r Q eo V ao ho F1 e2 fun fl P2 k2 tk2 l2 m2 F2 O2 fi => q fl P2 k2 tk2 l2 m2 F2 (.after g1 O2) fi
  | false =>
    simp only [Bool.false_eq_true, if_false] at e2 ⊢
    exact h3 env A { s with heap := k1, toks := tk1 } h₀ P₀ P1 z l m z' r Q eo V ao ho F1 e2 fun fl P2 k2 tk2 l2 m2 F2 O2 fi => q fl P2 k2 tk2 l2 m2 F2 (.after g1 O2) fi

/-- the growing list becomes a value -/
noncomputable def thaw (z : St) : St := match z.2 with
  | some (i, ds) => (z.1.set i (some (.lst ds)), none)
  | none => z
theorem FS.thaw {h₀ h : Heap} {P₀ P : PM} {z : St} {l : Addr} {m : Str → Option Value} (F : FS c scope nm env h₀ P₀ P z.1 z.2 l m h) : ∃ P', FS c scope nm env h₀ P₀ P' (Mine.thaw z).1 (Mine.thaw z).2 l m h ∧ PLe P P' ∧ ∀ b o, P' b = some o → P b = some o ∨ b = l := by
  obtain ⟨G, ow⟩ := z
  cases ow with
  | none => exact ⟨P, F, .refl _, fun _ _ e => .inl e⟩
  | some p =>
    obtain ⟨i, ds⟩ := p
    obtain ⟨x, vs, h1, h2, h3, ⟨n, h4⟩, h5, h6, h7, h8, h9⟩ := F.own i ds rfl
    have hle : PLe P (P.put l { cls := .type "list", data := .seq vs.toArray n }) := PM.put_le h7
    refine ⟨P.put l { cls := .type "list", data := .seq vs.toArray n }, ?_, hle, fun b o e => by
      unfold PM.put at e
      by_cases q : b = l
      · exact .inr q
      · rw [if_neg q] at e; exact .inl e⟩
    have no : ∀ a, P a = none → a ≠ l → P.put l { cls := .type "list", data := .seq vs.toArray n } a = none := fun a e q => by unfold PM.put; rw [if_neg q]; exact e
    exact { stay := F.stay, le := F.le.trans hle,
            sub := fun b o e => by
              unfold PM.put at e
              by_cases q : b = l
              · subst q; rw [if_pos rfl] at e; cases e; exact h4
              · rw [if_neg q] at e; exact F.sub b o e,
            new := fun b o e => by
              unfold PM.put at e
              by_cases q : b = l
              · subst q; exact .inr h6
              · rw [if_neg q] at e; exact F.new b o e,
            ns := F.ns, Ln := F.Ln, PL := no _ F.PL (Ne.symm h8),
            vars := fun j y d hy hyl hg => by
              rcases set_inv hg with ⟨rfl, e⟩ | ⟨ne, hg⟩
              · first | exact nn e | cases e
                have : x = y := by rw [h1] at hy; exact Option.some.inj hy
                subst this
                exact ⟨_, h3, .lst (PM.put_self _ _ _) rfl rfl (h5.mono hle)⟩
              · obtain ⟨v, a, b⟩ := F.vars j y d hy hyl hg
                exact ⟨v, a, b.mono hle⟩,
            cells := fun y a e => by
              obtain ⟨c1, c2, c3, ov, c4, c5⟩ := F.cells y a e
              refine ⟨c1, no _ c2 (by rintro rfl; exact h9 y e), c3, ov, c4, fun j d hy hg => ?_⟩
              rcases set_inv hg with ⟨rfl, e'⟩ | ⟨ne, hg⟩
              · have : x = y := by rw [h1] at hy; exact Option.some.inj hy
                subst this
                have := F.ckind x a e
                rw [h2] at this; cases this
              · obtain ⟨v, a, b⟩ := c5 j d hy hg
                exact ⟨v, a, b.mono hle⟩,
            ckind := F.ckind, cinj := F.cinj, cdef := F.cdef, own := (fun _ _ e => by cases e), lin := F.lin, kle := F.kle.trans hle }
theorem sx_ret {e : Expr} {pos : Pos} {phi : Vars → Option D} (h : SE c nd nu scope nm e phi) : SX c nd nu scope nm (.Return (some e) pos) (fun z => (phi (thaw z).1).map fun d => (thaw z, some d)) := by
  intro env A s h₀ P₀ P z l m z' r Q eo V ao ho F e q
  obtain ⟨d, ed, e'⟩ := Option.map_eq_some_iff.mp e
  cases e'
  obtain ⟨P1, F1, p1, np1⟩ := F.thaw
  refine wpAny_Return_some (h env A s P1 _ d _ eo ao (ho.keeps F.stay) F1.sub (F1.rd eo V) ed fun v P2 k2 tk2 g2 hv => ?_)
  exact q (.ret v) P2 k2 tk2 l m (F1.grow g2) ⟨.of g2.stay, .inl rfl, p1.trans g2.le, fun b o e => by
    rcases g2.new b o e with q | q
    · rcases np1 b o q with r | r
      · exact .inl r
      · exact .inr (.inr r)
    · exact .inr (.inl q)⟩ ⟨v, rfl, hv⟩
end
end Mine
namespace Mine
open PySem PySem.W PySem.Calls PySem.SeqAt PyProof.Rows

section
variable {prog : Program} {w : World} {A : Around} {R : Result → Shared → Prop} {s : Shared}
theorem forLoopP {target : Expr} {it : Value} {body orelse : List Stmt} {env : Env} (I : Nat → Shared → Prop)
    (turn : ∀ n s, I n s → wpAny (model prog w) A (pyNext it) (fun r s₁ => match r with
      | none => wpAny (model prog w) A (execs orelse env) (fun f s₃ => R (.ok f) s₃) NoE s₁
      | some v => wpAny (model prog w) A (letOwnedTupleGo target it v) (fun _ s₁' => wpAny (model prog w) A (assign target env v) (fun _ s₂ => wpAny (model prog w) A (execs body env) (fun f s₃ => match f with
          | .next | .cont => ∃ m, m < n ∧ I m s₃
          | .brk => R (.ok .next) s₃
          | .ret v => R (.ok (.ret v)) s₃) NoE s₂) NoE s₁') NoE s₁) NoE s)
    (n : Nat) (h : I n s) : codeAny (model prog w) A (.forLoop target it body orelse env) R s := by
  refine codeAny_loop' rfl I (fun n s hI => ?_) n h
  show wpAny _ _ ((forTurn target it body orelse env).onRaise (fun x => do noteFrame x env; theTreesLotGoes x)) _ _ s
  refine wpAny_noted ?_
  simp only [forTurn]
  refine wpAny_bind (wpAny_standAt (wpAny_bind (wpAny_onRaise (wpAny_mono (turn n s hI) (fun r s₁ h₁ => ?_) fun _ _ h' => h'.elim))))
  cases r with
  | none => exact wpAny_pure (.inr ⟨rfl, codeAny_block (wpNoE h₁)⟩)
  | some v =>
    refine wpAny_bind (wpAny_mono h₁ (fun _ s₁' h₁' => ?_) fun _ _ x => x.elim)
    refine wpAny_bind (wpAny_mono h₁' (fun _ s₂ h₂ => wpAny_bind (wpAny_mono h₂ (fun f s₃ h₃ => ?_) fun _ _ h' => h'.elim)) fun _ _ h' => h'.elim)
    cases f with
    | next => exact wpAny_pure (.inl ⟨rfl, h₃⟩)
    | cont => exact wpAny_pure (.inl ⟨rfl, h₃⟩)
    | brk => exact wpAny_pure h₃
    | ret v => exact wpAny_pure h₃
end

/-- an iterator over known data -/
structure Src (c : Cx) (A : Around) (I : Addr) (fp wr : List Addr) (ds : List D) (Pv : Nat → Value → Prop) (Sv : Nat → Heap → Prop) (H0 : Heap) (P : PM) (h : Heap) : Prop where
  W : Walks PG c.w A I fp wr ds.length Pv Sv
  st : Sv 0 h
  fpIn : ∀ b ∈ fp, b ∈ wr ∨ ∃ o, P b = some o
  wrIn : ∀ b ∈ wr, H0.get? b = none ∧ P b = none
  live : ∀ i h, Sv i h → ∀ b ∈ wr, ∃ o, h.get? b = some o
  lg : ∀ (t : Expr) (k : Nat) (v : Value) (s : Shared) (Q E : _), Pv k v → Sv (k + 1) s.heap → (∀ h', Sv (k + 1) h' → (∀ b o, b ∉ wr → s.heap.get? b = some o → h'.get? b = some o) → Q () { s with heap := h' }) → wpAny (model PG c.w) A (letOwnedTupleGo t (.ref I) v) Q E s
  it : ∀ k v, Pv k v → k < ds.length → ∀ P', PLe P P' → ∃ d, ds[k]? = some d ∧ DH c.w P' v d

noncomputable def SI (c : Cx) (nd nu : Nat) (scope : Scope) (nm : List Str) (iter : Expr) (phi : Vars → Option (List D)) : Prop :=
  ∀ (env : Env) (A : Around) (s : Shared) (P : PM) (G : Vars) (ds : List D) (Q : Value → Shared → Prop), EnvOK scope env → AOK A nd nu → HOK c s.heap → PIn P s.heap → Rd c env nm G P s.heap → phi G = some ds →
    (∀ I fp wr Pv Sv P' h' tk', Grow P s.heap P' h' → Src c A I fp wr ds Pv Sv s.heap P' h' → Q (.ref I) { s with heap := h', toks := tk' }) →
    wpAny (model PG c.w) A (eval iter env) (fun xv s₁ => wpAny (model PG c.w) A (pyIter xv) Q NoE s₁) NoE s

section
variable {c : Cx} {nd nu : Nat} {scope : Scope} {nm : List Str}
theorem lg_plain {t : Expr} {I : Addr} {v : Value} {A : Around} {s : Shared} {w : World} {Q : Unit → Shared → Prop} {E : Value → Shared → Prop} {n : String} (hI : ∃ o vs, s.heap.get? I = some o ∧ o.cls = .type n ∧ o.data = .fields vs)
    (hn : (["enumerate", "zip", "dict_itemiterator", "dict_reverseitemiterator", "odict_iterator", "itertools.zip_longest", "itertools.pairwise"].contains n) = false) (q : Q () s) : wpAny (model PG w) A (letOwnedTupleGo t (.ref I) v) Q E s := by
  obtain ⟨o, vs, ho, hc, hd⟩ := hI
  unfold letOwnedTupleGo
  have fin : wpAny (model PG w) A (match v with
      | .ref a => (load I >>= fun o => match o.cls, o.data with
        | .type n, .fields vs => if (["enumerate", "zip", "dict_itemiterator", "dict_reverseitemiterator", "odict_iterator", "itertools.zip_longest", "itertools.pairwise"].contains n && vs[0]? == some (rawInt a)) = true then (do rule "for.unpacks-the-owned-tuple"; updateField I 0 .none) else pure ()
        | _, _ => pure ())
      | _ => pure ()) Q E s := by
    cases v <;> first | exact wpAny_pure q | skip
    refine wpAny_bind (wpAny_load ho ?_)
    rw [hc, hd]
    dsimp only
    rw [hn, Bool.false_and]
    exact wpAny_pure q
  cases t <;> first | exact wpAny_pure q | skip
  all_goals (cases v <;> first | exact wpAny_pure q | skip)
  all_goals exact fin

theorem si_seq {e : Expr} {f : Vars → Option D} (h : SE c nd nu scope nm e f) : SI c nd nu scope nm e (fun G => (f G).bind fun | .lst ds => some ds | .tup ds => some ds | _ => none) := by
  intro env A s P G ds Q eo ao ho hp rd ee q
  obtain ⟨d, e1, e2⟩ := Option.bind_eq_some_iff.mp ee
  refine h env A s P G d _ eo ao ho hp rd e1 fun v P1 k1 tk1 g1 hv => ?_
  have hn := get_size k1
  have ex : k1.StaysIn (k1.push { cls := .type "list_iterator", data := .fields #[] }) := fun b o e => Heap.get?_push_of_some _ e
  cases d <;> first | exact nn e2 | skip
  · first | exact nn e2 | cases e2
    obtain ⟨a, o, vs, n, rfl, ha, hc, hd, hvs⟩ := hv.tup_inv
    have ht : IsTup k1 a vs.toArray := tup_at ha hc hd g1.sub
    have hne : a ≠ k1.objs.size := fun e => by have := g1.sub _ _ ha; rw [e, hn] at this; cases this
    refine wpAny_pyIter_tuple (s := { s with heap := k1, toks := tk1 }) ht ?_
    have g2 : Grow P1 k1 P1 (k1.push { cls := .type "tuple_iterator", data := .fields #[.ref a, .int 0 0] }) := (Grow.refl g1.sub).then fun b o e => Heap.get?_push_of_some _ e
    have W := Walks.tuple (prog := PG) (w := c.w) (A := A) ao.hh k1.objs.size a hne vs.toArray
    have hl : vs.toArray.size = ds.length := by rw [List.size_toArray, hvs.length]
    rw [hl] at W
    refine q _ _ _ _ _ P1 _ tk1 (g1.trans g2) ⟨W, ⟨⟨_, Heap.get?_push_size _ rfl, rfl, rfl⟩, ht.push _⟩, ?_, ?_, ?_, ?_, ?_⟩
    · intro b hb
      rcases List.mem_cons.mp hb with rfl | hb
      · exact .inl (List.mem_singleton.mpr rfl)
      · rw [List.mem_singleton.mp hb]; exact .inr ⟨_, ha⟩
    · intro b hb; rw [List.mem_singleton.mp hb]; exact ⟨none_of_stays g1.stay hn, none_of_in g1.sub hn⟩
    · intro i h x b hb; rw [List.mem_singleton.mp hb]; obtain ⟨o, e, _⟩ := x.1; exact ⟨o, e⟩
    · intro t k v s' Q' E' _ x hq
      obtain ⟨o, e, e1, e2⟩ := x.1
      exact lg_plain ⟨o, _, e, e1, e2⟩ (by decide) (hq _ x fun _ _ _ e => e)
    · intro k v hk _ P' hP
      obtain ⟨d, a, b⟩ := hvs.at (by simpa using hk)
      exact ⟨d, a, b.mono hP⟩
  · first | exact nn e2 | cases e2
    obtain ⟨a, o, vs, n, rfl, ha, hc, hd, hvs⟩ := hv.lst_inv
    have ht : k1.IsList a vs.toArray := lst_at ha hc hd g1.sub
    have hne : a ≠ k1.objs.size := fun e => by have := g1.sub _ _ ha; rw [e, hn] at this; cases this
    refine wpAny_pyIter_list (s := { s with heap := k1, toks := tk1 }) ht ?_
    have g2 : Grow P1 k1 P1 (k1.push { cls := .type "list_iterator", data := .fields #[.ref a, .int 0 0] }) := (Grow.refl g1.sub).then fun b o e => Heap.get?_push_of_some _ e
    have W := Walks.list (prog := PG) (w := c.w) (A := A) ao.hh k1.objs.size a hne vs.toArray
    have hl : vs.toArray.size = ds.length := by rw [List.size_toArray, hvs.length]
    rw [hl] at W
    refine q _ _ _ _ _ P1 _ tk1 (g1.trans g2) ⟨W, ⟨⟨_, Heap.get?_push_size _ rfl, rfl, rfl⟩, ht.at fun o e => Heap.get?_push_of_some _ e⟩, ?_, ?_, ?_, ?_, ?_⟩
    · intro b hb
      rcases List.mem_cons.mp hb with rfl | hb
      · exact .inl (List.mem_singleton.mpr rfl)
      · rw [List.mem_singleton.mp hb]; exact .inr ⟨_, ha⟩
    · intro b hb; rw [List.mem_singleton.mp hb]; exact ⟨none_of_stays g1.stay hn, none_of_in g1.sub hn⟩
    · intro i h x b hb; rw [List.mem_singleton.mp hb]; obtain ⟨o, e, _⟩ := x.1; exact ⟨o, e⟩
    · intro t k v s' Q' E' _ x hq
      obtain ⟨o, e, e1, e2⟩ := x.1
      exact lg_plain ⟨o, _, e, e1, e2⟩ (by decide) (hq _ x fun _ _ _ e => e)
    · intro k v hk _ P' hP
      obtain ⟨d, a, b⟩ := hvs.at (by simpa using hk)
      exact ⟨d, a, b.mono hP⟩

/-- what an iterator over a range is -/
theorem src_range {A : Around} {P : PM} {H0 k1 : Heap} {a st : Int} {n : Nat} {x : Int} (hh : A.handled = none) (g1 : Grow P H0 P k1) (hx : x = (n : Int)) :
    Src c A k1.objs.size [k1.objs.size] [k1.objs.size] ((List.range n).map fun (k : Nat) => D.int (a + (k : Int) * st)) (fun i v => ∃ t, v = .int (a + i * st) t) (fun i h => IsRangeIter h k1.objs.size (a + (i : Nat) * st) ((n : Int) - (i : Nat)) st) H0 P
      (k1.push { cls := .type "range_iterator", data := .fields #[rawInt a, rawInt x, rawInt st] }) := by
  have hn := get_size k1
  subst hx
  refine ⟨?_, ?_, ?_, ?_, ?_, ?_, ?_⟩
  · have W := Walks.range (prog := PG) (w := c.w) (A := A) hh k1.objs.size a st n
    rw [List.length_map, List.length_range]
    exact W
  · show (k1.push _).get? k1.objs.size = some _
    rw [Heap.get?_push_size _ rfl]
    simp
  · intro b hb; exact .inl hb
  · intro b hb; rw [List.mem_singleton.mp hb]; exact ⟨none_of_stays g1.stay hn, none_of_in g1.sub hn⟩
  · intro i h x b hb; rw [List.mem_singleton.mp hb]; exact ⟨_, x⟩
  · intro t k v s' Q' E' hv x hq
    exact lg_plain ⟨_, _, x, rfl, rfl⟩ (by decide) (hq _ x fun _ _ _ e => e)
  · intro k v hk hlt P' _
    obtain ⟨t, rfl⟩ := hk
    rw [List.length_map, List.length_range] at hlt
    refine ⟨_, ?_, .int _ t⟩
    rw [List.getElem?_map, List.getElem?_range hlt]; rfl

noncomputable def rng1 : D → Option (List D)
  | .int n => if -1000 ≤ n ∧ n ≤ 1000 then some ((List.range n.toNat).map fun (k : Nat) => D.int (k : Int)) else none
  | _ => none
theorem range_name {env : Env} {A : Around} {s : Shared} {np : Pos} {Q : Value → Shared → Prop} (eo : EnvOK scope env) (ho : HOK c s.heap) (hx : scope.names.lookup (Str.ofString "range") = some .globalImplicit) (q : Q (.type "range") s) :
    wpAny (model PG c.w) A (eval (.Name (Str.ofString "range") np) env) Q NoE s := ld_boot eo ho hx (by k_is) boot_range (by decide) q
theorem si_range1 {e : Expr} {np pos : Pos} {f : Vars → Option D} (hx : scope.names.lookup (Str.ofString "range") = some .globalImplicit) (h : SE c nd nu scope nm e f) (hpl : plainArg e = true := by rfl) :
    SI c nd nu scope nm (.Call (.Name (Str.ofString "range") np) [e] [] pos) (fun G => (f G).bind rng1) := by
  intro env A s P G ds Q eo ao ho hp rd ee q
  obtain ⟨d, e1, e2⟩ := Option.bind_eq_some_iff.mp ee
  refine wpAny_Call_NameR (range_name eo ho hx ?_)
  refine callWith_type1 ?_ (starEach_plain hpl)
  refine sa_cons h sa_nil hpl env pos A s P G [d] _ eo ao ho hp rd (by simp [e1]) fun vs P1 k1 tk1 g1 hvs => ?_
  cases hvs with
  | cons hv hr =>
    cases hr
    cases d <;> first | exact nn e2 | skip
    obtain ⟨t, rfl⟩ := hv.int_inv
    simp only [rng1] at e2
    split at e2
    · rename_i n hn
      cases e2
      refine call_range_1 (s := { s with heap := k1, toks := tk1 }) ?_
      have ex : k1.StaysIn (k1.push { cls := .type "range", data := .fields #[.int 0 tk1, .int n t, .int 1 (tk1 + 1)] }) := fun b o e => Heap.get?_push_of_some _ e
      have g2 : Grow P s.heap P1 (k1.push { cls := .type "range", data := .fields #[.int 0 tk1, .int n t, .int 1 (tk1 + 1)] }) := g1.then ex
      refine wpAny_pyIter_range (s := { s with heap := k1.push { cls := .type "range", data := .fields #[.int 0 tk1, .int n t, .int 1 (tk1 + 1)] }, toks := tk1 + 1 + 1 }) (IsRange.new k1 0 n 1 tk1 t (tk1 + 1)) (small_one (by omega) (by omega) (by omega) (by omega)) ?_
      have gR : Grow P1 (k1.push { cls := .type "range", data := .fields #[.int 0 tk1, .int n t, .int 1 (tk1 + 1)] }) P1 (k1.push { cls := .type "range", data := .fields #[.int 0 tk1, .int n t, .int 1 (tk1 + 1)] }) := .refl g2.sub
      have hsz : Builtin.Range.rangeSize 0 n 1 = (n.toNat : Int) := by rw [rangeSize_one]; split <;> omega
      have S := src_range (c := c) (A := A) (a := 0) (st := 1) ao.hh gR hsz
      have hD : ((List.range n.toNat).map fun (k : Nat) => D.int (0 + (k : Int) * 1)) = (List.range n.toNat).map fun (k : Nat) => D.int (k : Int) := by
        apply List.map_congr_left; intro k _; rw [Int.mul_one, Int.zero_add]
      rw [hD] at S
      have nn : ∀ b, (k1.push { cls := .type "range", data := .fields #[.int 0 tk1, .int n t, .int 1 (tk1 + 1)] }).get? b = none → s.heap.get? b = none := fun b e => none_of_stays g2.stay e
      refine q _ _ _ _ _ P1 _ _ (g2.then fun b o e => Heap.get?_push_of_some _ e) ⟨S.W, S.st, S.fpIn, fun b hb => ⟨nn _ (S.wrIn b hb).1, (S.wrIn b hb).2⟩, S.live, S.lg, S.it⟩
    · first | exact nn e2 | cases e2
end
end Mine
namespace Mine
open PySem PySem.W PySem.Calls PySem.SeqAt PyProof.Rows

section
variable {c : Cx} {nd nu : Nat} {scope : Scope} {nm : List Str} {env : Env} {h₀ h h' : Heap} {P₀ P P' : PM} {G : Vars} {ow : Own} {l : Addr} {m : Str → Option Value}

theorem FS.off {wr : List Addr} (F : FS c scope nm env h₀ P₀ P G ow l m h) (hw : ∀ b ∈ wr, h₀.get? b = none ∧ P b = none ∧ b ≠ env.locals ∧ b ≠ l ∧ ∀ x, env.cells.lookup x ≠ some b)
    (k : ∀ b o, b ∉ wr → h.get? b = some o → h'.get? b = some o) : FS c scope nm env h₀ P₀ P G ow l m h' where
  stay := fun b o e => k b o (fun q => by rw [(hw b q).1] at e; cases e) (F.stay b o e)
  le := F.le
  sub := fun b o e => k b o (fun q => by rw [(hw b q).2.1] at e; cases e) (F.sub b o e)
  new := F.new
  ns := F.ns.at' fun o e => k _ o (fun q => (hw _ q).2.2.1 rfl) e
  Ln := F.Ln
  PL := F.PL
  vars := F.vars
  cells := fun x a e => by
    obtain ⟨h1, h2, h3, ov, ⟨o, h4, h5⟩, h6⟩ := F.cells x a e
    exact ⟨h1, h2, h3, ov, ⟨o, k a o (fun q => (hw _ q).2.2.2.2 x e) h4, h5⟩, h6⟩
  ckind := F.ckind
  cinj := F.cinj
  cdef := F.cdef
  own := fun i ds e => by
    obtain ⟨x, vs, h1, h2, h3, h4, h5, h6, h7, h8⟩ := F.own i ds e
    exact ⟨x, vs, h1, h2, h3, h4.at fun o q => k _ o (fun q => (hw _ q).2.2.2.1 rfl) q, h5, h6, h7, h8⟩
  lin := let ⟨o, e⟩ := F.lin; ⟨o, k _ _ (fun q => (hw _ q).2.2.2.1 rfl) e⟩
  kle := F.kle

/-- a target of a for -/
noncomputable def Tgt (c : Cx) (scope : Scope) (nm : List Str) (t : Expr) (tg : D → St → Option St) : Prop :=
  ∀ (env : Env) (A : Around) (s : Shared) (h₀ : Heap) (P₀ P : PM) (z : St) (l : Addr) (m : Str → Option Value) (d : D) (v : Value) (z' : St) (Q : Unit → Shared → Prop), EnvOK scope env → VOK scope nm → A.handled = none →
    FS c scope nm env h₀ P₀ P z.1 z.2 l m s.heap → DH c.w P v d → tg d z = some z' →
    (∀ h' tk' m', FS c scope nm env h₀ P₀ P z'.1 z'.2 l m' h' → Kx env l s.heap h' → Q () { s with heap := h', toks := tk' }) → wpAny (model PG c.w) A (assign t env v) Q NoE s
noncomputable def tgN (i : Nat) : D → St → Option St := fun d z => some (z.1.set i (some d), dropOwn i z.2)
noncomputable def tgP (i j : Nat) : D → St → Option St := fun d z => match d with
  | .tup [a, b] => some ((z.1.set i (some a)).set j (some b), dropOwn j (dropOwn i z.2))
  | _ => none
theorem tgt_name {x : Str} {p : Pos} (i : Nat) (hx : nm[i]? = some x) : Tgt c scope nm (.Name x p) (tgN i) := by
  intro env A s h₀ P₀ P z l m d v z' Q eo V hh F hv e q
  cases e
  exact wpAny_assign_Name (F.store eo V hx (a := some d) (fun d' e => by cases e; exact hv) fun m' h' tk' F' K' _ _ => q h' tk' m' F' K')
theorem tgt_pair {x y : Str} {p p2 tp : Pos} {k : Nat} (i j : Nat) (hx : nm[i]? = some x) (hy : nm[j]? = some y) : Tgt c scope nm (.Tuple [.Name x p, .Name y p2] k tp) (tgP i j) := by
  intro env A s h₀ P₀ P z l m d v z' Q eo V hh F hv e q
  unfold tgP at e
  split at e
  · rename_i d0 a b
    cases e
    obtain ⟨a1, o1, vs, n1, rfl, e1, k1, d1, p1⟩ := hv.tup_inv
    cases p1 with
    | cons pa pr =>
      cases pr with
      | cons pb pr =>
        cases pr
        refine assign_Tuple_tuple hh (tup_at e1 k1 d1 F.sub) rfl rfl fun h1 hs1 => ?_
        have st : s.heap.StaysIn h1 := fun b o e => hs1 b o (Nat.ne_of_lt (Heap.lt_size e)) e
        have F1 := F.grow ((Grow.refl F.sub).then st)
        refine assignInOrder_cons (wpAny_assign_Name (F1.store (s := { s with heap := h1 }) eo V hx (a := some a) (fun d' e => by cases e; exact pa) fun m2 h2 tk2 F2 K2 _ _ => ?_))
        refine assignInOrder_cons (wpAny_assign_Name (F2.store (s := { s with heap := h2, toks := tk2 }) eo V hy (a := some b) (fun d' e => by cases e; exact pb) fun m3 h3 tk3 F3 K3 _ _ => ?_))
        refine assignInOrder_nil ?_
        exact q h3 tk3 m3 F3 fun b o e n1 n2 n3 => K3 b o (K2 b o (st b o e) n1 n2 n3) n1 n2 n3
  · first | exact nn e | cases e

noncomputable def forS (tg : D → St → Option St) (psi : St → Option (St × Option D)) : List D → St → Option (St × Option D)
  | [], z => some (z, none)
  | d :: ds, z => (tg d z).bind fun z1 => (psi z1).bind fun x => match x with
    | (z2, some r) => some (z2, some r)
    | (z2, none) => forS tg psi ds z2

structure ForI (c : Cx) (scope : Scope) (nm : List Str) (env : Env) (h₀ : Heap) (P₀ : PM) (Pb : PM) (H0 : Heap) (P1 : PM) (l : Addr) (wr : List Addr) (tg : D → St → Option St) (psi : St → Option (St × Option D)) (ds : List D) (Sv : Nat → Heap → Prop) (z' : St) (r : Option D) (k : Nat) (h' : Heap) (zk : St) (P' : PM) (l' : Addr) (m' : Str → Option Value) : Prop where
  F : FS c scope nm env h₀ P₀ P' zk.1 zk.2 l' m' h'
  O : Out env l Pb H0 P' h' l'
  le : PLe P1 P'
  st : Sv k h'
  wr : ∀ b ∈ wr, P' b = none ∧ b ≠ l'
  e : forS tg psi (ds.drop k) zk = some (z', r)

theorem sx_for {t iter : Expr} {body : List Stmt} {pos : Pos} {tg : D → St → Option St} {phi : Vars → Option (List D)} {psi : St → Option (St × Option D)} (ht : Tgt c scope nm t tg) (hi : SI c nd nu scope nm iter phi) (hb : SL c nd nu scope nm body psi)
    (hs : ∀ env x, foldedSetIterable iter env x = pure x := by intro _ _; rfl) :
    SX c nd nu scope nm (.For t iter body [] pos) (fun z => (phi z.1).bind fun ds => forS tg psi ds z) := by
  intro env A s h₀ P₀ P z l m z' r Q eo V ao ho F e q
  obtain ⟨ds, ed, e2⟩ := Option.bind_eq_some_iff.mp e
  refine wpAny_For (wpAny_mono (hi env A s P z.1 ds (fun it s₂ => codeAny (model PG c.w) A (.forLoop t it body [] env) (fun r s' => match r with | .ok f => Q f s' | .error e => cameBackBy (model PG c.w) A env NoE e s') s₂)
    eo ao (ho.keeps F.stay) F.sub (F.rd eo V) ed fun I fp wr Pv Sv P1 h1 tk1 g1 S => ?_) (fun _ _ x => wpAny_mono x (fun _ _ y => y) fun _ _ y => y) fun _ _ x => x.elim) (hs env)
  have F1 := F.grow g1
  have wr0 : ∀ b ∈ wr, h₀.get? b = none ∧ b ≠ env.locals ∧ b ≠ l ∧ ∀ x, env.cells.lookup x ≠ some b := fun b hb => by
    have hn := (S.wrIn b hb).1
    refine ⟨none_of_stays F.stay hn, ?_, ?_, ?_⟩
    · rintro rfl; obtain ⟨o, e⟩ := Ns.some F.ns; rw [e] at hn; cases hn
    · rintro rfl; obtain ⟨o, e⟩ := F.lin; rw [e] at hn; cases hn
    · intro x e
      obtain ⟨_, _, _, ov, h4, _⟩ := F.cells x b e
      obtain ⟨o, e'⟩ := IsCell.some h4
      rw [e'] at hn; cases hn
  obtain ⟨I', mk, un⟩ : ∃ I' : Nat → Shared → Prop, (∀ k h' tk' zk P' l' m', k ≤ ds.length → ForI c scope nm env h₀ P₀ P s.heap P1 l wr tg psi ds Sv z' r k h' zk P' l' m' → I' (ds.length - k) { s with heap := h', toks := tk' }) ∧
      ∀ n s' (C : Prop), I' n s' → (∀ k h' tk' zk P' l' m', s' = { s with heap := h', toks := tk' } → n = ds.length - k → k ≤ ds.length → ForI c scope nm env h₀ P₀ P s.heap P1 l wr tg psi ds Sv z' r k h' zk P' l' m' → C) → C :=
    ⟨fun n s' => ∃ k h' tk' zk P' l' m', s' = { s with heap := h', toks := tk' } ∧ n = ds.length - k ∧ k ≤ ds.length ∧ ForI c scope nm env h₀ P₀ P s.heap P1 l wr tg psi ds Sv z' r k h' zk P' l' m',
      fun k h' tk' zk P' l' m' hk J => ⟨k, h', tk', zk, P', l', m', rfl, rfl, hk, J⟩, by rintro n s' C ⟨k, h', tk', zk, P', l', m', e1, e2, hk, J⟩ q; exact q k h' tk' zk P' l' m' e1 e2 hk J⟩
  refine forLoopP (I := I')
    ?_ ds.length (mk 0 h1 tk1 z P1 l m (Nat.zero_le _) ⟨F1, .grow g1, .refl _, S.st, fun b hb => ⟨?_, (wr0 b hb).2.2.1⟩, by rw [List.drop_zero]; exact e2⟩)
  rotate_left
  · cases q1 : P1 b with
    | none => rfl
    | some o =>
      rcases g1.new b o q1 with q2 | q2
      · rw [(S.wrIn b hb).2] at q1; cases q1
      · rw [(S.wrIn b hb).2] at q1; cases q1
  intro n s' hI
  refine un n s' _ hI ?_
  rintro k h' tk' zk P' l' m' rfl rfl hk J
  have off : ∀ {h2 : Heap}, (∀ b o, b ∉ wr → h'.get? b = some o → h2.get? b = some o) → FS c scope nm env h₀ P₀ P' zk.1 zk.2 l' m' h2 ∧ Out env l P s.heap P' h2 l' := fun {h2} ko => by
    refine ⟨J.F.off (fun b hb => ⟨(wr0 b hb).1, (J.wr b hb).1, (wr0 b hb).2.1, (J.wr b hb).2, (wr0 b hb).2.2.2⟩) ko, ⟨fun b o e n1 n2 n3 => ko b o (fun hb => by have := (S.wrIn b hb).1; rw [e] at this; cases this) (J.O.k b o e n1 n2 n3), J.O.n, J.O.p, J.O.np⟩⟩
  by_cases hlt : k < ds.length
  · refine S.W.item k _ _ _ hlt J.st fun v h2 tk2 hPv hS2 ko => ?_
    refine S.lg t k v { s with heap := h2, toks := tk2 } _ _ hPv hS2 fun h3 hS3 ko3 => ?_
    obtain ⟨F3, O3⟩ := off (h2 := h3) fun b o hb e => ko3 b o hb (ko b o hb e)
    obtain ⟨d, hd, hv⟩ := S.it k v hPv hlt P' J.le
    have hdrop : ds.drop k = d :: ds.drop (k + 1) := by
      rw [List.drop_eq_getElem_cons hlt]
      congr 1
      rw [List.getElem?_eq_getElem hlt] at hd
      exact Option.some.inj hd
    have e3 := J.e
    rw [hdrop] at e3
    obtain ⟨z1, ez1, e4⟩ := Option.bind_eq_some_iff.mp e3
    obtain ⟨⟨z2, r2⟩, ez2, e5⟩ := Option.bind_eq_some_iff.mp e4
    refine ht env A { s with heap := h3, toks := tk2 } h₀ P₀ P' zk l' m' d v z1 _ eo V ao.hh F3 hv ez1 fun h4 tk4 m4 F4 K4 => ?_
    have O4 : Out env l P s.heap P' h4 l' := Out.trans F3 O3 ⟨K4, .inl rfl, .refl _, fun _ _ e => .inl e⟩
    have live4 : ∀ b ∈ wr, ∃ o, h4.get? b = some o := fun b hb => by
      obtain ⟨o, e⟩ := S.live _ _ hS3 b hb
      exact ⟨o, K4 b o e (wr0 b hb).2.1 (J.wr b hb).2 (wr0 b hb).2.2.2⟩
    have frame4 : ∀ {h5 : Heap} {P5 : PM}, PLe P' P5 → PIn P5 h5 → (∀ b o, h4.get? b = some o → b ∈ wr → h5.get? b = some o) → Sv (k + 1) h5 := fun {h5 P5} hle hin hw => by
      refine S.W.frame _ _ _ hS3 fun b hb o e => ?_
      rcases S.fpIn b hb with hw' | ⟨o', e'⟩
      · exact hw b o (K4 b o e (wr0 b hw').2.1 (J.wr b hw').2 (wr0 b hw').2.2.2) hw'
      · have e1 := F3.sub b o' (J.le b o' e')
        rw [e1] at e; cases e
        exact hin b _ (hle b _ (J.le b _ e'))
    refine hb env A { s with heap := h4, toks := tk4 } h₀ P₀ P' z1 l' m4 z2 r2 _ eo V ao ho F4 ez2 fun fl P5 h5 tk5 l5 m5 F5 O5 fi => ?_
    have O6 := Out.trans F4 O4 O5
    cases r2 with
    | some d =>
      cases e5
      obtain ⟨v, rfl, hv⟩ := fi
      exact q _ P5 h5 tk5 l5 m5 F5 O6 ⟨v, rfl, hv⟩
    | none =>
      have : fl = .next := fi
      subst this
      refine ⟨ds.length - (k + 1), by omega, mk (k + 1) h5 tk5 z2 P5 l5 m5 hlt ⟨F5, O6, J.le.trans O5.p, ?_, fun b hb => ?_, e5⟩⟩
      · exact frame4 O5.p F5.sub fun b o e hb => O5.k b o e (wr0 b hb).2.1 (J.wr b hb).2 (wr0 b hb).2.2.2
      · obtain ⟨o, e⟩ := live4 b hb
        refine ⟨?_, ?_⟩
        · cases q1 : P5 b with
          | none => rfl
          | some o' =>
            rcases O5.np b o' q1 with q2 | q2 | q2
            · rw [(J.wr b hb).1] at q2; cases q2
            · rw [show h4.get? b = none from q2] at e; cases e
            · exact absurd q2 (J.wr b hb).2
        · rcases O5.n with q2 | q2
          · rw [q2]; exact (J.wr b hb).2
          · rintro rfl; rw [show h4.get? b = none from q2] at e; cases e
  · have hkk : k = ds.length := by omega
    subst hkk
    refine S.W.done _ _ _ J.st fun h2 tk2 ko => ?_
    obtain ⟨F3, O3⟩ := off (h2 := h2) ko
    have e3 := J.e
    rw [List.drop_length] at e3
    cases e3
    exact wpAny_execs_nil (q .next P' h2 tk2 l' m' F3 O3 rfl)
end
end Mine
namespace Mine
open PySem PySem.W PySem.Calls PySem.SeqAt PyProof.Rows

section
variable {prog : Program} {w : World} {A : Around} {R : Result → Shared → Prop} {s : Shared}
theorem compLoopP {elt target iter : Expr} {ifs : List Expr} {scope : Scope} {pos : Pos} {it acc : Value} {env : Env} (I : Nat → Shared → Prop)
    (turn : ∀ n s, I n s → wpAny (model prog w) A (pyNext it) (fun r s₁ => match r with
      | none => R (.ok .next) s₁
      | some v => wpAny (model prog w) A (letOwnedTupleGo target it v) (fun _ s₁' => wpAny (model prog w) A (assign target env v) (fun _ s₂ =>
          wpAny (model prog w) A (forIn ifs true fun c r => if r = true then do let ok ← isTrue c env (eval c env); pure (ForInStep.yield ok) else pure (ForInStep.yield r)) (fun ok s₃ =>
            if ok = true then wpAny (model prog w) A (eval elt env) (fun x s₄ =>
              wpAny (model prog w) A (call (.builtin "list.append") [acc, x]) (fun _ s₅ => ∃ m, m < n ∧ I m s₅) NoE s₄) NoE s₃
            else ∃ m, m < n ∧ I m s₃) NoE s₂) NoE s₁') NoE s₁) NoE s)
    (n : Nat) (h : I n s) :
    codeAny (model prog w) A (.compLoop (.ListComp elt [⟨target, iter, ifs, 0⟩] scope pos) 0 it acc env) R s := by
  refine codeAny_loop rfl I (fun n s hI => ?_) n h
  show wpAny _ A ((compTurn (.ListComp elt [⟨target, iter, ifs, 0⟩] scope pos) 0 it acc env).onRaise (fun x => do noteFrame x env; theTreesLotGoes x)) _ _ s
  refine wpAny_noted ?_
  rw [compTurn_list]
  refine wpAny_bind (wpAny_standAt (wpAny_bind (wpAny_mono (turn n s hI) (fun r s₁ h₁ => ?_) fun _ _ h' => h'.elim)))
  cases r with
  | none => exact wpAny_pure h₁
  | some v =>
    refine wpAny_bind (wpAny_mono h₁ (fun _ s₁' h₁' => ?_) fun _ _ h' => h'.elim)
    refine wpAny_bind (wpAny_mono h₁' (fun _ s₂ h₂ => wpAny_bind (wpAny_mono h₂ (fun ok s₃ h₃ => ?_) fun _ _ h' => h'.elim)) fun _ _ h' => h'.elim)
    cases ok with
    | false => exact wpAny_pure ⟨rfl, h₃⟩
    | true =>
      exact wpAny_bind (wpAny_bind (wpAny_mono h₃ (fun x s₄ h₄ => wpAny_bind (wpAny_mono h₄ (fun _ s₅ h₅ => wpAny_pure (wpAny_pure ⟨rfl, h₅⟩)) fun _ _ h' => h'.elim)) fun _ _ h' => h'.elim))
end

noncomputable def relab (scope oscope : Scope) : Scope :=
  { scope with names := scope.names.map fun (n, k) => if (k == .free && oscope.kind == .function && oscope.names.lookup n == some .cell) then (n, .cell) else (n, k) }
theorem relab_eq (scope : Scope) (env : Env) : relabel scope env = relab scope env.scope := rfl

noncomputable def clGo (env : Env) : List (Str × NameKind) → List (Str × Addr) → List (Str × Addr)
  | [], acc => acc
  | (n, k) :: r, acc => clGo env r (if k == .free then (n, (env.cells.lookup n).getD 0) :: acc else acc)
theorem closure_go {env : Env} : ∀ (names : List (Str × NameKind)) (acc : List (Str × Addr)), (∀ y ∈ names, y.2 = .free → ∃ a, env.cells.lookup y.1 = some a) →
    (forIn names acc fun (x : Str × NameKind) (r : List (Str × Addr)) => (if (x.2 == NameKind.free) = true then do let y ← cellOf env x.1; pure (ForInStep.yield ((x.1, y) :: r)) else pure (ForInStep.yield r) : Sem _)) = pure (clGo env names acc)
  | [], acc, _ => by rw [List.forIn_nil]; rfl
  | (n, k) :: r, acc, h => by
    rw [List.forIn_cons]
    have hr : ∀ y ∈ r, y.2 = .free → ∃ a, env.cells.lookup y.1 = some a := fun y hy => h y (List.mem_cons_of_mem _ hy)
    unfold clGo
    by_cases hk : (k == NameKind.free) = true
    · obtain ⟨a, ha⟩ := h (n, k) List.mem_cons_self (by simpa using hk)
      have hc : cellOf env n = pure a := by unfold cellOf; rw [show env.cells.lookup n = some a from ha]
      dsimp only
      rw [if_pos hk, if_pos hk, hc, show env.cells.lookup n = some a from ha]
      exact closure_go r _ hr
    · dsimp only
      rw [if_neg hk, if_neg hk]
      exact closure_go r _ hr
theorem closure_ok {env : Env} {scope : Scope} (h : ∀ y ∈ scope.names, y.2 = .free → ∃ a, env.cells.lookup y.1 = some a) : closureFor scope env = pure (clGo env scope.names []) := by
  have := closure_go (env := env) scope.names [] h
  unfold closureFor
  rw [← this]
  simp only [bind_pure]
theorem clGo_mem {env : Env} : ∀ {names : List (Str × NameKind)} {acc : List (Str × Addr)}, (∀ y ∈ names, y.2 = .free → ∃ a, env.cells.lookup y.1 = some a) → (∀ p ∈ acc, env.cells.lookup p.1 = some p.2) →
    (∀ p ∈ clGo env names acc, env.cells.lookup p.1 = some p.2) ∧ (∀ p ∈ acc, p ∈ clGo env names acc) ∧ ∀ y, (y, NameKind.free) ∈ names → ∃ a, (y, a) ∈ clGo env names acc
  | [], acc, _, ha => ⟨ha, fun _ h => h, fun _ h => by cases h⟩
  | (n, k) :: r, acc, h, ha => by
    have hr : ∀ y ∈ r, y.2 = .free → ∃ a, env.cells.lookup y.1 = some a := fun y hy => h y (List.mem_cons_of_mem _ hy)
    unfold clGo
    by_cases hk : (k == NameKind.free) = true
    · obtain ⟨a, hc⟩ := h (n, k) List.mem_cons_self (by simpa using hk)
      rw [if_pos hk, show env.cells.lookup n = some a from hc]
      obtain ⟨i1, i2, i3⟩ := clGo_mem (acc := (n, (some a).getD 0) :: acc) hr (fun p hp => by
        rcases List.mem_cons.mp hp with rfl | hp
        · exact hc
        · exact ha p hp)
      refine ⟨i1, fun p hp => i2 p (List.mem_cons_of_mem _ hp), fun y hy => ?_⟩
      rcases List.mem_cons.mp hy with e | hy
      · cases e; exact ⟨_, i2 _ List.mem_cons_self⟩
      · exact i3 y hy
    · rw [if_neg hk]
      obtain ⟨i1, i2, i3⟩ := clGo_mem (acc := acc) hr ha
      refine ⟨i1, i2, fun y hy => ?_⟩
      rcases List.mem_cons.mp hy with e | hy
      · cases e; exact absurd rfl hk
      · exact i3 y hy
theorem lookup_of_mem_some {β : Type} : ∀ {l : List (Str × β)} {y : Str} {a : β}, (y, a) ∈ l → ∃ b, l.lookup y = some b
  | (k, v) :: r, y, a, h => by
    rw [List.lookup_cons]
    cases hb : y == k with
    | true => exact ⟨v, rfl⟩
    | false =>
      rcases List.mem_cons.mp h with e | h
      · cases e; simp at hb
      · exact lookup_of_mem_some h
theorem clGo_lookup {env : Env} {names : List (Str × NameKind)} {y : Str} {a : Addr} (h : ∀ y ∈ names, y.2 = .free → ∃ a, env.cells.lookup y.1 = some a) (hy : (y, NameKind.free) ∈ names) (ha : env.cells.lookup y = some a) : (clGo env names []).lookup y = some a := by
  obtain ⟨i1, _, i3⟩ := clGo_mem (acc := []) h (fun _ h => by cases h)
  obtain ⟨b, hb⟩ := i3 y hy
  obtain ⟨d, hd⟩ := lookup_of_mem_some hb
  have := i1 _ (mem_of_lookup hd)
  rw [show env.cells.lookup y = some d from this] at ha
  rw [hd, ha]

structure CompOK (scope oscope : Scope) (nm : List Str) (xs : List Str) (fr : List (Str × Nat)) : Prop where
  kind : scope.kind = .function
  okind : oscope.kind = .function
  cell : ∀ y ∈ scope.names, y.2 ≠ .cell
  names : ∀ x ∈ scope.names, x.2 = .local → scope.names.lookup x.1 = some .local
  xl : ∀ x ∈ xs, scope.names.lookup x = some .local
  frm : ∀ p ∈ fr, nm[p.2]? = some p.1 ∧ (p.1, NameKind.free) ∈ scope.names ∧ oscope.names.lookup p.1 = some .cell ∧ (relab scope oscope).names.lookup p.1 = some .cell
  all : ∀ y ∈ scope.names, y.2 = .free → y.1 ∈ nm ∧ oscope.names.lookup y.1 = some .cell
  dbg : ∀ x ∈ xs ++ fr.map (·.1), (x == ("__debug__" : Str)) = false

noncomputable def CTgt (t : Expr) (xs : List Str) (split : D → Option (List D)) : Prop :=
  ∀ (c : Cx) (cenv : Env) (A : Around) (s : Shared) (P : PM) (m : Str → Option Value) (d : D) (v : Value) (tv : List D) (Q : Unit → Shared → Prop), (∀ x ∈ xs, cenv.kindOf x = some .local) → cenv.scope.kind = .function → A.handled = none → s.heap.Ns cenv.locals m → PIn P s.heap → DH c.w P v d → split d = some tv →
    (∀ h' tk' m', h'.Ns cenv.locals m' → tv.length = xs.length → (∀ (i : Nat) x d', xs[i]? = some x → tv[i]? = some d' → ∃ v', m' x = some v' ∧ DH c.w P v' d') → (∀ b o, b ≠ cenv.locals → s.heap.get? b = some o → h'.get? b = some o) → Q () { s with heap := h', toks := tk' }) →
    wpAny (model PG c.w) A (assign t cenv v) Q NoE s
noncomputable def spN : D → Option (List D) := fun d => some [d]
noncomputable def spP : D → Option (List D) := fun d => match d with
  | .tup [a, b] => some [a, b]
  | _ => none
theorem ctgt_name {x : Str} {p : Pos} : CTgt (.Name x p) [x] spN := by
  intro c cenv A s P m d v tv Q hx hk hh hn hp hv e q
  cases e
  refine wpAny_assign_Name (wpAny_storeName_local (hx x (by simp)) hn (fun h' hn' hs' => ?_) (by rw [hk]; rfl))
  refine q h' _ _ hn' rfl (fun i y d' hy hd => ?_) (fun b o n e => hs'.extBut b o n e)
  match i with
  | 0 => cases hd; cases hy; exact ⟨v, by simp, hv⟩
theorem ctgt_pair {x y : Str} {p p2 tp : Pos} {k : Nat} (hxy : (x == y) = false := by decide) : CTgt (.Tuple [.Name x p, .Name y p2] k tp) [x, y] spP := by
  intro c cenv A s P m d v tv Q hx hk hh hn hp hv e q
  unfold spP at e
  split at e
  · rename_i d0 a b
    cases e
    obtain ⟨a1, o1, vs, n1, rfl, e1, k1, d1, p1⟩ := hv.tup_inv
    cases p1 with
    | cons pa pr =>
      rename_i va vr
      cases pr with
      | cons pb pr =>
        rename_i vb vr
        cases pr
        refine assign_Tuple_tuple hh (tup_at e1 k1 d1 hp) rfl rfl fun h1 hs1 => ?_
        have st : s.heap.StaysIn h1 := fun b o e => hs1 b o (Nat.ne_of_lt (Heap.lt_size e)) e
        refine assignInOrder_cons (wpAny_assign_Name (wpAny_storeName_local (s := { s with heap := h1 }) (hx x (by simp)) (hn.keeps st) (fun h2 hn2 hs2 => ?_) (by rw [hk]; rfl)))
        refine assignInOrder_cons (wpAny_assign_Name (wpAny_storeName_local (s := { s with heap := h2, toks := _ }) (hx y (by simp)) hn2 (fun h3 hn3 hs3 => ?_) (by rw [hk]; rfl)))
        refine assignInOrder_nil ?_
        have hne : x ≠ y := by intro e; subst e; simp at hxy
        refine q h3 _ _ hn3 rfl (fun i z d' hz hd => ?_) (fun b o n e => hs3.extBut b o n (hs2.extBut b o n (st b o e)))
        match i with
        | 0 => cases hd; cases hz; exact ⟨va, by simp [hne], pa⟩
        | 1 => cases hd; cases hz; exact ⟨vb, by simp, pb⟩
  · first | exact nn e | cases e

/-- the tests of a comprehension -/
noncomputable def STs (c : Cx) (nd nu : Nat) (scope : Scope) (nm : List Str) (ifs : List Expr) (tau : Vars → Option Bool) : Prop :=
  ∀ (env : Env) (A : Around) (s : Shared) (P : PM) (G : Vars) (d : Bool) (Q : Bool → Shared → Prop), EnvOK scope env → AOK A nd nu → HOK c s.heap → PIn P s.heap → Rd c env nm G P s.heap → tau G = some d →
    (∀ P' h' tk', Grow P s.heap P' h' → Q d { s with heap := h', toks := tk' }) →
    wpAny (model PG c.w) A (forIn ifs true fun c r => if r = true then do let ok ← isTrue c env (eval c env); pure (ForInStep.yield ok) else pure (ForInStep.yield r)) Q NoE s
noncomputable def compF (split : D → Option (List D)) (fr : List Nat) (tau : Vars → Option Bool) (phi : Vars → Option D) (G : Vars) (d : D) : Option (Option D) :=
  (split d).bind fun tv => (tau (tv.map some ++ fr.map fun j => (G[j]?).join)).bind fun b => if b then (phi (tv.map some ++ fr.map fun j => (G[j]?).join)).map some else some none
noncomputable def compL (f : D → Option (Option D)) : List D → Option (List D)
  | [] => some []
  | d :: r => (f d).bind fun o => (compL f r).map fun l => match o with
    | some x => x :: l
    | none => l

section
variable {c : Cx} {nd nu : Nat} {scope oscope : Scope} {nm : List Str}
theorem sts_nil : STs c nd nu scope nm [] (fun _ => some true) := by
  intro env A s P G d Q eo ao ho hp rd e q
  cases e
  exact wpAny_tests_nil (q P s.heap s.toks (.refl hp))
theorem sts_one {t : Expr} {tau : Vars → Option Bool} (h : ST c nd nu scope nm t tau) : STs c nd nu scope nm [t] tau := by
  intro env A s P G d Q eo ao ho hp rd e q
  exact wpAny_tests_one (h env A s P G d Q eo ao ho hp rd e q)

/-- an iterator over known data; its items may be new -/
structure SrcG (c : Cx) (A : Around) (I : Addr) (t : Expr) (fp wr : List Addr) (ds : List D) (Sv : Nat → Heap → Prop) (H0 : Heap) (P : PM) (h : Heap) : Prop where
  frame : ∀ i h h', Sv i h → (∀ b ∈ fp, ∀ o, h.get? b = some o → h'.get? b = some o) → Sv i h'
  item : ∀ (k : Nat) (s : Shared) (P' : PM) (Q : Value → Shared → Prop), k < ds.length → Sv k s.heap → PLe P P' → PIn P' s.heap → (∀ b ∈ wr, P' b = none) →
    (∀ v d P'' h' tk', ds[k]? = some d → DH c.w P'' v d → PLe P' P'' → PIn P'' h' → (∀ b o, P'' b = some o → P' b = some o ∨ s.heap.get? b = none) → Sv (k + 1) h' → (∀ b o, b ∉ wr → s.heap.get? b = some o → h'.get? b = some o) → Q v { s with heap := h', toks := tk' }) →
    wpAny (model PG c.w) A (pyNext (.ref I)) (fun r s₁ => ∃ v, r = some v ∧ wpAny (model PG c.w) A (letOwnedTupleGo t (.ref I) v) (fun _ s₂ => Q v s₂) NoE s₁) NoE s
  done : ∀ (s : Shared) (Q : Option Value → Shared → Prop) (E : Value → Shared → Prop), Sv ds.length s.heap →
    (∀ h' tk, (∀ b o, b ∉ wr → s.heap.get? b = some o → h'.get? b = some o) → Q none { s with heap := h', toks := tk }) → wpAny (model PG c.w) A (pyNext (.ref I)) Q E s
  self : ∀ i (s : Shared) (Q : Value → Shared → Prop) (E : Value → Shared → Prop), Sv i s.heap → Q (.ref I) s → wpAny (model PG c.w) A (pyIter (.ref I)) Q E s
  st : Sv 0 h
  fpIn : ∀ b ∈ fp, b ∈ wr ∨ ∃ o, P b = some o
  wrIn : ∀ b ∈ wr, H0.get? b = none ∧ P b = none
  live : ∀ i h, Sv i h → ∀ b ∈ wr, ∃ o, h.get? b = some o
theorem Src.g {c : Cx} {A : Around} {I : Addr} {t : Expr} {fp wr : List Addr} {ds : List D} {Pv : Nat → Value → Prop} {Sv : Nat → Heap → Prop} {H0 : Heap} {P : PM} {h : Heap} (S : Src c A I fp wr ds Pv Sv H0 P h) : SrcG c A I t fp wr ds Sv H0 P h where
  frame := S.W.frame
  item := fun k s P' Q hk hs hle hin hw hQ => by
    refine S.W.item k s _ _ hk hs fun v h2' tk2 hPv hS2 ko => ⟨v, rfl, ?_⟩
    refine S.lg t k v { s with heap := h2', toks := tk2 } _ _ hPv hS2 fun h3 hS3 ko3 => ?_
    obtain ⟨d, hd, hv⟩ := S.it k v hPv hk P' hle
    have k3 : ∀ b o, b ∉ wr → s.heap.get? b = some o → h3.get? b = some o := fun b o hb e => ko3 b o hb (ko b o hb e)
    exact hQ v d P' h3 tk2 hd hv (.refl _) (fun b o e => k3 b o (fun hb => by rw [hw b hb] at e; cases e) (hin b o e)) (fun b o e => .inl e) hS3 k3
  done := S.W.done
  self := S.W.self
  st := S.st
  fpIn := S.fpIn
  wrIn := S.wrIn
  live := S.live
noncomputable def SIG (c : Cx) (nd nu : Nat) (scope : Scope) (nm : List Str) (iter t : Expr) (phi : Vars → Option (List D)) : Prop :=
  ∀ (env : Env) (A : Around) (s : Shared) (P : PM) (G : Vars) (ds : List D) (Q : Value → Shared → Prop), EnvOK scope env → AOK A nd nu → HOK c s.heap → PIn P s.heap → Rd c env nm G P s.heap → phi G = some ds →
    (∀ I fp wr Sv P' h' tk', Grow P s.heap P' h' → SrcG c A I t fp wr ds Sv s.heap P' h' → Q (.ref I) { s with heap := h', toks := tk' }) →
    wpAny (model PG c.w) A (eval iter env) (fun xv s₁ => wpAny (model PG c.w) A (pyIter xv) Q NoE s₁) NoE s
theorem SI.g {c : Cx} {nd nu : Nat} {scope : Scope} {nm : List Str} {iter t : Expr} {phi : Vars → Option (List D)} (h : SI c nd nu scope nm iter phi) : SIG c nd nu scope nm iter t phi :=
  fun env A s P G ds Q eo ao ho hp rd e q => h env A s P G ds Q eo ao ho hp rd e fun I fp wr _ Sv P' h' tk' g S => q I fp wr Sv P' h' tk' g S.g

structure CompI (c : Cx) (P : PM) (h₂ : Heap) (wr : List Addr) (f : D → Option (Option D)) (ds es : List D) (Sv : Nat → Heap → Prop) (Da Ca : Addr) (k : Nat) (h' : Heap) (m' : Str → Option Value) (ys : List Value) (P' : PM) (es' rest : List D) : Prop where
  base : ∀ b o, b ∉ wr → h₂.get? b = some o → h'.get? b = some o
  st : Sv k h'
  pl : h'.PlainList Da ys.toArray
  ns : h'.Ns Ca m'
  sub : PIn P' h'
  le : PLe P P'
  dh : DHs c.w P' ys es'
  pD : P' Da = none
  pC : P' Ca = none
  pw : ∀ b ∈ wr, P' b = none
  new : ∀ b o, P' b = some o → P b = some o ∨ h₂.get? b = none
  e : compL f (ds.drop k) = some rest
  ee : es = es' ++ rest
  len : es'.length ≤ k

theorem comp_core {env : Env} {A : Around} {s₂ : Shared} {P Pb : PM} {H0 : Heap} {G : Vars} {I : Addr} {fp wr : List Addr} {ds es : List D} {Sv : Nat → Heap → Prop} {elt iter t : Expr} {ifs : List Expr} {pos : Pos} {xs : List Str} {fr : List (Str × Nat)}
    {split : D → Option (List D)} {tau : Vars → Option Bool} {phi : Vars → Option D} {RR : Value → Addr → Result → Shared → Prop}
    (eo : EnvOK oscope env) (ao : AOK A nd nu) (ho : HOK c H0) (g : Grow Pb H0 P s₂.heap) (rd0 : Rd c env nm G Pb H0) (S : SrcG c A I t fp wr ds Sv H0 P s₂.heap) (K : CompOK scope oscope nm xs fr) (ht : CTgt t xs split)
    (h1 : STs c nd nu (relab scope oscope) (xs ++ fr.map (·.1)) ifs tau) (h2 : SE c nd nu (relab scope oscope) (xs ++ fr.map (·.1)) elt phi) (e : compL (compF split (fr.map (·.2)) tau phi G) ds = some es) (hl : ds.length ≤ 1000)
    (hRR : ∀ D C h' tk m' ys P', s₂.heap.get? D = none → s₂.heap.get? C = none → D ≠ C → h'.Ns C m' → h'.PlainList D ys.toArray → DHs c.w P' ys es → es.length ≤ 1000 → PLe P P' → PIn P' h' → (∀ b o, P' b = some o → P b = some o ∨ s₂.heap.get? b = none) → P' D = none → P' C = none →
      (∀ b o, b ∉ wr → s₂.heap.get? b = some o → h'.get? b = some o) → RR (.ref D) C (.ok .next) { s₂ with heap := h', toks := tk }) :
    wpAny (model PG c.w) A (newList []) (fun acc s₃ => wpAny (model PG c.w) A (newFunctionEnv scope env.globals (clGo env scope.names []) [] env.qual none .none (some env)) (fun cenv s₄ =>
      codeAny (model PG c.w) A (.compStart (.ListComp elt [⟨t, iter, ifs, 0⟩] scope pos) 0 (.ref I) acc { cenv with scope := relabel scope env }) (RR acc cenv.locals) s₄) NoE s₃) NoE s₂ := by
  refine wpAny_newObj_type (wpAny_newFunctionEnv K.cell (by intro y hy; simp at hy) (fun h₁ hns₁ hsb₁ => ?_) K.kind)
  dsimp only at hns₁ hsb₁ ⊢
  generalize hH2 : s₂.heap.push { cls := .type "list", dict := none, data := .seq ([] : List Value).toArray } = H2 at hns₁ hsb₁ ⊢
  have hC : H2.objs.size = s₂.heap.objs.size + 1 := by rw [← hH2, Heap.size_push]
  have hDC : s₂.heap.objs.size ≠ H2.objs.size := by rw [hC]; exact Nat.ne_of_lt (Nat.lt_succ_self _)
  have below : ∀ b, b < s₂.heap.objs.size → b ≠ H2.objs.size ∧ b ≠ s₂.heap.objs.size := fun b hb => ⟨by rw [hC]; exact Nat.ne_of_lt (Nat.lt_succ_of_lt hb), Nat.ne_of_lt hb⟩
  have old : ∀ b o, s₂.heap.get? b = some o → h₁.get? b = some o := fun b o e => hsb₁.extBut b o (below b (Heap.lt_size e)).1 (Heap.get?_push_of_some _ (hH2 ▸ Heap.get?_push_of_some _ e))
  have hacc : h₁.PlainList s₂.heap.objs.size #[] := ⟨_, hsb₁.extBut _ _ hDC (Heap.get?_push_of_some _ (hH2 ▸ Heap.get?_push_size _ rfl))⟩
  have fresh : ∀ a, s₂.heap.objs.size ≤ a → s₂.heap.get? a = none := fun a ha => by
    cases e : s₂.heap.get? a with
    | none => rfl
    | some o' => exact absurd (Heap.lt_size e) (Nat.not_lt.mpr ha)
  have fD := fresh s₂.heap.objs.size (Nat.le_refl _)
  have fC := fresh H2.objs.size (by rw [hC]; exact Nat.le_succ _)
  have hst₁ : Sv 0 h₁ := S.frame _ _ _ S.st fun b _ o e => old b o e
  have frk : ∀ y ∈ scope.names, y.2 = .free → ∃ a, env.cells.lookup y.1 = some a := fun y hy hf => rd0.cd y.1 (K.all y hy hf).1 (by show env.scope.names.lookup y.1 = _; rw [eo.sc]; exact (K.all y hy hf).2)
  have wrlt : ∀ b ∈ wr, b ≠ s₂.heap.objs.size ∧ b ≠ H2.objs.size := fun b hb => by
    obtain ⟨o, e⟩ := S.live _ _ S.st b hb
    exact ⟨(below b (Heap.lt_size e)).2, (below b (Heap.lt_size e)).1⟩
  have wrP : ∀ b ∈ wr, P b = none := fun b hb => (S.wrIn b hb).2
  have cenvE : ∀ s₃ : Shared, s₃ = { s₂ with heap := h₁, toks := s₂.toks + ([] : List (Str × Value)).length } →
      codeAny (model PG c.w) A (.compLoop (.ListComp elt [⟨t, iter, ifs, 0⟩] scope pos) 0 (.ref I) (.ref s₂.heap.objs.size) (compEnvC scope (clGo env scope.names []) H2.objs.size env))
        (RR (.ref s₂.heap.objs.size) H2.objs.size) s₃ := by
    rintro s₃ rfl
    have ceo : EnvOK (relab scope oscope) (compEnvC scope (clGo env scope.names []) H2.objs.size env) := ⟨by show relabel scope env = _; rw [relab_eq, eo.sc], eo.gl, eo.bi, K.kind⟩
    have ckd : (compEnvC scope (clGo env scope.names []) H2.objs.size env).scope.kind = .function := K.kind
    obtain ⟨F, hF⟩ : ∃ F, F = compF split (fr.map (·.2)) tau phi G := ⟨_, rfl⟩
    rw [← hF] at e
    obtain ⟨I', mk, un⟩ : ∃ I' : Nat → Shared → Prop, (∀ k h' tk' m' ys P' es' rest, k ≤ ds.length → CompI c P s₂.heap wr F ds es Sv s₂.heap.objs.size H2.objs.size k h' m' ys P' es' rest → I' (ds.length - k) { s₂ with heap := h', toks := tk' }) ∧
        ∀ n s' (C : Prop), I' n s' → (∀ k h' tk' m' ys P' es' rest, s' = { s₂ with heap := h', toks := tk' } → n = ds.length - k → k ≤ ds.length → CompI c P s₂.heap wr F ds es Sv s₂.heap.objs.size H2.objs.size k h' m' ys P' es' rest → C) → C :=
      ⟨fun n s' => ∃ k h' tk' m' ys P' es' rest, s' = { s₂ with heap := h', toks := tk' } ∧ n = ds.length - k ∧ k ≤ ds.length ∧ CompI c P s₂.heap wr F ds es Sv s₂.heap.objs.size H2.objs.size k h' m' ys P' es' rest,
        fun k h' tk' m' ys P' es' rest hk J => ⟨k, h', tk', m', ys, P', es', rest, rfl, rfl, hk, J⟩, by rintro n s' C ⟨k, h', tk', m', ys, P', es', rest, e1, e2, hk, J⟩ q; exact q k h' tk' m' ys P' es' rest e1 e2 hk J⟩
    refine compLoopP (I := I') ?_ ds.length
      (mk 0 h₁ _ _ [] P [] es (Nat.zero_le _) ⟨fun b o _ e => old b o e, hst₁, hacc, hns₁, fun b o e => old b o (g.sub b o e), .refl _, .nil, none_of_in g.sub fD, none_of_in g.sub fC, wrP, fun _ _ e => .inl e, by rw [List.drop_zero]; exact e, rfl, Nat.le_refl _⟩)
    intro n s' hI
    refine un n s' _ hI ?_
    rintro k h' tk' m' ys P' es' rest rfl rfl hk J
    by_cases hlt : k < ds.length
    · refine wpAny_mono (S.item k { s₂ with heap := h', toks := tk' } P' (fun v s₁' => wpAny (model PG c.w) A (assign t (compEnvC scope (clGo env scope.names []) H2.objs.size env) v) _ NoE s₁') hlt J.st J.le J.sub J.pw fun v d P3 h3 tk2 hd hv le3 sub3 new3 hS3 k3 => ?_) (fun r s₁ hr => by obtain ⟨v, rfl, hr⟩ := hr; exact hr) fun _ _ y => y
      replace k3 : ∀ b o, b ∉ wr → h'.get? b = some o → h3.get? b = some o := k3
      replace new3 : ∀ b o, P3 b = some o → P' b = some o ∨ h'.get? b = none := new3
      have liveDa : ∃ o, h'.get? s₂.heap.objs.size = some o := let ⟨n0, e0⟩ := J.pl; ⟨_, e0⟩
      have liveCa : ∃ o, h'.get? H2.objs.size = some o := Ns.some J.ns
      have noP3 : ∀ b, P' b = none → (∃ o, h'.get? b = some o) → P3 b = none := fun b n ⟨o, e⟩ => by
        cases r : P3 b with
        | none => rfl
        | some o' =>
          rcases new3 b o' r with q | q
          · rw [n] at q; cases q
          · rw [e] at q; cases q
      have leJ : PLe P P3 := J.le.trans le3
      have dhJ := J.dh.mono le3
      have pDJ : P3 s₂.heap.objs.size = none := noP3 _ J.pD liveDa
      have pCJ : P3 H2.objs.size = none := noP3 _ J.pC liveCa
      have pwJ : ∀ b ∈ wr, P3 b = none := fun b hb => noP3 b (J.pw b hb) (S.live _ _ J.st b hb)
      have newJ : ∀ b o, P3 b = some o → P b = some o ∨ s₂.heap.get? b = none := fun b o e => by
        rcases new3 b o e with q | q
        · exact J.new b o q
        · refine .inr ?_
          cases r : s₂.heap.get? b with
          | none => rfl
          | some o' =>
            exfalso
            by_cases hb : b ∈ wr
            · obtain ⟨o2, e2⟩ := S.live _ _ J.st b hb
              rw [q] at e2; cases e2
            · rw [J.base b o' hb r] at q; cases q
      have hdrop : ds.drop k = d :: ds.drop (k + 1) := by
        rw [List.drop_eq_getElem_cons hlt]
        congr 1
        rw [List.getElem?_eq_getElem hlt] at hd
        exact Option.some.inj hd
      have e3 := J.e
      rw [hdrop] at e3
      obtain ⟨ov, eo1, e4⟩ := Option.bind_eq_some_iff.mp e3
      rw [hF] at eo1
      obtain ⟨rest', er, e5⟩ := Option.map_eq_some_iff.mp e4
      obtain ⟨tv, etv, e6⟩ := Option.bind_eq_some_iff.mp eo1
      obtain ⟨b, eb, e7⟩ := Option.bind_eq_some_iff.mp e6
      have nC3 : h3.Ns H2.objs.size m' := J.ns.at' fun o e => k3 _ o (fun hb => (wrlt _ hb).2 rfl) e
      refine ht c (compEnvC scope (clGo env scope.names []) H2.objs.size env) A { s₂ with heap := h3, toks := tk2 } P3 m' d v tv _ (fun x hx => lookup_relabel_local (K.xl x hx)) ckd ao.hh nC3 sub3 hv etv fun h4 tk4 m4 hn4 hlen hm4 k4 => ?_
      replace k4 : ∀ b o, b ≠ H2.objs.size → h3.get? b = some o → h4.get? b = some o := k4
      replace hn4 : h4.Ns H2.objs.size m4 := hn4
      have sub4 : PIn P3 h4 := fun b o e => k4 b o (by rintro rfl; rw [show P3 H2.objs.size = none from pCJ] at e; cases e) (sub3 b o e)
      have base4 : ∀ b o, b ∉ wr → s₂.heap.get? b = some o → h4.get? b = some o := fun b o hb e => k4 b o (below b (Heap.lt_size e)).1 (k3 b o hb (J.base b o hb e))
      have stay4 : H0.StaysIn h4 := fun b o e => base4 b o (fun hb => by rw [(S.wrIn b hb).1] at e; cases e) (g.stay b o e)
      have ho4 : HOK c h4 := ho.keeps stay4
      have rd4 : Rd c (compEnvC scope (clGo env scope.names []) H2.objs.size env) (xs ++ fr.map (·.1)) (tv.map some ++ (fr.map (·.2)).map fun j => (G[j]?).join) P3 h4 := by
        refine ⟨rd0.k.trans (g.le.trans leJ), fun i x d' hx hg => ?_, fun x hx hkx => ?_⟩
        · have hdbg := K.dbg x (List.mem_of_getElem? hx)
          by_cases hi : i < xs.length
          · rw [List.getElem?_append_left hi] at hx
            rw [List.getElem?_append_left (by rw [List.length_map, hlen]; exact hi), List.getElem?_map] at hg
            have hg' : tv[i]? = some d' := by
              cases q : tv[i]? with
              | none => rw [q] at hg; cases hg
              | some u => rw [q] at hg; cases hg; rfl
            obtain ⟨v', hmv, hdv⟩ := hm4 i x d' hx hg'
            have hxk : (compEnvC scope (clGo env scope.names []) H2.objs.size env).kindOf x = some .local := lookup_relabel_local (K.xl x (List.mem_of_getElem? hx))
            exact ⟨v', hdv, fun M A Q E s pos k hq => wpAny_Name (wpAny_loadName_local ckd hxk (hn4.keeps k) hmv hq) hdbg, fun a hc _ => by rw [hxk] at hc; cases hc⟩
          · rw [List.getElem?_append_right (by omega)] at hx
            rw [List.getElem?_append_right (by rw [List.length_map, hlen]; omega), List.length_map, hlen, List.getElem?_map, List.getElem?_map] at hg
            rw [List.getElem?_map] at hx
            cases q : fr[i - xs.length]? with
            | none => rw [q] at hx; cases hx
            | some p =>
              rw [q] at hx hg
              have hx' : p.1 = x := by simpa using hx
              have hg' : (G[p.2]?).join = some d' := by simpa using hg
              subst hx'
              have hgj : G[p.2]? = some (some d') := by
                cases r : G[p.2]? with
                | none => rw [r] at hg'; cases hg'
                | some o => rw [r] at hg'; cases o with | none => cases hg' | some d'' => cases hg'; rfl
              obtain ⟨f1, f2, f3, f4⟩ := K.frm p (List.mem_of_getElem? q)
              have hek : env.kindOf p.1 = some .cell := by show env.scope.names.lookup p.1 = _; rw [eo.sc]; exact f3
              obtain ⟨a, ha⟩ := rd0.cd p.1 (List.mem_of_getElem? f1) hek
              obtain ⟨v', hdv, _, hcv⟩ := rd0.v p.2 p.1 d' f1 hgj
              have hcell := (hcv a hek ha).keeps stay4
              have hcl := clGo_lookup frk f2 ha
              have hxk : (compEnvC scope (clGo env scope.names []) H2.objs.size env).kindOf p.1 = some .cell := by show (relabel scope env).names.lookup p.1 = _; rw [relab_eq, eo.sc]; exact f4
              refine ⟨v', hdv.mono (g.le.trans leJ), fun M A Q E s pos k hq => wpAny_Name (wpAny_loadName_cell ckd hxk hcl (hcell.keeps k) hq) hdbg, fun a' _ hc' => ?_⟩
              rw [show (clGo env scope.names []).lookup p.1 = some a' from hc'] at hcl
              cases hcl; exact hcell
        · rcases List.mem_append.mp hx with hx | hx
          · have hxk : (compEnvC scope (clGo env scope.names []) H2.objs.size env).kindOf x = some .local := lookup_relabel_local (K.xl x hx)
            rw [hxk] at hkx; cases hkx
          · obtain ⟨p, hp, rfl⟩ := List.mem_map.mp hx
            obtain ⟨f1, f2, f3, f4⟩ := K.frm p hp
            have hek : env.kindOf p.1 = some .cell := by show env.scope.names.lookup p.1 = _; rw [eo.sc]; exact f3
            obtain ⟨a, ha⟩ := rd0.cd p.1 (List.mem_of_getElem? f1) hek
            exact ⟨a, clGo_lookup frk f2 ha⟩
      have liveD : ∃ o, h4.get? s₂.heap.objs.size = some o := by
        obtain ⟨n0, e0⟩ := J.pl
        exact ⟨_, k4 _ _ hDC (k3 _ _ (fun hb => (wrlt _ hb).1 rfl) e0)⟩
      have liveC : ∃ o, h4.get? H2.objs.size = some o := Ns.some hn4
      have livew : ∀ b ∈ wr, ∃ o, h4.get? b = some o := fun b hb => by
        obtain ⟨o, e⟩ := S.live _ _ hS3 b hb
        exact ⟨o, k4 b o (wrlt b hb).2 e⟩
      have hS4 : Sv (k + 1) h4 := by
        refine S.frame _ _ _ hS3 fun b hb o e => k4 b o ?_ e
        rcases S.fpIn b hb with hw' | ⟨o', e'⟩
        · exact (wrlt b hw').2
        · rintro rfl
          have := leJ _ _ e'
          rw [pCJ] at this; cases this
      refine h1 _ A { s₂ with heap := h4, toks := tk4 } P3 _ b _ ceo ao ho4 sub4 rd4 eb fun P5 h5 tk5 g5 => ?_
      have back : ∀ {P6 h6}, Grow P3 h4 P6 h6 → ∀ b o, P6 b = some o → P b = some o ∨ s₂.heap.get? b = none := fun {P6 h6} g6 b o e => by
        rcases g6.new b o e with q | q
        · exact newJ b o q
        · refine .inr ?_
          cases r : s₂.heap.get? b with
          | none => rfl
          | some o' =>
            exfalso
            by_cases hb : b ∈ wr
            · obtain ⟨o2, e2⟩ := livew b hb
              rw [show h4.get? b = none from q] at e2; cases e2
            · have := base4 b o' hb r
              rw [show h4.get? b = none from q] at this; cases this
      cases b with
      | false =>
        simp only [Bool.false_eq_true, if_false] at e7 ⊢
        cases e7
        have eo' : rest = rest' := e5.symm
        subst eo'
        refine ⟨ds.length - (k + 1), by omega, mk (k + 1) h5 tk5 m4 ys P5 es' rest hlt ⟨fun b o hb e => g5.stay b o (base4 b o hb e), ?_, ?_, hn4.keeps g5.stay, g5.sub, leJ.trans g5.le, dhJ.mono g5.le, grow_none g5 pDJ liveD, grow_none g5 pCJ liveC, fun b hb => grow_none g5 (pwJ b hb) (livew b hb), back g5, er, J.ee, Nat.le_succ_of_le J.len⟩⟩
        · exact S.frame _ _ _ hS4 fun b _ o e => g5.stay b o e
        · exact J.pl.at fun o e => g5.stay _ o (k4 _ _ hDC (k3 _ _ (fun hb => (wrlt _ hb).1 rfl) e))
      | true =>
        rw [if_pos rfl] at e7 ⊢
        obtain ⟨y, ey, rfl⟩ := Option.map_eq_some_iff.mp e7
        have eo' : rest = y :: rest' := e5.symm
        subst eo'
        refine h2 _ A { s₂ with heap := h5, toks := tk5 } P5 _ y _ ceo ao (ho4.keeps g5.stay) g5.sub (rd4.grow g5) ey fun yv P6 h6 tk6 g6' hyv => ?_
        have g6 := g5.trans g6'
        have pl6 : h6.PlainList s₂.heap.objs.size ys.toArray := J.pl.at fun o e => g6.stay _ o (k4 _ _ hDC (k3 _ _ (fun hb => (wrlt _ hb).1 rfl) e))
        have hys : ys.length ≤ 1000 := by
          have a1 := dhJ.length
          have a2 := J.len
          omega
        refine wpAny_list_append_plain (s := { s₂ with heap := h6, toks := tk6 }) pl6 (fun h7 hp7 hs7 => ?_) (by rw [List.size_toArray]; exact le_line hys)
        have ee : ys.toArray.push yv = (ys ++ [yv]).toArray := by simp
        rw [ee] at hp7
        have k7 : ∀ b o, b ≠ s₂.heap.objs.size → h6.get? b = some o → h7.get? b = some o := fun b o n e => hs7.extBut b o n e
        have pD6 := grow_none g6 pDJ liveD
        refine ⟨ds.length - (k + 1), by omega, mk (k + 1) h7 tk6 m4 (ys ++ [yv]) P6 (es' ++ [y]) rest' hlt ⟨fun b o hb e => k7 b o (below b (Heap.lt_size e)).2 (g6.stay b o (base4 b o hb e)), ?_, hp7, (hn4.keeps g6.stay).sameBut hs7 (Ne.symm hDC), ?_, leJ.trans g6.le, (dhJ.mono g6.le).append (.one hyv), pD6, grow_none g6 pCJ liveC,
          fun b hb => grow_none g6 (pwJ b hb) (livew b hb), back g6, er, by rw [J.ee]; simp, by rw [List.length_append, List.length_singleton]; exact Nat.succ_le_succ J.len⟩⟩
        · refine S.frame _ _ _ hS4 fun b hb o e => k7 b o ?_ (g6.stay b o e)
          rcases S.fpIn b hb with hw' | ⟨o', e'⟩
          · exact (wrlt b hw').1
          · rintro rfl
            have := leJ _ _ e'
            rw [pDJ] at this; cases this
        · exact fun b o e => k7 b o (by rintro rfl; rw [pD6] at e; cases e) (g6.sub b o e)
    · have hkk : k = ds.length := by omega
      subst hkk
      refine S.done _ _ _ J.st fun h2' tk2 ko => ?_
      have e3 := J.e
      rw [List.drop_length] at e3
      cases e3
      have hee := J.ee
      rw [List.append_nil] at hee
      subst hee
      exact hRR _ _ h2' tk2 m' ys P' fD fC hDC (J.ns.at' fun o e => ko _ o (fun hb => (wrlt _ hb).2 rfl) e) (J.pl.at fun o e => ko _ o (fun hb => (wrlt _ hb).1 rfl) e) J.dh (Nat.le_trans J.len hl) J.le
        (fun b o e => ko b o (fun hb => by rw [J.pw b hb] at e; cases e) (J.sub b o e)) J.new J.pD J.pC fun b o hb e => ko b o hb (J.base b o hb e)
  exact codeAny_compStart_list (cenvE _ rfl) (S.self 0 _ _ _ hst₁ (cenvE _ rfl))
end
end Mine
namespace Mine
open PySem PySem.W PySem.Calls PySem.SeqAt PyProof.Rows

noncomputable def compS (iphi : Vars → Option (List D)) (split : D → Option (List D)) (fr : List Nat) (tau : Vars → Option Bool) (phi : Vars → Option D) : Vars → Option D :=
  fun G => (iphi G).bind fun ds => if ds.length ≤ 1000 then (compL (compF split fr tau phi G) ds).map D.lst else none
theorem compS_inv {iphi : Vars → Option (List D)} {split : D → Option (List D)} {fr : List Nat} {tau : Vars → Option Bool} {phi : Vars → Option D} {G : Vars} {d : D} (e : compS iphi split fr tau phi G = some d) :
    ∃ ds es, iphi G = some ds ∧ ds.length ≤ 1000 ∧ compL (compF split fr tau phi G) ds = some es ∧ d = .lst es := by
  unfold compS at e
  obtain ⟨ds, e1, e2⟩ := Option.bind_eq_some_iff.mp e
  split at e2
  · obtain ⟨es, e3, rfl⟩ := Option.map_eq_some_iff.mp e2
    exact ⟨ds, es, e1, by assumption, e3, rfl⟩
  · first | exact nn e2 | cases e2

section
variable {c : Cx} {nd nu : Nat} {scope oscope : Scope} {nm : List Str}
theorem grow_comp {P P1 P' : PM} {h h1 h' : Heap} {Da : Addr} {ys : List Value} {n : Nat} {wr : List Addr} (g : Grow P h P1 h1) (wrIn : ∀ b ∈ wr, h.get? b = none) (fD : h1.get? Da = none) (pl : h'.get? Da = some { cls := .type "list", data := .seq ys.toArray n })
    (le : PLe P1 P') (sub : PIn P' h') (new : ∀ b o, P' b = some o → P1 b = some o ∨ h1.get? b = none) (pD : P' Da = none) (k : ∀ b o, b ∉ wr → h1.get? b = some o → h'.get? b = some o) :
    Grow P h (P'.put Da { cls := .type "list", data := .seq ys.toArray n }) h' := by
  have g1 : Grow P h P' h' := ⟨fun b o e => k b o (fun hb => by rw [wrIn b hb] at e; cases e) (g.stay b o e), g.le.trans le, sub, fun b o e => by
    rcases new b o e with q | q
    · exact g.new b o q
    · exact .inr (none_of_stays g.stay q)⟩
  exact g1.add pD pl (none_of_stays g.stay fD)

theorem se_comp {elt iter t : Expr} {ifs : List Expr} {pos : Pos} {xs : List Str} {fr : List (Str × Nat)} {iphi : Vars → Option (List D)} {split : D → Option (List D)} {tau : Vars → Option Bool} {phi : Vars → Option D}
    (hi : SIG c nd nu oscope nm iter t iphi) (ht : CTgt t xs split) (K : CompOK scope oscope nm xs fr)
    (h1 : STs c nd nu (relab scope oscope) (xs ++ fr.map (·.1)) ifs tau) (h2 : SE c nd nu (relab scope oscope) (xs ++ fr.map (·.1)) elt phi)
    (hs : ∀ env x, foldedSetIterable iter env x = pure x := by intro _ _; rfl) :
    SE c nd nu oscope nm (.ListComp elt [⟨t, iter, ifs, 0⟩] scope pos) (compS iphi split (fr.map (·.2)) tau phi) := by
  intro env A s P G d Q eo ao ho hp rd e q
  obtain ⟨ds, es, e1, hl, e2, rfl⟩ := compS_inv e
  have frk : ∀ y ∈ scope.names, y.2 = .free → ∃ a, env.cells.lookup y.1 = some a := fun y hy hf => rd.cd y.1 (K.all y hy hf).1 (by show env.scope.names.lookup y.1 = _; rw [eo.sc]; exact (K.all y hy hf).2)
  rw [eval_ListComp]
  refine wpAny_comprehension_free (use := none) (cl := clGo env scope.names []) rfl (hs env) (closure_ok frk) K.kind K.names ?_
  refine hi env A s P G ds _ eo ao ho hp rd e1 fun I fp wr Sv P1 h1' tk1 g1 S => ?_
  refine comp_core (RR := fun acc C => compPost (model PG c.w) A NoE none Q acc C) (s₂ := { s with heap := h1', toks := tk1 }) eo ao ho g1 rd S K ht h1 h2 e2 hl ?_
  intro Da Ca h' tk m' ys P' fD fC hDC hn ⟨n0, hpl⟩ hdh _ le sub new pD pC k
  refine ⟨m', hn, fun h'' hs'' => ?_⟩
  have k'' : ∀ b o, b ≠ Ca → h'.get? b = some o → h''.get? b = some o := fun b o n e => hs''.extBut b o n e
  have G1 := grow_comp (h' := h'') g1 (fun b hb => (S.wrIn b hb).1) fD (k'' _ _ hDC hpl) le (fun b o e => k'' b o (by rintro rfl; rw [pC] at e; cases e) (sub b o e)) new pD (fun b o hb e => k'' b o (by rintro rfl; rw [show h1'.get? b = none from fC] at e; cases e) (k b o hb e))
  exact q _ _ h'' tk G1 (.lst (PM.put_self _ _ _) rfl rfl (hdh.mono (PM.put_le pD)))

theorem sx_assign_comp {x : Str} {p spos : Pos} (i : Nat) {elt iter t : Expr} {ifs : List Expr} {pos : Pos} {xs : List Str} {fr : List (Str × Nat)} {iphi : Vars → Option (List D)} {split : D → Option (List D)} {tau : Vars → Option Bool} {phi : Vars → Option D}
    (hx : nm[i]? = some x) (hxl : oscope.names.lookup x = some .local)
    (hi : SIG c nd nu oscope nm iter t iphi) (ht : CTgt t xs split) (K : CompOK scope oscope nm xs fr)
    (h1 : STs c nd nu (relab scope oscope) (xs ++ fr.map (·.1)) ifs tau) (h2 : SE c nd nu (relab scope oscope) (xs ++ fr.map (·.1)) elt phi)
    (hline : (spos.line == pos.line) = true) (hnot : (!(scope.names.any fun (n, k) => n == x && (k == .local || k == .cell))) = true) (hpl : (p.line == pos.line) = true)
    (hs : ∀ env x, foldedSetIterable iter env x = pure x := by intro _ _; rfl) :
    SX c nd nu oscope nm (.Assign [.Name x p] (.ListComp elt [⟨t, iter, ifs, 0⟩] scope pos) spos) (fun z => (compS iphi split (fr.map (·.2)) tau phi z.1).map fun d => ((z.1.set i (some d), dropOwn i z.2), none)) := by
  intro env A s h₀ P₀ P z l m z' r Q eo V ao ho F e q
  obtain ⟨d, ed, e'⟩ := Option.map_eq_some_iff.mp e
  cases e'
  obtain ⟨ds, es, e1, hl, e2, rfl⟩ := compS_inv ed
  have rd := F.rd eo V
  have hk : env.scope.kind = .function := by rw [eo.sc]; exact eo.kd
  have frk : ∀ y ∈ scope.names, y.2 = .free → ∃ a, env.cells.lookup y.1 = some a := fun y hy hf => rd.cd y.1 (K.all y hy hf).1 (by show env.scope.names.lookup y.1 = _; rw [eo.sc]; exact (K.all y hy hf).2)
  have hsw : swapsWith (.ListComp elt [⟨t, iter, ifs, 0⟩] scope pos) (some (.Name x p)) spos.line env = pure true := by
    show (pure _ : Sem Bool) = pure true
    have a1 : env.blockKind = .function := by simp only [Env.blockKind, hk, ScopeKind.isAnnotationScope, Bool.false_and, Bool.false_eq_true, if_false]
    have a2 : env.kindOf x = some .local := by show env.scope.names.lookup x = _; rw [eo.sc]; exact hxl
    congr 1
    show (env.blockKind == .function && env.kindOf x == some .local && p.line == pos.line && !(scope.names.any fun (n, k) => n == x && (k == .local || k == .cell))) = true
    rw [a1, a2, hpl, hnot]; rfl
  rw [exec_Assign_Name_used _ _ _ _ hsw]
  refine wpAny_bind (wpAny_standAt (wpAny_bind ?_))
  show wpAny _ A (do let _ ← comprehension (.ListComp elt [⟨t, iter, ifs, 0⟩] scope pos) scope env _ (newList []) false (eval iter env) (some (assign (.Name x p) env))) _ _ s
  refine wpAny_bind (wpAny_mono (wpAny_comprehension_free (use := some (assign (.Name x p) env)) (Q := fun _ s' => Q .next s') (cl := clGo env scope.names []) rfl (hs env) (closure_ok frk) K.kind K.names ?_) (fun _ s' hq => wpAny_pure (wpAny_pure hq)) fun _ _ e => e)
  refine hi env A s P z.1 ds _ eo ao (ho.keeps F.stay) F.sub rd e1 fun I fp wr Sv P1 h1' tk1 g1 S => ?_
  refine comp_core (RR := fun acc C => compPost (model PG c.w) A NoE (some (assign (.Name x p) env)) (fun _ s' => Q .next s') acc C) (s₂ := { s with heap := h1', toks := tk1 }) eo ao (ho.keeps F.stay) g1 rd S K ht h1 h2 e2 hl ?_
  intro Da Ca h' tk m' ys P' fD fC hDC hn ⟨n0, hpl'⟩ hdh _ le sub new pD pC k
  have G1 := grow_comp g1 (fun b hb => (S.wrIn b hb).1) fD hpl' le sub new pD k
  have F1 := F.grow G1
  have fC0 := none_of_stays g1.stay fC
  have c1 : Ca ≠ env.locals := by rintro rfl; obtain ⟨o, e⟩ := Ns.some F.ns; rw [e] at fC0; cases fC0
  have c2 : Ca ≠ l := by rintro rfl; obtain ⟨o, e⟩ := F.lin; rw [e] at fC0; cases fC0
  have c3 : ∀ y, env.cells.lookup y ≠ some Ca := fun y e => by
    obtain ⟨_, _, _, ov, h4, _⟩ := F.cells y Ca e
    obtain ⟨o, e'⟩ := IsCell.some h4
    rw [e'] at fC0; cases fC0
  show wpAny _ A (assign (.Name x p) env (.ref Da)) _ _ _
  refine wpAny_assign_Name (F1.store (s := { s with heap := h', toks := tk }) eo V hx (a := some (.lst es)) (fun d' e => by cases e; exact .lst (PM.put_self _ _ _) rfl rfl (hdh.mono (PM.put_le pD))) fun m2 h2 tk2 F2 K2 _ kk => ?_)
  refine ⟨m', hn.at' fun o e => kk _ o c1 c3 e, fun h3 hs3 => ?_⟩
  have k3 : ∀ b o, b ∉ [Ca] → h2.get? b = some o → h3.get? b = some o := fun b o n e => hs3.extBut b o (by simpa using n) e
  have PC2 : P'.put Da { cls := .type "list", data := .seq ys.toArray n0 } Ca = none := by unfold PM.put; rw [if_neg (Ne.symm hDC)]; exact pC
  have F3 := F2.off (wr := [Ca]) (h' := h3) (fun b hb => by rw [List.mem_singleton.mp hb]; exact ⟨none_of_stays F.stay fC0, PC2, c1, c2, c3⟩) k3
  refine q .next _ h3 tk2 l m2 F3 ⟨fun b o e n1 n2 n3 => k3 b o (by rw [List.mem_singleton]; rintro rfl; rw [e] at fC0; cases fC0) (K2 b o (G1.stay b o e) n1 n2 n3), .inl rfl, G1.le, fun b o e => (G1.new b o e).imp id .inl⟩ rfl
end
end Mine
namespace Mine
open PySem PySem.W PySem.Calls PySem.SeqAt PyProof.Rows

theorem bindL_other {kindOf : Str → Option NameKind} {x : Str} : ∀ {binds : List (Str × Value)} {m : Str → Option Value}, x ∉ binds.map (·.1) → bindL kindOf binds m x = m x
  | [], _, _ => rfl
  | (n, v) :: r, m, h => by
    rw [List.map_cons, List.mem_cons, not_or] at h
    unfold bindL
    rw [bindL_other h.2]
    split
    · show (if x = n then some v else m x) = m x
      rw [if_neg h.1]
    · rfl
theorem bindL_get {kindOf : Str → Option NameKind} {x : Str} {v : Value} : ∀ {binds : List (Str × Value)} {m : Str → Option Value} {i : Nat}, (binds.map (·.1)).Nodup → binds[i]? = some (x, v) → kindOf x = some .local → bindL kindOf binds m x = some v
  | [], _, _, _, h, _ => by cases h
  | (n, u) :: r, m, 0, hn, h, hk => by
    cases h
    unfold bindL
    rw [List.map_cons, List.nodup_cons] at hn
    rw [bindL_other hn.1, if_pos hk, if_pos rfl]
  | (n, u) :: r, m, i + 1, hn, h, hk => by
    unfold bindL
    rw [List.map_cons, List.nodup_cons] at hn
    exact bindL_get (i := i) hn.2 (by simpa using h) hk
theorem bindC_other {kindOf : Str → Option NameKind} {x : Str} : ∀ {binds : List (Str × Value)} {m : Str → Option Value}, x ∉ binds.map (·.1) → bindC kindOf binds m x = m x
  | [], _, _ => rfl
  | (n, v) :: r, m, h => by
    rw [List.map_cons, List.mem_cons, not_or] at h
    unfold bindC
    rw [bindC_other h.2]
    split
    · rfl
    · show (if x = n then some v else m x) = m x
      rw [if_neg h.1]
theorem bindC_get {kindOf : Str → Option NameKind} {x : Str} {v : Value} : ∀ {binds : List (Str × Value)} {m : Str → Option Value} {i : Nat}, (binds.map (·.1)).Nodup → binds[i]? = some (x, v) → kindOf x ≠ some .local → bindC kindOf binds m x = some v
  | [], _, _, _, h, _ => by cases h
  | (n, u) :: r, m, 0, hn, h, hk => by
    cases h
    unfold bindC
    rw [List.map_cons, List.nodup_cons] at hn
    rw [bindC_other hn.1, if_neg hk, if_pos rfl]
  | (n, u) :: r, m, i + 1, hn, h, hk => by
    unfold bindC
    rw [List.map_cons, List.nodup_cons] at hn
    exact bindC_get (i := i) hn.2 (by simpa using h) hk
theorem cells_names {names : List (Str × NameKind)} {n : Nat} {x : Str} : x ∈ (cellsFrom 0 names []).map (·.1) ↔ x ∈ (cellsFrom n names []).map (·.1) := by
  rw [cellsFrom_names names 0 n [] [] rfl]
theorem lookup_some_of_name {l : List (Str × Addr)} {x : Str} (h : x ∈ l.map (·.1)) : ∃ a, l.lookup x = some a := by
  obtain ⟨p, hp, rfl⟩ := List.mem_map.mp h
  exact lookup_of_mem_some hp
theorem name_of_lookup {l : List (Str × Addr)} {x : Str} {a : Addr} (h : l.lookup x = some a) : x ∈ l.map (·.1) := List.mem_map.mpr ⟨_, mem_of_lookup h, rfl⟩

structure DefOK (scope : Scope) (nm : List Str) (np : Nat) : Prop where
  V : VOK scope nm
  np : np ≤ nm.length
  cells : ∀ x ∈ (cellsFrom 0 scope.names []).map (·.1), scope.names.lookup x = some .cell
  all : ∀ x ∈ nm, scope.names.lookup x = some .cell → x ∈ (cellsFrom 0 scope.names []).map (·.1)
  kind : scope.kind = .function
  co : scope.isCoroutine = false
  gen : scope.isGenerator = false

theorem rcon_def {c : Cx} {nd nu : Nat} {f : Addr} {name qual : Str} {params : Arguments} {body : List Stmt} {scope : Scope} {dV kV doc pm cdv ct oc : Value} {an od : Option Addr} {osl : Array (Option Value)} {nm : List Str} {np : Nat} {fill : List D → Option (List D)} {psi : St → Option (St × Option D)}
    (ho : (hd.heap_39 c.w.params).lookup f = some ⟨oc, od, .func (fnX name qual params body scope [] dV kV doc pm an cdv ct), osl⟩) (hcd : codeIn (hd.heap_39 c.w.params) cdv qual = true)
    (hbind : ∀ (s : Shared) (P : PM) (vs : List Value) (ds ds' : List D), (hd.heap_39 c.w.params).In s.heap → PLe (KPM c) P → DHs c.w P vs ds → fill ds = some ds' →
      ∃ vs', BindsTo s (fnX name qual params body scope [] dV kV doc pm an cdv ct) ⟨vs, []⟩ ((nm.take np).zip vs') ∧ DHs c.w P vs' ds' ∧ vs'.length = np)
    (K : DefOK scope nm np) (h : SL c nd nu scope nm body psi) :
    RCon c (nd + 1) (nu + 3) f (fun ds => (fill ds).bind fun ds' => (psi (ds'.map some ++ List.replicate (nm.length - np) none, none)).map fun x => x.2.getD .none) := by
  intro args ds d e A s P Q ao hok hp kle hargs q
  obtain ⟨ds', ef, e2⟩ := Option.bind_eq_some_iff.mp e
  obtain ⟨⟨z', r⟩, ep, rfl⟩ := Option.map_eq_some_iff.mp e2
  obtain ⟨vs', hb, hvs, hlen⟩ := hbind s P args ds ds' hok.X kle hargs ef
  have hlen' : ds'.length = np := hvs.length ▸ hlen
  have hzn : (((nm.take np).zip vs').map (·.1)) = nm.take np := by
    rw [List.map_fst_zip]; rw [List.length_take, hlen]; exact Nat.min_le_left _ _
  have hnd : (((nm.take np).zip vs').map (·.1)).Nodup := by rw [hzn]; exact K.V.inj.sublist (List.take_sublist _ _)
  have hget : ∀ (i : Nat) (x : Str) (d : D), nm[i]? = some x → (ds'.map some ++ List.replicate (nm.length - np) none)[i]? = some (some d) → ∃ v, ((nm.take np).zip vs')[i]? = some (x, v) ∧ DH c.w P v d := by
    intro i x d hx hg
    by_cases hi : i < np
    · rw [List.getElem?_append_left (by rw [List.length_map, hlen']; exact hi), List.getElem?_map] at hg
      have hg' : ds'[i]? = some d := by
        cases q : ds'[i]? with
        | none => rw [q] at hg; cases hg
        | some u => rw [q] at hg; cases hg; rfl
      obtain ⟨v, hv, hdv⟩ := hvs.get hg'
      refine ⟨v, ?_, hdv⟩
      rw [List.getElem?_zip_eq_some]
      exact ⟨by rw [List.getElem?_take_of_lt hi]; exact hx, hv⟩
    · rw [List.getElem?_append_right (by rw [List.length_map, hlen']; omega)] at hg
      have := List.mem_of_getElem? hg
      rw [List.mem_replicate] at this
      exact absurd this.2 (by simp)
  refine wpAny_call ?_
  refine codeAny_call_function (by have := ao.hd; omega) (hok.X _ _ ho) rfl K.co K.gen rfl (codeRec_of hok.X hcd) (hb _ _ _ _ ?_)
  refine wpAny_newFunctionEnv_cells K.kind (fun x hx => ?_) fun env' he s' x => ?_
  · have hx1 : x.1 ∈ nm.take np := by rw [← hzn]; exact List.mem_map_of_mem hx
    have hx2 := List.mem_of_mem_take hx1
    rcases K.V.kind x.1 hx2 with h | h
    · exact .inl h
    · refine .inr ⟨h, ?_⟩
      obtain ⟨a, ha⟩ := lookup_some_of_name (cells_names (n := s.heap.objs.size + 1).mp (K.all _ hx2 h))
      show ((cellsFrom (s.heap.objs.size + 1) scope.names []).lookup x.1).isSome = true
      rw [ha]; rfl
  · subst he
    refine ⟨hok.T.nolimit.keeps x.toInCall.keep, codeAny_func ?_⟩
    obtain ⟨h₁, tk, rfl, _⟩ := x.done
    have hk₁ := x.toInCall.keep
    have szn := get_size s.heap
    have hcn : ∀ a, s.heap.objs.size < a → s.heap.get? a = none := fun a ha => by
      cases r : s.heap.get? a with
      | none => rfl
      | some o' => exact absurd (Heap.lt_size r) (Nat.not_lt.mpr (Nat.le_of_lt ha))
    refine wpAny_mono (h (envX qual scope s.heap.objs.size f cdv (cellsFrom (s.heap.objs.size + 1) scope.names [])) (A.deeper (envX qual scope s.heap.objs.size f cdv (cellsFrom (s.heap.objs.size + 1) scope.names []))) { s with heap := h₁, toks := tk } s.heap P P
      (ds'.map some ++ List.replicate (nm.length - np) none, none) s.heap.objs.size (bindL (envX qual scope s.heap.objs.size f cdv (cellsFrom (s.heap.objs.size + 1) scope.names [])).kindOf ((nm.take np).zip vs') fun _ => none) z' r _ ⟨rfl, rfl, rfl, K.kind⟩ K.V ⟨ao.hh, by have := ao.hd; show A.depth + 1 + nd < _; omega, by have := ao.hu; show A.units + 3 + nu < _; omega⟩ hok ?_ ep (fun fl P' h' tk' l' m' F' O' fi => ?_)) (fun _ _ y => y) fun _ _ y => y.elim
    · exact {
        stay := hk₁, le := .refl _, sub := fun b o e => hk₁ b o (hp b o e), new := fun b o e => .inl e, ns := x.toInCall.ns, Ln := szn, PL := none_of_in hp szn
        vars := fun i y d hy hyl hg => by
          obtain ⟨v, hz, hdv⟩ := hget i y d hy hg
          exact ⟨v, bindL_get hnd hz hyl, hdv⟩
        cells := fun y a ha => by
          have hmem := mem_of_lookup ha
          have hlt : s.heap.objs.size < a := x.above y a hmem
          refine ⟨hcn a hlt, none_of_in hp (hcn a hlt), Nat.ne_of_gt hlt, _, x.cell y a ha, fun i d hy hg => ?_⟩
          obtain ⟨v, hz, hdv⟩ := hget i y d hy hg
          have hck : scope.names.lookup y = some .cell := K.cells y (cells_names.mpr (name_of_lookup ha))
          exact ⟨v, bindC_get hnd hz (by show scope.names.lookup y ≠ _; rw [hck]; decide), hdv⟩
        ckind := fun y a ha => K.cells y (cells_names.mpr (name_of_lookup ha))
        cinj := fun y y' a h1 h2 => name_of_addr x.apart (mem_of_lookup h1) (mem_of_lookup h2)
        cdef := fun y hy hc => lookup_some_of_name (cells_names.mp (K.all y hy hc))
        own := fun i ds e => by cases e
        lin := Ns.some x.toInCall.ns
        kle := kle }
    · have G : Grow P s.heap P' h' := ⟨F'.stay, F'.le, F'.sub, F'.new⟩
      cases r with
      | none =>
        have : fl = .next := fi
        subst this
        exact q .none P' h' tk' G .none
      | some d =>
        obtain ⟨v, rfl, hv⟩ := fi
        exact q v P' h' tk' G hv

noncomputable def fillN (n : Nat) (ds : List D) : Option (List D) := if ds.length = n then some ds else none
theorem bind_n {c : Cx} {fd : FuncData} {names : List Str} {np : Nat} (hb : ∀ (s : Shared) (vs : List Value), vs.length = np → BindsTo s fd ⟨vs, []⟩ (names.zip vs)) (s : Shared) (P : PM) (vs : List Value) (ds ds' : List D) (_ : (hd.heap_39 c.w.params).In s.heap) (_ : PLe (KPM c) P) (hvs : DHs c.w P vs ds) (e : fillN np ds = some ds') :
    ∃ vs', BindsTo s fd ⟨vs, []⟩ (names.zip vs') ∧ DHs c.w P vs' ds' ∧ vs'.length = np := by
  unfold fillN at e
  split at e
  · first | exact nn e | cases e
    rename_i hl
    exact ⟨vs, hb s vs (hvs.length.trans hl), hvs, hvs.length.trans hl⟩
  · first | exact nn e | cases e

section
variable {c : Cx} {nd nu : Nat} {scope : Scope} {nm : List Str}
theorem sx_dead {st : Stmt} : SX c nd nu scope nm st (fun _ => none) := by
  intro env A s h₀ P₀ P z l m z' r Q eo V ao ho F e q
  cases e
theorem sl_dead {st : List Stmt} : SL c nd nu scope nm st (fun _ => none) := by
  intro env A s h₀ P₀ P z l m z' r Q eo V ao ho F e q
  cases e
theorem se_dead {e : Expr} : SE c nd nu scope nm e (fun _ => none) := by
  intro env A s P G d Q eo ao ho hp rd e q
  cases e
theorem sl_thaw {sts : List Stmt} {psi : St → Option (St × Option D)} (h : SL c nd nu scope nm sts psi) : SL c nd nu scope nm sts (fun z => psi (thaw z)) := by
  intro env A s h₀ P₀ P z l m z' r Q eo V ao ho F e q
  obtain ⟨P1, F1, p1, np1⟩ := F.thaw
  exact h env A s h₀ P₀ P1 (thaw z) l m z' r Q eo V ao ho F1 e fun fl P' h' tk' l' m' F' O' fi => q fl P' h' tk' l' m' F' ⟨O'.k, O'.n, p1.trans O'.p, fun b o e => by
    rcases O'.np b o e with r | r | r
    · exact (np1 b o r).imp id .inr
    · exact .inr (.inl r)
    · exact .inr (.inr r)⟩ fi

noncomputable def tgT (i j k : Nat) : D → St → Option St := fun d z => match d with
  | .tup [a, b, c] => some (((z.1.set i (some a)).set j (some b)).set k (some c), dropOwn k (dropOwn j (dropOwn i z.2)))
  | _ => none
theorem tgt_three {x y u : Str} {p p2 p3 tp : Pos} {k0 : Nat} (i j k : Nat) (hx : nm[i]? = some x) (hy : nm[j]? = some y) (hu : nm[k]? = some u) : Tgt c scope nm (.Tuple [.Name x p, .Name y p2, .Name u p3] k0 tp) (tgT i j k) := by
  intro env A s h₀ P₀ P z l m d v z' Q eo V hh F hv e q
  unfold tgT at e
  split at e
  · rename_i d0 a b c'
    cases e
    obtain ⟨a1, o1, vs, n1, rfl, e1, k1, d1, p1⟩ := hv.tup_inv
    cases p1 with
    | cons pa pr =>
      cases pr with
      | cons pb pr =>
        cases pr with
        | cons pc pr =>
          cases pr
          refine assign_Tuple_tuple hh (tup_at e1 k1 d1 F.sub) rfl rfl fun h1 hs1 => ?_
          have st : s.heap.StaysIn h1 := fun b o e => hs1 b o (Nat.ne_of_lt (Heap.lt_size e)) e
          have F1 := F.grow ((Grow.refl F.sub).then st)
          refine assignInOrder_cons (wpAny_assign_Name (F1.store (s := { s with heap := h1 }) eo V hx (a := some a) (fun d' e => by cases e; exact pa) fun m2 h2 tk2 F2 K2 _ _ => ?_))
          refine assignInOrder_cons (wpAny_assign_Name (F2.store (s := { s with heap := h2, toks := tk2 }) eo V hy (a := some b) (fun d' e => by cases e; exact pb) fun m3 h3 tk3 F3 K3 _ _ => ?_))
          refine assignInOrder_cons (wpAny_assign_Name (F3.store (s := { s with heap := h3, toks := tk3 }) eo V hu (a := some c') (fun d' e => by cases e; exact pc) fun m4 h4 tk4 F4 K4 _ _ => ?_))
          refine assignInOrder_nil ?_
          exact q h4 tk4 m4 F4 fun b o e n1 n2 n3 => K4 b o (K3 b o (K2 b o (st b o e) n1 n2 n3) n1 n2 n3) n1 n2 n3
  · first | exact nn e | cases e
theorem sx_unpack {elts : List Expr} {k : Nat} {tp pos : Pos} {e : Expr} {phi : Vars → Option D} {tg : D → St → Option St} (ht : Tgt c scope nm (.Tuple elts k tp) tg) (h : SE c nd nu scope nm e phi)
    (hs : ∀ env, swapsWithSole [.Tuple elts k tp] e pos.line env = pure false := by intro _; rfl) (hw : ∀ env, swappedStores [.Tuple elts k tp] e env = pure none := by intro _; rfl) :
    SX c nd nu scope nm (.Assign [.Tuple elts k tp] e pos) (fun z => (phi z.1).bind fun d => (tg d z).map fun z' => (z', none)) := by
  intro env A s h₀ P₀ P z l m z' r Q eo V ao ho F ee q
  obtain ⟨d, ed, e2⟩ := Option.bind_eq_some_iff.mp ee
  obtain ⟨z1, ez, e3⟩ := Option.map_eq_some_iff.mp e2
  cases e3
  refine Assign_Tuple (h env A s P z.1 d _ eo ao (ho.keeps F.stay) F.sub (F.rd eo V) ed fun v P1 k1 tk1 g1 hv => ?_) (hs env) (hw env)
  exact ht env A { s with heap := k1, toks := tk1 } h₀ P₀ P1 z l m d v z' _ eo V ao.hh (F.grow g1) hv ez fun h' tk' m' F' K' => q .next P1 h' tk' l m' F' (.after g1 ⟨K', .inl rfl, .refl _, fun _ _ e => .inl e⟩) rfl
theorem sx_swap2 {elts : List Expr} {k : Nat} {tp pos : Pos} {x y : Str} {e : Expr} {phi : Vars → Option D} (i j : Nat) (hx : nm[i]? = some x) (hy : nm[j]? = some y) (h : SE c nd nu scope nm e phi)
    (hs : ∀ env, swapsWithSole [.Tuple elts k tp] e pos.line env = pure false := by intro _; rfl) (hw : ∀ env : Env, env.scope = scope → swappedStores [.Tuple elts k tp] e env = pure (some [x, y]) := by intro env h; cases env; cases h; rfl) :
    SX c nd nu scope nm (.Assign [.Tuple elts k tp] e pos) (fun z => (phi z.1).bind fun d => (tgP j i (match d with | .tup [a, b] => .tup [b, a] | _ => .none) z).map fun z' => (z', none)) := by
  intro env A s h₀ P₀ P z l m z' r Q eo V ao ho F ee q
  obtain ⟨d, ed, e2⟩ := Option.bind_eq_some_iff.mp ee
  obtain ⟨z1, ez, e3⟩ := Option.map_eq_some_iff.mp e2
  cases e3
  refine Assign_Tuple_swapped (names := [x, y]) (h env A s P z.1 d _ eo ao (ho.keeps F.stay) F.sub (F.rd eo V) ed fun v P1 k1 tk1 g1 hv => ?_) (hs env) (hw env eo.sc)
  unfold tgP at ez
  have F0 := F.grow g1
  split at ez
  · rename_i d0 b a heq
    cases ez
    split at heq
    · rename_i d1 a' b'
      cases heq
      obtain ⟨a1, o1, vs, n1, rfl, e1, k1, d1, p1⟩ := hv.tup_inv
      cases p1 with
      | cons pa pr =>
        rename_i va _
        cases pr with
        | cons pb pr =>
          rename_i vb _
          cases pr
          refine unpackItems_tuple (s := { s with heap := _, toks := tk1 }) (items := [va, vb].toArray) ao.hh (tup_at e1 k1 d1 g1.sub) fun h1 hs1 => ?_
          have F1 := F0.grow ((Grow.refl g1.sub).then fun b o e => hs1 b o (Nat.ne_of_lt (Heap.lt_size e)) e)
          refine assignInOrder_cons (wpAny_bindName (F1.store (s := { s with heap := h1, toks := tk1 }) eo V hy (a := some b) (fun d' e => by cases e; exact pb) fun m2 h2 tk2 F2 K2 _ _ => ?_))
          refine assignInOrder_cons (wpAny_bindName (F2.store (s := { s with heap := h2, toks := tk2 }) eo V hx (a := some a) (fun d' e => by cases e; exact pa) fun m3 h3 tk3 F3 K3 _ _ => ?_))
          refine assignInOrder_nil ?_
          refine q .next P1 h3 tk3 l m3 F3 (.after g1 ⟨fun b o e n1 n2 n3 => K3 b o (K2 b o (hs1 b o (Nat.ne_of_lt (Heap.lt_size e)) e) n1 n2 n3) n1 n2 n3, .inl rfl, .refl _, fun _ _ e => .inl e⟩) rfl
    · first | exact nn heq | cases heq
  · first | exact nn ez | cases ez
end
end Mine
namespace Mine
open PySem PySem.W PySem.Calls PySem.SeqAt PyProof.Rows

/-- what a built-in does for every call -/
noncomputable def VCon (c : Cx) (nd nu : Nat) (f : Value) (spec : List D → Option D) : Prop :=
  ∀ args ds d, spec ds = some d → ∀ (A : Around) (s : Shared) (P : PM) (Q : Value → Shared → Prop), AOK A nd nu → HOK c s.heap → PIn P s.heap → PLe (KPM c) P → DHs c.w P args ds →
    (∀ v P' h' tk', Grow P s.heap P' h' → DH c.w P' v d → Q v { s with heap := h', toks := tk' }) → wpAny (model PG c.w) A (call f args) Q NoE s

section
variable {c : Cx} {nd nu : Nat} {scope : Scope} {nm : List Str}
theorem se_bfun {x : Str} {np pos : Pos} {e : Expr} {es : List Expr} {id : String} {spec : List D → Option D} {f : Vars → Option (List D)} (hc : VCon c nd nu (.builtin id) spec) (hx : scope.names.lookup x = some .globalImplicit)
    (hg : ∀ p, nsIn (hd.heap_39 p) mainGlobals x = some none) (hv : bootBuiltins x = some (.builtin id)) (hn : x ≠ "__name__") (h : SA c nd nu scope nm (e :: es) f) (hpl : (e :: es).all plainArg = true := by rfl) (hdb : (x == ("__debug__" : Str)) = false := by decide) :
    SE c nd nu scope nm (.Call (.Name x np) (e :: es) [] pos) (fun G => (f G).bind spec) := by
  intro env A s P G d Q eo ao ho hp rd ee q
  obtain ⟨ds, e1, e2⟩ := Option.bind_eq_some_iff.mp ee
  have hpl' := hpl
  rw [List.all_cons, Bool.and_eq_true] at hpl'
  refine wpAny_Call_NameR (ld_boot eo ho hx (hg _) hv hn ?_ hdb)
  refine callWith_builtin1 ?_ (starEach_plain hpl'.1) (plain_none hpl'.2)
  refine h env pos A s P G ds _ eo ao ho hp rd e1 fun vs P1 k1 tk1 g1 hvs => ?_
  exact hc vs ds d e2 A { s with heap := k1, toks := tk1 } P1 Q ao (ho.keeps g1.stay) g1.sub (rd.k.trans g1.le) hvs fun v P2 k2 tk2 g2 hv => q v P2 k2 tk2 (g1.trans g2) hv
theorem se_btype {x : Str} {np pos : Pos} {e : Expr} {es : List Expr} {id : String} {spec : List D → Option D} {f : Vars → Option (List D)} (hc : VCon c nd nu (.type id) spec) (hx : scope.names.lookup x = some .globalImplicit)
    (hg : ∀ p, nsIn (hd.heap_39 p) mainGlobals x = some none) (hv : bootBuiltins x = some (.type id)) (hn : x ≠ "__name__") (h : SA c nd nu scope nm (e :: es) f) (hpl : (e :: es).all plainArg = true := by rfl) (hdb : (x == ("__debug__" : Str)) = false := by decide) :
    SE c nd nu scope nm (.Call (.Name x np) (e :: es) [] pos) (fun G => (f G).bind spec) := by
  intro env A s P G d Q eo ao ho hp rd ee q
  obtain ⟨ds, e1, e2⟩ := Option.bind_eq_some_iff.mp ee
  have hpl' := hpl
  rw [List.all_cons, Bool.and_eq_true] at hpl'
  refine wpAny_Call_NameR (ld_boot eo ho hx (hg _) hv hn ?_ hdb)
  refine callWith_type1 ?_ (starEach_plain hpl'.1) (plain_none hpl'.2)
  refine h env pos A s P G ds _ eo ao ho hp rd e1 fun vs P1 k1 tk1 g1 hvs => ?_
  exact hc vs ds d e2 A { s with heap := k1, toks := tk1 } P1 Q ao (ho.keeps g1.stay) g1.sub (rd.k.trans g1.le) hvs fun v P2 k2 tk2 g2 hv => q v P2 k2 tk2 (g1.trans g2) hv

/-! len -/
noncomputable def bLen : List D → Option D
  | [.tup ds] => if ds.length ≤ 1000 then some (.int ds.length) else none
  | [.lst ds] => if ds.length ≤ 1000 then some (.int ds.length) else none
  | [.str x] => if x.length ≤ 1000 then some (.int x.length) else none
  | _ => none
theorem DHs.one_inv {w : World} {P : PM} {vs : List Value} {d : D} (h : DHs w P vs [d]) : ∃ v, vs = [v] ∧ DH w P v d := by
  cases h with | cons h r => cases r; exact ⟨_, rfl, h⟩
theorem DHs.two_inv {w : World} {P : PM} {vs : List Value} {d e : D} (h : DHs w P vs [d, e]) : ∃ v u, vs = [v, u] ∧ DH w P v d ∧ DH w P u e := by
  cases h with | cons h r => obtain ⟨u, rfl, k⟩ := r.one_inv; exact ⟨_, u, rfl, h, k⟩
theorem DHs.three_inv {w : World} {P : PM} {vs : List Value} {d e f : D} (h : DHs w P vs [d, e, f]) : ∃ v u x, vs = [v, u, x] ∧ DH w P v d ∧ DH w P u e ∧ DH w P x f := by
  cases h with | cons h r => obtain ⟨u, x, rfl, k, k2⟩ := r.two_inv; exact ⟨_, u, x, rfl, h, k, k2⟩
theorem bLen_t {ds : List D} : bLen [.tup ds] = if ds.length ≤ 1000 then some (.int ds.length) else none := rfl
theorem bLen_l {ds : List D} : bLen [.lst ds] = if ds.length ≤ 1000 then some (.int ds.length) else none := rfl
theorem bLen_s {x : Str} : bLen [.str x] = if x.length ≤ 1000 then some (.int x.length) else none := rfl
theorem bLen_shape {P : List D → Prop} {xx : List D} {r : _} (e : bLen xx = some r) (q0 : ∀ ds, P [(.tup ds)]) (q1 : ∀ ds, P [(.lst ds)]) (q2 : ∀ x, P [(.str x)]) : P xx := by
  cases xx with
  | nil => exact nn e
  | cons h1 t2 =>
    cases h1 with
    | tup x3 =>
      cases t2 with
      | nil =>
        exact q0 x3
      | cons _ _ => exact nn e
    | lst x4 =>
      cases t2 with
      | nil =>
        exact q1 x4
      | cons _ _ => exact nn e
    | str x5 =>
      cases t2 with
      | nil =>
        exact q2 x5
      | cons _ _ => exact nn e
    | _ => exact nn e
theorem len_ok : VCon c nd nu (.builtin "len") bLen := by
  intro args ds d e A s P Q ao ho hp kle hargs q
  refine bLen_shape (P := fun y => ds = y → _) e ?_ ?_ ?_ rfl
  · rintro l rfl
    obtain ⟨hl, rfl⟩ := if_some e
    · skip
      obtain ⟨v, rfl, hv⟩ := hargs.one_inv
      obtain ⟨a1, o1, vs, n1, rfl, e1, k1, d1, p1⟩ := hv.tup_inv
      have ht := tup_at e1 k1 d1 hp
      refine Calls.call_function_entry kind_len plain_len entry_len (args_len1 _) ?_
      refine wpAny_mono (len_body_tuple ht (Q := Q) (by rw [List.size_toArray, p1.length]; omega) ?_) (fun fin s' ⟨r, hr, hq⟩ => by subst hr; first | exact hq | exact ⟨_, rfl, hq⟩) fun _ _ e => e
      rw [List.size_toArray, p1.length]
      exact q _ P s.heap _ (.refl hp) (.int _ _)
  · rintro l rfl
    obtain ⟨hl, rfl⟩ := if_some e
    · skip
      obtain ⟨v, rfl, hv⟩ := hargs.one_inv
      obtain ⟨a1, o1, vs, n1, rfl, e1, k1, d1, p1⟩ := hv.lst_inv
      have ht := lst_at e1 k1 d1 hp
      refine Calls.call_len_list ht (by rw [List.size_toArray, p1.length]; omega) ?_
      rw [List.size_toArray, p1.length]
      exact q _ P s.heap _ (.refl hp) (.int _ _)
  · rintro l rfl
    obtain ⟨hl, rfl⟩ := if_some e
    · skip
      obtain ⟨v, rfl, hv⟩ := hargs.one_inv
      obtain ⟨t, rfl⟩ := hv.str_inv
      exact PySem.P.len_str (by omega) (q _ P s.heap _ (.refl hp) (.int _ _))

/-! max -/
theorem args_max3 (a b d : Value) : argsOk "max" ⟨[a, b, d], []⟩ := by unfold argsOk; kernel_rfl
theorem call_max_three {prog : Program} {w : World} {A : Around} {E : Value → Shared → Prop} {s : Shared} {a b d : Value} {Q : Value → Shared → Prop}
    (h : wpAny (model prog w) A.in1 (pyIter (.ref s.heap.objs.size)) (fun it s₂ => ∃ I fp wr n P St bt, it = .ref I ∧ Walks prog w A.in1 I fp wr n P St ∧ St 0 s₂.heap ∧ (∀ b ∈ fp, b < s₂.heap.objs.size) ∧ 0 < n ∧ CmpOf prog w A.in1 .Gt P bt ∧
      ∀ v h' tk, P (argBest bt (n - 1)) v → (∀ b o, b ∉ wr → s₂.heap.get? b = some o → h'.get? b = some o) → Q v { s₂ with heap := h', toks := tk }) E
      { s with heap := s.heap.push { cls := .type "tuple", data := .seq #[a, b, d] } }) :
    wpAny (model prog w) A (call (.builtin "max") [a, b, d]) Q E s := by
  have hname : (toString "max" ++ toString ".loop" : String) = "max.loop" := by decide
  refine call_function_tree PySem.F.kind_max PySem.F.plain_max PySem.F.entry_max (args_max3 _ _ _) ?_
  show wpAny _ A.in1 (Builtin.Builtins.bindParams "max" ["key", "default"] 0 ⟨[], []⟩ >>= _) _ _ s
  refine wpAny_bind (wpAny_of_eq (show Builtin.Builtins.bindParams "max" ["key", "default"] 0 ⟨[], []⟩ = pure [none, none] from rfl) ?_)
  show wpAny _ A.in1 (newTuple [a, b, d] >>= _) _ _ s
  refine wpAny_bind (wpAny_newObj_type ?_)
  refine wpAny_bind (wpAny_mono h (fun it s₂ h₂ => ?_) fun _ _ e => e)
  obtain ⟨I, fp, wr, n, P, St, bt, rfl, W, hst, hfp, hn, hcmp, hQ⟩ := h₂
  refine wpAny_bind (wpAny_newObj_type ?_)
  have hSf : s₂.heap.objs.size ∉ fp := fun hm => Nat.lt_irrefl _ (hfp _ hm)
  rw [hname]
  refine wpAny_pure ⟨plainId_quiet PySem.F.plain_max_loop _, codeAny_max_loop_first W bt hcmp s₂.heap.objs.size hSf hn (W.frame _ _ _ hst fun b _ o e => Heap.get?_push_of_some _ e) (Heap.get?_push_size _ rfl) fun v h' tk hP hk => ?_⟩
  exact hQ v h' tk hP fun b o hbw e => hk b o hbw (Nat.ne_of_lt (Heap.lt_size e)) (Heap.get?_push_of_some _ e)

theorem max_three_ints {prog : Program} {w : World} {A : Around} {E : Value → Shared → Prop} {s : Shared} {a b d : Int} {t u v : Tok} {Q : Value → Shared → Prop} (hh : A.handled = none)
    (h : ∀ h' tk tv, (∀ c o, s.heap.get? c = some o → h'.get? c = some o) → Q (.int (max (max a b) d) tv) { s with heap := h', toks := tk }) :
    wpAny (model prog w) A (call (.builtin "max") [.int a t, .int b u, .int d v]) Q E s := by
  have hT : (s.heap.push { cls := .type "tuple", data := .seq #[.int a t, .int b u, .int d v] }).IsTuple s.heap.objs.size (intItems #[(a, t), (b, u), (d, v)]) := ⟨_, Heap.get?_push_size _ rfl, rfl, 0, by simp [intItems]⟩
  refine call_max_three (wpAny_pyIter_tuple hT ?_)
  have hsz : (s.heap.push { cls := .type "tuple", data := .seq #[.int a t, .int b u, .int d v] }).objs.size = s.heap.objs.size + 1 := Heap.size_push ..
  refine ⟨_, [_, s.heap.objs.size], [_], _, _, _, _, rfl, Walks.tuple (A := A.in1) hh _ s.heap.objs.size (by rw [hsz]; exact Nat.ne_of_lt (Nat.lt_succ_self _)) (intItems #[(a, t), (b, u), (d, v)]),
    ⟨⟨_, Heap.get?_push_size _ rfl, rfl, rfl⟩, hT.push _⟩, fun c hc => ?_, by simp [intItems], CmpOf.ints_gt (numAt #[(a, t), (b, u), (d, v)]) (fun _ _ => intItems_at), fun x h' tk hP hk => ?_⟩
  · show c < ((s.heap.push _).push _).objs.size
    rw [Heap.size_push, hsz]
    rcases List.mem_cons.mp hc with rfl | hc
    · rw [hsz]; exact Nat.lt_succ_self _
    · rcases List.mem_cons.mp hc with rfl | hc
      · exact Nat.lt_succ_of_lt (Nat.lt_succ_self _)
      · first | exact nn hc | cases hc
  · have hold : ∀ c o, s.heap.get? c = some o → h'.get? c = some o := fun c o e => by
      refine hk c o (fun hm => ?_) (Heap.get?_push_of_some _ (Heap.get?_push_of_some _ e))
      rcases List.mem_cons.mp hm with e1 | hm
      · have := Heap.lt_size e; rw [e1, hsz] at this; exact Nat.lt_irrefl _ (Nat.lt_of_succ_lt this)
      · first | exact nn hm | cases hm
    have hv : ∃ tv, x = Value.int (max (max a b) d) tv := by
      have hP' : (intItems #[(a, t), (b, u), (d, v)])[argBest (fun i j => decide (numAt #[(a, t), (b, u), (d, v)] i > numAt #[(a, t), (b, u), (d, v)] j)) 2]? = some x := by
        have hsz2 : (intItems #[(a, t), (b, u), (d, v)]).size - 1 = 2 := by simp [intItems]
        rw [← hsz2]; exact hP
      by_cases hba : b > a
      · by_cases hdb : d > b
        · have e : argBest (fun i j => decide (numAt #[(a, t), (b, u), (d, v)] i > numAt #[(a, t), (b, u), (d, v)] j)) 2 = 2 := by simp [argBest, numAt, hba, hdb]
          rw [e] at hP'
          refine ⟨v, ?_⟩
          rw [show max (max a b) d = d by omega]
          simpa [intItems] using hP'.symm
        · have e : argBest (fun i j => decide (numAt #[(a, t), (b, u), (d, v)] i > numAt #[(a, t), (b, u), (d, v)] j)) 2 = 1 := by simp [argBest, numAt, hba, hdb]
          rw [e] at hP'
          refine ⟨u, ?_⟩
          rw [show max (max a b) d = b by omega]
          simpa [intItems] using hP'.symm
      · by_cases hdb : d > a
        · have e : argBest (fun i j => decide (numAt #[(a, t), (b, u), (d, v)] i > numAt #[(a, t), (b, u), (d, v)] j)) 2 = 2 := by simp [argBest, numAt, hba, hdb]
          rw [e] at hP'
          refine ⟨v, ?_⟩
          rw [show max (max a b) d = d by omega]
          simpa [intItems] using hP'.symm
        · have e : argBest (fun i j => decide (numAt #[(a, t), (b, u), (d, v)] i > numAt #[(a, t), (b, u), (d, v)] j)) 2 = 0 := by simp [argBest, numAt, hba, hdb]
          rw [e] at hP'
          refine ⟨t, ?_⟩
          rw [show max (max a b) d = a by omega]
          simpa [intItems] using hP'.symm
    obtain ⟨tv, rfl⟩ := hv
    exact h h' tk tv hold
noncomputable def bMax : List D → Option D
  | [.int a, .int b] => some (.int (max a b))
  | [.int a, .int b, .int d] => some (.int (max (max a b) d))
  | _ => none
theorem Grow.keep {P : PM} {h h' : Heap} (i : PIn P h) (k : ∀ c o, h.get? c = some o → h'.get? c = some o) : Grow P h P h' := (Grow.refl i).then k
theorem bMax_2 {a b : Int} : bMax [.int a, .int b] = some (.int (max a b)) := rfl
theorem bMax_3 {a b d : Int} : bMax [.int a, .int b, .int d] = some (.int (max (max a b) d)) := rfl
theorem bMax_shape {P : List D → Prop} {xx : List D} {r : _} (e : bMax xx = some r) (q0 : ∀ a b, P [(.int a), (.int b)]) (q1 : ∀ a b d, P [(.int a), (.int b), (.int d)]) : P xx := by
  cases xx with
  | nil => exact nn e
  | cons h1 t2 =>
    cases h1 with
    | int x3 =>
      cases t2 with
      | nil => exact nn e
      | cons h4 t5 =>
        cases h4 with
        | int x6 =>
          cases t5 with
          | nil =>
            exact q0 x3 x6
          | cons h7 t8 =>
            cases h7 with
            | int x9 =>
              cases t8 with
              | nil =>
                exact q1 x3 x6 x9
              | cons _ _ => exact nn e
            | _ => exact nn e
        | _ => exact nn e
    | _ => exact nn e
theorem max_ok : VCon c nd nu (.builtin "max") bMax := by
  intro args ds d e A s P Q ao ho hp kle hargs q
  refine bMax_shape (P := fun y => ds = y → _) e ?_ ?_ rfl
  · rintro a b rfl
    cases e
    obtain ⟨v, u, rfl, hv, hu⟩ := hargs.two_inv
    obtain ⟨t, rfl⟩ := hv.int_inv
    obtain ⟨t2, rfl⟩ := hu.int_inv
    refine max_two_ints ao.hh fun h' tk k => ?_
    have z : ∃ t3, (if b > a then Value.int b t2 else Value.int a t) = .int (max a b) t3 := by
      by_cases hba : b > a
      · exact ⟨t2, by rw [if_pos hba, show max a b = b by omega]⟩
      · exact ⟨t, by rw [if_neg hba, show max a b = a by omega]⟩
    obtain ⟨t3, e3⟩ := z
    rw [e3]
    exact q _ P h' tk (.keep hp k) (.int _ _)
  · rintro a b d rfl
    cases e
    obtain ⟨v, u, x, rfl, hv, hu, hx⟩ := hargs.three_inv
    obtain ⟨t, rfl⟩ := hv.int_inv
    obtain ⟨t2, rfl⟩ := hu.int_inv
    obtain ⟨t3, rfl⟩ := hx.int_inv
    exact max_three_ints ao.hh fun h' tk tv k => q _ P h' tk (.keep hp k) (.int _ _)

/-! tuple of a list -/
noncomputable def bTup : List D → Option D
  | [.lst ds] => if ds.length ≤ 1000 then some (.tup ds) else none
  | _ => none
theorem bTup_shape {P : List D → Prop} {xx : List D} {r : _} (e : bTup xx = some r) (q0 : ∀ ds, P [(.lst ds)]) : P xx := by
  cases xx with
  | nil => exact nn e
  | cons h1 t2 =>
    cases h1 with
    | lst x3 =>
      cases t2 with
      | nil =>
        exact q0 x3
      | cons _ _ => exact nn e
    | _ => exact nn e
theorem tuple_ok : VCon c nd nu (.type "tuple") bTup := by
  intro args ds d e A s P Q ao ho hp kle hargs q
  refine bTup_shape (P := fun y => ds = y → _) e ?_ rfl
  rintro l rfl
  obtain ⟨hl, rfl⟩ := if_some e
  · · skip
      obtain ⟨v, rfl, hv⟩ := hargs.one_inv
      obtain ⟨a1, o1, vs, n1, rfl, e1, k1, d1, p1⟩ := hv.lst_inv
      refine call_tuple_list (lst_at e1 k1 d1 hp) (fun h' k => ?_) (by rw [List.size_toArray, p1.length]; exact le_line hl)
      have g := Grow.keep hp k
      exact grow_tup (s := { s with heap := h' }) g.sub p1 fun v P2 k2 tk2 g2 hv => q v P2 k2 tk2 (g.trans g2) hv
end
end Mine
namespace Mine
open PySem PySem.W PySem.Calls PySem.SeqAt PyProof.Rows

section
variable {c : Cx} {nd nu : Nat} {scope : Scope} {nm : List Str}
/-! sum -/
noncomputable def intsOf : List D → Option (List Int)
  | [] => some []
  | .int x :: r => if -1000000 ≤ x ∧ x ≤ 1000000 then (intsOf r).map (x :: ·) else none
  | _ => none
noncomputable def bSum : List D → Option D
  | [.lst ds] => if ds.length ≤ 1000 then (intsOf ds).map fun ns => .int ns.sum else none
  | _ => none
theorem intsAre_of {w : World} {P : PM} : ∀ {vs : List Value} {ds : List D} {xs : List Int}, DHs w P vs ds → intsOf ds = some xs → IntsAre vs xs ∧ ∀ x ∈ xs, -1000000 ≤ x ∧ x ≤ 1000000 := by
  intro vs ds
  induction ds generalizing vs with
  | nil => intro xs h e; cases h; cases e; exact ⟨.nil, fun x h => by cases h⟩
  | cons d r ih =>
    intro xs h e
    cases h with | cons h1 h2 =>
    cases d with
    | int i =>
      unfold intsOf at e
      split at e
      · rename_i hb
        obtain ⟨ys, e1, rfl⟩ := Option.map_eq_some_iff.mp e
        obtain ⟨t, rfl⟩ := h1.int_inv
        obtain ⟨a, b⟩ := ih h2 e1
        exact ⟨.cons _ t a, fun x hx => by
          rcases List.mem_cons.mp hx with rfl | hx
          · exact hb
          · exact b x hx⟩
      · exact nn e
    | _ => exact nn e
theorem intsAre_get : ∀ {vs : List Value} {xs : List Int}, IntsAre vs xs → ∀ {i : Nat} {v : Value}, vs[i]? = some v → ∃ t, v = .int (xs.getD i 0) t
  | _, _, .nil, i, v, h => by cases h
  | _, _, .cons n t r, 0, v, h => by cases h; exact ⟨t, rfl⟩
  | _, _, .cons n t r, i + 1, v, h => by
    obtain ⟨u, e⟩ := intsAre_get r (i := i) (by simpa using h)
    exact ⟨u, by simpa using e⟩
theorem sum_bound : ∀ (xs : List Int), (∀ x ∈ xs, -1000000 ≤ x ∧ x ≤ 1000000) → -(1000000 * (xs.length : Int)) ≤ xs.sum ∧ xs.sum ≤ 1000000 * (xs.length : Int)
  | [], _ => by simp
  | x :: r, h => by
    have h1 := h x List.mem_cons_self
    have h2 := sum_bound r fun y hy => h y (List.mem_cons_of_mem _ hy)
    simp only [List.sum_cons, List.length_cons]
    omega
theorem sum_ok : VCon c nd nu (.builtin "sum") bSum := by
  intro args ds d e A s P Q ao ho hp kle hargs q
  unfold bSum at e
  split at e
  · split at e
    · rename_i l hl
      obtain ⟨ns, en, rfl⟩ := Option.map_eq_some_iff.mp e
      obtain ⟨v, rfl, hv⟩ := hargs.one_inv
      obtain ⟨a1, o1, vs, n1, rfl, e1, k1, d1, p1⟩ := hv.lst_inv
      have ht := lst_at e1 k1 d1 hp
      obtain ⟨ia, ib⟩ := intsAre_of p1 en
      have hlen := ia.length
      have hlt : a1 < s.heap.objs.size := by obtain ⟨_, e, _⟩ := ht; exact Heap.lt_size e
      have hne : a1 ≠ s.heap.objs.size := Nat.ne_of_lt hlt
      refine call_sum_walk (wpAny_pyIter_list ht ?_)
      refine ⟨_, _, _, _, _, _, fun i => ns.getD i 0, rfl, Walks.list (prog := PG) (w := c.w) (A := A.in1) ao.hh s.heap.objs.size a1 hne vs.toArray, ⟨⟨_, Heap.get?_push_size _ rfl, rfl, rfl⟩, ht.push _⟩, fun b hb => ?_, fun i v hv => intsAre_get ia (by simpa using hv), fun j hj => ?_, fun h' tk t' hk => ?_⟩
      · show b < (s.heap.push _).objs.size
        rw [Heap.size_push]
        rcases List.mem_cons.mp hb with rfl | hb
        · exact Nat.lt_succ_self _
        · rw [List.mem_singleton.mp hb]; exact Nat.lt_succ_of_lt hlt
      · have hj' : j < ns.length := by rw [← hlen]; simpa using hj
        have hjm : ns.getD j 0 ∈ ns := by rw [List.getD_eq_getElem?_getD, List.getElem?_eq_getElem hj']; exact List.getElem_mem _
        have h1 := ib _ hjm
        have h2 := sum_bound (ns.take (j + 1)) fun x hx => ib x (List.mem_of_mem_take hx)
        rw [preSum_getD]
        have h3 : ((ns.take (j + 1)).length : Int) ≤ 1000 := by
          have : (ns.take (j + 1)).length ≤ ns.length := by rw [List.length_take]; exact Nat.min_le_right _ _
          rw [← hlen, p1.length] at this; omega
        unfold InLong
        show (-(2 ^ 63) ≤ ns.getD j 0 ∧ ns.getD j 0 < 2 ^ 63) ∧ _
        generalize (ns.take (j + 1)).sum = S at h2
        generalize ((ns.take (j + 1)).length : Int) = L at h2 h3
        generalize ns.getD j 0 = x at h1
        omega
      · have hs : preSum (fun i => ns.getD i 0) vs.toArray.size = ns.sum := by
          rw [preSum_getD, List.take_of_length_le]; rw [List.size_toArray, hlen]; exact Nat.le_refl _
        rw [hs]
        refine q _ P h' tk (.keep hp fun c o e => hk c o (fun hm => ?_) (Heap.get?_push_of_some _ e)) (.int _ _)
        rw [List.mem_singleton.mp hm] at e
        rw [get_size] at e; cases e
    · first | exact nn e | cases e
  · first | exact nn e | cases e

/-! isinstance -/
theorem isi_dec_dec {w : World} {A : Around} {s : Shared} {P : PM} {v : Value} {t p : Int} {Q : Value → Shared → Prop} (X : (hd.heap_39 w.params).In s.heap) (i : PIn P s.heap) (h : DH w P v (.dec t p)) (q : Q (.bool true) s) :
    wpAny (model PG w) A (call (.builtin "isinstance") [v, .ref 155]) Q NoE s := by
  cases h with
  | dec ha hx =>
    rename_i a dx t1 t2 k1 k2
    have J : W.InstAt s.heap a (instObj 155 dx) 155 (some (decO w (.int t t1) (.int p t2) k1 k2)) := ⟨i _ _ ha, rfl, rfl, i _ _ hx⟩
    refine isi_call (K := hd.heap_39 w.params) (t := .ref 155) X (fun M => W.InstAt.type J) ?_ (by intro e; cases e) q
    k_is
theorem isi_int_dec {w : World} {A : Around} {s : Shared} {n : Int} {t : Tok} {Q : Value → Shared → Prop} (X : (hd.heap_39 w.params).In s.heap) (q : ∀ tk, Q (.bool false) { s with toks := tk }) :
    wpAny (model PG w) A (call (.builtin "isinstance") [.int n t, .ref 155]) Q NoE s :=
  isn_call (P := fun _ => True) X (fun M => Looks.of_pure rfl) (by k_not) (by intro e; cases e) trivial int_cls (q _)
end
end Mine
namespace Mine
open PySem PySem.W PySem.Calls PySem.SeqAt PyProof.Rows

section
variable {c : Cx} {nd nu : Nat} {scope : Scope} {nm : List Str}
theorem args_two {M : Model} {A : Around} {s : Shared} {E : Value → Shared → Prop} {env : Env} {pos : Pos} {e1 e2 : Expr} {Q : List Value → Shared → Prop} (h1 : plainArg e1 = true) (h2 : plainArg e2 = true)
    (h : wpAny M A (eval e1 env) (fun v s1 => wpAny M A (eval e2 env) (fun u s2 => Q [v, u] s2) E s1) E s) : wpAny M A (spliced (backTo pos (starEach [e1, e2] env))) Q E s := by
  rw [backTo_cons h1, backTo_cons h2]
  exact Calls.spliced_cons (wpAny_mono h (fun v s1 k => Calls.spliced_cons (wpAny_mono k (fun u s2 q => Calls.spliced_nil q) fun _ _ e => e)) fun _ _ e => e)

noncomputable def isiDec : D → Option D
  | .dec _ _ => some (.bool true)
  | .int _ => some (.bool false)
  | _ => none
noncomputable def isiBool : D → Option D
  | .int _ => some (.bool false)
  | _ => none
noncomputable def isiInt : D → Option D
  | .int _ => some (.bool true)
  | _ => none
theorem isi_name {env : Env} {A : Around} {s : Shared} {np : Pos} {Q : Value → Shared → Prop} (eo : EnvOK scope env) (ho : HOK c s.heap) (hx : scope.names.lookup (Str.ofString "isinstance") = some .globalImplicit) (q : Q (.builtin "isinstance") s) :
    wpAny (model PG c.w) A (eval (.Name (Str.ofString "isinstance") np) env) Q NoE s := ld_boot eo ho hx (by k_is) boot_isinstance (by decide) q
theorem dec_name {env : Env} {A : Around} {s : Shared} {np : Pos} {Q : Value → Shared → Prop} (eo : EnvOK scope env) (ho : HOK c s.heap) (hx : scope.names.lookup (Str.ofString "Decimal") = some .globalImplicit) (q : Q (.ref 155) s) :
    wpAny (model PG c.w) A (eval (.Name (Str.ofString "Decimal") np) env) Q NoE s := ld_glob eo ho hx (by k_is) q
theorem se_isi_dec {np dp pos : Pos} {e : Expr} {f : Vars → Option D} (hx : scope.names.lookup (Str.ofString "isinstance") = some .globalImplicit) (hd' : scope.names.lookup (Str.ofString "Decimal") = some .globalImplicit) (h : SE c nd nu scope nm e f) (hpl : plainArg e = true := by rfl) :
    SE c nd nu scope nm (.Call (.Name (Str.ofString "isinstance") np) [e, .Name (Str.ofString "Decimal") dp] [] pos) (fun G => (f G).bind isiDec) := by
  intro env A s P G d Q eo ao ho hp rd ee q
  obtain ⟨d0, e1, e2⟩ := Option.bind_eq_some_iff.mp ee
  refine wpAny_Call_NameR (isi_name eo ho hx ?_)
  refine callWith_builtin1 ?_ (starEach_plain hpl) rfl
  refine args_two hpl rfl (h env A s P G _ _ eo ao ho hp rd e1 fun v P1 k1 tk1 g1 hv => ?_)
  refine dec_name eo (ho.keeps g1.stay) hd' ?_
  cases d0 <;> first | exact nn e2 | skip
  · first | exact nn e2 | cases e2
    obtain ⟨t, rfl⟩ := hv.int_inv
    exact isi_int_dec (s := { s with heap := k1, toks := tk1 }) (ho.X.keeps g1.stay) fun tk => q _ P1 k1 tk g1 (.bool _)
  · first | exact nn e2 | cases e2
    exact isi_dec_dec (s := { s with heap := k1, toks := tk1 }) (ho.X.keeps g1.stay) g1.sub hv (q _ P1 k1 tk1 g1 (.bool _))
theorem se_isi_bool {np dp pos : Pos} {e : Expr} {f : Vars → Option D} (hx : scope.names.lookup (Str.ofString "isinstance") = some .globalImplicit) (hd' : scope.names.lookup (Str.ofString "bool") = some .globalImplicit) (h : SE c nd nu scope nm e f) (hpl : plainArg e = true := by rfl) :
    SE c nd nu scope nm (.Call (.Name (Str.ofString "isinstance") np) [e, .Name (Str.ofString "bool") dp] [] pos) (fun G => (f G).bind isiBool) := by
  intro env A s P G d Q eo ao ho hp rd ee q
  obtain ⟨d0, e1, e2⟩ := Option.bind_eq_some_iff.mp ee
  refine wpAny_Call_NameR (isi_name eo ho hx ?_)
  refine callWith_builtin1 ?_ (starEach_plain hpl) rfl
  refine args_two hpl rfl (h env A s P G _ _ eo ao ho hp rd e1 fun v P1 k1 tk1 g1 hv => ?_)
  refine ld_boot eo (ho.keeps g1.stay) hd' (by k_is) PyProof.Rows.boot_bool (by decide) ?_
  cases d0 <;> first | exact nn e2 | skip
  cases e2
  obtain ⟨t, rfl⟩ := hv.int_inv
  exact call_isinstance (isinstance_false_int (by decide) PySem.F.isi_meta_bool PySem.F.sub_int_bool) (q _ P1 k1 _ g1 (.bool _))
theorem se_isi_int {np dp pos : Pos} {e : Expr} {f : Vars → Option D} (hx : scope.names.lookup (Str.ofString "isinstance") = some .globalImplicit) (hd' : scope.names.lookup (Str.ofString "int") = some .globalImplicit) (h : SE c nd nu scope nm e f) (hpl : plainArg e = true := by rfl) :
    SE c nd nu scope nm (.Call (.Name (Str.ofString "isinstance") np) [e, .Name (Str.ofString "int") dp] [] pos) (fun G => (f G).bind isiInt) := by
  intro env A s P G d Q eo ao ho hp rd ee q
  obtain ⟨d0, e1, e2⟩ := Option.bind_eq_some_iff.mp ee
  refine wpAny_Call_NameR (isi_name eo ho hx ?_)
  refine callWith_builtin1 ?_ (starEach_plain hpl) rfl
  refine args_two hpl rfl (h env A s P G _ _ eo ao ho hp rd e1 fun v P1 k1 tk1 g1 hv => ?_)
  refine ld_boot eo (ho.keeps g1.stay) hd' (by k_is) PyProof.Rows.boot_int (by decide) ?_
  cases d0 <;> first | exact nn e2 | skip
  cases e2
  obtain ⟨t, rfl⟩ := hv.int_inv
  exact call_isinstance (isinstance_true (Tx := "int") PySem.F.isi_meta_int PySem.F.isi_self_int) ⟨typeIs_int _ _ _, q _ P1 k1 _ g1 (.bool _)⟩
theorem st_not {x : Expr} {pos : Pos} {f : Vars → Option Bool} (h1 : ST c nd nu scope nm x f) : ST c nd nu scope nm (.UnaryOp .Not x pos) (fun G => (f G).map (!·)) := by
  intro env A s P G d Q eo ao ho hp rd e q
  obtain ⟨a, ea, rfl⟩ := Option.map_eq_some_iff.mp e
  exact isTrue_not (h1 env A s P G a _ eo ao ho hp rd ea q)
theorem st_ife {t x y : Expr} {pos : Pos} {f g k : Vars → Option Bool} (h1 : ST c nd nu scope nm t f) (h2 : ST c nd nu scope nm x g) (h3 : ST c nd nu scope nm y k) :
    ST c nd nu scope nm (.IfExp t x y pos) (fun G => (f G).bind fun b => if b then g G else k G) := by
  intro env A s P G d Q eo ao ho hp rd e q
  obtain ⟨a, ea, e1⟩ := Option.bind_eq_some_iff.mp e
  refine isTrue_IfExp (h1 env A s P G a _ eo ao ho hp rd ea fun P1 k1 tk1 g1 => ?_)
  cases a with
  | true =>
    rw [if_pos rfl] at e1 ⊢
    exact h2 env A _ P1 G d _ eo ao (ho.keeps g1.stay) g1.sub (rd.grow g1) e1 fun P2 k2 tk2 g2 => q P2 k2 tk2 (g1.trans g2)
  | false =>
    simp only [Bool.false_eq_true, if_false] at e1 ⊢
    exact h3 env A _ P1 G d _ eo ao (ho.keeps g1.stay) g1.sub (rd.grow g1) e1 fun P2 k2 tk2 g2 => q P2 k2 tk2 (g1.trans g2)

/-! methods of a str -/
theorem se_smeth {o : Expr} {name : Str} {id : String} {apos pos : Pos} {es : List Expr} {spec : List D → Option D} {f : Vars → Option D} {g : Vars → Option (List D)} (hc : VCon c nd nu (.builtin id) spec) (h1 : SE c nd nu scope nm o f) (h : SA c nd nu scope nm es g)
    (hg : ∀ (M : Model) (A : Around) (E : Value → Shared → Prop) (s : Shared) (x : Str) (t : Tok) (pl : Sem Bool) (Q : Value × List Value → Shared → Prop), Q (.builtin id, [.str x t]) s → wpAny M A (getMethod (.str x t) name pl) Q E s)
    (hb : ∀ env, ∃ pl : Sem Bool, eval (.Call (.Attribute o name apos) es [] pos) env = (do
      let ov ← eval o env
      standAt apos.atName
      let (f, first) ← holding [ov] (getMethod ov name pl)
      callWith pos f first (backTo pos (starEach es env)) (backToKw pos (keywordEach [] env)))) (hpl : es.all plainArg = true := by rfl) :
    SE c nd nu scope nm (.Call (.Attribute o name apos) es [] pos) (fun G => (f G).bind fun d => match d with | .str _ => (g G).bind fun ds => spec (d :: ds) | _ => none) := by
  intro env A s P G d Q eo ao ho hp rd ee q
  obtain ⟨pl, hb⟩ := hb env
  obtain ⟨d0, e1, e2⟩ := Option.bind_eq_some_iff.mp ee
  cases d0 with
  | str x =>
    obtain ⟨ds, e3, e4⟩ := Option.bind_eq_some_iff.mp e2
    refine methodCall_KW (pl := pl) (h1 env A s P G _ _ eo ao ho hp rd e1 fun v P1 h1' tk1 g1 hv => ?_) hb
    obtain ⟨t, rfl⟩ := hv.str_inv
    refine hg _ _ _ _ _ _ _ _ ?_
    refine Calls.callWith_builtin (plain_none hpl) ?_
    refine args_SA h hpl eo ao (ho.keeps g1.stay) g1.sub (rd.grow g1) e3 fun vs P2 k2 tk2 g2 hvs => ?_
    exact hc (_ :: vs) (_ :: ds) d e4 A { s with heap := k2, toks := tk2 } P2 Q ao (ho.keeps (g1.trans g2).stay) g2.sub ((rd.k.trans g1.le).trans g2.le) (.cons (hv.mono g2.le) hvs) fun v P3 k3 tk3 g3 hv => q v P3 k3 tk3 ((g1.trans g2).trans g3) hv
  | _ => first | exact nn e2 | cases e2
noncomputable def bJoin : List D → Option D
  | [.str x, .lst ds] => if x = Str.ofString "" ∧ ds.length ≤ 1000 then (strsOf ds).bind fun xs => if xs.all (fun y => decide (y.length ≤ 16)) then some (.str (Txt.join (Str.ofString "") xs)) else none else none
  | _ => none
theorem carried_of {w : World} {P : PM} : ∀ {vs : List Value} {ds : List D} {xs : List Str}, DHs w P vs ds → strsOf ds = some xs → CarriedAll vs (xs.map fun a => PyData.str a)
  | _, _, _, .nil, e => by cases e; exact .nil
  | _, _, _, .cons (d := d) h r, e => by
    cases d <;> first | exact nn e | skip
    obtain ⟨ys, e1, rfl⟩ := Option.map_eq_some_iff.mp e
    obtain ⟨t, rfl⟩ := h.str_inv
    exact .cons (.str _ _) (carried_of r e1)
theorem strsAre_of {w : World} {P : PM} : ∀ {vs : List Value} {ds : List D} {xs : List Str}, DHs w P vs ds → strsOf ds = some xs → StrsAre vs xs
  | _, _, _, .nil, e => by cases e; exact .nil
  | _, _, _, .cons (d := d) h r, e => by
    cases d <;> first | exact nn e | skip
    obtain ⟨ys, e1, rfl⟩ := Option.map_eq_some_iff.mp e
    obtain ⟨t, rfl⟩ := h.str_inv
    exact .cons _ _ (strsAre_of r e1)
theorem join_ok : VCon c nd nu (.builtin "str.join") bJoin := by
  intro args ds d e A s P Q ao ho hp kle hargs q
  unfold bJoin at e
  split at e
  · split at e
    · rename_i hc
      obtain ⟨xs, e1, e2⟩ := Option.bind_eq_some_iff.mp e
      split at e2
      · rename_i hall
        cases e2
        obtain ⟨v, u, rfl, hv, hu⟩ := hargs.two_inv
        obtain ⟨t, rfl⟩ := hv.str_inv
        obtain ⟨a1, o1, vs, n1, rfl, k1, k2, d1, p1⟩ := hu.lst_inv
        have hca := carried_of p1 e1
        have hlen := hca.length_eq
        rw [List.length_map] at hlen
        rw [hc.1]
        have z := KT.join_B (prog := PG) (w := c.w) (A := A) (E := NoE) (s := s) (t := t) (Q := Q) (g := id) (l := xs) (x := Str.ofString "") 16 (lst_at k1 k2 d1 hp) hca (fun a ha => by
          have := List.all_eq_true.mp hall a ha
          simpa using this) (by have := p1.length; omega) (by decide) fun t' k => by rw [List.map_id]; exact q _ P s.heap k (.refl hp) (.str _ _)
        exact z
      · first | exact nn e2 | cases e2
    · first | exact nn e | cases e
  · first | exact nn e | cases e
noncomputable def bCount : List D → Option D
  | [.str x, .str y] => some (.int (Txt.count x y))
  | _ => none
theorem bCount_at {x y : Str} : bCount [.str x, .str y] = some (.int (Txt.count x y)) := rfl
theorem bCount_shape {P : List D → Prop} {xx : List D} {r : _} (e : bCount xx = some r) (q0 : ∀ x y, P [(.str x), (.str y)]) : P xx := by
  cases xx with
  | nil => exact nn e
  | cons h1 t2 =>
    cases h1 with
    | str x3 =>
      cases t2 with
      | nil => exact nn e
      | cons h4 t5 =>
        cases h4 with
        | str x6 =>
          cases t5 with
          | nil =>
            exact q0 x3 x6
          | cons _ _ => exact nn e
        | _ => exact nn e
    | _ => exact nn e
theorem count_ok : VCon c nd nu (.builtin "str.count") bCount := by
  intro args ds d e A s P Q ao ho hp kle hargs q
  refine bCount_shape (P := fun y => ds = y → _) e ?_ rfl
  rintro x y rfl
  · cases e
    obtain ⟨v, u, rfl, hv, hu⟩ := hargs.two_inv
    obtain ⟨t, rfl⟩ := hv.str_inv
    obtain ⟨t2, rfl⟩ := hu.str_inv
    exact SC.count (q _ P s.heap _ (.refl hp) (.int _ _))
end
end Mine
namespace Mine
open PySem PySem.W PySem.Calls PySem.SeqAt PyProof.Rows

section
variable {c : Cx} {nd nu : Nat} {scope : Scope} {nm : List Str}
theorem st_ne_bool {l r : Expr} {pos : Pos} {f g : Vars → Option D} (h1 : SE c nd nu scope nm l f) (h2 : SE c nd nu scope nm r g) (hm : behindInMarks .NotEq r = false := by with_unfolding_all rfl) :
    ST c nd nu scope nm (.Compare l [.NotEq] [r] pos) (fun G => (f G).bind fun a => (g G).bind fun b => match a, b with | .bool x, .bool y => some (x != y) | _, _ => none) := by
  intro env A s P G d Q eo ao ho hp rd e q
  obtain ⟨a, ea, e1⟩ := Option.bind_eq_some_iff.mp e
  obtain ⟨b, eb, er⟩ := Option.bind_eq_some_iff.mp e1
  refine wpAny_isTrue_Compare1 (h1 env A s P G a _ eo ao ho hp rd ea fun va P1 k1 tk1 g1 hva => ?_) hm
  refine h2 env A _ P1 G b _ eo ao (ho.keeps g1.stay) g1.sub (rd.grow g1) eb fun vb P2 k2 tk2 g2 hvb => ?_
  split at er
  · first | exact nn er | cases er
    have := hva.bool_inv; subst this
    have := hvb.bool_inv; subst this
    exact ne_bool (wpAny_truthy_bool (q P2 k2 tk2 (g1.trans g2)))
  · first | exact nn er | cases er
theorem st_notin {l r : Expr} {pos : Pos} {f g : Vars → Option D} (h1 : SE c nd nu scope nm l f) (h2 : SE c nd nu scope nm r g) (hm : behindInMarks .NotIn r = false := by with_unfolding_all rfl) :
    ST c nd nu scope nm (.Compare l [.NotIn] [r] pos) (fun G => (f G).bind fun a => (g G).bind fun b => match a, b with | .str x, .tup ds => (strsOf ds).map fun ys => !(ys.any (· == x)) | _, _ => none) := by
  intro env A s P G d Q eo ao ho hp rd e q
  obtain ⟨a, ea, e1⟩ := Option.bind_eq_some_iff.mp e
  obtain ⟨b, eb, er⟩ := Option.bind_eq_some_iff.mp e1
  refine wpAny_isTrue_Compare1 (h1 env A s P G a _ eo ao ho hp rd ea fun va P1 k1 tk1 g1 hva => ?_) hm
  refine h2 env A _ P1 G b _ eo ao (ho.keeps g1.stay) g1.sub (rd.grow g1) eb fun vb P2 k2 tk2 g2 hvb => ?_
  split at er
  · rename_i x ds
    obtain ⟨ys, ey, rfl⟩ := Option.map_eq_some_iff.mp er
    obtain ⟨t, rfl⟩ := hva.str_inv
    obtain ⟨a1, o1, vs, n1, rfl, e1, k1', d1, p1⟩ := hvb.tup_inv
    exact notin_tuple_strs (s := { s with heap := k2, toks := tk2 }) (tup_at e1 k1' d1 g2.sub) (strsAre_of p1 ey) (wpAny_truthy_bool (q P2 k2 tk2 (g1.trans g2)))
  · first | exact nn er | cases er

/-! slices -/
theorem evalPart_some' {M : Model} {A : Around} {E : Value → Shared → Prop} {s : Shared} {env : Env} {e : Expr} {Q : Value → Shared → Prop} (h : wpAny M A (eval e env) Q E s) : wpAny M A (evalPart (some e) env) Q E s := by rw [evalPart_some]; exact h
theorem evalPart_none' {M : Model} {A : Around} {E : Value → Shared → Prop} {s : Shared} {env : Env} {Q : Value → Shared → Prop} (h : Q .none s) : wpAny M A (evalPart none env) Q E s := by rw [evalPart_none]; exact wpAny_pure h
noncomputable def sFrom (a : D) (b : D) : Option D := match a, b with
  | .lst ds, .int k => if 0 ≤ k ∧ ds.length ≤ 1000 then some (.lst (ds.drop k.toNat)) else none
  | _, _ => none
noncomputable def sUpto (a : D) (b : D) : Option D := match a, b with
  | .tup ds, .int k => if k = -1 ∧ ds ≠ [] ∧ ds.length ≤ 1000 then some (.tup ds.dropLast) else none
  | _, _ => none
theorem se_from {v l : Expr} {p pos : Pos} {f g : Vars → Option D} (h1 : SE c nd nu scope nm v f) (h2 : SE c nd nu scope nm l g)
    (hs : ∀ a k, subscripted (.Slice (some l) none none p) false (.ref a) (.ref k) = operate [.ref k, .ref a] (getItem (.ref a) (.ref k)) := by intro _ _; with_unfolding_all rfl) :
    SE c nd nu scope nm (.Subscript v (.Slice (some l) none none p) pos) (fun G => (f G).bind fun a => (g G).bind fun b => sFrom a b) := by
  intro env A s P G d Q eo ao ho hp rd e q
  obtain ⟨a, ea, e1⟩ := Option.bind_eq_some_iff.mp e
  obtain ⟨b, eb, er⟩ := Option.bind_eq_some_iff.mp e1
  refine Subscript_ (h1 env A s P G a _ eo ao ho hp rd ea fun va P1 k1 tk1 g1 hva => ?_)
  refine wpAny_Slice (evalPart_some' (h2 env A _ P1 G b _ eo ao (ho.keeps g1.stay) g1.sub (rd.grow g1) eb fun vb P2 k2 tk2 g2 hvb => ?_))
  refine evalPart_none' (evalPart_none' ?_)
  unfold sFrom at er
  split at er
  · rename_i ds k
    split at er
    · rename_i hk
      cases er
      obtain ⟨u, rfl⟩ := hvb.int_inv
      obtain ⟨a1, o1, vs, n1, rfl, e1, c1, d1, p1⟩ := (hva.mono g2.le).lst_inv
      have t := lst_at e1 c1 d1 g2.sub
      have tp : (k2.push { cls := .type "slice", data := .fields #[.int k u, .none, .none] }).IsList a1 vs.toArray := t.push _
      refine tail_any (s := { s with heap := k2.push { cls := .type "slice", data := .fields #[.int k u, .none, .none] }, toks := tk2 }) tp.typeIs slot_list_getitem.lookup
        (wpAny_getItem_list_slice (s := { s with heap := k2.push { cls := .type "slice", data := .fields #[.int k u, .none, .none] }, toks := tk2 }) tp (Heap.IsSliceOf.new ..) (.int _ _) .none .none (by simp) ?_ (by rw [List.size_toArray, p1.length]; exact le_line hk.2)) (hs _ _)
      have ek : k = (k.toNat : Int) := by omega
      have ee : slicePick vs.toArray (some k) none none = (vs.drop k.toNat).toArray := by
        rw [congrArg some ek, slicePick_from']
      rw [ee]
      have g12 := (g1.trans g2).then (l := k2.push { cls := .type "slice", data := .fields #[.int k u, .none, .none] }) fun b o e => Heap.get?_push_of_some _ e
      exact grow_lst (s := { s with heap := k2.push { cls := .type "slice", data := .fields #[.int k u, .none, .none] }, toks := tk2 }) g12.sub (p1.drop _) fun v P3 k3 tk3 g3 hv => q v P3 k3 tk3 (g12.trans g3) hv
    · first | exact nn er | cases er
  · first | exact nn er | cases er

theorem getItem_tuple_last {prog : Program} {w : World} {A : Around} {E : Value → Shared → Prop} {s : Shared} {t sl : Addr} {items : Array Value} {u : Tok} {Q : Value → Shared → Prop} (ht : IsTup s.heap t items) (hs : s.heap.IsSliceOf sl .none (.int (-1) u) .none) (h1 : 1 ≤ items.size)
    (h : Q (.ref s.heap.objs.size) { s with heap := s.heap.push { cls := .type "tuple", data := .seq items.toList.dropLast.toArray } })
    (hsz : items.size ≤ sizeLine) : wpAny (model prog w) A (getItem (.ref t) (.ref sl)) Q E s := by
  have hdrop : sizeOk (.seq items.toList.dropLast.toArray) := by
    show items.toList.dropLast.toArray.size ≤ sizeLine
    rw [List.size_toArray, List.length_dropLast, Array.length_toList]
    omega
  obtain ⟨os, hos, hcs, hds⟩ := id hs
  have hTs : s.TypeIs (.ref sl) "slice" := ⟨os, hos, hcs⟩
  unfold getItem
  try with_reducible refine wpAny_holding ?_
  first | refine wpAny_bind (wpAny_pure ?_) | skip
  refine wpAny_bind (wpAny_sequenceKey ht.typeIs (by decide) ?_)
  refine wpAny_bind (wpAny_callSpecial?_slot (name := Str.ofString "__getitem__") ht.typeIs slot_tuple_getitem
    (wpAny_call_entry slot_tuple_getitem ht.typeIs entry_tuple_getitem ?_ (args_tuple_getitem _ _)))
  show wpAny _ _ (Builtin.Tuple.tupleItemsOf (.ref t) >>= _) _ _ s
  refine wpAny_bind (tupleItemsOf_ ht ?_)
  refine wpAny_bind (wpAny_typeOf hTs ?_)
  rw [if_pos (by decide)]
  have hsa : ∀ {Q : Int × Int × Nat → Shared → Prop}, Q (0, 1, items.size - 1) s → wpAny (model prog w) A.in1 (Builtin.Slice.sliceApplied (.ref sl) (pure (items.size : Int))) Q E s := by
    intro Q hq
    unfold Builtin.Slice.sliceApplied Builtin.Slice.sliceFields
    refine wpAny_bind (wpAny_bind (wpAny_field hos hds (x := .none) rfl (wpAny_bind (wpAny_field hos hds (x := .int (-1) u) rfl (wpAny_bind (wpAny_field hos hds (x := .none) rfl (wpAny_pure ?_)))))))
    refine wpAny_bind (slicePart_none ?_)
    show wpAny _ _ (if ((1 : Int) == 0) = true then _ else _) _ _ s
    rw [if_neg (by decide)]
    refine wpAny_bind (slicePart_none (wpAny_bind (slicePart_int (wpAny_bind (wpAny_pure ?_)))))
    show wpAny _ _ (match Builtin.Slice.sliceAdjust none (some (-1)) 1 (items.size : Int) with | (lo, hi) => pure (lo, (1 : Int), Builtin.Slice.slicePlaces lo hi 1)) _ _ s
    have e1 : Builtin.Slice.sliceAdjust none (some (-1)) 1 (items.size : Int) = (0, (items.size : Int) - 1) := by
      unfold Builtin.Slice.sliceAdjust
      have h1 : ¬ ((1 : Int) < 0) := by omega
      have h2 : ((-1 : Int) < 0) := by omega
      simp only [h1, h2, if_false, if_true]
      congr 1
      omega
    rw [e1]
    show wpAny _ _ (pure ((0 : Int), (1 : Int), Builtin.Slice.slicePlaces 0 ((items.size : Int) - 1) 1)) _ _ s
    have e2 : Builtin.Slice.slicePlaces 0 ((items.size : Int) - 1) 1 = items.size - 1 := by
      unfold Builtin.Slice.slicePlaces
      have h1 : (1 : Int) > 0 := by omega
      simp only [h1, if_true, Int.ediv_one]
      split <;> omega
    rw [e2]
    exact wpAny_pure hq
  refine wpAny_bind (hsa ?_)
  have hno : ¬ (((0 : Int) == 0 && (1 : Int) == 1 && (items.size - 1) == items.size) = true) := by
    have : ((items.size - 1) == items.size) = false := by rw [beq_eq_false_iff_ne]; omega
    rw [this]; simp
  show wpAny _ _ (if ((0 : Int) == 0 && (1 : Int) == 1 && (items.size - 1) == items.size) = true then _ else _) _ _ s
  have pick : ((List.range (items.size - 1)).filterMap fun (k : Nat) => items[((0 : Int) + (k : Int) * 1).toNat]?).toArray = items.toList.dropLast.toArray := by
    have e : (fun (k : Nat) => items[((0 : Int) + (k : Int) * 1).toNat]?) = fun k => items[0 + k]? := by
      funext k
      have : ((0 : Int) + (k : Int) * 1).toNat = 0 + k := by omega
      rw [this]
    rw [e]
    have := pick_run items 0 (items.size - 1)
    rw [List.filterMap_map] at this
    have e2 : ((fun x => items[x]?) ∘ fun x => 0 + x) = fun k => items[0 + k]? := rfl
    rw [e2] at this
    rw [this, List.drop_zero, List.dropLast_eq_take, Array.length_toList]
  rw [if_neg hno, pick]
  first
    | exact wpAny_bind (m := Builtin.Tuple.tupleExact _) (wpAny_newObj_type (wpAny_pure ⟨_, rfl, wpAny_pure h⟩) hdrop)
    | exact wpAny_bind (m := Builtin.Tuple.tupleExact _) (wpAny_newObj_type (wpAny_bind (wpAny_pure (wpAny_pure ⟨_, rfl, wpAny_pure h⟩))) hdrop)
    | exact wpAny_bind (wpAny_bind (m := Builtin.Tuple.tupleExact _) (wpAny_newObj_type (wpAny_pure (wpAny_pure ⟨_, rfl, wpAny_pure h⟩)) hdrop))
    | exact wpAny_bind (wpAny_bind (m := Builtin.Tuple.tupleExact _) (wpAny_newObj_type (wpAny_pure ⟨_, rfl, wpAny_pure h⟩) hdrop))
theorem se_upto {v l : Expr} {p pos : Pos} {f g : Vars → Option D} (h1 : SE c nd nu scope nm v f) (h2 : SE c nd nu scope nm l g)
    (hs : ∀ a k, subscripted (.Slice none (some l) none p) false (.ref a) (.ref k) = operate [.ref k, .ref a] (getItem (.ref a) (.ref k)) := by intro _ _; with_unfolding_all rfl) :
    SE c nd nu scope nm (.Subscript v (.Slice none (some l) none p) pos) (fun G => (f G).bind fun a => (g G).bind fun b => sUpto a b) := by
  intro env A s P G d Q eo ao ho hp rd e q
  obtain ⟨a, ea, e1⟩ := Option.bind_eq_some_iff.mp e
  obtain ⟨b, eb, er⟩ := Option.bind_eq_some_iff.mp e1
  refine Subscript_ (h1 env A s P G a _ eo ao ho hp rd ea fun va P1 k1 tk1 g1 hva => ?_)
  refine wpAny_Slice (evalPart_none' (evalPart_some' (h2 env A _ P1 G b _ eo ao (ho.keeps g1.stay) g1.sub (rd.grow g1) eb fun vb P2 k2 tk2 g2 hvb => ?_)))
  refine evalPart_none' ?_
  unfold sUpto at er
  split at er
  · rename_i ds k
    split at er
    · rename_i hk
      obtain ⟨rfl, hne, hlen⟩ := hk
      cases er
      obtain ⟨u, rfl⟩ := hvb.int_inv
      obtain ⟨a1, o1, vs, n1, rfl, e1, c1, d1, p1⟩ := (hva.mono g2.le).tup_inv
      have t := tup_at e1 c1 d1 g2.sub
      have st : k2.StaysIn (k2.push { cls := .type "slice", data := .fields #[.none, .int (-1) u, .none] }) := fun b o e => Heap.get?_push_of_some _ e
      have tp : IsTup (k2.push { cls := .type "slice", data := .fields #[.none, .int (-1) u, .none] }) a1 vs.toArray := t.keeps st
      have g12 := (g1.trans g2).then st
      refine tail_any (s := { s with heap := k2.push { cls := .type "slice", data := .fields #[.none, .int (-1) u, .none] }, toks := tk2 }) tp.typeIs slot_tuple_getitem.lookup
        (getItem_tuple_last (s := { s with heap := k2.push { cls := .type "slice", data := .fields #[.none, .int (-1) u, .none] }, toks := tk2 }) tp (Heap.IsSliceOf.new ..) (by
          rw [List.size_toArray, p1.length]
          cases ds with | nil => exact absurd rfl hne | cons _ _ => simp) ?_ (by rw [List.size_toArray, p1.length]; exact le_line hlen)) (hs _ _)
      have p2 : DHs c.w P2 vs.dropLast ds.dropLast := by
        rw [List.dropLast_eq_take, List.dropLast_eq_take, p1.length]
        exact p1.take _
      exact grow_tup (s := { s with heap := k2.push { cls := .type "slice", data := .fields #[.none, .int (-1) u, .none] }, toks := tk2 }) g12.sub p2 fun v P3 k3 tk3 g3 hv => q v P3 k3 tk3 (g12.trans g3) hv
    · first | exact nn er | cases er
  · first | exact nn er | cases er
end
end Mine
namespace Mine
open PySem PySem.W PySem.Calls PySem.SeqAt PyProof.Rows

section
variable {c : Cx} {nd nu : Nat} {scope : Scope} {nm : List Str}
theorem si_str {e : Expr} {f : Vars → Option D} (h : SE c nd nu scope nm e f) : SI c nd nu scope nm e (fun G => (f G).bind fun | .str x => some (x.cps.toList.map fun n => D.str ⟨#[n]⟩) | _ => none) := by
  intro env A s P G ds Q eo ao ho hp rd ee q
  obtain ⟨d, e1, e2⟩ := Option.bind_eq_some_iff.mp ee
  refine h env A s P G d _ eo ao ho hp rd e1 fun v P1 k1 tk1 g1 hv => ?_
  have hn := get_size k1
  cases d <;> first | exact nn e2 | skip
  cases e2
  rename_i x
  obtain ⟨t, rfl⟩ := hv.str_inv
  have hlen : (x.cps.toList.map fun n => D.str ⟨#[n]⟩).length = x.cps.size := by simp
  have fin : ∀ (o : Obj) (n : String) (St : Nat → Heap → Prop) (hst : ∀ i h, St i h → ∃ o vs, h.get? k1.objs.size = some o ∧ o.cls = .type n ∧ o.data = .fields vs)
      (hnn : (["enumerate", "zip", "dict_itemiterator", "dict_reverseitemiterator", "odict_iterator", "itertools.zip_longest", "itertools.pairwise"].contains n) = false),
      Walks PG c.w A k1.objs.size [k1.objs.size] [k1.objs.size] x.cps.size (SignAt x) St → St 0 (k1.push o) → Q (.ref k1.objs.size) { s with heap := k1.push o, toks := tk1 } := by
    intro o n St hst hnn W st0
    rw [← hlen] at W
    have g2 : Grow P1 k1 P1 (k1.push o) := (Grow.refl g1.sub).then fun b o e => Heap.get?_push_of_some _ e
    refine q _ _ _ _ _ P1 _ tk1 (g1.trans g2) ⟨W, st0, ?_, ?_, ?_, ?_, ?_⟩
    · intro b hb; exact .inl hb
    · intro b hb; rw [List.mem_singleton.mp hb]; exact ⟨none_of_stays g1.stay hn, none_of_in g1.sub hn⟩
    · intro i h x b hb; rw [List.mem_singleton.mp hb]; obtain ⟨o, _, e, _⟩ := hst i h x; exact ⟨o, e⟩
    · intro t k v s' Q' E' _ x hq
      obtain ⟨o, vs, e, e1, e2⟩ := hst _ _ x
      exact lg_plain ⟨o, _, e, e1, e2⟩ hnn (hq _ x fun _ _ _ e => e)
    · intro k v hk hlt P' _
      obtain ⟨n, u, h1, rfl⟩ := hk
      refine ⟨_, ?_, .str _ u⟩
      rw [List.getElem?_map, Array.getElem?_toList, h1]; rfl
  cases ha : x.cps.all (· < 128)
  · exact wpAny_pyIter_wide ha (fin _ "str_iterator" _ (fun i h x => let ⟨o, a, b, d⟩ := x; ⟨o, _, a, b, d⟩) (by decide) (Walks.strWide ao.hh _ x t) ⟨_, Heap.get?_push_size _ rfl, rfl, rfl⟩)
  · exact wpAny_pyIter_ascii ha (fin _ "str_ascii_iterator" _ (fun i h x => let ⟨o, a, b, d⟩ := x; ⟨o, _, a, b, d⟩) (by decide) (Walks.strAscii ao.hh _ x t) ⟨_, Heap.get?_push_size _ rfl, rfl, rfl⟩)

/-- range(a, -1, -1) -/
noncomputable def rngDown : List D → Option (List D)
  | [.int a, .int b, .int st] => if b = -1 ∧ st = -1 ∧ -1 ≤ a ∧ a ≤ 1000 then some ((List.range (a + 1).toNat).map fun (k : Nat) => D.int (a + (k : Int) * (-1))) else none
  | _ => none
theorem rngDown_at {a b st : Int} : rngDown [.int a, .int b, .int st] = if b = -1 ∧ st = -1 ∧ -1 ≤ a ∧ a ≤ 1000 then some ((List.range (a + 1).toNat).map fun (k : Nat) => D.int (a + (k : Int) * (-1))) else none := rfl
theorem rngDown_shape {P : List D → Prop} {xx : List D} {r : _} (e : rngDown xx = some r) (q0 : ∀ a b st, P [(.int a), (.int b), (.int st)]) : P xx := by
  cases xx with
  | nil => exact nn e
  | cons h1 t2 =>
    cases h1 with
    | int x3 =>
      cases t2 with
      | nil => exact nn e
      | cons h4 t5 =>
        cases h4 with
        | int x6 =>
          cases t5 with
          | nil => exact nn e
          | cons h7 t8 =>
            cases h7 with
            | int x9 =>
              cases t8 with
              | nil =>
                exact q0 x3 x6 x9
              | cons _ _ => exact nn e
            | _ => exact nn e
        | _ => exact nn e
    | _ => exact nn e
theorem size_down {a : Int} (ha : -1 ≤ a) : Builtin.Range.rangeSize a (-1) (-1) = ((a + 1).toNat : Int) := by
  unfold Builtin.Range.rangeSize
  rw [if_neg (by decide)]
  split
  · rw [show (-(-1 : Int)) = 1 by decide, Int.ediv_one]; omega
  · omega
theorem si_down {e : Expr} {es : List Expr} {np pos : Pos} {f : Vars → Option (List D)} (hx : scope.names.lookup (Str.ofString "range") = some .globalImplicit) (h : SA c nd nu scope nm (e :: es) f) (hpl : (e :: es).all plainArg = true := by rfl) :
    SI c nd nu scope nm (.Call (.Name (Str.ofString "range") np) (e :: es) [] pos) (fun G => (f G).bind rngDown) := by
  intro env A s P G ds Q eo ao ho hp rd ee q
  obtain ⟨dd, e1, e2⟩ := Option.bind_eq_some_iff.mp ee
  have hpl' := hpl
  rw [List.all_cons, Bool.and_eq_true] at hpl'
  refine wpAny_Call_NameR (range_name eo ho hx ?_)
  refine callWith_type1 ?_ (starEach_plain hpl'.1) (plain_none hpl'.2)
  refine h env pos A s P G dd _ eo ao ho hp rd e1 fun vs P1 k1 tk1 g1 hvs => ?_
  refine rngDown_shape (P := fun y => dd = y → _) e2 ?_ rfl
  rintro a b st rfl
  rw [rngDown_at] at e2
  · split at e2
    · rename_i hc
      obtain ⟨rfl, rfl, ha, ha2⟩ := hc
      cases e2
      obtain ⟨v, u, x, rfl, hv, hu, hxx⟩ := hvs.three_inv
      obtain ⟨t, rfl⟩ := hv.int_inv
      obtain ⟨t2, rfl⟩ := hu.int_inv
      obtain ⟨t3, rfl⟩ := hxx.int_inv
      refine call_range_3 (s := { s with heap := k1, toks := tk1 }) (by decide) ?_ (Or.inl (PyProof.noPylong_small (by omega)))
      have g2 : Grow P s.heap P1 (k1.push { cls := .type "range", data := .fields #[.int a t, .int (-1) t2, .int (-1) t3] }) := g1.then fun b o e => Heap.get?_push_of_some _ e
      have hsz := size_down ha
      have hsm : Builtin.Range.small a (-1) (-1) = true := by
        unfold Builtin.Range.small
        rw [hsz]
        simp only [Builtin.Range.rangeFitsLong, Bool.and_eq_true, Bool.or_eq_true, decide_eq_true_eq, beq_iff_eq, show ¬ ((-1 : Int) > 0) by decide, if_false]
        omega
      refine wpAny_pyIter_range (s := { s with heap := k1.push { cls := .type "range", data := .fields #[.int a t, .int (-1) t2, .int (-1) t3] }, toks := tk1 }) (IsRange.new k1 a (-1) (-1) t t2 t3) hsm ?_
      have gR : Grow P1 (k1.push { cls := .type "range", data := .fields #[.int a t, .int (-1) t2, .int (-1) t3] }) P1 (k1.push { cls := .type "range", data := .fields #[.int a t, .int (-1) t2, .int (-1) t3] }) := .refl g2.sub
      have S := src_range (c := c) (A := A) (a := a) (st := -1) ao.hh gR hsz
      have nn : ∀ b, (k1.push { cls := .type "range", data := .fields #[.int a t, .int (-1) t2, .int (-1) t3] }).get? b = none → s.heap.get? b = none := fun b e => none_of_stays g2.stay e
      refine q _ _ _ _ _ P1 _ _ (g2.then fun b o e => Heap.get?_push_of_some _ e) ⟨S.W, S.st, S.fpIn, fun b hb => ⟨nn _ (S.wrIn b hb).1, (S.wrIn b hb).2⟩, S.live, S.lg, S.it⟩
    · first | exact nn e2 | cases e2
end
end Mine
namespace Mine
open PySem PySem.W PySem.Calls PySem.SeqAt PyProof.Rows

structure ZA (z TI TO i1 i2 : Addr) : Prop where
  TIz : TI ≠ z
  TOz : TO ≠ z
  i1z : i1 ≠ z
  i2z : i2 ≠ z
  TITO : TI ≠ TO
  TIi1 : TI ≠ i1
  TIi2 : TI ≠ i2
  TOi1 : TO ≠ i1
  TOi2 : TO ≠ i2
  i12 : i1 ≠ i2
noncomputable abbrev AIt (h : Heap) (it : Addr) (x : Str) (t : Tok) (i : Nat) : Prop := h.IsStrIter it "str_ascii_iterator" x t i
theorem ait_at {h h' : Heap} {it : Addr} {x : Str} {t : Tok} {i : Nat} (a : AIt h it x t i) (e : ∀ o, h.get? it = some o → h'.get? it = some o) : AIt h' it x t i := let ⟨o, ho, r⟩ := a; ⟨o, e o ho, r⟩

section
variable {prog : Program} {w : World} {A : Around} {E : Value → Shared → Prop} {s : Shared}
theorem zipS_item {z TI TO i1 i2 : Addr} {k1 k2 : Nat} {x y : Str} {tx ty : Tok} {cx cy : Nat} {a b : Value} {Q : Value → Shared → Prop} (D : ZA z TI TO i1 i2)
    (hz : IsZip s.heap z TI TO .none) (hTI : IsPair s.heap TI (.ref i1) (.ref i2)) (hTO : IsPair s.heap TO a b)
    (h1 : AIt s.heap i1 x tx k1) (h2 : AIt s.heap i2 y ty k2) (hx : x.cps[k1]? = some cx) (hy : y.cps[k2]? = some cy)
    (hQ : ∀ h' tk u v, IsZip h' z TI TO (rawInt s.heap.objs.size) → IsPair h' TO (.str ⟨#[cx]⟩ u) (.str ⟨#[cy]⟩ v) → AIt h' i1 x tx (k1 + 1) → AIt h' i2 y ty (k2 + 1) → IsPair h' s.heap.objs.size (.str ⟨#[cx]⟩ u) (.str ⟨#[cy]⟩ v) →
      (∀ c o, c ≠ z → c ≠ TO → c ≠ i1 → c ≠ i2 → s.heap.get? c = some o → h'.get? c = some o) → Q (.ref s.heap.objs.size) { s with heap := h', toks := tk }) :
    wpAny (model prog w) A (Builtin.«zip.__next__» ⟨[.ref z], []⟩) (fun fin s' => ∃ v, fin = .done (.ret v) ∧ Q v s') E s := by
  show wpAny _ _ (field (.ref z) 2 >>= _) _ _ _
  refine wpAny_bind (wpAny_field hz rfl (x := .bool false) rfl ?_)
  show wpAny _ _ (field (.ref z) 3 >>= _) _ _ _
  refine wpAny_bind (wpAny_field hz rfl (x := .ref TI) rfl ?_)
  refine wpAny_bind (wpAny_seqItems hTI rfl ?_)
  show wpAny _ _ (Builtin.SmallTypes.ownedTupleIsFree (.ref z) >>= _) _ _ _
  refine wpAny_bind ?_
  unfold Builtin.SmallTypes.ownedTupleIsFree
  refine wpAny_bind (wpAny_field hz rfl (x := .none) rfl (wpAny_pure ?_))
  simp only [if_true]
  refine wpAny_bind (wpAny_rule ?_)
  refine wpAny_bind (wpAny_field hz rfl (x := .ref TO) rfl ?_)
  refine wpAny_bind (wpAny_setField_rec hz (by simp) fun h₁ hz₁ hs₁ => ?_)
  replace hz₁ : IsZip h₁ z TI TO .ellipsis := hz₁
  refine wpAny_bind ?_
  simp only [List.zipIdx_cons, List.zipIdx_nil, List.forIn_cons, List.forIn_nil]
  refine wpAny_bind (wpAny_bind (wpAny_onRaise ?_))
  show wpAny _ _ (Builtin.SmallTypes.nextOf (.ref i1) >>= _) _ _ _
  refine wpAny_bind (wpAny_nextOf_ascii_item (ait_at h1 fun o => hs₁.extBut _ o D.i1z) hx fun h₂ h1₂ hs₂ => wpAny_pure ?_)
  have hTO₂ : IsPair h₂ TO a b := hs₂.extBut _ _ D.TOi1 (hs₁.extBut _ _ D.TOz hTO)
  refine wpAny_bind (wpAny_seqItems hTO₂ rfl ?_)
  refine wpAny_bind (wpAny_updateSeq_pair hTO₂ fun h₃ hTO₃ hs₃ => ?_)
  refine wpAny_bind (wpAny_letGo (wpAny_pure ?_))
  refine wpAny_bind (wpAny_bind (wpAny_onRaise ?_))
  show wpAny _ _ (Builtin.SmallTypes.nextOf (.ref i2) >>= _) _ _ _
  refine wpAny_bind (wpAny_nextOf_ascii_item (ait_at (ait_at (ait_at h2 fun o => hs₁.extBut _ o D.i2z) fun o => hs₂.extBut _ o D.i12.symm) fun o => hs₃.extBut _ o D.TOi2.symm) hy fun h₄ h2₄ hs₄ => wpAny_pure ?_)
  have hTO₃' : IsPair h₃ TO (.str ⟨#[cx]⟩ s.toks) b := hTO₃
  have hTO₄ : IsPair h₄ TO (.str ⟨#[cx]⟩ s.toks) b := hs₄.extBut _ _ D.TOi2 hTO₃'
  refine wpAny_bind (wpAny_seqItems hTO₄ rfl ?_)
  refine wpAny_bind (wpAny_updateSeq_pair hTO₄ fun h₅ hTO₅ hs₅ => ?_)
  replace hTO₅ : IsPair h₅ TO (.str ⟨#[cx]⟩ s.toks) (.str ⟨#[cy]⟩ (s.toks + 1)) := hTO₅
  refine wpAny_bind (wpAny_letGo (wpAny_pure (wpAny_pure ?_)))
  refine wpAny_bind (wpAny_seqItems hTO₅ rfl ?_)
  refine wpAny_bind (wpAny_newTuple ?_)
  have hsz : h₅.objs.size = s.heap.objs.size := by rw [hs₅.1, hs₄.1, hs₃.1, hs₂.1, hs₁.1]
  have hz₅ : IsZip h₅ z TI TO .ellipsis := hs₅.extBut _ _ D.TOz.symm (hs₄.extBut _ _ D.i2z.symm (hs₃.extBut _ _ D.TOz.symm (hs₂.extBut _ _ D.i1z.symm hz₁)))
  have hk₅ : ∀ c o, c ≠ z → c ≠ TO → c ≠ i1 → c ≠ i2 → s.heap.get? c = some o → h₅.get? c = some o := fun c o c1 c2 c3 c4 e =>
    hs₅.extBut _ _ c2 (hs₄.extBut _ _ c4 (hs₃.extBut _ _ c2 (hs₂.extBut _ _ c3 (hs₁.extBut _ _ c1 e))))
  have h1₅ : AIt h₅ i1 x tx (k1 + 1) := ait_at (ait_at (ait_at h1₂ fun o => hs₃.extBut _ o D.TOi1.symm) fun o => hs₄.extBut _ o D.i12) fun o => hs₅.extBut _ o D.TOi1.symm
  have h2₅ : AIt h₅ i2 y ty (k2 + 1) := ait_at h2₄ fun o => hs₅.extBut _ o D.TOi2.symm
  have hzlt : z < h₅.objs.size := Heap.lt_size hz₅
  show wpAny _ _ (Builtin.SmallTypes.ownedTupleHandOut (.ref z) (.ref h₅.objs.size) >>= _) _ _ _
  refine wpAny_bind ?_
  unfold Builtin.SmallTypes.ownedTupleHandOut
  have hz₆ : IsZip (h₅.push { cls := .type "tuple", data := .seq #[.str ⟨#[cx]⟩ s.toks, .str ⟨#[cy]⟩ (s.toks + 1)] }) z TI TO .ellipsis := Heap.get?_push_of_some _ hz₅
  refine wpAny_bind (wpAny_setField_rec hz₆ (by simp) fun h₇ hz₇ hs₇ => ?_)
  replace hz₇ : IsZip h₇ z TI TO (rawInt h₅.objs.size) := hz₇
  refine wpAny_setField_rec hz₇ (by simp) fun h₈ hz₈ hs₈ => ?_
  replace hz₈ : IsZip h₈ z TI TO (rawInt h₅.objs.size) := hz₈
  have up : ∀ c o, c ≠ z → h₅.get? c = some o → h₈.get? c = some o := fun c o c1 e => hs₈.extBut _ _ c1 (hs₇.extBut _ _ c1 (Heap.get?_push_of_some _ e))
  have hT₈ : IsPair h₈ h₅.objs.size (.str ⟨#[cx]⟩ s.toks) (.str ⟨#[cy]⟩ (s.toks + 1)) := hs₈.extBut _ _ (Nat.ne_of_gt hzlt) (hs₇.extBut _ _ (Nat.ne_of_gt hzlt) (Heap.get?_push_size _ rfl))
  rw [hsz] at hz₈ hT₈
  refine wpAny_pure ⟨_, rfl, ?_⟩
  show Q (.ref h₅.objs.size) _
  rw [hsz]
  exact hQ h₈ _ _ _ hz₈ (up _ _ D.TOz hTO₅) (ait_at h1₅ fun o e => up _ o D.i1z e) (ait_at h2₅ fun o e => up _ o D.i2z e) hT₈ fun c o c1 c2 c3 c4 e => up c o c1 (hk₅ c o c1 c2 c3 c4 e)

theorem zipS_end {z TI TO i1 i2 : Addr} {k1 k2 : Nat} {x y : Str} {tx ty : Tok} {a b : Value} {Q : Fin → Shared → Prop} (hh : A.handled = none) (D : ZA z TI TO i1 i2)
    (hz : IsZip s.heap z TI TO .none) (hTI : IsPair s.heap TI (.ref i1) (.ref i2)) (hTO : IsPair s.heap TO a b)
    (h1 : AIt s.heap i1 x tx k1) (h2 : AIt s.heap i2 y ty k2) (hend : x.cps[k1]? = none ∨ y.cps[k2]? = none)
    (hE : ∀ h' tk e, (∀ c o, c ≠ z → c ≠ TO → c ≠ i1 → c ≠ i2 → s.heap.get? c = some o → h'.get? c = some o) → (∃ o, h'.get? e = some o ∧ o.cls = .type "StopIteration") → E (.ref e) { s with heap := h', toks := tk }) :
    wpAny (model prog w) A (Builtin.«zip.__next__» ⟨[.ref z], []⟩) Q E s := by
  show wpAny _ _ (field (.ref z) 2 >>= _) _ _ _
  refine wpAny_bind (wpAny_field hz rfl (x := .bool false) rfl ?_)
  show wpAny _ _ (field (.ref z) 3 >>= _) _ _ _
  refine wpAny_bind (wpAny_field hz rfl (x := .ref TI) rfl ?_)
  refine wpAny_bind (wpAny_seqItems hTI rfl ?_)
  show wpAny _ _ (Builtin.SmallTypes.ownedTupleIsFree (.ref z) >>= _) _ _ _
  refine wpAny_bind ?_
  unfold Builtin.SmallTypes.ownedTupleIsFree
  refine wpAny_bind (wpAny_field hz rfl (x := .none) rfl (wpAny_pure ?_))
  simp only [if_true]
  refine wpAny_bind (wpAny_rule ?_)
  refine wpAny_bind (wpAny_field hz rfl (x := .ref TO) rfl ?_)
  refine wpAny_bind (wpAny_setField_rec hz (by simp) fun h₁ hz₁ hs₁ => ?_)
  replace hz₁ : IsZip h₁ z TI TO .ellipsis := hz₁
  refine wpAny_bind ?_
  simp only [List.zipIdx_cons, List.zipIdx_nil, List.forIn_cons, List.forIn_nil]
  refine wpAny_bind (wpAny_bind (wpAny_onRaise ?_))
  show wpAny _ _ (Builtin.SmallTypes.nextOf (.ref i1) >>= _) _ _ _
  cases hx : x.cps[k1]? with
  | none =>
    refine wpAny_bind (wpAny_nextOf_ascii_end hh (ait_at h1 fun o => hs₁.extBut _ o D.i1z) hx fun h₂ e hs₂ he => ?_)
    obtain ⟨oe, hoe, hce⟩ := he
    have hz₂ : IsZip h₂ z TI TO .ellipsis := hs₂ _ _ D.i1z.symm hz₁
    have hez : e ≠ z := fun x => by subst x; rw [hz₂] at hoe; cases hoe; simp at hce
    refine wpAny_setField_rec hz₂ (by simp) fun h₃ _ hs₃ => hE h₃ _ e (fun c o c1 _ c3 _ x => hs₃.extBut _ _ c1 (hs₂ _ _ c3 (hs₁.extBut _ _ c1 x))) ⟨oe, hs₃.extBut _ _ hez hoe, hce⟩
  | some cx =>
    have hy : y.cps[k2]? = none := by rcases hend with h | h; rw [hx] at h; cases h; exact h
    refine wpAny_bind (wpAny_nextOf_ascii_item (ait_at h1 fun o => hs₁.extBut _ o D.i1z) hx fun h₂ h1₂ hs₂ => wpAny_pure ?_)
    have hTO₂ : IsPair h₂ TO a b := hs₂.extBut _ _ D.TOi1 (hs₁.extBut _ _ D.TOz hTO)
    refine wpAny_bind (wpAny_seqItems hTO₂ rfl ?_)
    refine wpAny_bind (wpAny_updateSeq_pair hTO₂ fun h₃ hTO₃ hs₃ => ?_)
    refine wpAny_bind (wpAny_letGo (wpAny_pure ?_))
    refine wpAny_bind (wpAny_bind (wpAny_onRaise ?_))
    show wpAny _ _ (Builtin.SmallTypes.nextOf (.ref i2) >>= _) _ _ _
    refine wpAny_bind (wpAny_nextOf_ascii_end hh (ait_at (ait_at (ait_at h2 fun o => hs₁.extBut _ o D.i2z) fun o => hs₂.extBut _ o D.i12.symm) fun o => hs₃.extBut _ o D.TOi2.symm) hy fun h₄ e hs₄ he => ?_)
    obtain ⟨oe, hoe, hce⟩ := he
    have hz₄ : IsZip h₄ z TI TO .ellipsis := hs₄ _ _ D.i2z.symm (hs₃.extBut _ _ D.TOz.symm (hs₂.extBut _ _ D.i1z.symm hz₁))
    have hez : e ≠ z := fun x => by subst x; rw [hz₄] at hoe; cases hoe; simp at hce
    refine wpAny_setField_rec hz₄ (by simp) fun h₅ _ hs₅ => hE h₅ _ e (fun c o c1 c2 c3 c4 x => hs₅.extBut _ _ c1 (hs₄ _ _ c4 (hs₃.extBut _ _ c2 (hs₂.extBut _ _ c3 (hs₁.extBut _ _ c1 x))))) ⟨oe, hs₅.extBut _ _ hez hoe, hce⟩

theorem pyNext_zipS_item {z TI TO i1 i2 : Addr} {k1 k2 : Nat} {x y : Str} {tx ty : Tok} {cx cy : Nat} {a b : Value} {Q : Option Value → Shared → Prop} (D : ZA z TI TO i1 i2)
    (hz : IsZip s.heap z TI TO .none) (hTI : IsPair s.heap TI (.ref i1) (.ref i2)) (hTO : IsPair s.heap TO a b)
    (h1 : AIt s.heap i1 x tx k1) (h2 : AIt s.heap i2 y ty k2) (hx : x.cps[k1]? = some cx) (hy : y.cps[k2]? = some cy)
    (hQ : ∀ h' tk u v, IsZip h' z TI TO (rawInt s.heap.objs.size) → IsPair h' TO (.str ⟨#[cx]⟩ u) (.str ⟨#[cy]⟩ v) → AIt h' i1 x tx (k1 + 1) → AIt h' i2 y ty (k2 + 1) → IsPair h' s.heap.objs.size (.str ⟨#[cx]⟩ u) (.str ⟨#[cy]⟩ v) →
      (∀ c o, c ≠ z → c ≠ TO → c ≠ i1 → c ≠ i2 → s.heap.get? c = some o → h'.get? c = some o) → Q (some (.ref s.heap.objs.size)) { s with heap := h', toks := tk }) :
    wpAny (model prog w) A (pyNext (.ref z)) Q E s := by
  have hT : s.TypeIs (.ref z) "zip" := ⟨_, hz, rfl⟩
  unfold pyNext
  exact wpAny_bind (wpAny_attempt (wpAny_callSpecial?_slot (name := Str.ofString "__next__") hT PySem.F.slot_zip_next
    (wpAny_call_entry PySem.F.slot_zip_next hT PySem.F.entry_zip_next
      (zipS_item D hz hTI hTO h1 h2 hx hy fun h' tk u v a1 a2 a3 a4 a5 a7 => wpAny_pure (hQ h' tk u v a1 a2 a3 a4 a5 a7)) (PySem.F.args_zip_next_1 _))))
theorem pyNext_zipS_end {z TI TO i1 i2 : Addr} {k1 k2 : Nat} {x y : Str} {tx ty : Tok} {a b : Value} {Q : Option Value → Shared → Prop} (hh : A.handled = none) (D : ZA z TI TO i1 i2)
    (hz : IsZip s.heap z TI TO .none) (hTI : IsPair s.heap TI (.ref i1) (.ref i2)) (hTO : IsPair s.heap TO a b)
    (h1 : AIt s.heap i1 x tx k1) (h2 : AIt s.heap i2 y ty k2) (hend : x.cps[k1]? = none ∨ y.cps[k2]? = none)
    (hQ : ∀ h' tk, (∀ c o, c ≠ z → c ≠ TO → c ≠ i1 → c ≠ i2 → s.heap.get? c = some o → h'.get? c = some o) → Q none { s with heap := h', toks := tk }) : wpAny (model prog w) A (pyNext (.ref z)) Q E s := by
  have hT : s.TypeIs (.ref z) "zip" := ⟨_, hz, rfl⟩
  unfold pyNext
  refine wpAny_bind (wpAny_attempt (wpAny_callSpecial?_slot (name := Str.ofString "__next__") hT PySem.F.slot_zip_next
    (wpAny_call_entry PySem.F.slot_zip_next hT PySem.F.entry_zip_next (zipS_end hh D hz hTI hTO h1 h2 hend fun h' tk e hk he => ?_) (PySem.F.args_zip_next_1 _))))
  obtain ⟨o, ho, hc⟩ := he
  refine wpAny_bind (wpAny_isInstance (T := "StopIteration") (b := true) ⟨o, ho, hc⟩ isSubtype_stop ?_)
  exact wpAny_pure (hQ _ _ hk)
end

noncomputable abbrev zS1 (h : Heap) (x : Str) (t : Tok) : Heap := h.push { cls := .type "str_ascii_iterator", data := .fields #[.str x t, .int 0 0] }
noncomputable abbrev zS2 (h : Heap) (x : Str) (t : Tok) (y : Str) (u : Tok) : Heap := (zS1 h x t).push { cls := .type "str_ascii_iterator", data := .fields #[.str y u, .int 0 0] }
noncomputable abbrev zS3 (h : Heap) (x : Str) (t : Tok) (y : Str) (u : Tok) : Heap := (zS2 h x t y u).push { cls := .type "tuple", data := .seq #[.ref h.objs.size, .ref (zS1 h x t).objs.size] }
noncomputable abbrev zS4 (h : Heap) (x : Str) (t : Tok) (y : Str) (u : Tok) : Heap := (zS3 h x t y u).push { cls := .type "tuple", data := .seq #[.none, .none] }
noncomputable abbrev zS5 (h : Heap) (x : Str) (t : Tok) (y : Str) (u : Tok) : Heap := (zS4 h x t y u).push { cls := .type "zip", data := .fields #[.none, .bool false, .bool false, .ref (zS2 h x t y u).objs.size, .ref (zS3 h x t y u).objs.size] }
theorem meets_zipS (x : Str) (t : Tok) (y : Str) (u : Tok) (ha : x.cps.all (· < 128) = true) (hb : y.cps.all (· < 128) = true) :
    Meets (Builtin.«zip.__new__» ⟨[.type "zip", .str x t, .str y u], []⟩) (fun _ R s => R (.ok (.ret (.ref (zS4 s.heap x t y u).objs.size))) { s with heap := zS5 s.heap x t y u }) :=
  .of_wp fun prog w A R s h => by
    obtain ⟨hp, g, d, tk, os⟩ := s
    have hsub := sub_zip
    wp_walk using wpAny_pyIter_ascii ha, wpAny_pyIter_ascii hb
    exact ⟨_, rfl, h⟩
end Mine
namespace Mine
open PySem PySem.W PySem.Calls PySem.SeqAt PyProof.Rows

noncomputable def zipD (a b : D) : Option (List D) := match a, b with
  | .str x, .str y => if x.cps.all (· < 128) = true ∧ y.cps.all (· < 128) = true then some ((x.cps.toList.zip y.cps.toList).map fun p => D.tup [D.str ⟨#[p.1]⟩, D.str ⟨#[p.2]⟩]) else none
  | _, _ => none
theorem zA_new (n : Nat) : ZA (n + 4) (n + 2) (n + 3) n (n + 1) where
  TIz := Nat.ne_of_lt (Nat.add_lt_add_left (by decide) n)
  TOz := Nat.ne_of_lt (Nat.add_lt_add_left (by decide) n)
  i1z := Nat.ne_of_lt (Nat.lt_add_of_pos_right (by decide))
  i2z := Nat.ne_of_lt (Nat.add_lt_add_left (by decide) n)
  TITO := Nat.ne_of_lt (Nat.add_lt_add_left (by decide) n)
  TIi1 := Nat.ne_of_gt (Nat.lt_add_of_pos_right (by decide))
  TIi2 := Nat.ne_of_gt (Nat.add_lt_add_left (by decide) n)
  TOi1 := Nat.ne_of_gt (Nat.lt_add_of_pos_right (by decide))
  TOi2 := Nat.ne_of_gt (Nat.add_lt_add_left (by decide) n)
  i12 := Nat.ne_of_lt (Nat.lt_add_of_pos_right (by decide))
section
variable {c : Cx} {nd nu : Nat} {scope : Scope} {nm : List Str}
theorem srcg_zip {A : Around} {elts : List Expr} {k0 : Nat} {tp : Pos} {z TI TO i1 i2 : Addr} {x y : Str} {tx ty : Tok} {H0 h : Heap} {P : PM} (hh : A.handled = none) (Z : ZA z TI TO i1 i2)
    (st : IsZip h z TI TO .none ∧ IsPair h TI (.ref i1) (.ref i2) ∧ (∃ a b, IsPair h TO a b) ∧ AIt h i1 x tx 0 ∧ AIt h i2 y ty 0) (hw : ∀ b ∈ [z, TI, TO, i1, i2], H0.get? b = none ∧ P b = none) :
    SrcG c A z (.Tuple elts k0 tp) [z, TI, TO, i1, i2] [z, TI, TO, i1, i2] ((x.cps.toList.zip y.cps.toList).map fun p => D.tup [D.str ⟨#[p.1]⟩, D.str ⟨#[p.2]⟩])
      (fun i h => IsZip h z TI TO .none ∧ IsPair h TI (.ref i1) (.ref i2) ∧ (∃ a b, IsPair h TO a b) ∧ AIt h i1 x tx i ∧ AIt h i2 y ty i) H0 P h where
  frame := fun i h h' hst hk => by
    obtain ⟨hz, hTI, ⟨a, b, hTO⟩, h1, h2⟩ := hst
    exact ⟨hk z (by simp) _ hz, hk TI (by simp) _ hTI, ⟨a, b, hk TO (by simp) _ hTO⟩, ait_at h1 fun o e => hk i1 (by simp) o e, ait_at h2 fun o e => hk i2 (by simp) o e⟩
  item := fun k s P' Q hk hst hle hin hw' hQ => by
    obtain ⟨hz, hTI, ⟨a, b, hTO⟩, h1, h2⟩ := hst
    rw [List.length_map, List.length_zip, Array.length_toList, Array.length_toList] at hk
    have hix : k < x.cps.size := Nat.lt_of_lt_of_le hk (Nat.min_le_left ..)
    have hiy : k < y.cps.size := Nat.lt_of_lt_of_le hk (Nat.min_le_right ..)
    refine pyNext_zipS_item Z hz hTI hTO h1 h2 (Array.getElem?_eq_getElem hix) (Array.getElem?_eq_getElem hiy) fun h' tk u v a1 a2 a3 a4 a5 ko => ⟨_, rfl, ?_⟩
    refine wpAny_letOwnedTupleGo_zip (s := { s with heap := h', toks := tk }) a1 fun h'' hz'' hs'' => ?_
    have hT := get_size s.heap
    have hPT := none_of_in hin hT
    have lt : ∀ {c o}, s.heap.get? c = some o → s.heap.objs.size ≠ c := fun e => Nat.ne_of_gt (Heap.lt_size e)
    have hzT : s.heap.objs.size ≠ z := lt hz
    have k2 : ∀ b o, b ≠ z → b ≠ TO → b ≠ i1 → b ≠ i2 → s.heap.get? b = some o → h''.get? b = some o := fun b o n1 n2 n3 n4 e => hs''.extBut _ _ n1 (ko b o n1 n2 n3 n4 e)
    have hT2 : IsPair h'' s.heap.objs.size (.str ⟨#[x.cps[k]]⟩ u) (.str ⟨#[y.cps[k]]⟩ v) := hs''.extBut _ _ hzT a5
    refine hQ _ (D.tup [D.str ⟨#[x.cps[k]]⟩, D.str ⟨#[y.cps[k]]⟩]) (P'.put s.heap.objs.size { cls := .type "tuple", data := .seq #[.str ⟨#[x.cps[k]]⟩ u, .str ⟨#[y.cps[k]]⟩ v] }) h'' tk ?_ ?_ (PM.put_le hPT) ?_ ?_ ?_ ?_
    · rw [List.getElem?_map, List.zip_eq_zipWith, List.getElem?_zipWith, Array.getElem?_toList, Array.getElem?_toList, Array.getElem?_eq_getElem hix, Array.getElem?_eq_getElem hiy]
      rfl
    · exact .tup (vs := [.str ⟨#[x.cps[k]]⟩ u, .str ⟨#[y.cps[k]]⟩ v]) (PM.put_self _ _ _) rfl rfl (.cons (.str _ _) (.cons (.str _ _) .nil))
    · intro b o e
      unfold PM.put at e
      by_cases q : b = s.heap.objs.size
      · subst q; rw [if_pos rfl] at e; rw [← e]; exact hT2
      · rw [if_neg q] at e
        have nw : ∀ b' ∈ [z, TI, TO, i1, i2], b ≠ b' := fun b' hb' e' => by subst e'; rw [hw' b hb'] at e; cases e
        exact k2 b o (nw _ (by simp)) (nw _ (by simp)) (nw _ (by simp)) (nw _ (by simp)) (hin b o e)
    · intro b o e
      unfold PM.put at e
      by_cases q : b = s.heap.objs.size
      · subst q; exact .inr hT
      · rw [if_neg q] at e; exact .inl e
    · exact ⟨hz'', hs''.extBut _ _ Z.TIz (ko _ _ Z.TIz Z.TITO Z.TIi1 Z.TIi2 hTI), ⟨_, _, hs''.extBut _ _ Z.TOz a2⟩, ait_at a3 fun o => hs''.extBut _ o Z.i1z, ait_at a4 fun o => hs''.extBut _ o Z.i2z⟩
    · intro b o hb e
      simp only [List.mem_cons, List.not_mem_nil, not_or, or_false] at hb
      exact k2 b o hb.1 hb.2.2.1 hb.2.2.2.1 hb.2.2.2.2 e
  done := fun s Q E hst hQ => by
    obtain ⟨hz, hTI, ⟨a, b, hTO⟩, h1, h2⟩ := hst
    rw [List.length_map, List.length_zip, Array.length_toList, Array.length_toList] at h1 h2
    have hend : x.cps[min x.cps.size y.cps.size]? = none ∨ y.cps[min x.cps.size y.cps.size]? = none := by
      rcases Nat.le_total x.cps.size y.cps.size with h | h
      · exact .inl (by rw [Nat.min_eq_left h]; exact Array.getElem?_eq_none (Nat.le_refl _))
      · exact .inr (by rw [Nat.min_eq_right h]; exact Array.getElem?_eq_none (Nat.le_refl _))
    exact pyNext_zipS_end hh Z hz hTI hTO h1 h2 hend fun h' tk hk => hQ h' tk fun c o hc e => by
      simp only [List.mem_cons, List.not_mem_nil, not_or, or_false] at hc
      exact hk c o hc.1 hc.2.2.1 hc.2.2.2.1 hc.2.2.2.2 e
  self := fun i s Q E hst hQ => wpAny_pyIter_zip hst.1 hQ
  st := st
  fpIn := fun b hb => .inl hb
  wrIn := hw
  live := fun i h hst b hb => by
    obtain ⟨hz, hTI, ⟨a, b', hTO⟩, ⟨o1, h1, _⟩, ⟨o2, h2, _⟩⟩ := hst
    simp only [List.mem_cons, List.not_mem_nil, or_false] at hb
    rcases hb with rfl | rfl | rfl | rfl | rfl
    · exact ⟨_, hz⟩
    · exact ⟨_, hTI⟩
    · exact ⟨_, hTO⟩
    · exact ⟨_, h1⟩
    · exact ⟨_, h2⟩
theorem si_zip {e1 e2 : Expr} {elts : List Expr} {k0 : Nat} {tp np pos : Pos} {f g : Vars → Option D} (hx : scope.names.lookup (Str.ofString "zip") = some .globalImplicit) (h1 : SE c nd nu scope nm e1 f) (h2 : SE c nd nu scope nm e2 g) (hp1 : plainArg e1 = true := by rfl) (hp2 : plainArg e2 = true := by rfl) :
    SIG c nd nu scope nm (.Call (.Name (Str.ofString "zip") np) [e1, e2] [] pos) (.Tuple elts k0 tp) (fun G => (f G).bind fun a => (g G).bind fun b => zipD a b) := by
  intro env A s P G ds Q eo ao ho hp rd ee q
  obtain ⟨a, ea, e'⟩ := Option.bind_eq_some_iff.mp ee
  obtain ⟨b, eb, er⟩ := Option.bind_eq_some_iff.mp e'
  refine wpAny_Call_NameR (ld_boot eo ho hx (by k_is) boot_zip (by decide) ?_)
  refine callWith_type1 ?_ (starEach_plain hp1) (by rw [backTo_cons hp2]; rfl)
  refine args_two hp1 hp2 (h1 env A s P G _ _ eo ao ho hp rd ea fun va P1 k1 tk1 g1 hva => ?_)
  refine h2 env A _ P1 G b _ eo ao (ho.keeps g1.stay) g1.sub (rd.grow g1) eb fun vb P2 k2 tk2 g2 hvb => ?_
  unfold zipD at er
  split at er
  · rename_i x y
    split at er
    · rename_i hxy
      cases er
      obtain ⟨t, rfl⟩ := hva.str_inv
      obtain ⟨u, rfl⟩ := hvb.str_inv
      have g12 := g1.trans g2
      refine callType_new PySem.F.called_zip (by decide) (PySem.F.typeCall_zip_2 _ _) (PySem.F.newCall_zip_2 _ _) (fun obj => PySem.F.args_object_init_3 obj _ _) PySem.F.entry_zip_new (meets_zipS x t y u hxy.1 hxy.2) ?_
      show _ ∧ _
      dsimp only
      have z1 : (zS1 k2 x t).objs.size = k2.objs.size + 1 := Heap.size_push ..
      have z2 : (zS2 k2 x t y u).objs.size = k2.objs.size + 2 := by rw [Heap.size_push, z1]
      have z3 : (zS3 k2 x t y u).objs.size = k2.objs.size + 3 := by rw [Heap.size_push, z2]
      have z4 : (zS4 k2 x t y u).objs.size = k2.objs.size + 4 := by rw [Heap.size_push, z3]
      have G5 : (zS5 k2 x t y u).get? (zS4 k2 x t y u).objs.size = some _ := Heap.get?_push_size _ rfl
      have G4 : (zS5 k2 x t y u).get? (zS3 k2 x t y u).objs.size = some _ := Heap.get?_push_of_some _ (Heap.get?_push_size _ rfl)
      have G3 : (zS5 k2 x t y u).get? (zS2 k2 x t y u).objs.size = some _ := Heap.get?_push_of_some _ (Heap.get?_push_of_some _ (Heap.get?_push_size _ rfl))
      have G2 : (zS5 k2 x t y u).get? (zS1 k2 x t).objs.size = some _ := Heap.get?_push_of_some _ (Heap.get?_push_of_some _ (Heap.get?_push_of_some _ (Heap.get?_push_size _ rfl)))
      have G1 : (zS5 k2 x t y u).get? k2.objs.size = some _ := Heap.get?_push_of_some _ (Heap.get?_push_of_some _ (Heap.get?_push_of_some _ (Heap.get?_push_of_some _ (Heap.get?_push_size _ rfl))))
      have KK : k2.StaysIn (zS5 k2 x t y u) := fun c o e => Heap.get?_push_of_some _ (Heap.get?_push_of_some _ (Heap.get?_push_of_some _ (Heap.get?_push_of_some _ (Heap.get?_push_of_some _ e))))
      generalize hH : zS5 k2 x t y u = H at G5 G4 G3 G2 G1 KK ⊢
      rw [z2, z3, z4] at G5
      rw [z1, z2] at G3
      rw [z3] at G4
      rw [z1] at G2
      rw [z4]
      refine ⟨⟨_, G5, rfl⟩, ?_⟩
      have nn : ∀ j, k2.get? (k2.objs.size + j) = none := fun j => by
        cases r : k2.get? (k2.objs.size + j) with
        | none => rfl
        | some o' => exact absurd (Heap.lt_size r) (Nat.not_lt.mpr (Nat.le_add_right _ _))
      have SS := srcg_zip (c := c) (A := A) (elts := elts) (k0 := k0) (tp := tp) (H0 := s.heap) (P := P2) (h := H) (x := x) (y := y) (tx := t) (ty := u) ao.hh (zA_new k2.objs.size) ⟨G5, G3, ⟨_, _, G4⟩, ⟨_, G1, rfl, rfl⟩, ⟨_, G2, rfl, rfl⟩⟩ (fun b hb => by
        have : k2.get? b = none := by
          simp only [List.mem_cons, List.not_mem_nil, or_false] at hb
          rcases hb with rfl | rfl | rfl | rfl | rfl
          · exact nn 4
          · exact nn 2
          · exact nn 3
          · exact nn 0
          · exact nn 1
        exact ⟨none_of_stays g12.stay this, none_of_in g2.sub this⟩)
      exact wpAny_pyIter_zip (s := { s with heap := H, toks := tk2 }) G5 (q _ _ _ _ P2 H tk2 (g12.then KK) SS)
    · first | exact nn er | cases er
  · first | exact nn er | cases er
end
end Mine
namespace Mine
open PySem PySem.W PySem.Calls PySem.SeqAt PyProof.Rows

theorem len0 {α : Type} {l : List α} (h : l.length = 0) : l = [] := by
  match l, h with
  | [], _ => rfl

theorem lenS {α : Type} {l : List α} {n : Nat} (h : l.length = n + 1) : ∃ a r, l = a :: r ∧ r.length = n := by
  cases l with
  | nil => cases h
  | cons a r => exact ⟨a, r, rfl, Nat.succ.inj h⟩
theorem len1 {α : Type} {l : List α} (h : l.length = 1) : ∃ a, l = [a] := by
  obtain ⟨a, r, rfl, h2⟩ := lenS h
  exact ⟨a, by rw [len0 h2]⟩
theorem len2 {α : Type} {l : List α} (h : l.length = 2) : ∃ a b, l = [a, b] := by
  obtain ⟨a, r, rfl, h2⟩ := lenS h
  obtain ⟨b, rfl⟩ := len1 h2
  exact ⟨a, b, rfl⟩
theorem len3 {α : Type} {l : List α} (h : l.length = 3) : ∃ a b c, l = [a, b, c] := by
  obtain ⟨a, r, rfl, h2⟩ := lenS h
  obtain ⟨b, c, rfl⟩ := len2 h2
  exact ⟨a, b, c, rfl⟩
theorem len4 {α : Type} {l : List α} (h : l.length = 4) : ∃ a b c d, l = [a, b, c, d] := by
  obtain ⟨a, r, rfl, h2⟩ := lenS h
  obtain ⟨b, c, d, rfl⟩ := len3 h2
  exact ⟨a, b, c, d, rfl⟩
theorem len5 {α : Type} {l : List α} (h : l.length = 5) : ∃ a b c d e, l = [a, b, c, d, e] := by
  obtain ⟨a, r, rfl, h2⟩ := lenS h
  obtain ⟨b, c, d, e, rfl⟩ := len4 h2
  exact ⟨a, b, c, d, e, rfl⟩

/-! a while of at most n turns -/
noncomputable def whS (tau : Vars → Option Bool) (psi : St → Option (St × Option D)) : Nat → St → Option (St × Option D)
  | 0, z => (tau z.1).bind fun b => if b then none else some (z, none)
  | n + 1, z => (tau z.1).bind fun b => if b then (psi z).bind fun x => match x with
    | (z1, none) => whS tau psi n z1
    | _ => none
    else some (z, none)
section
variable {c : Cx} {nd nu : Nat} {scope : Scope} {nm : List Str} {env : Env}
theorem sx_while {t : Expr} {body : List Stmt} {pos : Pos} {tau : Vars → Option Bool} {psi : St → Option (St × Option D)} (n : Nat) (h1 : ST c nd nu scope nm t tau) (h2 : SL c nd nu scope nm body psi) :
    SX c nd nu scope nm (.While t body [] pos) (whS tau psi n) := by
  intro env A s h₀ P₀ P z l m z' r Q eo V ao ho F e q
  refine wpAny_While (codeAny_whileLoop (fun n s' => ∃ P1 h1 tk1 z1 l1 m1, s' = { s with heap := h1, toks := tk1 } ∧ FS c scope nm env h₀ P₀ P1 z1.1 z1.2 l1 m1 h1 ∧ Out env l P s.heap P1 h1 l1 ∧ whS tau psi n z1 = some (z', r)) ?_ n
    ⟨P, s.heap, s.toks, z, l, m, rfl, F, .grow (.refl F.sub), e⟩)
  rintro n s' ⟨P1, h1', tk1, z1, l1, m1, rfl, F1, O1, e1⟩
  have key : ∃ b, tau z1.1 = some b ∧ (b = false → z1 = z' ∧ r = none) ∧ (b = true → ∃ n', n = n' + 1 ∧ ∃ z2, psi z1 = some (z2, none) ∧ whS tau psi n' z2 = some (z', r)) := by
    cases n with
    | zero =>
      obtain ⟨b, eb, e2⟩ := Option.bind_eq_some_iff.mp e1
      cases b with
      | false => cases e2; exact ⟨_, eb, fun _ => ⟨rfl, rfl⟩, fun h => by cases h⟩
      | true => first | exact nn e2 | cases e2
    | succ n =>
      obtain ⟨b, eb, e2⟩ := Option.bind_eq_some_iff.mp e1
      cases b with
      | false => cases e2; exact ⟨_, eb, fun _ => ⟨rfl, rfl⟩, fun h => by cases h⟩
      | true =>
        rw [if_pos rfl] at e2
        obtain ⟨⟨z2, r2⟩, e3, e4⟩ := Option.bind_eq_some_iff.mp e2
        cases r2 with
        | some d => first | exact nn e4 | cases e4
        | none => exact ⟨_, eb, (fun h => by cases h), fun _ => ⟨n, rfl, z2, e3, e4⟩⟩
  obtain ⟨b, eb, kf, kt⟩ := key
  refine wpNoE (h1 env A { s with heap := h1', toks := tk1 } P1 z1.1 b _ eo ao (ho.keeps F1.stay) F1.sub (F1.rd eo V) eb fun P2 k2 tk2 g2 => ?_)
  cases b with
  | false =>
    obtain ⟨rfl, rfl⟩ := kf rfl
    simp only [Bool.false_eq_true, if_false]
    refine wpAny_execs_nil ?_
    exact q .next P2 k2 tk2 l1 m1 (F1.grow g2) (.trans F1 O1 (.grow g2)) rfl
  | true =>
    obtain ⟨n', rfl, z2, e3, e4⟩ := kt rfl
    simp only [if_true]
    refine wpNoE (h2 env A { s with heap := k2, toks := tk2 } h₀ P₀ P2 z1 l1 m1 z2 none _ eo V ao ho (F1.grow g2) e3 fun fl P3 k3 tk3 l3 m3 F3 O3 fi => ?_)
    have : fl = .next := fi
    subst this
    exact ⟨n', Nat.lt_succ_self _, P3, k3, tk3, z2, l3, m3, rfl, F3, .trans F1 O1 (.after g2 O3), e4⟩
end

/-! entering a def -/
theorem def_code {c : Cx} {nd nu : Nat} {f : Addr} {name qual : Str} {params : Arguments} {body : List Stmt} {scope : Scope} {dV kV doc pm cdv ct oc : Value} {an od : Option Addr} {osl : Array (Option Value)} {nm : List Str} {np : Nat}
    (ho : (hd.heap_39 c.w.params).lookup f = some ⟨oc, od, .func (fnX name qual params body scope [] dV kV doc pm an cdv ct), osl⟩) (hcd : codeIn (hd.heap_39 c.w.params) cdv qual = true) (K : DefOK scope nm np)
    {A : Around} {s : Shared} {P : PM} {args : Args} {vs' : List Value} {ds' : List D} {R : Result → Shared → Prop} (ao : AOK A (nd + 1) (nu + 3)) (hok : HOK c s.heap) (hp : PIn P s.heap) (kle : PLe (KPM c) P)
    (hb : BindsTo s (fnX name qual params body scope [] dV kV doc pm an cdv ct) args ((nm.take np).zip vs')) (hvs : DHs c.w P vs' ds') (hlen : vs'.length = np)
    (h : ∀ env A' h₁ tk m, EnvOK scope env → AOK A' nd nu → env.locals = s.heap.objs.size → FS c scope nm env s.heap P P (ds'.map some ++ List.replicate (nm.length - np) none) none env.locals m h₁ →
      wpAny (model PG c.w) A' (execs body env) (fun fl s' => R (.ok (.ret (match fl with | .ret v => v | _ => .none))) s') NoE { s with heap := h₁, toks := tk }) :
    codeAny (model PG c.w) A (.call (.ref f) args) R s := by
  have hlen' : ds'.length = np := hvs.length ▸ hlen
  have hzn : (((nm.take np).zip vs').map (·.1)) = nm.take np := by
    rw [List.map_fst_zip]; rw [List.length_take, hlen]; exact Nat.min_le_left _ _
  have hnd : (((nm.take np).zip vs').map (·.1)).Nodup := by rw [hzn]; exact K.V.inj.sublist (List.take_sublist _ _)
  have hget : ∀ (i : Nat) (x : Str) (d : D), nm[i]? = some x → (ds'.map some ++ List.replicate (nm.length - np) none)[i]? = some (some d) → ∃ v, ((nm.take np).zip vs')[i]? = some (x, v) ∧ DH c.w P v d := by
    intro i x d hx hg
    by_cases hi : i < np
    · rw [List.getElem?_append_left (by rw [List.length_map, hlen']; exact hi), List.getElem?_map] at hg
      have hg' : ds'[i]? = some d := by
        cases q : ds'[i]? with
        | none => rw [q] at hg; cases hg
        | some u => rw [q] at hg; cases hg; rfl
      obtain ⟨v, hv, hdv⟩ := hvs.get hg'
      refine ⟨v, ?_, hdv⟩
      rw [List.getElem?_zip_eq_some]
      exact ⟨by rw [List.getElem?_take_of_lt hi]; exact hx, hv⟩
    · rw [List.getElem?_append_right (by rw [List.length_map, hlen']; omega)] at hg
      have := List.mem_of_getElem? hg
      rw [List.mem_replicate] at this
      exact absurd this.2 (by simp)
  refine codeAny_call_function (by have := ao.hd; omega) (hok.X _ _ ho) rfl K.co K.gen rfl (codeRec_of hok.X hcd) (hb _ _ _ _ ?_)
  refine wpAny_newFunctionEnv_cells K.kind (fun x hx => ?_) fun env' he s' x => ?_
  · have hx1 : x.1 ∈ nm.take np := by rw [← hzn]; exact List.mem_map_of_mem hx
    have hx2 := List.mem_of_mem_take hx1
    rcases K.V.kind x.1 hx2 with h | h
    · exact .inl h
    · refine .inr ⟨h, ?_⟩
      obtain ⟨a, ha⟩ := lookup_some_of_name (cells_names (n := s.heap.objs.size + 1).mp (K.all _ hx2 h))
      show ((cellsFrom (s.heap.objs.size + 1) scope.names []).lookup x.1).isSome = true
      rw [ha]; rfl
  · subst he
    refine ⟨hok.T.nolimit.keeps x.toInCall.keep, codeAny_func ?_⟩
    obtain ⟨h₁, tk, rfl, _⟩ := x.done
    have hk₁ := x.toInCall.keep
    have szn := get_size s.heap
    have hcn : ∀ a, s.heap.objs.size < a → s.heap.get? a = none := fun a ha => by
      cases r : s.heap.get? a with
      | none => rfl
      | some o' => exact absurd (Heap.lt_size r) (Nat.not_lt.mpr (Nat.le_of_lt ha))
    refine wpAny_mono (h (envX qual scope s.heap.objs.size f cdv (cellsFrom (s.heap.objs.size + 1) scope.names [])) (A.deeper (envX qual scope s.heap.objs.size f cdv (cellsFrom (s.heap.objs.size + 1) scope.names []))) h₁ tk
      (bindL (envX qual scope s.heap.objs.size f cdv (cellsFrom (s.heap.objs.size + 1) scope.names [])).kindOf ((nm.take np).zip vs') fun _ => none) ⟨rfl, rfl, rfl, K.kind⟩ ⟨ao.hh, by have := ao.hd; show A.depth + 1 + nd < _; omega, by have := ao.hu; show A.units + 3 + nu < _; omega⟩ rfl ?_) (fun _ _ y => y) fun _ _ y => y.elim
    exact {
        stay := hk₁, le := .refl _, sub := fun b o e => hk₁ b o (hp b o e), new := fun b o e => .inl e, ns := x.toInCall.ns, Ln := szn, PL := none_of_in hp szn
        vars := fun i y d hy hyl hg => by
          obtain ⟨v, hz, hdv⟩ := hget i y d hy hg
          exact ⟨v, bindL_get hnd hz hyl, hdv⟩
        cells := fun y a ha => by
          have hmem := mem_of_lookup ha
          have hlt : s.heap.objs.size < a := x.above y a hmem
          refine ⟨hcn a hlt, none_of_in hp (hcn a hlt), Nat.ne_of_gt hlt, _, x.cell y a ha, fun i d hy hg => ?_⟩
          obtain ⟨v, hz, hdv⟩ := hget i y d hy hg
          have hck : scope.names.lookup y = some .cell := K.cells y (cells_names.mpr (name_of_lookup ha))
          exact ⟨v, bindC_get hnd hz (by show scope.names.lookup y ≠ _; rw [hck]; decide), hdv⟩
        ckind := fun y a ha => K.cells y (cells_names.mpr (name_of_lookup ha))
        cinj := fun y y' a h1 h2 => name_of_addr x.apart (mem_of_lookup h1) (mem_of_lookup h2)
        cdef := fun y hy hc => lookup_some_of_name (cells_names.mp (K.all y hy hc))
        own := fun i ds e => by cases e
        lin := Ns.some x.toInCall.ns
        kle := kle }

/-! a new object of a class -/
theorem cls_code {c : Cx} {C f : Addr} {A : Around} {s : Shared} {vs : List Value} {Q : Value → Shared → Prop} (hok : HOK c s.heap) (hm : makesIn (hd.heap_39 c.w.params) C = true) (hi : findIn (hd.heap_39 c.w.params) (.ref C) "__init__" = some (some (.ref f))) (hf : typeIn (hd.heap_39 c.w.params) (.ref f) = some (.type "function"))
    (h : codeAny (model PG c.w) (A.under (.builtin "type.__call__" ⟨.ref C :: vs, []⟩)) (.call (.ref f) ⟨.ref (s.heap.objs.size + 1) :: vs, []⟩)
      (fun r s' => r = .ok (.ret .none) ∧ Q (.ref (s.heap.objs.size + 1)) s') { s with heap := (s.heap.push emptyDict).push (instObj C s.heap.objs.size) }) :
    wpAny (model PG c.w) A (call (.ref C) vs) Q NoE s := by
  obtain ⟨hh, g, d, t, os⟩ := s
  refine wpAny_call (make_core (makes_of hok.X hm) (looks_findIn hok.X hi) (fun self => bind_fn hok.X self hf) (.inl rfl) (codeAny_mono h fun r s' z => ?_))
  obtain ⟨rfl, z⟩ := z
  exact ⟨rfl, z⟩
theorem AOK.cls {A : Around} {nd nu : Nat} {vs : List Value} {C : Addr} (a : AOK A (nd + 1) (nu + 4)) : AOK (A.under (.builtin "type.__call__" ⟨.ref C :: vs, []⟩)) nd nu := by
  have e1 : (A.under (.builtin "type.__call__" ⟨.ref C :: vs, []⟩)).depth = A.depth + 1 := rfl
  have e2 : (A.under (.builtin "type.__call__" ⟨.ref C :: vs, []⟩)).units ≤ A.units + 4 := by
    exact Nat.add_le_add_left (Nat.le_of_ble_eq_true rfl) _
  exact ⟨a.hh, by rw [e1]; have := a.hd; omega, by have := a.hu; omega⟩

/-! defaults -/
noncomputable def fillD (n : Nat) (d : D) (ds : List D) : Option (List D) := if ds.length = n + 1 then some ds else if ds.length = n then some (ds ++ [d]) else none
theorem bind_d {c : Cx} {fd : FuncData} {names : List Str} {np : Nat} {dv : Value} {dd : D} (hdv : DH c.w (KPM c) dv dd)
    (hb : ∀ (s : Shared) (vs : List Value), (hd.heap_39 c.w.params).In s.heap → vs.length = np + 1 → BindsTo s fd ⟨vs, []⟩ (names.zip vs))
    (hb2 : ∀ (s : Shared) (vs : List Value), (hd.heap_39 c.w.params).In s.heap → vs.length = np → BindsTo s fd ⟨vs, []⟩ (names.zip (vs ++ [dv])))
    (s : Shared) (P : PM) (vs : List Value) (ds ds' : List D) (X : (hd.heap_39 c.w.params).In s.heap) (kle : PLe (KPM c) P) (hvs : DHs c.w P vs ds) (e : fillD np dd ds = some ds') :
    ∃ vs', BindsTo s fd ⟨vs, []⟩ (names.zip vs') ∧ DHs c.w P vs' ds' ∧ vs'.length = np + 1 := by
  unfold fillD at e
  split at e
  · first | exact nn e | cases e
    rename_i hl
    exact ⟨vs, hb s vs X (hvs.length.trans hl), hvs, hvs.length.trans hl⟩
  · split at e
    · first | exact nn e | cases e
      rename_i hl
      exact ⟨vs ++ [dv], hb2 s vs X (hvs.length.trans hl), hvs.append (.one (hdv.mono kle)), by rw [List.length_append, hvs.length, hl]; rfl⟩
    · first | exact nn e | cases e
end Mine
namespace Mine
open PySem PySem.W PySem.Calls PySem.SeqAt PyProof.Rows

theorem DH.raw_inv {w : World} {P : PM} {v u : Value} (h : DH w P v (.raw u)) : v = u := by cases h; rfl
theorem inst_stays (h : Heap) (C : Addr) : h.StaysIn ((h.push emptyDict).push (instObj C h.objs.size)) := fun b o e => Heap.get?_push_of_some _ (Heap.get?_push_of_some _ e)
theorem inst_at (h : Heap) (C : Addr) : ((h.push emptyDict).push (instObj C h.objs.size)).get? (h.objs.size + 1) = some (instObj C h.objs.size) := by
  have e : (h.push emptyDict).objs.size = h.objs.size + 1 := Heap.size_push ..
  rw [← e]; exact Heap.get?_push_size _ rfl
theorem inst_dict (h : Heap) (C : Addr) : ((h.push emptyDict).push (instObj C h.objs.size)).get? h.objs.size = some emptyDict := Heap.get?_push_of_some _ (Heap.get?_push_size _ rfl)
theorem inst_size (h : Heap) (C : Addr) : ((h.push emptyDict).push (instObj C h.objs.size)).objs.size = h.objs.size + 2 := by rw [Heap.size_push, Heap.size_push]
theorem get_size1 (h : Heap) : h.get? (h.objs.size + 1) = none := by
  cases r : h.get? (h.objs.size + 1) with
  | none => rfl
  | some o' => exact absurd (Heap.lt_size r) (Nat.not_lt.mpr (Nat.le_succ _))
theorem ne_succ' (n : Nat) : n ≠ n + 1 := Nat.ne_of_lt (Nat.lt_succ_self _)

/-- the frame inside __init__, as the kit's lemmas want it -/
theorem init_fr {s : Shared} {C : Addr} {h₁ : Heap} {L : Addr} {m : Str → Option Value} (st : ((s.heap.push emptyDict).push (instObj C s.heap.objs.size)).StaysIn h₁) (ns : h₁.Ns L m) (hL : L = s.heap.objs.size + 2) :
    Fr s.heap L h₁ m ∧ News s.heap L h₁ [(s.heap.objs.size + 1, instObj C s.heap.objs.size), (s.heap.objs.size, dictOf [] 0)] := by
  refine ⟨⟨ns, fun b o e => st b o (inst_stays _ C b o e), by rw [hL]; exact Nat.le_add_right _ 2⟩, fun p hp => ?_⟩
  rcases List.mem_cons.mp hp with rfl | hp
  · exact ⟨st _ _ (inst_at _ _), by rw [hL]; exact Nat.ne_of_lt (Nat.lt_succ_self _), get_size1 _⟩
  · rw [List.mem_singleton.mp hp]
    exact ⟨st _ _ (inst_dict _ _), by rw [hL]; exact Nat.ne_of_lt (Nat.lt_add_of_pos_right (by decide)), get_size _⟩

noncomputable def sPath : List D → Option D
  | [] => some (.path (.tup []))
  | [d] => some (.path d)
  | _ => none
theorem dh_nil {c : Cx} : DH c.w (KPM c) (.ref 210) (.tup []) := by
  refine .tup (n := 0) (o := ⟨.type "tuple", none, .seq #[] 0, #[]⟩) (vs := []) ?_ rfl rfl .nil
  show (hd.heap_39 c.w.params).lookup 210 = _
  k_is


theorem rcon_path {c : Cx} {nd nu : Nat} : RCon c (nd + 2) (nu + 7) 221 sPath := by
  intro args ds d0 e A s P Q ao hok hp kle hargs q
  have key : ∃ d vs', d0 = .path d ∧ DHs c.w P vs' [d] ∧ ((args = [] ∧ vs' = [.ref 210]) ∨ ∃ v, args = [v] ∧ vs' = [v]) := by
    unfold sPath at e
    split at e
    · first | exact nn e | cases e
      cases hargs
      exact ⟨_, _, rfl, .one (dh_nil.mono kle), .inl ⟨rfl, rfl⟩⟩
    · first | exact nn e | cases e
      obtain ⟨v, rfl, hv⟩ := hargs.one_inv
      exact ⟨_, _, rfl, .one hv, .inr ⟨v, rfl, rfl⟩⟩
    · first | exact nn e | cases e
  obtain ⟨d, vs', rfl, hvs, hkey⟩ := key
  have st := inst_stays s.heap 221
  have hp2 : PIn P ((s.heap.push emptyDict).push (instObj 221 s.heap.objs.size)) := fun b o e => st b o (hp b o e)
  have hok2 := hok.keeps st
  have ao2 : AOK (A.under (.builtin "type.__call__" ⟨.ref 221 :: args, []⟩)) (nd + 1) (nu + 3) := AOK.cls ao
  refine cls_code (C := 221) (f := 218) hok (by k_is) (by k_is) (by k_is) ?_
  refine' def_code (nd := nd) (nu := nu) (f := 218) (nm := ["self", "parts"]) (np := 2) (vs' := .ref (s.heap.objs.size + 1) :: vs') (ds' := [.raw (.ref (s.heap.objs.size + 1)), d]) (s := { s with heap := (s.heap.push emptyDict).push (instObj 221 s.heap.objs.size) }) ?ho ?hcd ?K ao2 hok2 hp2 kle ?hb ?hvs ?hlen ?h
  case ho => k_is
  case hcd => k_is
  case K => exact ⟨⟨by decide, by decide, by decide⟩, by decide, by decide, by decide, rfl, rfl, rfl⟩
  case hb =>
    have X := hok2.X
    rcases hkey with ⟨rfl, rfl⟩ | ⟨v, rfl, rfl⟩
    · exact BindsTo.of_defaults rfl (X 211 ⟨.type "tuple", none, .seq #[.ref 210] 0, #[]⟩ (by k_is)) rfl rfl rfl
    · exact BindsTo.of_defaults rfl (X 211 ⟨.type "tuple", none, .seq #[.ref 210] 0, #[]⟩ (by k_is)) rfl rfl rfl
  case hvs => exact .cons (.raw _ rfl) hvs
  case hlen => rw [List.length_cons, hvs.length]; rfl
  case h =>
    intro env A' h₁ tk m eo ao' hL F
    have V : VOK env.scope ["self", "parts"] := by rw [eo.sc]; exact ⟨by decide, by decide, by decide⟩
    rw [eo.sc] at V
    have hL' : env.locals = s.heap.objs.size + 2 := hL.trans (inst_size _ _)
    obtain ⟨v, hv, l1, _⟩ := (F.rd eo V).v 1 "parts" d rfl rfl
    obtain ⟨u, hu, l0, _⟩ := (F.rd eo V).v 0 "self" _ rfl rfl
    have := hu.raw_inv; subst this
    obtain ⟨Fk, Nk⟩ := init_fr (C := 221) F.stay F.ns hL'
    refine wpAny_execs_cons (plainObj_wpAny_Assign_Attribute ?_ rfl)
    refine l1 _ _ _ _ _ _ (fun _ _ e => e) (l0 _ _ _ _ _ _ (fun _ _ e => e) ?_)
    have I : W.InstAt h₁ (s.heap.objs.size + 1) (instObj 221 s.heap.objs.size) 221 (some (dictOf [] 0)) := ⟨(Nk (s.heap.objs.size + 1, instObj 221 s.heap.objs.size) (by simp)).1, rfl, rfl, (Nk (s.heap.objs.size, dictOf [] 0) (by simp)).1⟩
    refine set_dict (s := { s with heap := h₁, toks := tk }) (K := hd.heap_39 c.w.params) Fk hok.X Nk I rfl (by k_is) (by k_is) (by k_is) (by k_is) rfl (es' := [⟨PyData.keyHash c.w.params (Str.ofString "parts"), .str (Str.ofString "parts") (tk + 1), v⟩]) (n' := 1) rfl
      (.tail (Ne.symm (ne_succ' _)) (.head (fun p hp => by cases hp))) (by simp) fun h' F' N' => ?_
    refine wpAny_execs_nil ⟨rfl, ?_⟩
    have e1 := (N' (s.heap.objs.size + 1, instObj 221 s.heap.objs.size) (by simp))
    have e2 := (N' (s.heap.objs.size, pathO c.w v (tk + 1)) (by simp))
    have n1 : P s.heap.objs.size = none := none_of_in hp (get_size _)
    have n2 : (P.put s.heap.objs.size (pathO c.w v (tk + 1))) (s.heap.objs.size + 1) = none := by
      unfold PM.put; rw [if_neg (Ne.symm (ne_succ' _))]; exact none_of_in hp (get_size1 _)
    have G : Grow P s.heap P h' := (Grow.refl hp).then F'.keep
    have G2 := (G.add n1 e2.1 (get_size _)).add n2 e1.1 (get_size1 _)
    exact q _ _ h' _ G2 (.path (PM.put_self _ _ _) (PM.put_le n2 _ _ (PM.put_self _ _ _)) (hv.mono ((PM.put_le n1).trans (PM.put_le n2))))
end Mine
namespace Mine
open PySem PySem.W PySem.Calls PySem.SeqAt PyProof.Rows

/-- the reduced form of a decimal of at most one place -/
noncomputable def decOf (t p : Int) : Option (Int × Int) :=
  if p = 0 then some (t, 0) else if p = 1 ∧ -1000000000000 ≤ t ∧ t ≤ 1000000000000 then (if t % 10 = 0 then some (t / 10, 0) else some (t, 1)) else none
noncomputable def sDec : List D → Option D
  | [.int t, .int p] => (decOf t p).map fun x => .dec x.1 x.2
  | _ => none

theorem rcon_dec {c : Cx} {nd nu : Nat} : RCon c (nd + 2) (nu + 7) 155 sDec := by
  intro args ds d0 e A s P Q ao hok hp kle hargs q
  have key : ∃ t p t' p', ds = [.int t, .int p] ∧ decOf t p = some (t', p') ∧ d0 = .dec t' p' := by
    unfold sDec at e
    split at e
    · obtain ⟨⟨t', p'⟩, e1, rfl⟩ := Option.map_eq_some_iff.mp e
      exact ⟨_, _, _, _, rfl, e1, rfl⟩
    · first | exact nn e | cases e
  obtain ⟨t, p, t', p', rfl, hdo, rfl⟩ := key
  obtain ⟨a1, a2, rfl, ha1, ha2⟩ := hargs.two_inv
  have st := inst_stays s.heap 155
  have hp2 : PIn P ((s.heap.push emptyDict).push (instObj 155 s.heap.objs.size)) := fun b o e => st b o (hp b o e)
  have hok2 := hok.keeps st
  have ao2 : AOK (A.under (.builtin "type.__call__" ⟨.ref 155 :: [a1, a2], []⟩)) (nd + 1) (nu + 3) := AOK.cls ao
  refine cls_code (C := 155) (f := 75) hok (by k_is) (by k_is) (by k_is) ?_
  refine' def_code (nd := nd) (nu := nu) (f := 75) (nm := ["self", "top", "places"]) (np := 3) (vs' := .ref (s.heap.objs.size + 1) :: [a1, a2]) (ds' := [.raw (.ref (s.heap.objs.size + 1)), .int t, .int p]) (s := { s with heap := (s.heap.push emptyDict).push (instObj 155 s.heap.objs.size) }) ?ho ?hcd ?K ao2 hok2 hp2 kle ?hb ?hvs ?hlen ?h
  case ho => k_is
  case hcd => k_is
  case K => exact ⟨⟨by decide, by decide, by decide⟩, by decide, by decide, by decide, rfl, rfl, rfl⟩
  case hb => exact BindsTo.of_eq rfl
  case hvs => exact .cons (.raw _ rfl) hargs
  case hlen => rfl
  case h =>
    intro env A' h₁ tk m eo ao' hL F
    have V : VOK env.scope ["self", "top", "places"] := by rw [eo.sc]; exact ⟨by decide, by decide, by decide⟩
    rw [eo.sc] at V
    have hL' : env.locals = s.heap.objs.size + 2 := hL.trans (inst_size _ _)
    refine' wpAny_execs_cons (sx_while 1 ?a ?b env A' { s with heap := h₁, toks := tk } _ P P ([some (.raw (.ref (s.heap.objs.size + 1))), some (.int t), some (.int p)], none) env.locals m
      ([some (.raw (.ref (s.heap.objs.size + 1))), some (.int t'), some (.int p')], none) none _ eo V ao' hok2 F ?e ?q)
    case a => exact st_and (st_cmp (se_var 2 rfl) se_int) (st_cmp (se_bin (se_var 1 rfl) se_int) se_int)
    case b => exact sl_cons (sx_assign 1 rfl (se_bin (se_var 1 rfl) se_int) (fun _ => rfl)) (sl_cons (sx_assign 2 rfl (se_bin (se_var 2 rfl) se_int) (fun _ => rfl)) sl_nil)
    case e =>
      unfold decOf at hdo
      split at hdo
      · first | exact nn hdo | cases hdo
        rename_i h0
        subst h0
        simp [whS, bcmp, cInt]
      · split at hdo
        · rename_i h1
          obtain ⟨rfl, h2, h3⟩ := h1
          split at hdo
          · first | exact nn hdo | cases hdo
            rename_i h4
            have hb : (0 : Int) < 10 ∧ (10 : Int) ≤ 1000000 ∧ -1000000000000 ≤ t ∧ t ≤ 1000000000000 := ⟨by decide, by decide, h2, h3⟩
            simp [whS, bcmp, cInt, cEq, bop, bMod, bDiv, bSub, h4, seqS, dropOwn, h2, h3]
          · first | exact nn hdo | cases hdo
            rename_i h4
            simp [whS, bcmp, cInt, cEq, bop, bMod, bDiv, bSub, h4, seqS, dropOwn]
        · first | exact nn hdo | cases hdo
    case q =>
      intro fl P1 k1 tk1 l1 m1 F1 O1 fi
      have : fl = .next := fi
      subst this
      have hk : env.scope.kind = .function := (congrArg Scope.kind eo.sc).trans eo.kd
      obtain ⟨v, mv, hv⟩ := F1.vars 1 "top" _ rfl rfl rfl
      obtain ⟨u, mu, hu⟩ := F1.vars 2 "places" _ rfl rfl rfl
      obtain ⟨x, mx, hx⟩ := F1.vars 0 "self" _ rfl rfl rfl
      have := hx.raw_inv; subst this
      obtain ⟨tv, rfl⟩ := hv.int_inv
      obtain ⟨tu, rfl⟩ := hu.int_inv
      have ld : ∀ {y : Str} {v : Value} {h : Heap}, y ∈ ([Str.ofString "self", Str.ofString "top", Str.ofString "places"] : List Str) → m1 y = some v → h.Ns env.locals m1 → ∀ (M : Model) (A : Around) (Q E : Value → Shared → Prop) (s' : Shared) (pos : Pos), s'.heap = h → Q v s' → wpAny M A (eval (.Name y pos) env) Q E s' := by
        intro y v h hy hm hn M A Q E s' pos hs' hq
        have hl : env.scope.names.lookup y = some .local := by
          rw [eo.sc]
          simp only [List.mem_cons, List.not_mem_nil, or_false] at hy
          rcases hy with rfl | rfl | rfl <;> first | done | rfl
        exact wpAny_Name (wpAny_loadName_local hk hl (hs' ▸ hn) hm hq) (V.dbg y hy)
      obtain ⟨Fk, Nk⟩ := init_fr (C := 155) F1.stay F1.ns hL'
      have I : W.InstAt k1 (s.heap.objs.size + 1) (instObj 155 s.heap.objs.size) 155 (some (dictOf [] 0)) := ⟨(Nk (s.heap.objs.size + 1, instObj 155 s.heap.objs.size) (by simp)).1, rfl, rfl, (Nk (s.heap.objs.size, dictOf [] 0) (by simp)).1⟩
      refine wpAny_execs_cons (plainObj_wpAny_Assign_Attribute ?_ rfl)
      refine ld (by simp) mv F1.ns _ _ _ _ _ _ rfl (ld (by simp) mx F1.ns _ _ _ _ _ _ rfl ?_)
      refine set_dict (s := { s with heap := k1, toks := tk1 }) (K := hd.heap_39 c.w.params) Fk hok.X Nk I rfl (by k_is) (by k_is) (by k_is) (by k_is) rfl (es' := [⟨PyData.keyHash c.w.params (Str.ofString "top"), .str (Str.ofString "top") (tk1 + 1), .int t' tv⟩]) (n' := 1) rfl
        (.tail (Ne.symm (ne_succ' _)) (.head (fun p hp => by cases hp))) (by simp) fun k2 Fk2 Nk2 => ?_
      have I2 : W.InstAt k2 (s.heap.objs.size + 1) (instObj 155 s.heap.objs.size) 155 (some (dictOf [⟨PyData.keyHash c.w.params (Str.ofString "top"), .str (Str.ofString "top") (tk1 + 1), .int t' tv⟩] 1)) :=
        ⟨(Nk2 (s.heap.objs.size + 1, instObj 155 s.heap.objs.size) (by simp)).1, rfl, rfl, (Nk2 (s.heap.objs.size, dictOf [⟨PyData.keyHash c.w.params (Str.ofString "top"), .str (Str.ofString "top") (tk1 + 1), .int t' tv⟩] 1) (by simp)).1⟩
      refine wpAny_execs_cons (plainObj_wpAny_Assign_Attribute ?_ rfl)
      refine ld (by simp) mu Fk2.ns _ _ _ _ _ _ rfl (ld (by simp) mx Fk2.ns _ _ _ _ _ _ rfl ?_)
      refine set_dict (s := { s with heap := k2, toks := tk1 + 2 }) (K := hd.heap_39 c.w.params) Fk2 hok.X Nk2 I2 rfl (by k_is) (by k_is) (by k_is) (by k_is) rfl
        (es' := [⟨PyData.keyHash c.w.params (Str.ofString "top"), .str (Str.ofString "top") (tk1 + 1), .int t' tv⟩, ⟨PyData.keyHash c.w.params (Str.ofString "places"), .str (Str.ofString "places") (tk1 + 2 + 1), .int p' tu⟩]) (n' := 2) rfl
        (.tail (Ne.symm (ne_succ' _)) (.head (fun p hp => by cases hp))) (by simp) fun k3 Fk3 Nk3 => ?_
      refine wpAny_execs_nil ⟨rfl, ?_⟩
      have e1 := (Nk3 (s.heap.objs.size + 1, instObj 155 s.heap.objs.size) (by simp))
      have e2 := (Nk3 (s.heap.objs.size, decO c.w (.int t' tv) (.int p' tu) (tk1 + 1) (tk1 + 2 + 1)) (by simp))
      have n1 : P s.heap.objs.size = none := none_of_in hp (get_size _)
      have n2 : (P.put s.heap.objs.size (decO c.w (.int t' tv) (.int p' tu) (tk1 + 1) (tk1 + 2 + 1))) (s.heap.objs.size + 1) = none := by
        unfold PM.put; rw [if_neg (Ne.symm (ne_succ' _))]; exact none_of_in hp (get_size1 _)
      have G : Grow P s.heap P k3 := (Grow.refl hp).then Fk3.keep
      have G2 := (G.add n1 e2.1 (get_size _)).add n2 e1.1 (get_size1 _)
      exact q _ _ k3 _ G2 (.dec (PM.put_self _ _ _) (PM.put_le n2 _ _ (PM.put_self _ _ _)))
end Mine
namespace Mine
open PySem PySem.W PySem.Calls PySem.SeqAt PyProof.Rows
theorem dh_rules {c : Cx} : DH c.w (KPM c) (.ref 202) (.tup [.str (Str.ofString "nonzero"), .str (Str.ofString "evenodd")]) := by
  refine .tup (n := 0) (o := ⟨.type "tuple", none, .seq #[.str (Str.ofString "nonzero") 431, .str (Str.ofString "evenodd") 432] 0, #[]⟩) (vs := [.str (Str.ofString "nonzero") 431, .str (Str.ofString "evenodd") 432]) ?_ rfl rfl (.cons (.str _ _) (.cons (.str _ _) .nil))
  show (hd.heap_39 c.w.params).lookup 202 = _
  k_is
theorem se_rules {c : Cx} {nd nu : Nat} {scope : Scope} {nm : List Str} {pos : Pos} (hx : scope.names.lookup (Str.ofString "RULES") = some .globalImplicit) :
    SE c nd nu scope nm (.Name (Str.ofString "RULES") pos) (fun _ => some (.tup [.str (Str.ofString "nonzero"), .str (Str.ofString "evenodd")])) := by
  intro env A s P G d Q eo ao ho hp rd ee q
  cases ee
  exact ld_glob eo ho hx (by k_is) (q _ P s.heap s.toks (.refl hp) (dh_rules.mono rd.k))

noncomputable def s_sign_of : List D → Option D
  | [.int t] => some (.int (if t = 0 then 0 else if t > 0 then 1 else -1))
  | _ => none
theorem sign_of_ok {c : Cx} : RCon c 1 3 173 s_sign_of := by
  refine' RCon.spec_le (rcon_def (nd := 0) (nu := 0) (nm := ["number"]) (np := 1) (fill := fillN 1) ?ho ?hcd (bind_n ?hb) ?K ?h) ?spec
  case ho => k_is
  case hcd => k_is
  case K => exact ⟨⟨by decide, by decide, by decide⟩, by decide, by decide, by decide, rfl, rfl, rfl⟩
  case hb => intro s vs h; obtain ⟨a0, rfl⟩ := len1 h; exact BindsTo.of_eq rfl
  case h =>
    exact (sl_cons (sx_if (st_cmp (se_var 0 rfl) se_int) (sl_cons (sx_ret se_int)
      sl_nil) sl_nil)
      (sl_cons (sx_ret (se_ife (st_cmp (se_var 0 rfl) se_int) se_int (se_neg se_int)))
      sl_nil))
  case spec =>
    intro ds d e
    unfold s_sign_of at e
    split at e
    · rename_i t
      cases e
      by_cases h0 : t = 0
      · simp [fillN, seqS, thaw, bcmp, cEq, cInt, h0]
      · by_cases h1 : t > 0 <;> simp [fillN, seqS, thaw, bcmp, cEq, cInt, h0, h1]
    · first | exact nn e | cases e

noncomputable def asDec : D → Option D
  | .dec t p => some (.dec t p)
  | .int n => some (.dec n 0)
  | _ => none
noncomputable def s_decimal_of : List D → Option D
  | [d] => asDec d
  | _ => none
theorem decimal_of_ok {c : Cx} : RCon c 3 10 180 s_decimal_of := by
  refine' RCon.spec_le (rcon_def (nd := 2) (nu := 7) (nm := ["value"]) (np := 1) (fill := fillN 1) ?ho ?hcd (bind_n ?hb) ?K ?h) ?spec
  case ho => k_is
  case hcd => k_is
  case K => exact ⟨⟨by decide, by decide, by decide⟩, by decide, by decide, by decide, rfl, rfl, rfl⟩
  case hb => intro s vs h; obtain ⟨a0, rfl⟩ := len1 h; exact BindsTo.of_eq rfl
  case h =>
    exact (sl_cons (sx_if (st_val (se_isi_dec rfl rfl (se_var 0 rfl))) (sl_cons (sx_ret (se_var 0 rfl))
      sl_nil) sl_nil)
      (sl_cons (sx_if (st_or (st_val (se_isi_bool rfl rfl (se_var 0 rfl))) (st_not (st_val (se_isi_int rfl rfl (se_var 0 rfl))))) (sl_cons sx_dead
      sl_nil) sl_nil)
      (sl_cons (sx_ret (se_call (rcon_dec (nd := 0) (nu := 0)).weaken rfl (fun _ => by k_is) (fun _ => by k_is) (sa_cons (se_var 0 rfl) (sa_cons se_int sa_nil))))
      sl_nil)))
  case spec =>
    intro ds d e
    unfold s_decimal_of at e
    split at e
    · rename_i a
      cases a <;> first | exact nn e | skip
      · cases e; simp [fillN, seqS, thaw, isiDec, isiBool, isiInt, sDec, decOf]
      · cases e; simp [fillN, seqS, thaw, isiDec, isiBool, isiInt]
    · first | exact nn e | cases e

/-- a whole number, as an int or as a decimal -/
noncomputable def whole : D → Option Int
  | .dec t p => if p = 0 then some t else none
  | .int t => some t
  | _ => none
theorem whole_inv {d : D} {x : Int} (h : whole d = some x) : asDec d = some (.dec x 0) := by
  cases d with
  | int t => cases h; rfl
  | dec t p =>
    simp only [whole] at h
    split at h
    · cases h; rename_i h0; subst h0; rfl
    · first | exact nn h | cases h
  | _ => first | exact nn h | cases h
noncomputable def s_at_one_scale : List D → Option D
  | [a, b] => (whole a).bind fun x => (whole b).map fun y => .tup [.int x, .int y, .int 0]
  | _ => none
theorem at_one_scale_ok {c : Cx} : RCon c 4 13 187 s_at_one_scale := by
  refine' RCon.spec_le (rcon_def (nd := 3) (nu := 10) (nm := ["one", "other", "first", "second", "places"]) (np := 2) (fill := fillN 2) ?ho ?hcd (bind_n ?hb) ?K ?h) ?spec
  case ho => k_is
  case hcd => k_is
  case K => exact ⟨⟨by decide, by decide, by decide⟩, by decide, by decide, by decide, rfl, rfl, rfl⟩
  case hb => intro s vs h; obtain ⟨a0, a1, rfl⟩ := len2 h; exact BindsTo.of_eq rfl
  case h =>
    exact (sl_cons (sx_assign 2 rfl (se_call (decimal_of_ok).weaken rfl (fun _ => by k_is) (fun _ => by k_is) (sa_cons (se_var 0 rfl) sa_nil)) (fun _ => rfl))
      (sl_cons (sx_assign 3 rfl (se_call (decimal_of_ok).weaken rfl (fun _ => by k_is) (fun _ => by k_is) (sa_cons (se_var 1 rfl) sa_nil)) (fun _ => rfl))
      (sl_cons (sx_assign 4 rfl (se_bfun max_ok rfl (fun _ => by k_is) boot_max (by decide) (sa_cons (se_attr pPlaces (se_var 2 rfl) pPlaces_ok) (sa_cons (se_attr pPlaces (se_var 3 rfl) pPlaces_ok) sa_nil))) (fun _ => rfl))
      (sl_cons (sx_ret (se_tup (sa_cons (se_bin (se_attr pTop (se_var 2 rfl) pTop_ok) (se_bin se_int (se_bin (se_var 4 rfl) (se_attr pPlaces (se_var 2 rfl) pPlaces_ok)))) (sa_cons (se_bin (se_attr pTop (se_var 3 rfl) pTop_ok) (se_bin se_int (se_bin (se_var 4 rfl) (se_attr pPlaces (se_var 3 rfl) pPlaces_ok)))) (sa_cons (se_var 4 rfl) sa_nil)))))
      sl_nil))))
  case spec =>
    intro ds d e
    unfold s_at_one_scale at e
    split at e
    · rename_i a b
      obtain ⟨x, hx, e⟩ := Option.bind_eq_some_iff.mp e
      obtain ⟨y, hy, rfl⟩ := Option.map_eq_some_iff.mp e
      have := whole_inv hx
      have := whole_inv hy
      simp_all [fillN, seqS, thaw, s_decimal_of, pPlaces, pTop, bMax_2, bMax_3, bop, bSub, bPow, bMul, mulOk, dropOwn]
    · first | exact nn e | cases e
noncomputable def s_dec_plus : List D → Option D
  | [a, b] => (whole a).bind fun x => (whole b).map fun y => .dec (x + y) 0
  | _ => none
theorem dec_plus_ok {c : Cx} : RCon c 5 16 82 s_dec_plus := by
  refine' RCon.spec_le (rcon_def (nd := 4) (nu := 13) (nm := ["self", "other", "one", "two", "places"]) (np := 2) (fill := fillN 2) ?ho ?hcd (bind_n ?hb) ?K ?h) ?spec
  case ho => k_is
  case hcd => k_is
  case K => exact ⟨⟨by decide, by decide, by decide⟩, by decide, by decide, by decide, rfl, rfl, rfl⟩
  case hb => intro s vs h; obtain ⟨a0, a1, rfl⟩ := len2 h; exact BindsTo.of_eq rfl
  case h =>
    exact (sl_cons (sx_unpack (tgt_three 2 3 4 rfl rfl rfl) (se_call (at_one_scale_ok).weaken rfl (fun _ => by k_is) (fun _ => by k_is) (sa_cons (se_var 0 rfl) (sa_cons (se_var 1 rfl) sa_nil))))
      (sl_cons (sx_ret (se_call (rcon_dec (nd := 0) (nu := 0)).weaken rfl (fun _ => by k_is) (fun _ => by k_is) (sa_cons (se_bin (se_var 2 rfl) (se_var 3 rfl)) (sa_cons (se_var 4 rfl) sa_nil))))
      sl_nil))
  case spec =>
    intro ds d e
    unfold s_dec_plus at e
    split at e
    · rename_i a b
      obtain ⟨x, hx, e⟩ := Option.bind_eq_some_iff.mp e
      obtain ⟨y, hy, rfl⟩ := Option.map_eq_some_iff.mp e
      simp [fillN, seqS, thaw, s_at_one_scale, hx, hy, tgT, dropOwn, bop, bAdd_i, bAdd_s, bAdd_t, bAdd_l, sDec, decOf]
    · first | exact nn e | cases e
noncomputable def s_dec_minus : List D → Option D
  | [a, b] => (whole a).bind fun x => (whole b).map fun y => .dec (x - y) 0
  | _ => none
theorem dec_minus_ok {c : Cx} : RCon c 5 16 89 s_dec_minus := by
  refine' RCon.spec_le (rcon_def (nd := 4) (nu := 13) (nm := ["self", "other", "one", "two", "places"]) (np := 2) (fill := fillN 2) ?ho ?hcd (bind_n ?hb) ?K ?h) ?spec
  case ho => k_is
  case hcd => k_is
  case K => exact ⟨⟨by decide, by decide, by decide⟩, by decide, by decide, by decide, rfl, rfl, rfl⟩
  case hb => intro s vs h; obtain ⟨a0, a1, rfl⟩ := len2 h; exact BindsTo.of_eq rfl
  case h =>
    exact (sl_cons (sx_unpack (tgt_three 2 3 4 rfl rfl rfl) (se_call (at_one_scale_ok).weaken rfl (fun _ => by k_is) (fun _ => by k_is) (sa_cons (se_var 0 rfl) (sa_cons (se_var 1 rfl) sa_nil))))
      (sl_cons (sx_ret (se_call (rcon_dec (nd := 0) (nu := 0)).weaken rfl (fun _ => by k_is) (fun _ => by k_is) (sa_cons (se_bin (se_var 2 rfl) (se_var 3 rfl)) (sa_cons (se_var 4 rfl) sa_nil))))
      sl_nil))
  case spec =>
    intro ds d e
    unfold s_dec_minus at e
    split at e
    · rename_i a b
      obtain ⟨x, hx, e⟩ := Option.bind_eq_some_iff.mp e
      obtain ⟨y, hy, rfl⟩ := Option.map_eq_some_iff.mp e
      simp [fillN, seqS, thaw, s_at_one_scale, hx, hy, tgT, dropOwn, bop, bSub, sDec, decOf]
    · first | exact nn e | cases e
noncomputable def s_dec_times : List D → Option D
  | [.dec x p, b] => if p = 0 ∧ -1000000000000 ≤ x ∧ x ≤ 1000000000000 then (whole b).map fun y => .dec (x * y) 0 else none
  | _ => none
theorem dec_times_ok {c : Cx} : RCon c 4 13 96 s_dec_times := by
  refine' RCon.spec_le (rcon_def (nd := 3) (nu := 10) (nm := ["self", "other", "factor"]) (np := 2) (fill := fillN 2) ?ho ?hcd (bind_n ?hb) ?K ?h) ?spec
  case ho => k_is
  case hcd => k_is
  case K => exact ⟨⟨by decide, by decide, by decide⟩, by decide, by decide, by decide, rfl, rfl, rfl⟩
  case hb => intro s vs h; obtain ⟨a0, a1, rfl⟩ := len2 h; exact BindsTo.of_eq rfl
  case h =>
    exact (sl_cons (sx_assign 2 rfl (se_call (decimal_of_ok).weaken rfl (fun _ => by k_is) (fun _ => by k_is) (sa_cons (se_var 1 rfl) sa_nil)) (fun _ => rfl))
      (sl_cons (sx_ret (se_call (rcon_dec (nd := 0) (nu := 0)).weaken rfl (fun _ => by k_is) (fun _ => by k_is) (sa_cons (se_bin (se_attr pTop (se_var 0 rfl) pTop_ok) (se_attr pTop (se_var 2 rfl) pTop_ok)) (sa_cons (se_bin (se_attr pPlaces (se_var 0 rfl) pPlaces_ok) (se_attr pPlaces (se_var 2 rfl) pPlaces_ok)) sa_nil))))
      sl_nil))
  case spec =>
    intro ds d e
    unfold s_dec_times at e
    split at e
    · rename_i x p b
      split at e
      · rename_i h
        obtain ⟨rfl, h1, h2⟩ := h
        obtain ⟨y, hy, rfl⟩ := Option.map_eq_some_iff.mp e
        have := whole_inv hy
        simp [fillN, seqS, thaw, s_decimal_of, this, pTop, pPlaces, bop, bMul, bAdd_i, bAdd_s, bAdd_t, bAdd_l, mulOk, h1, h2, sDec, decOf, dropOwn]
      · first | exact nn e | cases e
    · first | exact nn e | cases e
noncomputable def s_dec_compared : List D → Option D
  | [a, b] => (whole a).bind fun x => (whole b).map fun y => .int (if x - y = 0 then 0 else if x - y > 0 then 1 else -1)
  | _ => none
theorem dec_compared_ok {c : Cx} : RCon c 5 16 110 s_dec_compared := by
  refine' RCon.spec_le (rcon_def (nd := 4) (nu := 13) (nm := ["self", "other", "one", "two", "places"]) (np := 2) (fill := fillN 2) ?ho ?hcd (bind_n ?hb) ?K ?h) ?spec
  case ho => k_is
  case hcd => k_is
  case K => exact ⟨⟨by decide, by decide, by decide⟩, by decide, by decide, by decide, rfl, rfl, rfl⟩
  case hb => intro s vs h; obtain ⟨a0, a1, rfl⟩ := len2 h; exact BindsTo.of_eq rfl
  case h =>
    exact (sl_cons (sx_unpack (tgt_three 2 3 4 rfl rfl rfl) (se_call (at_one_scale_ok).weaken rfl (fun _ => by k_is) (fun _ => by k_is) (sa_cons (se_var 0 rfl) (sa_cons (se_var 1 rfl) sa_nil))))
      (sl_cons (sx_ret (se_call (sign_of_ok).weaken rfl (fun _ => by k_is) (fun _ => by k_is) (sa_cons (se_bin (se_var 2 rfl) (se_var 3 rfl)) sa_nil)))
      sl_nil))
  case spec =>
    intro ds d e
    unfold s_dec_compared at e
    split at e
    · rename_i a b
      obtain ⟨x, hx, e⟩ := Option.bind_eq_some_iff.mp e
      obtain ⟨y, hy, rfl⟩ := Option.map_eq_some_iff.mp e
      simp [fillN, seqS, thaw, s_at_one_scale, hx, hy, tgT, dropOwn, bop, bSub, s_sign_of]
    · first | exact nn e | cases e
noncomputable def s_pair_of : List D → Option D
  | [x, y] => (asDec x).bind fun a => (asDec y).map fun b => .tup [a, b]
  | _ => none
theorem pair_of_ok {c : Cx} : RCon c 4 13 232 s_pair_of := by
  refine' RCon.spec_le (rcon_def (nd := 3) (nu := 10) (nm := ["x", "y"]) (np := 2) (fill := fillN 2) ?ho ?hcd (bind_n ?hb) ?K ?h) ?spec
  case ho => k_is
  case hcd => k_is
  case K => exact ⟨⟨by decide, by decide, by decide⟩, by decide, by decide, by decide, rfl, rfl, rfl⟩
  case hb => intro s vs h; obtain ⟨a0, a1, rfl⟩ := len2 h; exact BindsTo.of_eq rfl
  case h =>
    exact (sl_cons (sx_ret (se_tup (sa_cons (se_call (decimal_of_ok).weaken rfl (fun _ => by k_is) (fun _ => by k_is) (sa_cons (se_var 0 rfl) sa_nil)) (sa_cons (se_call (decimal_of_ok).weaken rfl (fun _ => by k_is) (fun _ => by k_is) (sa_cons (se_var 1 rfl) sa_nil)) sa_nil))))
      sl_nil)
  case spec =>
    intro ds d e
    unfold s_pair_of at e
    split at e
    · rename_i a b
      obtain ⟨x, hx, e⟩ := Option.bind_eq_some_iff.mp e
      obtain ⟨y, hy, rfl⟩ := Option.map_eq_some_iff.mp e
      simp [fillN, seqS, thaw, s_decimal_of, hx, hy]
    · first | exact nn e | cases e
end Mine

namespace Mine
open PySem PySem.W PySem.Calls PySem.SeqAt PyProof.Rows

theorem bidxL_last (ds : List D) : bidxL ds (.int (-1)) = ds.getLast? := by
  unfold bidxL
  have h : (-1000 : Int) ≤ -1 ∧ (-1 : Int) ≤ 1000 := by decide
  simp only [h, and_self, if_true]
  cases ds with
  | nil => rfl
  | cons a r =>
    have : seqIndex? (-1) (a :: r).length = some r.length := by
      unfold seqIndex?
      simp only [List.length_cons]
      have h1 : (-1 : Int) < 0 := by decide
      have h2 : decide ((0 : Int) ≤ -1 + ↑(r.length + 1)) = true := by simp; omega
      have h3 : decide ((-1 : Int) + ↑(r.length + 1) < ↑(r.length + 1)) = true := by simp; omega
      rw [if_pos h1]
      rw [h2, h3]
      simp
      omega
    rw [this]
    simp [List.getLast?_eq_getElem?]
theorem bidxL_nat (ds : List D) (k : Nat) (hk : k ≤ 1000) : bidxL ds (.int (k : Int)) = ds[k]? := by
  unfold bidxL
  have h : (-1000 : Int) ≤ (k : Int) ∧ (k : Int) ≤ 1000 := by omega
  simp only [h, and_self, if_true]
  unfold seqIndex?
  have h1 : ¬ ((k : Int) < 0) := by omega
  simp only [h1, if_false]
  by_cases hl : k < ds.length
  · have h2 : decide ((0 : Int) ≤ (k : Int)) = true := by simp
    have h3 : decide ((k : Int) < (ds.length : Int)) = true := by simp; omega
    rw [h2, h3]; simp
  · have h3 : decide ((k : Int) < (ds.length : Int)) = false := by simp; omega
    rw [h3]
    simp
    omega
theorem bidxL_0 (ds : List D) : bidxL ds (.int 0) = ds[0]? := bidxL_nat ds 0 (by decide)
theorem bidxL_1 (ds : List D) : bidxL ds (.int 1) = ds[1]? := bidxL_nat ds 1 (by decide)
theorem bidxL_2 (ds : List D) : bidxL ds (.int 2) = ds[2]? := bidxL_nat ds 2 (by decide)
theorem bidxL_3 (ds : List D) : bidxL ds (.int 3) = ds[3]? := bidxL_nat ds 3 (by decide)

noncomputable def s_is_shut : List D → Option D
  | [.tup segs] => match segs.getLast? with
    | some (.tup (.str k :: _)) => some (.bool (decide (k = Str.ofString "close")))
    | _ => none
  | _ => none
theorem is_shut_ok {c : Cx} : RCon c 1 3 239 s_is_shut := by
  refine' RCon.spec_le (rcon_def (nd := 0) (nu := 0) (nm := ["part"]) (np := 1) (fill := fillN 1) ?ho ?hcd (bind_n ?hb) ?K ?h) ?spec
  case ho => k_is
  case hcd => k_is
  case K => exact ⟨⟨by decide, by decide, by decide⟩, by decide, by decide, by decide, rfl, rfl, rfl⟩
  case hb => intro s vs h; obtain ⟨a0, rfl⟩ := len1 h; exact BindsTo.of_eq rfl
  case h =>
    exact (sl_cons (sx_ret (se_cmp (se_idx (se_idx (se_var 0 rfl) (se_neg se_int)) se_int) se_str))
      sl_nil)
  case spec =>
    intro ds d e
    unfold s_is_shut at e
    split at e
    · rename_i segs
      split at e
      · rename_i k es h
        cases e
        simp [fillN, seqS, thaw, bidx, bidxL_last, bidxL_0, h, bcmp, cEq]
      · first | exact nn e | cases e
    · first | exact nn e | cases e

/-- the segments of the last part, where that is open -/
noncomputable def openSegs (parts : List D) : Option (List D × List D) := match parts.getLast? with
  | some (.tup segs) => match segs.getLast? with
    | some (.tup [.str k, .tup pt]) => if k = Str.ofString "close" then none else some (segs, pt)
    | _ => none
  | _ => none
theorem openSegs_inv {parts segs pt : List D} (h : openSegs parts = some (segs, pt)) : parts ≠ [] ∧ parts.getLast? = some (.tup segs) ∧ ∃ k, segs.getLast? = some (.tup [.str k, .tup pt]) ∧ ¬ k = Str.ofString "close" := by
  unfold openSegs at h
  split at h
  · rename_i segs' h1
    split at h
    · rename_i k pt' h2
      split at h
      · first | exact nn h | cases h
      · first | exact nn h | cases h
        rename_i h3
        exact ⟨(by rintro rfl; cases h1), h1, k, h2, h3⟩
    · first | exact nn h | cases h
  · first | exact nn h | cases h
noncomputable def s_current_point : List D → Option D
  | [.path (.tup parts)] => (openSegs parts).map fun x => .tup x.2
  | _ => none
theorem current_point_ok {c : Cx} : RCon c 2 6 246 s_current_point := by
  refine' RCon.spec_le (rcon_def (nd := 1) (nu := 3) (nm := ["path", "part"]) (np := 1) (fill := fillN 1) ?ho ?hcd (bind_n ?hb) ?K ?h) ?spec
  case ho => k_is
  case hcd => k_is
  case K => exact ⟨⟨by decide, by decide, by decide⟩, by decide, by decide, by decide, rfl, rfl, rfl⟩
  case hb => intro s vs h; obtain ⟨a0, rfl⟩ := len1 h; exact BindsTo.of_eq rfl
  case h =>
    exact (sl_cons (sx_if (st_cmp (se_attr pParts (se_var 0 rfl) pParts_ok) (se_tup sa_nil)) (sl_cons (sx_ret se_none)
      sl_nil) sl_nil)
      (sl_cons (sx_assign 1 rfl (se_idx (se_attr pParts (se_var 0 rfl) pParts_ok) (se_neg se_int)) (fun _ => rfl))
      (sl_cons (sx_if (st_val (se_call (is_shut_ok).weaken rfl (fun _ => by k_is) (fun _ => by k_is) (sa_cons (se_var 1 rfl) sa_nil))) sl_dead sl_nil)
      (sl_cons (sx_ret (se_idx (se_idx (se_var 1 rfl) (se_neg se_int)) (se_neg se_int)))
      sl_nil))))
  case spec =>
    intro ds d e
    unfold s_current_point at e
    split at e
    · rename_i parts
      obtain ⟨⟨segs, pt⟩, h, rfl⟩ := Option.map_eq_some_iff.mp e
      obtain ⟨h0, h1, k, h2, h3⟩ := openSegs_inv h
      simp [fillN, seqS, thaw, bidx, bidxL_last, bidxL_0, h0, h1, h2, h3, bcmp, cEq, tupNil, pParts, s_is_shut, dropOwn]
    · first | exact nn e | cases e

/-- a part may be begun behind these -/
noncomputable def canMove (parts : List D) : Bool := parts.isEmpty || match parts.getLast? with
  | some (.tup segs) => decide (segs.length ≠ 1 ∧ segs.length ≤ 1000)
  | _ => false
noncomputable def s_move_to : List D → Option D
  | [.path (.tup parts), x, y] => (asDec x).bind fun a => (asDec y).bind fun b => if canMove parts = true ∧ parts.length ≤ 900 then some (.path (.tup (parts ++ [.tup [.tup [.str (Str.ofString "move"), .tup [a, b]]]]))) else none
  | _ => none
theorem s_move_to_at {parts : List D} {x y : D} : s_move_to [.path (.tup parts), x, y] = (asDec x).bind fun a => (asDec y).bind fun b => if canMove parts = true ∧ parts.length ≤ 900 then some (.path (.tup (parts ++ [.tup [.tup [.str (Str.ofString "move"), .tup [a, b]]]]))) else none := rfl
theorem s_move_to_shape {P : List D → Prop} {xx : List D} {r : _} (e : s_move_to xx = some r) (q0 : ∀ parts x y, P [(.path (.tup parts)), x, y]) : P xx := by
  cases xx with
  | nil => exact nn e
  | cons h1 t2 =>
    cases h1 with
    | path x3 =>
      cases x3 with
      | tup x4 =>
        cases t2 with
        | nil => exact nn e
        | cons h5 t6 =>
          cases t6 with
          | nil => exact nn e
          | cons h7 t8 =>
            cases t8 with
            | nil =>
              exact q0 x4 h5 h7
            | cons _ _ => exact nn e
      | _ => exact nn e
    | _ => exact nn e
theorem move_to_ok {c : Cx} : RCon c 5 16 253 s_move_to := by
  refine' RCon.spec_le (rcon_def (nd := 4) (nu := 13) (nm := ["path", "x", "y", "parts"]) (np := 3) (fill := fillN 3) ?ho ?hcd (bind_n ?hb) ?K ?h) ?spec
  case ho => k_is
  case hcd => k_is
  case K => exact ⟨⟨by decide, by decide, by decide⟩, by decide, by decide, by decide, rfl, rfl, rfl⟩
  case hb => intro s vs h; obtain ⟨a0, a1, a2, rfl⟩ := len3 h; exact BindsTo.of_eq rfl
  case h =>
    exact (sl_cons (sx_assign 3 rfl (se_attr pParts (se_var 0 rfl) pParts_ok) (fun _ => rfl))
      (sl_cons (sx_if (st_and (st_cmp (se_var 3 rfl) (se_tup sa_nil)) (st_cmp (se_bfun len_ok rfl (fun _ => by k_is) boot_len (by decide) (sa_cons (se_idx (se_var 3 rfl) (se_neg se_int)) sa_nil)) se_int)) sl_dead sl_nil)
      (sl_cons (sx_ret (se_call (rcon_path (nd := 0) (nu := 0)).weaken rfl (fun _ => by k_is) (fun _ => by k_is) (sa_cons (se_bin (se_var 3 rfl) (se_tup (sa_cons (se_tup (sa_cons (se_tup (sa_cons se_str (sa_cons (se_call (pair_of_ok).weaken rfl (fun _ => by k_is) (fun _ => by k_is) (sa_cons (se_var 1 rfl) (sa_cons (se_var 2 rfl) sa_nil))) sa_nil))) sa_nil)) sa_nil))) sa_nil)))
      sl_nil)))
  case spec =>
    intro ds d e
    refine s_move_to_shape (P := fun y => ds = y → _) e ?_ rfl
    rintro parts x y rfl
    · obtain ⟨a, ha, e⟩ := Option.bind_eq_some_iff.mp e
      obtain ⟨b, hb, e⟩ := Option.bind_eq_some_iff.mp e
      split at e
      · rename_i h
        obtain ⟨hc, hl⟩ := h
        cases e
        have hl' : parts.length + 1 ≤ 1000 := by omega
        have hp : s_pair_of [x, y] = some (.tup [a, b]) := by simp [s_pair_of, ha, hb]
        cases parts with
        | nil => simp [fillN, seqS, thaw, bcmp, cNe, tupNil, pParts, dropOwn, hp, bop, bAdd_i, bAdd_s, bAdd_t, bAdd_l, sPath]
        | cons q r =>
          simp only [canMove, List.isEmpty_cons, Bool.false_or] at hc
          split at hc
          · rename_i segs hs
            obtain ⟨h1, h2⟩ := of_decide_eq_true hc
            have h1' : ¬ ((segs.length : Int) = 1) := by omega
            have hr : r.length ≤ 998 := by rw [List.length_cons] at hl; omega
            simp [fillN, seqS, thaw, bcmp, cNe, cEq, tupNil, pParts, dropOwn, hp, bop, bAdd_i, bAdd_s, bAdd_t, bAdd_l, sPath, bidx, bidxL_last, hs, bLen_t, bLen_l, bLen_s, h1, h1', h2, hr]
          · first | exact nn hc | cases hc
      · first | exact nn e | cases e

noncomputable def s_path_with : List D → Option D
  | [.path (.tup parts), seg] => (openSegs parts).bind fun x => if parts.length ≤ 900 ∧ x.1.length ≤ 900 then some (.path (.tup (parts.dropLast ++ [.tup (x.1 ++ [seg])]))) else none
  | _ => none
theorem path_with_ok {c : Cx} : RCon c 3 10 260 s_path_with := by
  refine' RCon.spec_le (rcon_def (nd := 2) (nu := 7) (nm := ["path", "segment", "start", "part"]) (np := 2) (fill := fillN 2) ?ho ?hcd (bind_n ?hb) ?K ?h) ?spec
  case ho => k_is
  case hcd => k_is
  case K => exact ⟨⟨by decide, by decide, by decide⟩, by decide, by decide, by decide, rfl, rfl, rfl⟩
  case hb => intro s vs h; obtain ⟨a0, a1, rfl⟩ := len2 h; exact BindsTo.of_eq rfl
  case h =>
    exact (sl_cons (sx_assign 2 rfl (se_call (current_point_ok).weaken rfl (fun _ => by k_is) (fun _ => by k_is) (sa_cons (se_var 0 rfl) sa_nil)) (fun _ => rfl))
      (sl_cons (sx_if (st_cmp (se_var 2 rfl) se_none) (sl_cons sx_dead
      sl_nil) sl_nil)
      (sl_cons (sx_assign 3 rfl (se_idx (se_attr pParts (se_var 0 rfl) pParts_ok) (se_neg se_int)) (fun _ => rfl))
      (sl_cons (sx_if (st_val (se_call (is_shut_ok).weaken rfl (fun _ => by k_is) (fun _ => by k_is) (sa_cons (se_var 3 rfl) sa_nil))) sl_dead sl_nil)
      (sl_cons (sx_ret (se_call (rcon_path (nd := 0) (nu := 0)).weaken rfl (fun _ => by k_is) (fun _ => by k_is) (sa_cons (se_bin (se_upto (se_attr pParts (se_var 0 rfl) pParts_ok) (se_neg se_int)) (se_tup (sa_cons (se_bin (se_var 3 rfl) (se_tup (sa_cons (se_var 1 rfl) sa_nil))) sa_nil))) sa_nil)))
      sl_nil)))))
  case spec =>
    intro ds d e
    unfold s_path_with at e
    split at e
    · rename_i parts seg
      obtain ⟨⟨segs, pt⟩, h, e⟩ := Option.bind_eq_some_iff.mp e
      split at e
      · rename_i hl
        obtain ⟨hl1, hl2⟩ := hl
        cases e
        obtain ⟨h0, h1, k, h2, h3⟩ := openSegs_inv h
        have hl3 : parts.length ≤ 1000 := by omega
        have hl4 : segs.length + 1 ≤ 1000 := by dsimp only at hl2; omega
        have hl5 : parts.length - 1 + 1 ≤ 1000 := by omega
        simp [fillN, seqS, thaw, bidx, bidxL_last, bidxL_0, h, h0, h1, h2, h3, bcmp, cIs, pParts, s_is_shut, s_current_point, dropOwn, sUpto, hl3, bop, bAdd_i, bAdd_s, bAdd_t, bAdd_l, hl4, hl5, sPath]
      · first | exact nn e | cases e
    · first | exact nn e | cases e
noncomputable def s_line_to : List D → Option D
  | [p, x, y] => (asDec x).bind fun a => (asDec y).bind fun b => s_path_with [p, .tup [.str (Str.ofString "line"), .tup [a, b]]]
  | _ => none
theorem line_to_ok {c : Cx} : RCon c 5 16 267 s_line_to := by
  refine' RCon.spec_le (rcon_def (nd := 4) (nu := 13) (nm := ["path", "x", "y"]) (np := 3) (fill := fillN 3) ?ho ?hcd (bind_n ?hb) ?K ?h) ?spec
  case ho => k_is
  case hcd => k_is
  case K => exact ⟨⟨by decide, by decide, by decide⟩, by decide, by decide, by decide, rfl, rfl, rfl⟩
  case hb => intro s vs h; obtain ⟨a0, a1, a2, rfl⟩ := len3 h; exact BindsTo.of_eq rfl
  case h =>
    exact (sl_cons (sx_ret (se_call (path_with_ok).weaken rfl (fun _ => by k_is) (fun _ => by k_is) (sa_cons (se_var 0 rfl) (sa_cons (se_tup (sa_cons se_str (sa_cons (se_call (pair_of_ok).weaken rfl (fun _ => by k_is) (fun _ => by k_is) (sa_cons (se_var 1 rfl) (sa_cons (se_var 2 rfl) sa_nil))) sa_nil))) sa_nil))))
      sl_nil)
  case spec =>
    intro ds d e
    unfold s_line_to at e
    split at e
    · rename_i p x y
      obtain ⟨a, ha, e⟩ := Option.bind_eq_some_iff.mp e
      obtain ⟨b, hb, e⟩ := Option.bind_eq_some_iff.mp e
      simp [fillN, seqS, thaw, s_pair_of, ha, hb, e]
    · first | exact nn e | cases e
noncomputable def s_close_path : List D → Option D
  | [.path (.tup parts)] => (openSegs parts).bind fun x => if parts.length ≤ 900 ∧ x.1.length ≤ 900 then some (.path (.tup (parts.dropLast ++ [.tup (x.1 ++ [.tup [.str (Str.ofString "close")]])]))) else none
  | _ => none
theorem close_path_ok {c : Cx} : RCon c 3 10 274 s_close_path := by
  refine' RCon.spec_le (rcon_def (nd := 2) (nu := 7) (nm := ["path", "part"]) (np := 1) (fill := fillN 1) ?ho ?hcd (bind_n ?hb) ?K ?h) ?spec
  case ho => k_is
  case hcd => k_is
  case K => exact ⟨⟨by decide, by decide, by decide⟩, by decide, by decide, by decide, rfl, rfl, rfl⟩
  case hb => intro s vs h; obtain ⟨a0, rfl⟩ := len1 h; exact BindsTo.of_eq rfl
  case h =>
    exact (sl_cons (sx_if (st_cmp (se_attr pParts (se_var 0 rfl) pParts_ok) (se_tup sa_nil)) (sl_cons sx_dead
      sl_nil) sl_nil)
      (sl_cons (sx_assign 1 rfl (se_idx (se_attr pParts (se_var 0 rfl) pParts_ok) (se_neg se_int)) (fun _ => rfl))
      (sl_cons (sx_if (st_val (se_call (is_shut_ok).weaken rfl (fun _ => by k_is) (fun _ => by k_is) (sa_cons (se_var 1 rfl) sa_nil))) sl_dead sl_nil)
      (sl_cons (sx_ret (se_call (rcon_path (nd := 0) (nu := 0)).weaken rfl (fun _ => by k_is) (fun _ => by k_is) (sa_cons (se_bin (se_upto (se_attr pParts (se_var 0 rfl) pParts_ok) (se_neg se_int)) (se_tup (sa_cons (se_bin (se_var 1 rfl) (se_tup (sa_cons (se_tup (sa_cons se_str sa_nil)) sa_nil))) sa_nil))) sa_nil)))
      sl_nil))))
  case spec =>
    intro ds d e
    unfold s_close_path at e
    split at e
    · rename_i parts
      obtain ⟨⟨segs, pt⟩, h, e⟩ := Option.bind_eq_some_iff.mp e
      split at e
      · rename_i hl
        obtain ⟨hl1, hl2⟩ := hl
        cases e
        obtain ⟨h0, h1, k, h2, h3⟩ := openSegs_inv h
        have hl3 : parts.length ≤ 1000 := by omega
        have hl4 : segs.length + 1 ≤ 1000 := by dsimp only at hl2; omega
        have hl5 : parts.length - 1 + 1 ≤ 1000 := by omega
        simp [fillN, seqS, thaw, bidx, bidxL_last, bidxL_0, h, h0, h1, h2, h3, bcmp, cEq, tupNil, pParts, s_is_shut, dropOwn, sUpto, hl3, bop, bAdd_i, bAdd_s, bAdd_t, bAdd_l, hl4, hl5, sPath]
      · first | exact nn e | cases e
    · first | exact nn e | cases e
noncomputable def s_joined_paths : List D → Option D
  | [.path (.tup a), .path (.tup b)] => if a.length + b.length ≤ 1000 then some (.path (.tup (a ++ b))) else none
  | _ => none
theorem s_joined_paths_shape {P : List D → Prop} {xx : List D} {r : _} (e : s_joined_paths xx = some r) (q0 : ∀ a b, P [(.path (.tup a)), (.path (.tup b))]) : P xx := by
  cases xx with
  | nil => exact nn e
  | cons h1 t2 =>
    cases h1 with
    | path x3 =>
      cases x3 with
      | tup x4 =>
        cases t2 with
        | nil => exact nn e
        | cons h5 t6 =>
          cases h5 with
          | path x7 =>
            cases x7 with
            | tup x8 =>
              cases t6 with
              | nil =>
                exact q0 x4 x8
              | cons _ _ => exact nn e
            | _ => exact nn e
          | _ => exact nn e
      | _ => exact nn e
    | _ => exact nn e
theorem joined_paths_ok {c : Cx} : RCon c 3 10 288 s_joined_paths := by
  refine' RCon.spec_le (rcon_def (nd := 2) (nu := 7) (nm := ["one", "other"]) (np := 2) (fill := fillN 2) ?ho ?hcd (bind_n ?hb) ?K ?h) ?spec
  case ho => k_is
  case hcd => k_is
  case K => exact ⟨⟨by decide, by decide, by decide⟩, by decide, by decide, by decide, rfl, rfl, rfl⟩
  case hb => intro s vs h; obtain ⟨a0, a1, rfl⟩ := len2 h; exact BindsTo.of_eq rfl
  case h =>
    exact (sl_cons (sx_ret (se_call (rcon_path (nd := 0) (nu := 0)).weaken rfl (fun _ => by k_is) (fun _ => by k_is) (sa_cons (se_bin (se_attr pParts (se_var 0 rfl) pParts_ok) (se_attr pParts (se_var 1 rfl) pParts_ok)) sa_nil)))
      sl_nil)
  case spec =>
    intro ds d e
    refine s_joined_paths_shape (P := fun y => ds = y → _) e ?_ rfl
    rintro a b rfl
    unfold s_joined_paths at e
    dsimp only at e
    · split at e
      · rename_i h
        cases e
        simp [fillN, seqS, thaw, pParts, bop, bAdd_i, bAdd_s, bAdd_t, bAdd_l, h, sPath]
      · first | exact nn e | cases e
noncomputable def rectPts (l b w h : Int) : D :=
  .path (.tup [.tup [.tup [.str (Str.ofString "move"), .tup [.dec l 0, .dec b 0]], .tup [.str (Str.ofString "line"), .tup [.dec (l + w) 0, .dec b 0]], .tup [.str (Str.ofString "line"), .tup [.dec (l + w) 0, .dec (b + h) 0]],
    .tup [.str (Str.ofString "line"), .tup [.dec l 0, .dec (b + h) 0]], .tup [.str (Str.ofString "close")]]])
noncomputable def s_rectangle : List D → Option D
  | [.path (.tup []), .int l, .int b, .int w, .int h] => some (rectPts l b w h)
  | _ => none
theorem s_rectangle_shape {P : List D → Prop} {xx : List D} {r : _} (e : s_rectangle xx = some r) (q0 : ∀ l b w h, P [(.path (.tup [])), (.int l), (.int b), (.int w), (.int h)]) : P xx := by
  cases xx with
  | nil => exact nn e
  | cons h1 t2 =>
    cases h1 with
    | path x3 =>
      cases x3 with
      | tup x4 =>
        cases x4 with
        | nil =>
          cases t2 with
          | nil => exact nn e
          | cons h5 t6 =>
            cases h5 with
            | int x7 =>
              cases t6 with
              | nil => exact nn e
              | cons h8 t9 =>
                cases h8 with
                | int x10 =>
                  cases t9 with
                  | nil => exact nn e
                  | cons h11 t12 =>
                    cases h11 with
                    | int x13 =>
                      cases t12 with
                      | nil => exact nn e
                      | cons h14 t15 =>
                        cases h14 with
                        | int x16 =>
                          cases t15 with
                          | nil =>
                            exact q0 x7 x10 x13 x16
                          | cons _ _ => exact nn e
                        | _ => exact nn e
                    | _ => exact nn e
                | _ => exact nn e
            | _ => exact nn e
        | cons _ _ => exact nn e
      | _ => exact nn e
    | _ => exact nn e
theorem rectangle_ok {c : Cx} : RCon c 6 19 281 s_rectangle := by
  refine' RCon.spec_le (rcon_def (nd := 5) (nu := 16) (nm := ["path", "x", "y", "width", "height", "left", "low", "right", "high", "corner"]) (np := 5) (fill := fillN 5) ?ho ?hcd (bind_n ?hb) ?K ?h) ?spec
  case ho => k_is
  case hcd => k_is
  case K => exact ⟨⟨by decide, by decide, by decide⟩, by decide, by decide, by decide, rfl, rfl, rfl⟩
  case hb => intro s vs h; obtain ⟨a0, a1, a2, a3, a4, rfl⟩ := len5 h; exact BindsTo.of_eq rfl
  case h =>
    exact (sl_cons (sx_unpack (tgt_pair 5 6 rfl rfl) (se_call (pair_of_ok).weaken rfl (fun _ => by k_is) (fun _ => by k_is) (sa_cons (se_var 1 rfl) (sa_cons (se_var 2 rfl) sa_nil))))
      (sl_cons (sx_assign 7 rfl (se_meth (dec_plus_ok).weaken (se_var 5 rfl) (sa_cons (se_var 3 rfl) sa_nil) (fun _ => by k_is) (fun _ => by k_is) (fun _ => by k_is) (fun _ => by k_is) (fun _ _ _ _ _ => rfl) (fun _ => by k_is) (fun _ => ⟨_, rfl⟩)) (fun _ => rfl))
      (sl_cons (sx_assign 8 rfl (se_meth (dec_plus_ok).weaken (se_var 6 rfl) (sa_cons (se_var 4 rfl) sa_nil) (fun _ => by k_is) (fun _ => by k_is) (fun _ => by k_is) (fun _ => by k_is) (fun _ _ _ _ _ => rfl) (fun _ => by k_is) (fun _ => ⟨_, rfl⟩)) (fun _ => rfl))
      (sl_cons (sx_assign 0 rfl (se_call (move_to_ok).weaken rfl (fun _ => by k_is) (fun _ => by k_is) (sa_cons (se_var 0 rfl) (sa_cons (se_var 5 rfl) (sa_cons (se_var 6 rfl) sa_nil)))) (fun _ => rfl))
      (sl_cons (sx_for (tgt_name 9 rfl) (si_seq (se_tup (sa_cons (se_tup (sa_cons (se_var 7 rfl) (sa_cons (se_var 6 rfl) sa_nil))) (sa_cons (se_tup (sa_cons (se_var 7 rfl) (sa_cons (se_var 8 rfl) sa_nil))) (sa_cons (se_tup (sa_cons (se_var 5 rfl) (sa_cons (se_var 8 rfl) sa_nil))) sa_nil))))) (sl_cons (sx_assign 0 rfl (se_call (line_to_ok).weaken rfl (fun _ => by k_is) (fun _ => by k_is) (sa_cons (se_var 0 rfl) (sa_cons (se_idx (se_var 9 rfl) se_int) (sa_cons (se_idx (se_var 9 rfl) se_int) sa_nil)))) (fun _ => rfl))
      sl_nil))
      (sl_cons (sx_ret (se_call (close_path_ok).weaken rfl (fun _ => by k_is) (fun _ => by k_is) (sa_cons (se_var 0 rfl) sa_nil)))
      sl_nil))))))
  case spec =>
    intro ds d e
    refine s_rectangle_shape (P := fun y => ds = y → _) e ?_ rfl
    rintro l b w h rfl
    · cases e
      have k1 : ¬ (Str.ofString "move" = Str.ofString "close") := by decide
      have k2 : ¬ (Str.ofString "line" = Str.ofString "close") := by decide
      simp [fillN, seqS, thaw, s_pair_of, asDec, tgP, dropOwn, s_dec_plus, whole, s_move_to_at, canMove, forS, tgN, bidx, bidxL_0, bidxL_1, s_line_to, s_path_with, openSegs, k1, k2, s_close_path, rectPts]
end Mine

namespace Mine
open PySem PySem.W PySem.Calls PySem.SeqAt PyProof.Rows

theorem forS_pre {tg : D → St → Option St} {psi : St → Option (St × Option D)} (R : List D → St → Prop) : ∀ (ds pre : List D) (z : St), R pre z →
    (∀ p d q, pre ++ ds = p ++ d :: q → ∀ z, R p z → ∃ z1 z2, tg d z = some z1 ∧ psi z1 = some (z2, none) ∧ R (p ++ [d]) z2) → ∃ z', forS tg psi ds z = some (z', none) ∧ R (pre ++ ds) z'
  | [], pre, z, h, _ => ⟨z, rfl, by rw [List.append_nil]; exact h⟩
  | d :: r, pre, z, h, st => by
    obtain ⟨z1, z2, e1, e2, h2⟩ := st pre d r rfl z h
    obtain ⟨z', e3, h3⟩ := forS_pre R r (pre ++ [d]) z2 h2 (fun p d' q e z hz => st p d' q (by rw [← e, List.append_assoc]; rfl) z hz)
    refine ⟨z', ?_, by rw [List.append_assoc] at h3; exact h3⟩
    simp only [forS, e1, e2, Option.bind_some, e3]
theorem forS_all {tg : D → St → Option St} {psi : St → Option (St × Option D)} (R : List D → St → Prop) {ds : List D} {z : St} (h : R [] z)
    (st : ∀ p d q, ds = p ++ d :: q → ∀ z, R p z → ∃ z1 z2, tg d z = some z1 ∧ psi z1 = some (z2, none) ∧ R (p ++ [d]) z2) : ∃ z', forS tg psi ds z = some (z', none) ∧ R ds z' := by
  obtain ⟨z', a, b⟩ := forS_pre R ds [] z h (fun p d q e => st p d q e)
  exact ⟨z', a, b⟩
theorem compL_map {f : D → Option (Option D)} {g : D → D} : ∀ {ds : List D}, (∀ d ∈ ds, f d = some (some (g d))) → compL f ds = some (ds.map g)
  | [], _ => rfl
  | d :: r, h => by
    simp only [compL, h d List.mem_cons_self, compL_map fun x hx => h x (List.mem_cons_of_mem _ hx), Option.bind_some, Option.map_some, List.map_cons]
theorem compL_congr {f g : D → Option (Option D)} : ∀ {ds : List D}, (∀ d ∈ ds, ∀ r, g d = some r → f d = some r) → ∀ {es : List D}, compL g ds = some es → compL f ds = some es
  | [], _, _, e => e
  | d :: r, h, es, e => by
    obtain ⟨o, e1, e2⟩ := Option.bind_eq_some_iff.mp e
    obtain ⟨l, e3, e4⟩ := Option.map_eq_some_iff.mp e2
    simp only [compL, h d List.mem_cons_self _ e1, compL_congr (fun x hx => h x (List.mem_cons_of_mem _ hx)) e3, Option.bind_some, Option.map_some, e4]
theorem compL_snoc {f : D → Option (Option D)} {d : D} : ∀ {ds es : List D} {o : Option D}, compL f ds = some es → f d = some o → compL f (ds ++ [d]) = some (es ++ o.toList)
  | [], es, o, e, h => by cases e; cases o <;> simp [compL, h]
  | x :: r, es, o, e, h => by
    obtain ⟨o', e1, e2⟩ := Option.bind_eq_some_iff.mp e
    obtain ⟨l, e3, rfl⟩ := Option.map_eq_some_iff.mp e2
    have := compL_snoc e3 h
    cases o' <;> simp [compL, e1, this]
theorem compL_pre {f : D → Option (Option D)} : ∀ {p q es : List D}, compL f (p ++ q) = some es → ∃ a b, compL f p = some a ∧ compL f q = some b ∧ es = a ++ b
  | [], q, es, e => ⟨[], es, rfl, e, rfl⟩
  | x :: r, q, es, e => by
    obtain ⟨o', e1, e2⟩ := Option.bind_eq_some_iff.mp e
    obtain ⟨l, e3, rfl⟩ := Option.map_eq_some_iff.mp e2
    obtain ⟨a, b, e4, e5, rfl⟩ := compL_pre e3
    cases o' with
    | none => exact ⟨a, b, by simp [compL, e1, e4], e5, rfl⟩
    | some y => exact ⟨y :: a, b, by simp [compL, e1, e4], e5, rfl⟩
theorem compL_len {f : D → Option (Option D)} : ∀ {ds es : List D}, compL f ds = some es → es.length ≤ ds.length
  | [], es, e => by cases e; exact Nat.le_refl _
  | x :: r, es, e => by
    obtain ⟨o', e1, e2⟩ := Option.bind_eq_some_iff.mp e
    obtain ⟨l, e3, rfl⟩ := Option.map_eq_some_iff.mp e2
    have := compL_len e3
    cases o' <;> simp <;> omega

theorem compS_map {iphi : Vars → Option (List D)} {split : D → Option (List D)} {fr : List Nat} {tau : Vars → Option Bool} {phi : Vars → Option D} {G : Vars} {ds : List D} {g : D → D}
    (hi : iphi G = some ds) (hl : ds.length ≤ 1000) (h : ∀ d ∈ ds, compF split fr tau phi G d = some (some (g d))) : compS iphi split fr tau phi G = some (.lst (ds.map g)) := by
  unfold compS
  rw [hi]
  simp only [Option.bind_some, hl, if_true, compL_map h, Option.map_some]
theorem compS_L {iphi : Vars → Option (List D)} {split : D → Option (List D)} {fr : List Nat} {tau : Vars → Option Bool} {phi : Vars → Option D} {G : Vars} {ds es : List D} {f : D → Option (Option D)}
    (hi : iphi G = some ds) (hl : ds.length ≤ 1000) (e : compL f ds = some es) (h : ∀ d ∈ ds, ∀ r, f d = some r → compF split fr tau phi G d = some r) : compS iphi split fr tau phi G = some (.lst es) := by
  unfold compS
  rw [hi]
  simp only [Option.bind_some, hl, if_true, compL_congr h e, Option.map_some]

/-! stepping through a psi -/
noncomputable def Gv (o : Option (St × Option D)) (F : St × Option D → Prop) : Prop := ∃ x, o = some x ∧ F x
section
variable {f g k : St → Option (St × Option D)} {z z1 : St} {F : St × Option D → Prop} {tau : St → Option Bool}
theorem gv_top {fill : List D → Option (List D)} {psi : St → Option (St × Option D)} {ds ds' : List D} {d : D} {n : Nat} (h : fill ds = some ds') (q : Gv (psi (ds'.map some ++ List.replicate n none, none)) (fun x => x.2.getD .none = d)) :
    ((fill ds).bind fun ds' => Option.map (fun x => x.2.getD D.none) (psi (ds'.map some ++ List.replicate n none, none))) = some d := by
  obtain ⟨x, e, rfl⟩ := q
  rw [h]
  simp only [Option.bind_some, e, Option.map_some]
theorem gv_seq (z1 : St) (e : f z = some (z1, none)) (q : Gv (g z1) F) : Gv (seqS f g z) F := by
  obtain ⟨x, ex, hx⟩ := q
  exact ⟨x, by simp only [seqS, e, Option.bind_some, ex], hx⟩
theorem gv_ret {r : D} (z1 : St) (e : f z = some (z1, some r)) (q : F (z1, some r)) : Gv (seqS f g z) F := ⟨_, by simp only [seqS, e, Option.bind_some], q⟩
theorem gv_return {phi : St → Option D} {r : D} (e : phi z = some r) (q : F (thaw z, some r)) : Gv (seqS (fun z => Option.map (fun d => (thaw z, some d)) (phi z)) g z) F := ⟨_, by simp only [seqS, e, Option.map_some, Option.bind_some], q⟩
theorem gv_nil (q : F (z, none)) : Gv (some (z, none)) F := ⟨_, rfl, q⟩
theorem gv_assoc (q : Gv (seqS f (seqS g k) z) F) : Gv (seqS (seqS f g) k z) F := by
  obtain ⟨x, ex, hx⟩ := q
  refine ⟨x, ?_, hx⟩
  rw [← ex]
  simp only [seqS]
  cases f z with
  | none => rfl
  | some y => obtain ⟨y1, y2⟩ := y; cases y2 <;> rfl
theorem gv_unit (q : Gv (k z) F) : Gv (seqS (fun z => some (z, none)) k z) F := q
theorem gv_if (b : Bool) (e : tau z = some b) (q : Gv (seqS (if b then f else g) k z) F) : Gv (seqS (fun z => (tau z).bind fun x => if x then f z else g z) k z) F := by
  obtain ⟨x, ex, hx⟩ := q
  refine ⟨x, ?_, hx⟩
  rw [← ex]
  simp only [seqS, e, Option.bind_some]
  cases b <;> rfl
theorem gv_for {phi : St → Option (List D)} {tg : D → St → Option St} {psi : St → Option (St × Option D)} {ds : List D} (e : phi z = some ds) (R : List D → St → Prop) (h0 : R [] z)
    (st : ∀ p d q, ds = p ++ d :: q → ∀ z, R p z → ∃ z1, tg d z = some z1 ∧ Gv (psi z1) (fun x => x.2 = none ∧ R (p ++ [d]) x.1)) (q : ∀ z', R ds z' → Gv (g z') F) :
    Gv (seqS (fun z => (phi z).bind fun ds => forS tg psi ds z) g z) F := by
  obtain ⟨z', e1, h1⟩ := forS_all (tg := tg) (psi := psi) R h0 (fun p d q e z hz => by
    obtain ⟨z1, a, ⟨z2, r⟩, b, c, d⟩ := st p d q e z hz
    cases c
    exact ⟨z1, z2, a, b, d⟩)
  obtain ⟨x, ex, hx⟩ := q z' h1
  exact ⟨x, by simp only [seqS, e, Option.bind_some, e1, ex], hx⟩
theorem gv_mono {G : St × Option D → Prop} {o : Option (St × Option D)} (h : Gv o F) (m : ∀ x, F x → G x) : Gv o G := let ⟨x, e, q⟩ := h; ⟨x, e, m x q⟩
end

noncomputable def segOK : D → Bool
  | .tup (.str k :: _) => decide (k ≠ Str.ofString "curve")
  | _ => false
noncomputable def partOK : D → Bool
  | .tup segs => segs.all segOK && decide (segs.length ≤ 999)
  | _ => false
theorem partOK_inv {p : D} (h : partOK p = true) : ∃ segs, p = .tup segs ∧ (∀ d ∈ segs, ∃ k es, d = .tup (.str k :: es) ∧ ¬ k = Str.ofString "curve") ∧ segs.length ≤ 999 := by
  unfold partOK at h
  split at h
  · rename_i segs
    rw [Bool.and_eq_true, decide_eq_true_eq] at h
    refine ⟨segs, rfl, fun d hd => ?_, h.2⟩
    have hk := List.all_eq_true.mp h.1 d hd
    unfold segOK at hk
    split at hk
    · exact ⟨_, _, rfl, by simpa using hk⟩
    · first | exact nn hk | cases hk
  · first | exact nn h | cases h
noncomputable def s_flat_part : List D → Option D
  | [p, _] => if partOK p then some p else none
  | _ => none
theorem flat_part_ok {c : Cx} : RCon c 1 3 316 s_flat_part := by
  refine' RCon.spec_le (rcon_def (nd := 0) (nu := 0) (nm := ["part", "depth", "found", "segment", "start", "p"]) (np := 2) (fill := fillN 2) ?ho ?hcd (bind_n ?hb) ?K ?h) ?spec
  case ho => k_is
  case hcd => k_is
  case K => exact ⟨⟨by decide, by decide, by decide⟩, by decide, by decide, by decide, rfl, rfl, rfl⟩
  case hb => intro s vs h; obtain ⟨a0, a1, rfl⟩ := len2 h; exact BindsTo.of_eq rfl
  case h =>
    exact (sl_cons (sx_own 2 rfl rfl)
      (sl_cons (sx_for (tgt_name 3 rfl) (si_seq (se_var 0 rfl)) (sl_cons (sx_if (st_cmp (se_idx (se_var 3 rfl) se_int) se_str) sl_dead (sl_cons (sx_append 2 rfl (se_var 3 rfl))
      sl_nil))
      sl_nil))
      (sl_cons (sx_ret (se_btype tuple_ok rfl (fun _ => by k_is) PyProof.Rows.boot_tuple (by decide) (sa_cons (se_var 2 rfl) sa_nil)))
      sl_nil)))
  case spec =>
    intro ds d e
    unfold s_flat_part at e
    split at e
    · rename_i p dp
      split at e
      · rename_i hp
        cases e
        obtain ⟨segs, rfl, h1, h2⟩ := partOK_inv hp
        refine gv_top rfl ?_
        refine gv_seq ([some (.tup segs), some dp, none, none, none, none], some (2, [])) rfl ?_
        refine gv_for (ds := segs) (by simp) (fun pre z => ∃ u, z = ([some (.tup segs), some dp, none, u, none, none], some (2, pre))) ⟨none, rfl⟩ ?_ ?_
        · rintro p d q e z ⟨u, rfl⟩
          refine ⟨_, rfl, ?_⟩
          obtain ⟨k, es, rfl, hk⟩ := h1 d (by rw [e]; simp)
          have hl : p.length < 1000 := by have := congrArg List.length e; simp at this; omega
          refine gv_if false (by simp [bidx, bidxL_0, bcmp, cEq, hk]) ?_
          refine gv_assoc (gv_seq ([some (.tup segs), some dp, none, some (.tup (.str k :: es)), none, none], some (2, p ++ [.tup (.str k :: es)])) (by simp [appS, hl, dropOwn]) ?_)
          exact gv_unit (gv_nil ⟨rfl, _, rfl⟩)
        · rintro z' ⟨u, rfl⟩
          have h3 : segs.length ≤ 1000 := by omega
          exact gv_return (by simp [thaw, bTup, h3]) rfl
      · first | exact nn e | cases e
    · first | exact nn e | cases e

noncomputable def s_flattened : List D → Option D
  | [.path (.tup parts)] => if parts.all partOK ∧ parts.length ≤ 1000 then some (.path (.tup parts)) else none
  | [.path (.tup parts), .int k] => if k = 3 ∧ parts.all partOK ∧ parts.length ≤ 1000 then some (.path (.tup parts)) else none
  | _ => none
theorem s_flattened_at {parts : List D} : s_flattened [.path (.tup parts)] = if parts.all partOK ∧ parts.length ≤ 1000 then some (.path (.tup parts)) else none := rfl
theorem s_flattened_at3 {parts : List D} {k : Int} : s_flattened [.path (.tup parts), .int k] = if k = 3 ∧ parts.all partOK ∧ parts.length ≤ 1000 then some (.path (.tup parts)) else none := rfl
theorem s_flattened_shape {P : List D → Prop} {xx : List D} {r : _} (e : s_flattened xx = some r) (q0 : ∀ parts, P [(.path (.tup parts))]) (q1 : ∀ parts k, P [(.path (.tup parts)), (.int k)]) : P xx := by
  cases xx with
  | nil => exact nn e
  | cons h1 t2 =>
    cases h1 with
    | path x3 =>
      cases x3 with
      | tup x4 =>
        cases t2 with
        | nil =>
          exact q0 x4
        | cons h5 t6 =>
          cases h5 with
          | int x7 =>
            cases t6 with
            | nil =>
              exact q1 x4 x7
            | cons _ _ => exact nn e
          | _ => exact nn e
      | _ => exact nn e
    | _ => exact nn e
theorem flattened_ok {c : Cx} : RCon c 3 10 322 s_flattened := by
  refine' RCon.spec_le (rcon_def (nd := 2) (nu := 7) (nm := ["path", "depth"]) (np := 2) (fill := fillD 1 (D.int 3)) ?ho ?hcd (bind_d (dv := Value.int 3 429) (.int _ _) ?hb ?hb2) ?K ?h) ?spec
  case ho => k_is
  case hcd => k_is
  case K => exact ⟨⟨by decide, by decide, by decide⟩, by decide, by decide, by decide, rfl, rfl, rfl⟩
  case hb => intro s vs X h; obtain ⟨a0, a1, rfl⟩ := len2 h; exact BindsTo.of_defaults rfl (X 317 ⟨.type "tuple", none, .seq #[.int 3 429] 0, #[]⟩ (by k_is)) rfl rfl rfl
  case hb2 => intro s vs X h; obtain ⟨a0, rfl⟩ := len1 h; exact BindsTo.of_defaults rfl (X 317 ⟨.type "tuple", none, .seq #[.int 3 429] 0, #[]⟩ (by k_is)) rfl rfl rfl
  case h =>
    exact (sl_cons (sx_if (st_or (st_cmp (se_var 1 rfl) se_int) (st_cmp (se_var 1 rfl) (se_gint rfl (fun _ => by k_is)))) (sl_cons sx_dead
      sl_nil) sl_nil)
      (sl_cons (sx_ret (se_call (rcon_path (nd := 0) (nu := 0)).weaken rfl (fun _ => by k_is) (fun _ => by k_is) (sa_cons (se_btype tuple_ok rfl (fun _ => by k_is) PyProof.Rows.boot_tuple (by decide) (sa_cons (se_comp (SI.g (si_seq (se_attr pParts (se_var 0 rfl) pParts_ok))) ctgt_name (show CompOK _ _ _ _ [(Str.ofString "depth", 1)] from ⟨rfl, rfl, by decide, by decide, by decide, by decide, by decide, by decide⟩) sts_nil (se_call (flat_part_ok).weaken rfl (fun _ => by k_is) (fun _ => by k_is) (sa_cons (se_var 0 rfl) (sa_cons (se_var 1 rfl) sa_nil)))) sa_nil)) sa_nil)))
      sl_nil))
  case spec =>
    intro ds d e
    have key : ∃ parts, fillD 1 (.int 3) ds = some [.path (.tup parts), .int 3] ∧ (∀ p ∈ parts, partOK p = true) ∧ parts.length ≤ 1000 ∧ d = .path (.tup parts) := by
      refine s_flattened_shape (P := fun y => ds = y → _) e ?_ ?_ rfl
      · rintro parts rfl
        rw [s_flattened_at] at e
        split at e
        · rename_i h
          cases e
          exact ⟨_, rfl, List.all_eq_true.mp h.1, h.2, rfl⟩
        · first | exact nn e | cases e
      · rintro parts k rfl
        rw [s_flattened_at3] at e
        split at e
        · rename_i h
          obtain ⟨rfl, h1, h2⟩ := h
          cases e
          exact ⟨_, rfl, List.all_eq_true.mp h1, h2, rfl⟩
        · first | exact nn e | cases e
    obtain ⟨parts, hf, h1, h2, rfl⟩ := key
    refine gv_top hf ?_
    refine gv_if false (by simp [bcmp, cInt]) ?_
    refine gv_unit ?_
    refine gv_return ?_ rfl
    rw [compS_map (ds := parts) (g := id)]
    · simp [thaw, bTup, h2, sPath]
    · simp [thaw, pParts]
    · exact h2
    · intro p hp
      simp [compF, spN, thaw, s_flat_part, h1 p hp]
end Mine

namespace Mine
open PySem PySem.W PySem.Calls PySem.SeqAt PyProof.Rows

noncomputable def corner1 : D → Option (Option D)
  | .tup (.str k :: es) => if k = Str.ofString "close" then some none else (es[0]?).map some
  | _ => none
noncomputable def linesF : D → Option (Option D)
  | .tup segs => if partOK (.tup segs) then (compL corner1 segs).map fun cs => if 1 < cs.length then some (.lst cs) else none else none
  | _ => none
noncomputable def s_lines_of : List D → Option D
  | [.path (.tup parts)] => if parts.all partOK ∧ parts.length ≤ 999 then (compL linesF parts).map D.lst else none
  | [.path (.tup parts), .int k] => if k = 3 ∧ parts.all partOK ∧ parts.length ≤ 999 then (compL linesF parts).map D.lst else none
  | _ => none
theorem lines_of_ok {c : Cx} : RCon c 4 13 328 s_lines_of := by
  refine' RCon.spec_le (rcon_def (nd := 3) (nu := 10) (nm := ["path", "depth", "found", "part", "corners"]) (np := 2) (fill := fillD 1 (D.int 3)) ?ho ?hcd (bind_d (dv := Value.int 3 429) (.int _ _) ?hb ?hb2) ?K ?h) ?spec
  case ho => k_is
  case hcd => k_is
  case K => exact ⟨⟨by decide, by decide, by decide⟩, by decide, by decide, by decide, rfl, rfl, rfl⟩
  case hb => intro s vs X h; obtain ⟨a0, a1, rfl⟩ := len2 h; exact BindsTo.of_defaults rfl (X 323 ⟨.type "tuple", none, .seq #[.int 3 429] 0, #[]⟩ (by k_is)) rfl rfl rfl
  case hb2 => intro s vs X h; obtain ⟨a0, rfl⟩ := len1 h; exact BindsTo.of_defaults rfl (X 323 ⟨.type "tuple", none, .seq #[.int 3 429] 0, #[]⟩ (by k_is)) rfl rfl rfl
  case h =>
    exact (sl_cons (sx_own 2 rfl rfl)
      (sl_cons (sx_for (tgt_name 3 rfl) (si_seq (se_attr pParts (se_call (flattened_ok).weaken rfl (fun _ => by k_is) (fun _ => by k_is) (sa_cons (se_var 0 rfl) (sa_cons (se_var 1 rfl) sa_nil))) pParts_ok)) (sl_cons (sx_assign_comp 4 rfl rfl (SI.g (si_seq (se_var 3 rfl))) ctgt_name (show CompOK _ _ _ _ [] from ⟨rfl, rfl, by decide, by decide, by decide, by decide, by decide, by decide⟩) (sts_one (st_cmp (se_idx (se_var 0 rfl) se_int) se_str)) (se_idx (se_var 0 rfl) se_int) rfl rfl rfl)
      (sl_cons (sx_if (st_cmp (se_bfun len_ok rfl (fun _ => by k_is) boot_len (by decide) (sa_cons (se_var 4 rfl) sa_nil)) se_int) (sl_cons (sx_append 2 rfl (se_var 4 rfl))
      sl_nil) sl_nil)
      sl_nil)))
      (sl_cons (sx_ret (se_var 2 rfl))
      sl_nil)))
  case spec =>
    intro ds d e
    have key : ∃ parts cs, fillD 1 (.int 3) ds = some [.path (.tup parts), .int 3] ∧ parts.all partOK = true ∧ parts.length ≤ 999 ∧ compL linesF parts = some cs ∧ d = .lst cs := by
      unfold s_lines_of at e
      split at e
      · split at e
        · rename_i h
          obtain ⟨cs, e1, rfl⟩ := Option.map_eq_some_iff.mp e
          exact ⟨_, cs, rfl, h.1, h.2, e1, rfl⟩
        · first | exact nn e | cases e
      · split at e
        · rename_i h
          obtain ⟨rfl, h1, h2⟩ := h
          obtain ⟨cs, e1, rfl⟩ := Option.map_eq_some_iff.mp e
          exact ⟨_, cs, rfl, h1, h2, e1, rfl⟩
        · first | exact nn e | cases e
      · first | exact nn e | cases e
    obtain ⟨parts, cs, hf, h1, h2, h3, rfl⟩ := key
    refine gv_top hf ?_
    refine gv_seq ([some (.path (.tup parts)), some (.int 3), none, none, none], some (2, [])) rfl ?_
    have h2' : parts.length ≤ 1000 := by omega
    refine gv_for (ds := parts) (by simp [s_flattened_at, s_flattened_at3, h1, h2', pParts]) (fun pre z => ∃ u v es, compL linesF pre = some es ∧ z = ([some (.path (.tup parts)), some (.int 3), none, u, v], some (2, es))) ⟨none, none, [], rfl, rfl⟩ ?_ ?_
    · rintro p d q e z ⟨u, v, es, he, rfl⟩
      refine ⟨_, rfl, ?_⟩
      have hd : d ∈ parts := by rw [e]; simp
      have hpo := List.all_eq_true.mp h1 d hd
      obtain ⟨segs, rfl, hk, hsl⟩ := partOK_inv hpo
      have hx : ∃ o, linesF (.tup segs) = some o := by
        rw [e] at h3
        obtain ⟨a, b, _, h5, _⟩ := compL_pre h3
        obtain ⟨o, h6, _⟩ := Option.bind_eq_some_iff.mp h5
        exact ⟨o, h6⟩
      obtain ⟨o, ho⟩ := hx
      have ho' := ho
      simp only [linesF] at ho'
      rw [if_pos hpo] at ho'
      obtain ⟨cc, hcc, rfl⟩ := Option.map_eq_some_iff.mp ho'
      have hlen : es.length < 1000 := by
        have := compL_len he
        have := congrArg List.length e
        simp at this
        omega
      have hcl : cc.length ≤ 1000 := by have := compL_len hcc; omega
      refine gv_seq ([some (.path (.tup parts)), some (.int 3), none, some (.tup segs), some (.lst cc)], some (2, es)) ?_ ?_
      · rw [compS_L (ds := segs) (es := cc) (f := corner1)]
        · simp [dropOwn]
        · simp
        · omega
        · exact hcc
        · intro d hd r hr
          obtain ⟨k, es', rfl, hk'⟩ := hk d hd
          simp only [corner1] at hr
          simp [compF, spN, bidx, bidxL_0, bidxL_1, bcmp, cNe]
          split at hr
          · rename_i hc; cases hr; simp [hc]
          · rename_i hc
            obtain ⟨x, hx1, rfl⟩ := Option.map_eq_some_iff.mp hr
            simp [hc, hx1]
      · by_cases hc1 : 1 < cc.length
        · have hci : (1 : Int) < (cc.length : Int) := by omega
          refine gv_if true (by simp [bcmp, cInt, bLen_t, bLen_l, bLen_s, hcl, hci]) ?_
          refine gv_assoc (gv_seq ([some (.path (.tup parts)), some (.int 3), none, some (.tup segs), some (.lst cc)], some (2, es ++ [.lst cc])) (by simp [appS, hlen]) (gv_unit (gv_nil ⟨rfl, some (.tup segs), some (.lst cc), es ++ _, compL_snoc he ho, ?_⟩)))
          simp [hc1]
        · have hc1' : cc.length ≤ 1 := by omega
          refine gv_if false (by simp [bcmp, cInt, bLen_t, bLen_l, bLen_s, hcl]; omega) ?_
          refine gv_unit (gv_nil ⟨rfl, some (.tup segs), some (.lst cc), es ++ _, compL_snoc he ho, ?_⟩)
          simp [hc1]
    · rintro z' ⟨u, v, es, he, rfl⟩
      rw [h3] at he
      cases he
      exact gv_return (by simp [thaw]) rfl

/-- tenths -/
noncomputable def tenth : D → Option Int
  | .dec t p => if p = 0 then some (t * 10) else if p = 1 then some t else none
  | _ => none
theorem tenth_inv {d : D} {x : Int} (h : tenth d = some x) : ∃ t p, d = .dec t p ∧ ((p = 0 ∧ x = t * 10) ∨ (p = 1 ∧ x = t)) := by
  cases d with
  | dec t p =>
    simp only [tenth] at h
    split at h
    · cases h; exact ⟨t, p, rfl, .inl ⟨by assumption, rfl⟩⟩
    · split at h
      · cases h; exact ⟨_, p, rfl, .inr ⟨by assumption, rfl⟩⟩
      · first | exact nn h | cases h
  | _ => first | exact nn h | cases h
noncomputable def s_at_places : List D → Option D
  | [d, .int k] => if k = 1 then (tenth d).map D.int else none
  | _ => none
theorem at_places_ok {c : Cx} : RCon c 1 3 343 s_at_places := by
  refine' RCon.spec_le (rcon_def (nd := 0) (nu := 0) (nm := ["value", "places"]) (np := 2) (fill := fillN 2) ?ho ?hcd (bind_n ?hb) ?K ?h) ?spec
  case ho => k_is
  case hcd => k_is
  case K => exact ⟨⟨by decide, by decide, by decide⟩, by decide, by decide, by decide, rfl, rfl, rfl⟩
  case hb => intro s vs h; obtain ⟨a0, a1, rfl⟩ := len2 h; exact BindsTo.of_eq rfl
  case h =>
    exact (sl_cons (sx_ret (se_bin (se_attr pTop (se_var 0 rfl) pTop_ok) (se_bin se_int (se_bin (se_var 1 rfl) (se_attr pPlaces (se_var 0 rfl) pPlaces_ok)))))
      sl_nil)
  case spec =>
    intro ds d e
    unfold s_at_places at e
    split at e
    · split at e
      · rename_i h
        subst h
        obtain ⟨x, hx, rfl⟩ := Option.map_eq_some_iff.mp e
        obtain ⟨t, p, rfl, ⟨rfl, rfl⟩ | ⟨rfl, rfl⟩⟩ := tenth_inv hx
        · simp [fillN, seqS, thaw, pTop, pPlaces, bop, bSub, bPow, bMul, mulOk]
        · simp [fillN, seqS, thaw, pTop, pPlaces, bop, bSub, bPow, bMul, mulOk]
      · first | exact nn e | cases e
    · first | exact nn e | cases e

noncomputable def ptOf : D → Option (Int × Int)
  | .tup [a, b] => (tenth a).bind fun x => (tenth b).map fun y => (x, y)
  | _ => none
theorem ptOf_inv {d : D} {p : Int × Int} (h : ptOf d = some p) : ∃ a b, d = .tup [a, b] ∧ tenth a = some p.1 ∧ tenth b = some p.2 := by
  unfold ptOf at h
  split at h
  · obtain ⟨x, hx, h⟩ := Option.bind_eq_some_iff.mp h
    obtain ⟨y, hy, rfl⟩ := Option.map_eq_some_iff.mp h
    exact ⟨_, _, rfl, hx, hy⟩
  · first | exact nn h | cases h
noncomputable def s_places_of : List D → Option D
  | [.lst pts, .int k] => if k = 1 then (pts.mapM ptOf).map fun _ => .int 1 else none
  | _ => none
theorem mapM_mem {α β : Type} {f : α → Option β} : ∀ {l : List α} {r : List β}, l.mapM f = some r → ∀ x ∈ l, ∃ y, f x = some y
  | [], _, _, x, hx => by cases hx
  | a :: l, r, h, x, hx => by
    rw [List.mapM_cons] at h
    obtain ⟨b, hb, h⟩ := Option.bind_eq_some_iff.mp h
    obtain ⟨c, hc, h⟩ := Option.bind_eq_some_iff.mp h
    rcases List.mem_cons.mp hx with rfl | hx
    · exact ⟨b, hb⟩
    · exact mapM_mem hc x hx
theorem mapM_map {α β γ : Type} {f : α → Option β} {g : β → γ} {d0 : β} : ∀ {l : List α} {r : List β}, l.mapM f = some r → l.map (fun x => g ((f x).getD d0)) = r.map g
  | [], r, h => by cases h; rfl
  | a :: l, r, h => by
    rw [List.mapM_cons] at h
    obtain ⟨b, hb, h⟩ := Option.bind_eq_some_iff.mp h
    obtain ⟨c, hc, h⟩ := Option.bind_eq_some_iff.mp h
    cases h
    simp [hb, mapM_map hc]
theorem mapM_length {α β : Type} {f : α → Option β} : ∀ {l : List α} {r : List β}, l.mapM f = some r → l.length = r.length
  | [], r, h => by cases h; rfl
  | a :: l, r, h => by
    rw [List.mapM_cons] at h
    obtain ⟨b, hb, h⟩ := Option.bind_eq_some_iff.mp h
    obtain ⟨c, hc, h⟩ := Option.bind_eq_some_iff.mp h
    cases h
    simp [mapM_length hc]
theorem mapM_get {α β : Type} {f : α → Option β} : ∀ {l : List α} {r : List β}, l.mapM f = some r → ∀ {i : Nat} {x : α}, l[i]? = some x → ∃ y, f x = some y ∧ r[i]? = some y
  | [], r, h, i, x, hx => by cases hx
  | a :: l, r, h, i, x, hx => by
    rw [List.mapM_cons] at h
    obtain ⟨b, hb, h⟩ := Option.bind_eq_some_iff.mp h
    obtain ⟨c, hc, h⟩ := Option.bind_eq_some_iff.mp h
    cases h
    cases i with
    | zero => cases hx; exact ⟨b, hb, rfl⟩
    | succ i => exact mapM_get hc (i := i) hx
theorem places_of_ok {c : Cx} : RCon c 1 3 336 s_places_of := by
  refine' RCon.spec_le (rcon_def (nd := 0) (nu := 0) (nm := ["points", "known", "most", "x", "y"]) (np := 2) (fill := fillD 1 (D.int 0)) ?ho ?hcd (bind_d (dv := Value.int 0 608) (.int _ _) ?hb ?hb2) ?K ?h) ?spec
  case ho => k_is
  case hcd => k_is
  case K => exact ⟨⟨by decide, by decide, by decide⟩, by decide, by decide, by decide, rfl, rfl, rfl⟩
  case hb => intro s vs X h; obtain ⟨a0, a1, rfl⟩ := len2 h; exact BindsTo.of_defaults rfl (X 329 ⟨.type "tuple", none, .seq #[.int 0 608] 0, #[]⟩ (by k_is)) rfl rfl rfl
  case hb2 => intro s vs X h; obtain ⟨a0, rfl⟩ := len1 h; exact BindsTo.of_defaults rfl (X 329 ⟨.type "tuple", none, .seq #[.int 0 608] 0, #[]⟩ (by k_is)) rfl rfl rfl
  case h =>
    exact (sl_cons (sx_assign 2 rfl (se_var 1 rfl) (fun _ => rfl))
      (sl_cons (sx_for (tgt_pair 3 4 rfl rfl) (si_seq (se_var 0 rfl)) (sl_cons (sx_assign 2 rfl (se_bfun max_ok rfl (fun _ => by k_is) boot_max (by decide) (sa_cons (se_var 2 rfl) (sa_cons (se_attr pPlaces (se_var 3 rfl) pPlaces_ok) (sa_cons (se_attr pPlaces (se_var 4 rfl) pPlaces_ok) sa_nil)))) (fun _ => rfl))
      sl_nil))
      (sl_cons (sx_ret (se_var 2 rfl))
      sl_nil)))
  case spec =>
    intro ds d e
    unfold s_places_of at e
    split at e
    · split at e
      · rename_i pts k h
        subst h
        obtain ⟨ps, hps, rfl⟩ := Option.map_eq_some_iff.mp e
        refine gv_top (ds' := [.lst pts, .int 1]) rfl ?_
        refine gv_seq ([some (.lst pts), some (.int 1), some (.int 1), none, none], none) (by simp [dropOwn]) ?_
        refine gv_for (ds := pts) (by simp) (fun pre z => ∃ u v, z = ([some (.lst pts), some (.int 1), some (.int 1), u, v], none)) ⟨_, _, rfl⟩ ?_ ?_
        · rintro p d q e z ⟨u, v, rfl⟩
          obtain ⟨pt, hpt⟩ := mapM_mem hps d (by rw [e]; simp)
          obtain ⟨a, b, rfl, ha, hb⟩ := ptOf_inv hpt
          obtain ⟨t, p', rfl, h1⟩ := tenth_inv ha
          obtain ⟨t2, p2, rfl, h2⟩ := tenth_inv hb
          refine ⟨_, rfl, ?_⟩
          refine gv_seq ([some (.lst pts), some (.int 1), some (.int 1), some (.dec t p'), some (.dec t2 p2)], none) ?_ (gv_nil ⟨rfl, _, _, rfl⟩)
          have hm : max (max 1 p') p2 = 1 := by omega
          simp [bMax_2, bMax_3, pPlaces, hm, dropOwn]
        · rintro z' ⟨u, v, rfl⟩
          exact gv_return (by simp [thaw]) rfl
      · first | exact nn e | cases e
    · first | exact nn e | cases e
end Mine

namespace Mine
open PySem PySem.W PySem.Calls PySem.SeqAt PyProof.Rows

noncomputable def pv (n k : Nat) : Nat := if k = 0 then n - 1 else k - 1
theorem pv_lt {n k : Nat} (h : k < n) : pv n k < n := by unfold pv; split <;> omega
theorem bidxL_prev (ds : List D) (k : Nat) (hl : k ≤ 1000) : bidxL ds (.int ((k : Int) - 1)) = ds[pv ds.length k]? := by
  unfold pv
  cases k with
  | zero =>
    have : ((0 : Nat) : Int) - 1 = -1 := by decide
    rw [this, bidxL_last, List.getLast?_eq_getElem?]; rfl
  | succ k =>
    have : ((k + 1 : Nat) : Int) - 1 = (k : Int) := by omega
    rw [this, bidxL_nat ds k (by omega)]; simp
theorem rng1_nat {n : Nat} (h : n ≤ 1000) : rng1 (.int (n : Int)) = some ((List.range n).map fun (k : Nat) => D.int (k : Int)) := by
  unfold rng1
  have : (-1000 : Int) ≤ (n : Int) ∧ (n : Int) ≤ 1000 := by omega
  simp only [this, and_self, if_true, Int.toNat_natCast]
theorem range_at {n : Nat} {p q : List D} {d : D} (h : (List.range n).map (fun (k : Nat) => D.int (k : Int)) = p ++ d :: q) : d = .int (p.length : Int) ∧ p.length < n := by
  have h1 := congrArg List.length h
  simp at h1
  have h2 : p.length < n := by omega
  have h3 := congrArg (fun l => l[p.length]?) h
  simp [h2] at h3
  exact ⟨h3.symm, h2⟩
theorem at_split {α : Type} {l p q : List α} {d : α} (h : l = p ++ d :: q) : l[p.length]? = some d := by rw [h]; simp

noncomputable def edgeAt (ps : List (Int × Int)) (k : Nat) : Option (Int × Int × Int × Int) := match ps[pv ps.length k]?, ps[k]? with
  | some a, some b => if a.2 = b.2 then none else some (a.1, a.2, b.1, b.2)
  | _, _ => none
noncomputable def edgesOf (ps : List (Int × Int)) : List (Int × Int × Int × Int) := (List.range ps.length).filterMap (edgeAt ps)
noncomputable def encE (e : Int × Int × Int × Int) : D := .tup [.int e.1, .int e.2.1, .int e.2.2.1, .int e.2.2.2]
noncomputable def encP (p : Int × Int) : D := .tup [.int p.1, .int p.2]
noncomputable def polyOf : D → Option (List (Int × Int))
  | .lst pts => pts.mapM ptOf
  | _ => none
noncomputable def s_whole_edges : List D → Option D
  | [.lst polys, .int k] => if k = 1 then (polys.mapM polyOf).bind fun P => if (∀ ps ∈ P, ps.length ≤ 900) ∧ (P.flatMap edgesOf).length ≤ 999 then some (.lst ((P.flatMap edgesOf).map encE)) else none else none
  | _ => none
theorem take_get {α : Type} {l : List α} {k : Nat} {x : α} (h : l[k]? = some x) : l.take (k + 1) = l.take k ++ [x] := by
  rw [List.take_add_one, h]; rfl
theorem flat_take_le {α β : Type} (f : α → List β) (l : List α) (k : Nat) : ((l.take k).flatMap f).length ≤ (l.flatMap f).length := by
  conv => rhs; rw [← List.take_append_drop k l]
  rw [List.flatMap_append, List.length_append]; exact Nat.le_add_right _ _
theorem filt_range_le {β : Type} (f : Nat → Option β) {k n : Nat} (h : k ≤ n) : ((List.range k).filterMap f).length ≤ ((List.range n).filterMap f).length :=
  ((List.range_sublist.mpr h).filterMap f).length_le
theorem appS_ok {i : Nat} {phi : Vars → Option D} {G : Vars} {L : List D} {d : D} (e : phi G = some d) (hl : L.length < 1000) : appS i phi (G, some (i, L)) = some ((G, some (i, L ++ [d])), none) := by
  simp only [appS, if_true, e, Option.bind_some, hl]
theorem whole_edges_ok {c : Cx} : RCon c 2 6 348 s_whole_edges := by
  refine' RCon.spec_le (rcon_def (nd := 1) (nu := 3) (nm := ["polygons", "places", "found", "corners", "row", "at", "here", "there"]) (np := 2) (fill := fillN 2) ?ho ?hcd (bind_n ?hb) ?K ?h) ?spec
  case ho => k_is
  case hcd => k_is
  case K => exact ⟨⟨by decide, by decide, by decide⟩, by decide, by decide, by decide, rfl, rfl, rfl⟩
  case hb => intro s vs h; obtain ⟨a0, a1, rfl⟩ := len2 h; exact BindsTo.of_eq rfl
  case h =>
    exact (sl_cons (sx_own 2 rfl rfl)
      (sl_cons (sx_for (tgt_name 3 rfl) (si_seq (se_var 0 rfl)) (sl_cons (sx_assign_comp 4 rfl rfl (SI.g (si_seq (se_var 3 rfl))) ctgt_pair (show CompOK _ _ _ _ [(Str.ofString "places", 1)] from ⟨rfl, rfl, by decide, by decide, by decide, by decide, by decide, by decide⟩) sts_nil (se_tup (sa_cons (se_call (at_places_ok).weaken rfl (fun _ => by k_is) (fun _ => by k_is) (sa_cons (se_var 0 rfl) (sa_cons (se_var 2 rfl) sa_nil))) (sa_cons (se_call (at_places_ok).weaken rfl (fun _ => by k_is) (fun _ => by k_is) (sa_cons (se_var 1 rfl) (sa_cons (se_var 2 rfl) sa_nil))) sa_nil))) rfl rfl rfl)
      (sl_cons (sx_for (tgt_name 5 rfl) (si_range1 rfl (se_bfun len_ok rfl (fun _ => by k_is) boot_len (by decide) (sa_cons (se_var 4 rfl) sa_nil))) (sl_cons (sx_assign 6 rfl (se_idx (se_var 4 rfl) (se_bin (se_var 5 rfl) se_int)) (fun _ => rfl))
      (sl_cons (sx_assign 7 rfl (se_idx (se_var 4 rfl) (se_var 5 rfl)) (fun _ => rfl))
      (sl_cons (sx_if (st_cmp (se_idx (se_var 6 rfl) se_int) (se_idx (se_var 7 rfl) se_int)) (sl_cons (sx_append 2 rfl (se_tup (sa_cons (se_idx (se_var 6 rfl) se_int) (sa_cons (se_idx (se_var 6 rfl) se_int) (sa_cons (se_idx (se_var 7 rfl) se_int) (sa_cons (se_idx (se_var 7 rfl) se_int) sa_nil))))))
      sl_nil) sl_nil)
      sl_nil))))
      sl_nil)))
      (sl_cons (sx_ret (se_var 2 rfl))
      sl_nil)))
  case spec =>
    intro ds d e
    unfold s_whole_edges at e
    split at e
    · split at e
      · rename_i polys k h
        subst h
        obtain ⟨P, hP, e⟩ := Option.bind_eq_some_iff.mp e
        split at e
        · rename_i hc
          obtain ⟨hc1, hc2⟩ := hc
          cases e
          refine gv_top (ds' := [.lst polys, .int 1]) rfl ?_
          refine gv_seq ([some (.lst polys), some (.int 1), none, none, none, none, none, none], some (2, [])) rfl ?_
          refine gv_for (ds := polys) (by simp) (fun pre z => ∃ u3 u4 u5 u6 u7, z = ([some (.lst polys), some (.int 1), none, u3, u4, u5, u6, u7], some (2, ((P.take pre.length).flatMap edgesOf).map encE))) ⟨_, _, _, _, _, rfl⟩ ?_ ?_
          · rintro p d q e z ⟨u3, u4, u5, u6, u7, rfl⟩
            refine ⟨_, rfl, ?_⟩
            obtain ⟨ps, hps, hPi⟩ := mapM_get hP (at_split e)
            have hpsl := hc1 ps (List.mem_of_getElem? hPi)
            unfold polyOf at hps
            split at hps
            · rename_i pts
              have hpl := mapM_length hps
              have htot : ((P.take p.length).flatMap edgesOf).length + (edgesOf ps).length ≤ 999 := by
                have := flat_take_le edgesOf P (p.length + 1)
                rw [take_get hPi, List.flatMap_append, List.length_append] at this
                simp only [List.flatMap_cons, List.flatMap_nil, List.append_nil] at this
                omega
              refine gv_seq ([some (.lst polys), some (.int 1), none, some (.lst pts), some (.lst (ps.map encP)), u5, u6, u7], some (2, ((P.take p.length).flatMap edgesOf).map encE)) ?_ ?_
              · rw [compS_map (ds := pts) (g := fun d => encP ((ptOf d).getD (0, 0)))]
                · simp [dropOwn, mapM_map hps]
                · simp
                · omega
                · intro d hd
                  obtain ⟨pt, hpt⟩ := mapM_mem hps d hd
                  obtain ⟨a, b, rfl, ha, hb⟩ := ptOf_inv hpt
                  simp [compF, spP, s_at_places, ha, hb, ptOf, encP]
              · refine gv_for (ds := (List.range ps.length).map fun (k : Nat) => D.int (k : Int)) ?_ (fun pre z => ∃ u5 u6 u7, z = ([some (.lst polys), some (.int 1), none, some (.lst pts), some (.lst (ps.map encP)), u5, u6, u7], some (2, (((P.take p.length).flatMap edgesOf) ++ (List.range pre.length).filterMap (edgeAt ps)).map encE)))
                  ⟨u5, u6, u7, by simp⟩ ?_ ?_
                · have hl : ps.length ≤ 1000 := by omega
                  simp [bLen_t, bLen_l, bLen_s, hl, rng1_nat hl]
                · rintro p' d' q' e' z ⟨u5, u6, u7, rfl⟩
                  refine ⟨_, rfl, ?_⟩
                  obtain ⟨rfl, hk⟩ := range_at e'
                  have hk2 := pv_lt hk
                  have ga : ps[pv ps.length p'.length]? = some (ps[pv ps.length p'.length]) := List.getElem?_eq_getElem hk2
                  have gb : ps[p'.length]? = some (ps[p'.length]) := List.getElem?_eq_getElem hk
                  generalize ps[pv ps.length p'.length] = a at ga
                  generalize ps[p'.length] = b at gb
                  have hk3 : p'.length ≤ 1000 := by omega
                  refine gv_seq ([some (.lst polys), some (.int 1), none, some (.lst pts), some (.lst (ps.map encP)), some (.int (p'.length : Int)), some (encP a), u7], some (2, (((P.take p.length).flatMap edgesOf) ++ (List.range p'.length).filterMap (edgeAt ps)).map encE)) ?_ ?_
                  · simp [bop, bSub, bidx, bidxL_prev _ _ hk3, ga, dropOwn]
                  refine gv_seq ([some (.lst polys), some (.int 1), none, some (.lst pts), some (.lst (ps.map encP)), some (.int (p'.length : Int)), some (encP a), some (encP b)], some (2, (((P.take p.length).flatMap edgesOf) ++ (List.range p'.length).filterMap (edgeAt ps)).map encE)) ?_ ?_
                  · simp [bidx, bidxL_nat _ _ hk3, gb, dropOwn]
                  have hlen : (((P.take p.length).flatMap edgesOf) ++ (List.range p'.length).filterMap (edgeAt ps)).length < 1000 := by
                    have := filt_range_le (edgeAt ps) (Nat.le_of_lt hk)
                    have h2 : (edgesOf ps).length = ((List.range ps.length).filterMap (edgeAt ps)).length := rfl
                    rw [List.length_append]
                    omega
                  by_cases hab : a.2 = b.2
                  · refine gv_if false (by simp [bidx, bidxL_1, encP, bcmp, cNe, hab]) (gv_unit (gv_nil ⟨rfl, some (.int (p'.length : Int)), some (encP a), some (encP b), ?_⟩))
                    have : edgeAt ps p'.length = none := by unfold edgeAt; rw [ga, gb]; simp [hab]
                    simp [List.range_succ, this]
                  · refine gv_if true (by simp [bidx, bidxL_1, encP, bcmp, cNe, hab]) ?_
                    refine gv_assoc (gv_seq _ (appS_ok (d := encE (a.1, a.2, b.1, b.2)) (by simp [encP, encE, bidx, bidxL_0, bidxL_1]) (by rw [List.length_map]; exact hlen)) (gv_unit (gv_nil ⟨rfl, some (.int (p'.length : Int)), some (encP a), some (encP b), ?_⟩)))
                    have : edgeAt ps p'.length = some (a.1, a.2, b.1, b.2) := by unfold edgeAt; rw [ga, gb]; simp [hab]
                    simp [List.range_succ, this]
                · rintro z' ⟨u5, u6, u7, rfl⟩
                  refine gv_nil ⟨rfl, some (.lst pts), some (.lst (ps.map encP)), u5, u6, u7, ?_⟩
                  simp [take_get hPi, edgesOf]
            · first | exact nn hps | cases hps
          · rintro z' ⟨u3, u4, u5, u6, u7, rfl⟩
            refine gv_return (r := .lst ((P.flatMap edgesOf).map encE)) ?_ rfl
            have : P.take polys.length = P := List.take_of_length_le (by rw [mapM_length hP]; exact Nat.le_refl _)
            simp [thaw, this]
        · first | exact nn e | cases e
      · first | exact nn e | cases e
    · first | exact nn e | cases e
end Mine

namespace Mine
open PySem PySem.W PySem.Calls PySem.SeqAt PyProof.Rows

noncomputable def sideOf (e : Int × Int × Int × Int) (x y : Int) : Int := (e.2.2.1 - e.1) * (y - e.2.1) - (x - e.1) * (e.2.2.2 - e.2.1)
noncomputable def crossOf (e : Int × Int × Int × Int) (x y : Int) : Int :=
  if e.2.1 ≤ y ∧ y < e.2.2.2 then (if sideOf e x y > 0 then 1 else 0)
  else if e.2.2.2 ≤ y ∧ y < e.2.1 then (if sideOf e x y < 0 then -1 else 0)
  else 0
noncomputable def sm (i : Int) : Prop := -100000 ≤ i ∧ i ≤ 100000
noncomputable def smE (e : Int × Int × Int × Int) : Prop := sm e.1 ∧ sm e.2.1 ∧ sm e.2.2.1 ∧ sm e.2.2.2
theorem mul_ok {a b : Int} (h : -1000000 ≤ a ∧ a ≤ 1000000) : mulOk a b := .inl (by omega)
open Classical in
noncomputable def s_crossing : List D → Option D
  | [.tup [.int a, .int b, .int c, .int d], .int x, .int y] => if smE (a, b, c, d) ∧ sm x ∧ sm y then some (.int (crossOf (a, b, c, d) x y)) else none
  | _ => none
theorem s_crossing_shape {P : List D → Prop} {xx : List D} {r : _} (e : s_crossing xx = some r) (q0 : ∀ a b c d x y, P [(.tup [(.int a), (.int b), (.int c), (.int d)]), (.int x), (.int y)]) : P xx := by
  cases xx with
  | nil => exact nn e
  | cons h1 t2 =>
    cases h1 with
    | tup x3 =>
      cases x3 with
      | nil => exact nn e
      | cons h4 t5 =>
        cases h4 with
        | int x6 =>
          cases t5 with
          | nil => exact nn e
          | cons h7 t8 =>
            cases h7 with
            | int x9 =>
              cases t8 with
              | nil => exact nn e
              | cons h10 t11 =>
                cases h10 with
                | int x12 =>
                  cases t11 with
                  | nil => exact nn e
                  | cons h13 t14 =>
                    cases h13 with
                    | int x15 =>
                      cases t14 with
                      | nil =>
                        cases t2 with
                        | nil => exact nn e
                        | cons h16 t17 =>
                          cases h16 with
                          | int x18 =>
                            cases t17 with
                            | nil => exact nn e
                            | cons h19 t20 =>
                              cases h19 with
                              | int x21 =>
                                cases t20 with
                                | nil =>
                                  exact q0 x6 x9 x12 x15 x18 x21
                                | cons _ _ => exact nn e
                              | _ => exact nn e
                          | _ => exact nn e
                      | cons _ _ => exact nn e
                    | _ => exact nn e
                | _ => exact nn e
            | _ => exact nn e
        | _ => exact nn e
    | _ => exact nn e
open Classical in
theorem s_crossing_at {a b c d x y : Int} : s_crossing [.tup [.int a, .int b, .int c, .int d], .int x, .int y] = if smE (a, b, c, d) ∧ sm x ∧ sm y then some (.int (crossOf (a, b, c, d) x y)) else none := rfl
theorem crossing_ok {c : Cx} : RCon c 1 3 355 s_crossing := by
  refine' RCon.spec_le (rcon_def (nd := 0) (nu := 0) (nm := ["edge", "x", "y", "sign", "side"]) (np := 3) (fill := fillN 3) ?ho ?hcd (bind_n ?hb) ?K ?h) ?spec
  case ho => k_is
  case hcd => k_is
  case K => exact ⟨⟨by decide, by decide, by decide⟩, by decide, by decide, by decide, rfl, rfl, rfl⟩
  case hb => intro s vs h; obtain ⟨a0, a1, a2, rfl⟩ := len3 h; exact BindsTo.of_eq rfl
  case h =>
    exact (sl_cons (sx_if (st_chain (se_idx (se_var 0 rfl) se_int) (se_var 2 rfl) (se_idx (se_var 0 rfl) se_int)) (sl_cons (sx_assign 3 rfl se_int (fun _ => rfl))
      sl_nil) (sl_cons (sx_if (st_chain (se_idx (se_var 0 rfl) se_int) (se_var 2 rfl) (se_idx (se_var 0 rfl) se_int)) (sl_cons (sx_assign 3 rfl (se_neg se_int) (fun _ => rfl))
      sl_nil) (sl_cons (sx_ret se_int)
      sl_nil))
      sl_nil))
      (sl_cons (sx_assign 4 rfl (se_bin (se_bin (se_bin (se_idx (se_var 0 rfl) se_int) (se_idx (se_var 0 rfl) se_int)) (se_bin (se_var 2 rfl) (se_idx (se_var 0 rfl) se_int))) (se_bin (se_bin (se_var 1 rfl) (se_idx (se_var 0 rfl) se_int)) (se_bin (se_idx (se_var 0 rfl) se_int) (se_idx (se_var 0 rfl) se_int)))) (fun _ => rfl))
      (sl_cons (sx_ret (se_ife (st_cmp (se_bin (se_var 4 rfl) (se_var 3 rfl)) se_int) (se_var 3 rfl) se_int))
      sl_nil)))
  case spec =>
    intro ds dd e
    refine s_crossing_shape (P := fun y => ds = y → _) e ?_ rfl
    rintro a b c d x y rfl
    rw [s_crossing_at] at e
    · split at e
      · rename_i h
        obtain ⟨⟨h1, h2, h3, h4⟩, h5, h6⟩ := h
        unfold sm at h1 h2 h3 h4 h5 h6
        dsimp only at h1 h2 h3 h4
        cases e
        have m1 : mulOk (c - a) (y - b) := mul_ok (by omega)
        have m2 : mulOk (x - a) (d - b) := mul_ok (by omega)
        refine gv_top (ds' := [.tup [.int a, .int b, .int c, .int d], .int x, .int y]) rfl ?_
        by_cases c1 : b ≤ y ∧ y < d
        · refine gv_if true (by simp [bidx, bidxL_1, bidxL_3, bcmp, cInt, c1]) ?_
          refine gv_assoc (gv_seq ([some (.tup [.int a, .int b, .int c, .int d]), some (.int x), some (.int y), some (.int 1), none], none) (by simp [dropOwn]) (gv_unit ?_))
          refine gv_seq ([some (.tup [.int a, .int b, .int c, .int d]), some (.int x), some (.int y), some (.int 1), some (.int (sideOf (a, b, c, d) x y))], none) (by simp [bidx, bidxL_0, bidxL_1, bidxL_2, bidxL_3, bop, bSub, bMul, m1, m2, sideOf, dropOwn]) ?_
          have m3 : mulOk (sideOf (a, b, c, d) x y) 1 := .inr (by omega)
          refine gv_return (r := .int (crossOf (a, b, c, d) x y)) ?_ rfl
          by_cases hs : sideOf (a, b, c, d) x y > 0 <;> simp [thaw, bop, bMul, m3, bcmp, cInt, hs, crossOf, c1]
        · have c1' : ¬ (decide (b ≤ y) = true ∧ decide (y < d) = true) := by simpa using c1
          refine gv_if false (by
            simp [bidx, bidxL_1, bidxL_3, bcmp, cInt]
            by_cases q : b ≤ y
            · simp [q]; omega
            · simp [q]) ?_
          by_cases c2 : d ≤ y ∧ y < b
          · refine gv_assoc (gv_if true (by simp [bidx, bidxL_1, bidxL_3, bcmp, cInt, c2]) ?_)
            refine gv_assoc (gv_seq ([some (.tup [.int a, .int b, .int c, .int d]), some (.int x), some (.int y), some (.int (-1)), none], none) (by simp [dropOwn]) (gv_unit (gv_unit ?_)))
            refine gv_seq ([some (.tup [.int a, .int b, .int c, .int d]), some (.int x), some (.int y), some (.int (-1)), some (.int (sideOf (a, b, c, d) x y))], none) (by simp [bidx, bidxL_0, bidxL_1, bidxL_2, bidxL_3, bop, bSub, bMul, m1, m2, sideOf, dropOwn]) ?_
            have m3 : mulOk (sideOf (a, b, c, d) x y) (-1) := .inr (by omega)
            refine gv_return (r := .int (crossOf (a, b, c, d) x y)) ?_ rfl
            by_cases hs : sideOf (a, b, c, d) x y < 0
            · have hs' : sideOf (a, b, c, d) x y * -1 > 0 := by omega
              simp [thaw, bop, bMul, m3, bcmp, cInt, hs, hs', crossOf, c1, c2]
            · have hs' : ¬ (sideOf (a, b, c, d) x y * -1 > 0) := by omega
              simp [thaw, bop, bMul, m3, bcmp, cInt, hs, hs', crossOf, c1, c2]
          · refine gv_assoc (gv_if false (by
              simp [bidx, bidxL_1, bidxL_3, bcmp, cInt]
              by_cases q : d ≤ y
              · simp [q]; omega
              · simp [q]) ?_)
            refine gv_assoc (gv_return (r := .int (crossOf (a, b, c, d) x y)) ?_ rfl)
            simp [crossOf, c1, c2]
      · first | exact nn e | cases e

noncomputable def edgeD : D → Option (Int × Int × Int × Int)
  | .tup [.int a, .int b, .int c, .int d] => some (a, b, c, d)
  | _ => none
theorem edgeD_shape {P : D → Prop} {xx : D} {r : _} (e : edgeD xx = some r) (q0 : ∀ a b c d, P (.tup [(.int a), (.int b), (.int c), (.int d)])) : P xx := by
  cases xx with
  | tup x1 =>
    cases x1 with
    | nil => exact nn e
    | cons h2 t3 =>
      cases h2 with
      | int x4 =>
        cases t3 with
        | nil => exact nn e
        | cons h5 t6 =>
          cases h5 with
          | int x7 =>
            cases t6 with
            | nil => exact nn e
            | cons h8 t9 =>
              cases h8 with
              | int x10 =>
                cases t9 with
                | nil => exact nn e
                | cons h11 t12 =>
                  cases h11 with
                  | int x13 =>
                    cases t12 with
                    | nil =>
                      exact q0 x4 x7 x10 x13
                    | cons _ _ => exact nn e
                  | _ => exact nn e
              | _ => exact nn e
          | _ => exact nn e
      | _ => exact nn e
  | _ => exact nn e
theorem edgeD_inv {d : D} {e : Int × Int × Int × Int} (h : edgeD d = some e) : d = encE e := by
  refine edgeD_shape (xx := d) (P := fun y => d = y → _) h ?_ rfl
  rintro a b c d rfl
  cases h; rfl
theorem edgeD_enc (e : Int × Int × Int × Int) : edgeD (encE e) = some e := rfl
theorem mapM_enc : ∀ (E : List (Int × Int × Int × Int)), (E.map encE).mapM edgeD = some E
  | [] => rfl
  | e :: r => by rw [List.map_cons, List.mapM_cons, edgeD_enc, mapM_enc r]; rfl
noncomputable def windOf (E : List (Int × Int × Int × Int)) (x y : Int) : Int := (E.map fun e => crossOf e x y).sum
open Classical in
noncomputable def s_winding_number : List D → Option D
  | [.lst es, .int x, .int y] => (es.mapM edgeD).bind fun E => if (∀ e ∈ E, smE e) ∧ sm x ∧ sm y then some (.int (windOf E x y)) else none
  | _ => none
theorem s_winding_number_shape {P : List D → Prop} {xx : List D} {r : _} (e : s_winding_number xx = some r) (q0 : ∀ es x y, P [(.lst es), (.int x), (.int y)]) : P xx := by
  cases xx with
  | nil => exact nn e
  | cons h1 t2 =>
    cases h1 with
    | lst x3 =>
      cases t2 with
      | nil => exact nn e
      | cons h4 t5 =>
        cases h4 with
        | int x6 =>
          cases t5 with
          | nil => exact nn e
          | cons h7 t8 =>
            cases h7 with
            | int x9 =>
              cases t8 with
              | nil =>
                exact q0 x3 x6 x9
              | cons _ _ => exact nn e
            | _ => exact nn e
        | _ => exact nn e
    | _ => exact nn e
theorem winding_number_ok {c : Cx} : RCon c 2 6 362 s_winding_number := by
  refine' RCon.spec_le (rcon_def (nd := 1) (nu := 3) (nm := ["edges", "x", "y", "total", "edge"]) (np := 3) (fill := fillN 3) ?ho ?hcd (bind_n ?hb) ?K ?h) ?spec
  case ho => k_is
  case hcd => k_is
  case K => exact ⟨⟨by decide, by decide, by decide⟩, by decide, by decide, by decide, rfl, rfl, rfl⟩
  case hb => intro s vs h; obtain ⟨a0, a1, a2, rfl⟩ := len3 h; exact BindsTo.of_eq rfl
  case h =>
    exact (sl_cons (sx_assign 3 rfl se_int (fun _ => rfl))
      (sl_cons (sx_for (tgt_name 4 rfl) (si_seq (se_var 0 rfl)) (sl_cons (sx_assign 3 rfl (se_bin (se_var 3 rfl) (se_call (crossing_ok).weaken rfl (fun _ => by k_is) (fun _ => by k_is) (sa_cons (se_var 4 rfl) (sa_cons (se_var 1 rfl) (sa_cons (se_var 2 rfl) sa_nil))))) (fun _ => rfl))
      sl_nil))
      (sl_cons (sx_ret (se_var 3 rfl))
      sl_nil)))
  case spec =>
    intro ds dd e
    refine s_winding_number_shape (P := fun y => ds = y → _) e ?_ rfl
    rintro es x y rfl
    · obtain ⟨E, hE, e⟩ := Option.bind_eq_some_iff.mp e
      split at e
      · rename_i h
        obtain ⟨h1, h2, h3⟩ := h
        cases e
        refine gv_top (ds' := [.lst es, .int x, .int y]) rfl ?_
        refine gv_seq ([some (.lst es), some (.int x), some (.int y), some (.int 0), none], none) (by simp [dropOwn]) ?_
        refine gv_for (ds := es) (by simp) (fun pre z => ∃ u, z = ([some (.lst es), some (.int x), some (.int y), some (.int (windOf (E.take pre.length) x y)), u], none)) ⟨none, rfl⟩ ?_ ?_
        · rintro p d q e z ⟨u, rfl⟩
          refine ⟨_, rfl, ?_⟩
          obtain ⟨e0, he, hEi⟩ := mapM_get hE (at_split e)
          have := edgeD_inv he; subst this
          have hs := h1 e0 (List.mem_of_getElem? hEi)
          refine gv_seq ([some (.lst es), some (.int x), some (.int y), some (.int (windOf (E.take (p.length + 1)) x y)), some (encE e0)], none) ?_ (gv_nil ⟨rfl, some (encE e0), by simp⟩)
          have hw : windOf (E.take (p.length + 1)) x y = windOf (E.take p.length) x y + crossOf e0 x y := by
            rw [take_get hEi]; simp [windOf]
          obtain ⟨a, b, c, d⟩ := e0
          simp [encE, s_crossing_at, hs, h2, h3, bop, bAdd_i, bAdd_s, bAdd_t, bAdd_l, dropOwn, hw]
        · rintro z' ⟨u, rfl⟩
          have : E.take es.length = E := List.take_of_length_le (by rw [mapM_length hE]; exact Nat.le_refl _)
          exact gv_return (by simp [thaw, this]) rfl
      · first | exact nn e | cases e

noncomputable def s_is_filled : List D → Option D
  | [.int t, .str r] => if r = Str.ofString "nonzero" then some (.bool (decide (t ≠ 0))) else if r = Str.ofString "evenodd" then some (.bool (decide (t % 2 = 1))) else none
  | _ => none
theorem is_filled_ok {c : Cx} : RCon c 1 3 369 s_is_filled := by
  refine' RCon.spec_le (rcon_def (nd := 0) (nu := 0) (nm := ["total", "rule"]) (np := 2) (fill := fillN 2) ?ho ?hcd (bind_n ?hb) ?K ?h) ?spec
  case ho => k_is
  case hcd => k_is
  case K => exact ⟨⟨by decide, by decide, by decide⟩, by decide, by decide, by decide, rfl, rfl, rfl⟩
  case hb => intro s vs h; obtain ⟨a0, a1, rfl⟩ := len2 h; exact BindsTo.of_eq rfl
  case h =>
    exact (sl_cons (sx_if (st_notin (se_var 1 rfl) (se_rules rfl)) (sl_cons sx_dead
      sl_nil) sl_nil)
      (sl_cons (sx_if (st_cmp (se_var 1 rfl) se_str) (sl_cons (sx_ret (se_cmp (se_var 0 rfl) se_int))
      sl_nil) sl_nil)
      (sl_cons (sx_ret (se_cmp (se_bin (se_var 0 rfl) se_int) se_int))
      sl_nil)))
  case spec =>
    intro ds d e
    unfold s_is_filled at e
    split at e
    · rename_i t r
      split at e
      · rename_i h
        subst h
        cases e
        refine gv_top (ds' := [.int t, .str _]) rfl ?_
        refine gv_if false (by simp [strsOf]) (gv_unit ?_)
        refine gv_if true (by simp [bcmp, cEq]) (gv_assoc (gv_return (by simp [thaw, bcmp, cNe]) rfl))
      · split at e
        · rename_i h0 h
          subst h
          cases e
          have h0' : ¬ (Str.ofString "evenodd" = Str.ofString "nonzero") := h0
          refine gv_top (ds' := [.int t, .str _]) rfl ?_
          refine gv_if false (by simp [strsOf]) (gv_unit ?_)
          refine gv_if false (by simp [bcmp, cEq, h0']) (gv_unit (gv_return (by simp [thaw, bcmp, cEq, bop, bMod]) rfl))
        · first | exact nn e | cases e
    · first | exact nn e | cases e

/-- a corner in whole numbers -/
noncomputable def wptOf : D → Option (Int × Int)
  | .tup [.dec x p, .dec y q] => if p = 0 ∧ q = 0 ∧ -100000 ≤ x ∧ x ≤ 100000 then some (x, y) else none
  | _ => none
theorem wptOf_at {x p y q : Int} : wptOf (.tup [.dec x p, .dec y q]) = if p = 0 ∧ q = 0 ∧ -100000 ≤ x ∧ x ≤ 100000 then some (x, y) else none := rfl
theorem wptOf_shape {P : D → Prop} {xx : D} {r : _} (e : wptOf xx = some r) (q0 : ∀ x p y q, P (.tup [(.dec x p), (.dec y q)])) : P xx := by
  cases xx with
  | tup x1 =>
    cases x1 with
    | nil => exact nn e
    | cons h2 t3 =>
      cases h2 with
      | dec x4 x5 =>
        cases t3 with
        | nil => exact nn e
        | cons h6 t7 =>
          cases h6 with
          | dec x8 x9 =>
            cases t7 with
            | nil =>
              exact q0 x4 x5 x8 x9
            | cons _ _ => exact nn e
          | _ => exact nn e
      | _ => exact nn e
  | _ => exact nn e
theorem wptOf_inv {d : D} {p : Int × Int} (h : wptOf d = some p) : d = .tup [.dec p.1 0, .dec p.2 0] ∧ -100000 ≤ p.1 ∧ p.1 ≤ 100000 := by
  refine wptOf_shape (xx := d) (P := fun y => d = y → _) h ?_ rfl
  rintro x p0 y q rfl
  rw [wptOf_at] at h
  · split at h
    · rename_i hh
      obtain ⟨rfl, rfl, h1, h2⟩ := hh
      cases h
      exact ⟨rfl, h1, h2⟩
    · first | exact nn h | cases h
noncomputable def wpolyOf : D → Option (List (Int × Int))
  | .lst pts => if pts.length ≤ 900 then pts.mapM wptOf else none
  | _ => none
noncomputable def areaAt (ps : List (Int × Int)) (k : Nat) : Int := match ps[pv ps.length k]?, ps[k]? with
  | some a, some b => a.1 * b.2 - b.1 * a.2
  | _, _ => 0
noncomputable def areaOf (ps : List (Int × Int)) : Int := ((List.range ps.length).map (areaAt ps)).sum
noncomputable def s_doubled_area : List D → Option D
  | [.lst polys] => (polys.mapM wpolyOf).map fun P => .dec ((P.map areaOf).sum) 0
  | _ => none
theorem doubled_area_ok {c : Cx} : RCon c 6 19 376 s_doubled_area := by
  refine' RCon.spec_le (rcon_def (nd := 5) (nu := 16) (nm := ["polygons", "total", "corners", "at", "x", "y", "u", "v"]) (np := 1) (fill := fillN 1) ?ho ?hcd (bind_n ?hb) ?K ?h) ?spec
  case ho => k_is
  case hcd => k_is
  case K => exact ⟨⟨by decide, by decide, by decide⟩, by decide, by decide, by decide, rfl, rfl, rfl⟩
  case hb => intro s vs h; obtain ⟨a0, rfl⟩ := len1 h; exact BindsTo.of_eq rfl
  case h =>
    exact (sl_cons (sx_assign 1 rfl (se_call (decimal_of_ok).weaken rfl (fun _ => by k_is) (fun _ => by k_is) (sa_cons se_int sa_nil)) (fun _ => rfl))
      (sl_cons (sx_for (tgt_name 2 rfl) (si_seq (se_var 0 rfl)) (sl_cons (sx_for (tgt_name 3 rfl) (si_range1 rfl (se_bfun len_ok rfl (fun _ => by k_is) boot_len (by decide) (sa_cons (se_var 2 rfl) sa_nil))) (sl_cons (sx_unpack (tgt_pair 4 5 rfl rfl) (se_idx (se_var 2 rfl) (se_bin (se_var 3 rfl) se_int)))
      (sl_cons (sx_unpack (tgt_pair 6 7 rfl rfl) (se_idx (se_var 2 rfl) (se_var 3 rfl)))
      (sl_cons (sx_assign 1 rfl (se_meth (dec_plus_ok).weaken (se_var 1 rfl) (sa_cons (se_meth (dec_minus_ok).weaken (se_meth (dec_times_ok).weaken (se_var 4 rfl) (sa_cons (se_var 7 rfl) sa_nil) (fun _ => by k_is) (fun _ => by k_is) (fun _ => by k_is) (fun _ => by k_is) (fun _ _ _ _ _ => rfl) (fun _ => by k_is) (fun _ => ⟨_, rfl⟩)) (sa_cons (se_meth (dec_times_ok).weaken (se_var 6 rfl) (sa_cons (se_var 5 rfl) sa_nil) (fun _ => by k_is) (fun _ => by k_is) (fun _ => by k_is) (fun _ => by k_is) (fun _ _ _ _ _ => rfl) (fun _ => by k_is) (fun _ => ⟨_, rfl⟩)) sa_nil) (fun _ => by k_is) (fun _ => by k_is) (fun _ => by k_is) (fun _ => by k_is) (fun _ _ _ _ _ => rfl) (fun _ => by k_is) (fun _ => ⟨_, rfl⟩)) sa_nil) (fun _ => by k_is) (fun _ => by k_is) (fun _ => by k_is) (fun _ => by k_is) (fun _ _ _ _ _ => rfl) (fun _ => by k_is) (fun _ => ⟨_, rfl⟩)) (fun _ => rfl))
      sl_nil))))
      sl_nil))
      (sl_cons (sx_ret (se_var 1 rfl))
      sl_nil)))
  case spec =>
    intro ds d e
    unfold s_doubled_area at e
    split at e
    · rename_i polys
      obtain ⟨P, hP, rfl⟩ := Option.map_eq_some_iff.mp e
      refine gv_top (ds' := [.lst polys]) rfl ?_
      refine gv_seq ([some (.lst polys), some (.dec 0 0), none, none, none, none, none, none], none) (by simp [s_decimal_of, asDec, dropOwn]) ?_
      refine gv_for (ds := polys) (by simp) (fun pre z => ∃ u2 u3 u4 u5 u6 u7, z = ([some (.lst polys), some (.dec (((P.take pre.length).map areaOf).sum) 0), u2, u3, u4, u5, u6, u7], none)) ⟨none, none, none, none, none, none, by simp⟩ ?_ ?_
      · rintro p d q e z ⟨u2, u3, u4, u5, u6, u7, rfl⟩
        refine ⟨_, rfl, ?_⟩
        obtain ⟨ps, hps, hPi⟩ := mapM_get hP (at_split e)
        unfold wpolyOf at hps
        split at hps
        · rename_i pts
          split at hps
          · rename_i hlen
            have hpl := mapM_length hps
            refine gv_for (ds := (List.range ps.length).map fun (k : Nat) => D.int (k : Int)) ?_ (fun pre z => ∃ u3 u4 u5 u6 u7, z = ([some (.lst polys), some (.dec (((P.take p.length).map areaOf).sum + ((List.range pre.length).map (areaAt ps)).sum) 0), some (.lst pts), u3, u4, u5, u6, u7], none)) ⟨u3, u4, u5, u6, u7, by simp [dropOwn]⟩ ?_ ?_
            · have hl : ps.length ≤ 1000 := by omega
              simp [bLen_t, bLen_l, bLen_s, hpl, hl, rng1_nat hl]
            · rintro p' d' q' e' z ⟨u3, u4, u5, u6, u7, rfl⟩
              refine ⟨_, rfl, ?_⟩
              obtain ⟨rfl, hk⟩ := range_at e'
              have hk2 := pv_lt hk
              have hk3 : p'.length ≤ 1000 := by omega
              have ga : pts[pv pts.length p'.length]? = some (pts[pv pts.length p'.length]'(by rw [hpl]; exact hk2)) := List.getElem?_eq_getElem _
              have gb : pts[p'.length]? = some (pts[p'.length]'(by rw [hpl]; exact hk)) := List.getElem?_eq_getElem _
              obtain ⟨a, ha, hpa⟩ := mapM_get hps ga
              obtain ⟨b, hb, hpb⟩ := mapM_get hps gb
              obtain ⟨ea, ba1, ba2⟩ := wptOf_inv ha
              obtain ⟨eb, bb1, bb2⟩ := wptOf_inv hb
              rw [ea] at ga
              rw [eb] at gb
              rw [hpl] at hpa
              refine gv_seq ([some (.lst polys), some (.dec (((P.take p.length).map areaOf).sum + ((List.range p'.length).map (areaAt ps)).sum) 0), some (.lst pts), some (.int (p'.length : Int)), some (.dec a.1 0), some (.dec a.2 0), u6, u7], none) ?_ ?_
              · simp [bop, bSub, bidx, bidxL_prev _ _ hk3, ga, tgP, dropOwn]
              refine gv_seq ([some (.lst polys), some (.dec (((P.take p.length).map areaOf).sum + ((List.range p'.length).map (areaAt ps)).sum) 0), some (.lst pts), some (.int (p'.length : Int)), some (.dec a.1 0), some (.dec a.2 0), some (.dec b.1 0), some (.dec b.2 0)], none) ?_ ?_
              · simp [bidx, bidxL_nat _ _ hk3, gb, tgP, dropOwn]
              have har : areaAt ps p'.length = a.1 * b.2 - b.1 * a.2 := by unfold areaAt; rw [hpa, hpb]
              have q1 : (-1000000000000 : Int) ≤ a.1 ∧ a.1 ≤ 1000000000000 := by omega
              have q2 : (-1000000000000 : Int) ≤ b.1 ∧ b.1 ≤ 1000000000000 := by omega
              refine gv_seq ([some (.lst polys), some (.dec (((P.take p.length).map areaOf).sum + ((List.range (p'.length + 1)).map (areaAt ps)).sum) 0), some (.lst pts), some (.int (p'.length : Int)), some (.dec a.1 0), some (.dec a.2 0), some (.dec b.1 0), some (.dec b.2 0)], none) ?_ (gv_nil ⟨rfl, some (.int (p'.length : Int)), some (.dec a.1 0), some (.dec a.2 0), some (.dec b.1 0), some (.dec b.2 0), by simp⟩)
              simp [s_dec_times, q1, q2, whole, s_dec_minus, s_dec_plus, dropOwn, List.range_succ, har, Int.add_assoc]
            · rintro z' ⟨u3, u4, u5, u6, u7, rfl⟩
              refine gv_nil ⟨rfl, some (.lst pts), u3, u4, u5, u6, u7, ?_⟩
              simp [take_get hPi, areaOf]
          · first | exact nn hps | cases hps
        · first | exact nn hps | cases hps
      · rintro z' ⟨u2, u3, u4, u5, u6, u7, rfl⟩
        refine gv_return (r := .dec ((P.map areaOf).sum) 0) ?_ rfl
        have : P.take polys.length = P := List.take_of_length_le (by rw [mapM_length hP]; exact Nat.le_refl _)
        simp [thaw, this]
    · first | exact nn e | cases e
end Mine

namespace Mine
open PySem PySem.W PySem.Calls PySem.SeqAt PyProof.Rows

noncomputable def litX (b : Bool) : Str := if b then Str.ofString "x" else Str.ofString "."
theorem litX_len (b : Bool) : (litX b).length = 1 := by cases b <;> rfl
noncomputable def filled (r : Str) (t : Int) : Bool := if r = Str.ofString "nonzero" then decide (t ≠ 0) else decide (t % 2 = 1)
noncomputable def okRule (r : Str) : Prop := r = Str.ofString "nonzero" ∨ r = Str.ofString "evenodd"
theorem is_filled_ok' {r : Str} (h : okRule r) (t : Int) : s_is_filled [.int t, .str r] = some (.bool (filled r t)) := by
  unfold s_is_filled filled
  dsimp only
  rcases h with rfl | rfl
  · simp
  · have : ¬ (Str.ofString "evenodd" = Str.ofString "nonzero") := by decide
    simp [this]
noncomputable def nearE (y : Int) (e : Int × Int × Int × Int) : Bool := (decide (e.2.1 ≤ y) && decide (y < e.2.2.2)) || (decide (e.2.2.2 ≤ y) && decide (y < e.2.1))
theorem mapM_edge : ∀ {es : List D} {E : List (Int × Int × Int × Int)}, es.mapM edgeD = some E → es = E.map encE
  | [], E, h => by cases h; rfl
  | d :: r, E, h => by
    rw [List.mapM_cons] at h
    obtain ⟨b, hb, h⟩ := Option.bind_eq_some_iff.mp h
    obtain ⟨c, hc, h⟩ := Option.bind_eq_some_iff.mp h
    cases h
    rw [List.map_cons, ← edgeD_inv hb, ← mapM_edge hc]
noncomputable def nearF (y : Int) (d : D) : Option (Option D) := (edgeD d).map fun e => if nearE y e then some d else none
theorem compL_near (y : Int) : ∀ (E : List (Int × Int × Int × Int)), compL (nearF y) (E.map encE) = some ((E.filter (nearE y)).map encE)
  | [] => rfl
  | e :: r => by
    rw [List.map_cons]
    simp only [compL, nearF, edgeD_enc, Option.map_some, Option.bind_some, compL_near y r]
    by_cases h : nearE y e = true <;> simp [h]
noncomputable def rowTxt (E : List (Int × Int × Int × Int)) (r : Str) (w : Nat) (y : Int) : Str :=
  Txt.join (Str.ofString "") ((List.range w).map fun (c : Nat) => litX (filled r (windOf (E.filter (nearE y)) ((2 * (c : Int) + 1) * 5) y)))
open Classical in
noncomputable def s_row_text : List D → Option D
  | [.lst es, .str r, .int w, .int y, .int u] => (es.mapM edgeD).bind fun E => if okRule r ∧ 0 ≤ w ∧ w ≤ 100 ∧ u = 5 ∧ sm y ∧ (∀ e ∈ E, smE e) ∧ E.length ≤ 1000 then some (.str (rowTxt E r w.toNat y)) else none
  | _ => none
theorem strsOf_str (xs : List Str) : strsOf (xs.map D.str) = some xs := by
  induction xs with
  | nil => rfl
  | cons a r ih => simp [strsOf, ih]
theorem s_row_text_shape {P : List D → Prop} {xx : List D} {r : _} (e : s_row_text xx = some r) (q0 : ∀ es r w y u, P [(.lst es), (.str r), (.int w), (.int y), (.int u)]) : P xx := by
  cases xx with
  | nil => exact nn e
  | cons h1 t2 =>
    cases h1 with
    | lst x3 =>
      cases t2 with
      | nil => exact nn e
      | cons h4 t5 =>
        cases h4 with
        | str x6 =>
          cases t5 with
          | nil => exact nn e
          | cons h7 t8 =>
            cases h7 with
            | int x9 =>
              cases t8 with
              | nil => exact nn e
              | cons h10 t11 =>
                cases h10 with
                | int x12 =>
                  cases t11 with
                  | nil => exact nn e
                  | cons h13 t14 =>
                    cases h13 with
                    | int x15 =>
                      cases t14 with
                      | nil =>
                        exact q0 x3 x6 x9 x12 x15
                      | cons _ _ => exact nn e
                    | _ => exact nn e
                | _ => exact nn e
            | _ => exact nn e
        | _ => exact nn e
    | _ => exact nn e
theorem row_text_ok {c : Cx} : RCon c 3 9 381 s_row_text := by
  refine' RCon.spec_le (rcon_def (nd := 2) (nu := 6) (nm := ["edges", "rule", "width", "y", "unit", "near", "signs", "column", "total"]) (np := 5) (fill := fillN 5) ?ho ?hcd (bind_n ?hb) ?K ?h) ?spec
  case ho => k_is
  case hcd => k_is
  case K => exact ⟨⟨by decide, by decide, by decide⟩, by decide, by decide, by decide, rfl, rfl, rfl⟩
  case hb => intro s vs h; obtain ⟨a0, a1, a2, a3, a4, rfl⟩ := len5 h; exact BindsTo.of_eq rfl
  case h =>
    exact (sl_cons (sx_assign_comp 5 rfl rfl (SI.g (si_seq (se_var 0 rfl))) ctgt_name (show CompOK _ _ _ _ [(Str.ofString "y", 3)] from ⟨rfl, rfl, by decide, by decide, by decide, by decide, by decide, by decide⟩) (sts_one (st_or (st_chain (se_idx (se_var 0 rfl) se_int) (se_var 1 rfl) (se_idx (se_var 0 rfl) se_int)) (st_chain (se_idx (se_var 0 rfl) se_int) (se_var 1 rfl) (se_idx (se_var 0 rfl) se_int)))) (se_var 0 rfl) rfl rfl rfl)
      (sl_cons (sx_own 6 rfl rfl)
      (sl_cons (sx_for (tgt_name 7 rfl) (si_range1 rfl (se_var 2 rfl)) (sl_cons (sx_assign 8 rfl (se_call (winding_number_ok).weaken rfl (fun _ => by k_is) (fun _ => by k_is) (sa_cons (se_var 5 rfl) (sa_cons (se_bin (se_bin (se_bin se_int (se_var 7 rfl)) se_int) (se_var 4 rfl)) (sa_cons (se_var 3 rfl) sa_nil)))) (fun _ => rfl))
      (sl_cons (sx_append 6 rfl (se_ife (st_val (se_call (is_filled_ok).weaken rfl (fun _ => by k_is) (fun _ => by k_is) (sa_cons (se_var 8 rfl) (sa_cons (se_var 1 rfl) sa_nil)))) se_str se_str))
      sl_nil)))
      (sl_cons (sx_ret (se_smeth join_ok se_str (sa_cons (se_var 6 rfl) sa_nil) (fun _ _ _ _ _ _ _ _ h => GM.join h) (fun _ => ⟨_, rfl⟩)))
      sl_nil))))
  case spec =>
    intro ds dd e
    refine s_row_text_shape (P := fun y => ds = y → _) e ?_ rfl
    rintro es r w y u rfl
    · obtain ⟨E, hE, e2⟩ := Option.bind_eq_some_iff.mp e
      clear e
      split at e2
      · rename_i h
        obtain ⟨hr, hw0, hw, rfl, hy, hs, hEl⟩ := h
        cases e2
        have := mapM_edge hE; subst this
        obtain ⟨w, rfl⟩ : ∃ n : Nat, w = (n : Int) := ⟨w.toNat, by omega⟩
        have hw1 : w ≤ 1000 := by omega
        refine gv_top (ds' := [.lst (E.map encE), .str r, .int (w : Int), .int y, .int 5]) rfl ?_
        refine gv_seq ([some (.lst (E.map encE)), some (.str r), some (.int (w : Int)), some (.int y), some (.int 5), some (.lst ((E.filter (nearE y)).map encE)), none, none, none], none) ?_ ?_
        · rw [compS_L (ds := E.map encE) (es := (E.filter (nearE y)).map encE) (f := nearF y)]
          · simp [dropOwn]
          · simp
          · rw [List.length_map]; exact hEl
          · exact compL_near y E
          · intro d hd o ho
            obtain ⟨e, he, rfl⟩ := List.mem_map.mp hd
            obtain ⟨a, b, c, d⟩ := e
            simp only [nearF, edgeD_enc, Option.map_some] at ho
            cases ho
            simp [compF, spN, encE, bidx, bidxL_1, bidxL_3, bcmp, cInt, nearE]
            by_cases h1 : b ≤ y <;> by_cases h2 : d ≤ y <;> by_cases h3 : y < d <;> by_cases h4 : y < b <;> simp [h1, h2, h3, h4]
        refine gv_seq ([some (.lst (E.map encE)), some (.str r), some (.int (w : Int)), some (.int y), some (.int 5), some (.lst ((E.filter (nearE y)).map encE)), none, none, none], some (6, [])) rfl ?_
        refine gv_for (ds := (List.range w).map fun (k : Nat) => D.int (k : Int)) (by simp [rng1_nat hw1]) (fun pre z => ∃ u7 u8, z = ([some (.lst (E.map encE)), some (.str r), some (.int (w : Int)), some (.int y), some (.int 5), some (.lst ((E.filter (nearE y)).map encE)), none, u7, u8],
          some (6, ((List.range pre.length).map fun (c : Nat) => litX (filled r (windOf (E.filter (nearE y)) ((2 * (c : Int) + 1) * 5) y))).map D.str))) ⟨none, none, rfl⟩ ?_ ?_
        · rintro p d q e z ⟨u7, u8, rfl⟩
          refine ⟨_, rfl, ?_⟩
          obtain ⟨rfl, hk⟩ := range_at e
          have hx : sm ((2 * (p.length : Int) + 1) * 5) := by unfold sm; omega
          have hwn : s_winding_number [.lst ((E.filter (nearE y)).map encE), .int ((2 * (p.length : Int) + 1) * 5), .int y] = some (.int (windOf (E.filter (nearE y)) ((2 * (p.length : Int) + 1) * 5) y)) := by
            unfold s_winding_number
            dsimp only
            rw [mapM_enc, Option.bind_some, if_pos ⟨fun e he => hs e (List.mem_filter.mp he).1, hx, hy⟩]
          have m1 : mulOk 2 (p.length : Int) := .inl (by omega)
          have m2 : mulOk (2 * (p.length : Int) + 1) 5 := .inr (by omega)
          refine gv_seq ([some (.lst (E.map encE)), some (.str r), some (.int (w : Int)), some (.int y), some (.int 5), some (.lst ((E.filter (nearE y)).map encE)), none, some (.int (p.length : Int)), some (.int (windOf (E.filter (nearE y)) ((2 * (p.length : Int) + 1) * 5) y))],
            some (6, ((List.range p.length).map fun (c : Nat) => litX (filled r (windOf (E.filter (nearE y)) ((2 * (c : Int) + 1) * 5) y))).map D.str)) ?_ ?_
          · simp only [List.set_cons_succ, List.set_cons_zero, List.getElem?_cons_succ, List.getElem?_cons_zero, Option.join_some, Option.bind_some, Option.map_some, bop, bMul, bAdd_i, bAdd_s, bAdd_t, bAdd_l, if_pos m1, if_pos m2, hwn]
            rfl
          refine gv_seq _ (appS_ok (d := D.str (litX (filled r (windOf (E.filter (nearE y)) ((2 * (p.length : Int) + 1) * 5) y)))) ?_ (by simp; omega)) (gv_nil ⟨rfl, some (.int (p.length : Int)), some (.int (windOf (E.filter (nearE y)) ((2 * (p.length : Int) + 1) * 5) y)), by simp [List.range_succ]⟩)
          simp only [List.getElem?_cons_succ, List.getElem?_cons_zero, Option.join_some, Option.bind_some, Option.map_some, is_filled_ok' hr]
          cases filled r (windOf (E.filter (nearE y)) ((2 * (p.length : Int) + 1) * 5) y) <;> rfl
        · rintro z' ⟨u7, u8, rfl⟩
          refine gv_return (r := .str (rowTxt E r w y)) ?_ rfl
          have hall : ((List.range w).map fun (c : Nat) => litX (filled r (windOf (E.filter (nearE y)) ((2 * (c : Int) + 1) * 5) y))).all (fun y => decide (y.length ≤ 16)) = true := by
            rw [List.all_eq_true]
            intro x hx
            obtain ⟨c, _, rfl⟩ := List.mem_map.mp hx
            rw [litX_len]; rfl
          simp only [thaw, List.length_map, List.length_range, List.set_cons_succ, List.set_cons_zero, List.getElem?_cons_succ, List.getElem?_cons_zero, Option.join_some, Option.bind_some, Option.map_some, bJoin, strsOf_str]
          rw [if_pos ⟨trivial, hw1⟩]
          simp only [Option.bind_some, hall, if_true]
          rfl
      · first | exact nn e2 | cases e2
end Mine

namespace Mine
open PySem PySem.W PySem.Calls PySem.SeqAt PyProof.Rows

noncomputable def rasterRows (E : List (Int × Int × Int × Int)) (r : Str) (w h : Nat) : List Str :=
  (List.range h).map fun (k : Nat) => rowTxt E r w ((2 * (((h : Int) - 1) + (k : Int) * (-1)) + 1) * 5)
open Classical in
noncomputable def s_raster : List D → Option D
  | [p, .str r, .int w, .int h] => (s_lines_of [p, .int 3]).bind fun l => match l with
    | .lst polys => (polys.mapM polyOf).bind fun P =>
      if okRule r ∧ 0 ≤ w ∧ w ≤ 100 ∧ 0 ≤ h ∧ h ≤ 100 ∧ (∀ ps ∈ P, ps.length ≤ 900) ∧ (P.flatMap edgesOf).length ≤ 999 ∧ (∀ e ∈ P.flatMap edgesOf, smE e) then some (.lst ((rasterRows (P.flatMap edgesOf) r w.toNat h.toNat).map D.str)) else none
    | _ => none
  | _ => none
theorem s_raster_shape {P : List D → Prop} {xx : List D} {r : _} (e : s_raster xx = some r) (q0 : ∀ p r w h, P [p, (.str r), (.int w), (.int h)]) : P xx := by
  cases xx with
  | nil => exact nn e
  | cons h1 t2 =>
    cases t2 with
    | nil => exact nn e
    | cons h3 t4 =>
      cases h3 with
      | str x5 =>
        cases t4 with
        | nil => exact nn e
        | cons h6 t7 =>
          cases h6 with
          | int x8 =>
            cases t7 with
            | nil => exact nn e
            | cons h9 t10 =>
              cases h9 with
              | int x11 =>
                cases t10 with
                | nil =>
                  exact q0 h1 x5 x8 x11
                | cons _ _ => exact nn e
              | _ => exact nn e
          | _ => exact nn e
      | _ => exact nn e
theorem raster_ok {c : Cx} : RCon c 5 16 387 s_raster := by
  refine' RCon.spec_le (rcon_def (nd := 4) (nu := 13) (nm := ["path", "rule", "width", "height", "depth", "polygons", "places", "corners", "edges", "unit"]) (np := 5) (fill := fillD 4 (D.int 3)) ?ho ?hcd (bind_d (dv := Value.int 3 429) (.int _ _) ?hb ?hb2) ?K ?h) ?spec
  case ho => k_is
  case hcd => k_is
  case K => exact ⟨⟨by decide, by decide, by decide⟩, by decide, by decide, by decide, rfl, rfl, rfl⟩
  case hb => intro s vs X h; obtain ⟨a0, a1, a2, a3, a4, rfl⟩ := len5 h; exact BindsTo.of_defaults rfl (X 382 ⟨.type "tuple", none, .seq #[.int 3 429] 0, #[]⟩ (by k_is)) rfl rfl rfl
  case hb2 => intro s vs X h; obtain ⟨a0, a1, a2, a3, rfl⟩ := len4 h; exact BindsTo.of_defaults rfl (X 382 ⟨.type "tuple", none, .seq #[.int 3 429] 0, #[]⟩ (by k_is)) rfl rfl rfl
  case h =>
    exact (sl_cons (sx_assign 5 rfl (se_call (lines_of_ok).weaken rfl (fun _ => by k_is) (fun _ => by k_is) (sa_cons (se_var 0 rfl) (sa_cons (se_var 4 rfl) sa_nil))) (fun _ => rfl))
      (sl_cons (sx_assign 6 rfl se_int (fun _ => rfl))
      (sl_cons (sx_for (tgt_name 7 rfl) (si_seq (se_var 5 rfl)) (sl_cons (sx_assign 6 rfl (se_call (places_of_ok).weaken rfl (fun _ => by k_is) (fun _ => by k_is) (sa_cons (se_var 7 rfl) (sa_cons (se_var 6 rfl) sa_nil))) (fun _ => rfl))
      sl_nil))
      (sl_cons (sx_assign 8 rfl (se_call (whole_edges_ok).weaken rfl (fun _ => by k_is) (fun _ => by k_is) (sa_cons (se_var 5 rfl) (sa_cons (se_var 6 rfl) sa_nil))) (fun _ => rfl))
      (sl_cons (sx_assign 9 rfl (se_bin se_int (se_bin se_int (se_bin (se_var 6 rfl) se_int))) (fun _ => rfl))
      (sl_cons (sx_ret (se_comp (SI.g (si_down rfl (sa_cons (se_bin (se_var 3 rfl) se_int) (sa_cons (se_neg se_int) (sa_cons (se_neg se_int) sa_nil))))) ctgt_name (show CompOK _ _ _ _ [(Str.ofString "edges", 8), (Str.ofString "rule", 1), (Str.ofString "width", 2), (Str.ofString "unit", 9)] from ⟨rfl, rfl, by decide, by decide, by decide, by decide, by decide, by decide⟩) sts_nil (se_call (row_text_ok).weaken rfl (fun _ => by k_is) (fun _ => by k_is) (sa_cons (se_var 1 rfl) (sa_cons (se_var 2 rfl) (sa_cons (se_var 3 rfl) (sa_cons (se_bin (se_bin (se_bin se_int (se_var 0 rfl)) se_int) (se_var 4 rfl)) (sa_cons (se_var 4 rfl) sa_nil))))))))
      sl_nil))))))
  case spec =>
    intro ds dd e
    refine s_raster_shape (P := fun y => ds = y → _) e ?_ rfl
    rintro p r w h rfl
    · obtain ⟨l, hl, e2⟩ := Option.bind_eq_some_iff.mp e
      clear e
      split at e2
      · rename_i polys
        obtain ⟨P, hP, e3⟩ := Option.bind_eq_some_iff.mp e2
        clear e2
        split at e3
        · rename_i hc
          obtain ⟨hr, hw0, hw, hh0, hh, hc1, hc2, hs⟩ := hc
          cases e3
          obtain ⟨w, rfl⟩ : ∃ n : Nat, w = (n : Int) := ⟨w.toNat, by omega⟩
          obtain ⟨h, rfl⟩ : ∃ n : Nat, h = (n : Int) := ⟨h.toNat, by omega⟩
          refine gv_top (ds' := [p, .str r, .int (w : Int), .int (h : Int), .int 3]) rfl ?_
          refine gv_seq ([some p, some (.str r), some (.int (w : Int)), some (.int (h : Int)), some (.int 3), some (.lst polys), none, none, none, none], none) (by simp [hl, dropOwn]) ?_
          refine gv_seq ([some p, some (.str r), some (.int (w : Int)), some (.int (h : Int)), some (.int 3), some (.lst polys), some (.int 1), none, none, none], none) (by simp [dropOwn]) ?_
          refine gv_for (ds := polys) (by simp) (fun pre z => ∃ u, z = ([some p, some (.str r), some (.int (w : Int)), some (.int (h : Int)), some (.int 3), some (.lst polys), some (.int 1), u, none, none], none)) ⟨none, rfl⟩ ?_ ?_
          · rintro p' d q e z ⟨u, rfl⟩
            refine ⟨_, rfl, ?_⟩
            obtain ⟨ps, hps, hPi⟩ := mapM_get hP (at_split e)
            unfold polyOf at hps
            split at hps
            · rename_i pts
              exact gv_seq ([some p, some (.str r), some (.int (w : Int)), some (.int (h : Int)), some (.int 3), some (.lst polys), some (.int 1), some (.lst pts), none, none], none) (by simp [s_places_of, hps, dropOwn]) (gv_nil ⟨rfl, some (.lst pts), rfl⟩)
            · first | exact nn hps | cases hps
          · rintro z' ⟨u, rfl⟩
            have hwe : s_whole_edges [.lst polys, .int 1] = some (.lst ((P.flatMap edgesOf).map encE)) := by
              unfold s_whole_edges
              simp only [if_true, hP, Option.bind_some]
              rw [if_pos ⟨hc1, hc2⟩]
            refine gv_seq ([some p, some (.str r), some (.int (w : Int)), some (.int (h : Int)), some (.int 3), some (.lst polys), some (.int 1), u, some (.lst ((P.flatMap edgesOf).map encE)), none], none) (by simp [hwe, dropOwn]) ?_
            refine gv_seq ([some p, some (.str r), some (.int (w : Int)), some (.int (h : Int)), some (.int 3), some (.lst polys), some (.int 1), u, some (.lst ((P.flatMap edgesOf).map encE)), some (.int 5)], none) (by simp [bop, bSub, bPow, bMul, mulOk, dropOwn]) ?_
            generalize hE : P.flatMap edgesOf = E at hc2 hs
            refine gv_return (r := .lst ((rasterRows E r w h).map D.str)) ?_ rfl
            rw [compS_map (ds := (List.range h).map fun (k : Nat) => D.int (((h : Int) - 1) + (k : Int) * (-1))) (g := fun d => match d with | .int row => .str (rowTxt E r w ((2 * row + 1) * 5)) | _ => .none)]
            · simp [rasterRows, Function.comp_def]
            · have h1 : (-1 : Int) ≤ (h : Int) - 1 ∧ (h : Int) - 1 ≤ 1000 := by omega
              simp [thaw, bop, bSub, rngDown_at, h1.1, h1.2]
            · simp; omega
            · intro d hd
              obtain ⟨k, hk, rfl⟩ := List.mem_map.mp hd
              have hk := List.mem_range.mp hk
              generalize hrow : ((h : Int) - 1) + (k : Int) * (-1) = row
              have hrow1 : 0 ≤ row ∧ row ≤ 100 := by omega
              have m1 : mulOk 2 row := .inl (by omega)
              have m2 : mulOk (2 * row + 1) 5 := .inr (by omega)
              have hy : sm ((2 * row + 1) * 5) := by unfold sm; omega
              have hrt : s_row_text [.lst (E.map encE), .str r, .int (w : Int), .int ((2 * row + 1) * 5), .int 5] = some (.str (rowTxt E r w ((2 * row + 1) * 5))) := by
                unfold s_row_text
                simp only [mapM_enc, Option.bind_some, Int.toNat_natCast]
                rw [if_pos ⟨hr, by omega, by omega, rfl, hy, hs, by omega⟩]
              simp [compF, spN, thaw, bop, bMul, bAdd_i, bAdd_s, bAdd_t, bAdd_l, m1, m2, hrt]
        · first | exact nn e3 | cases e3
      · first | exact nn e2 | cases e2

noncomputable def asciiS (x : Str) : Bool := x.cps.all (· < 128) && decide (x.length ≤ 900)
noncomputable def metS (a b : Str) : Str := Txt.join (Str.ofString "") ((a.cps.toList.zip b.cps.toList).map fun p => litX (decide (p.1 = 120) && decide (p.2 = 120)))
noncomputable def s_met_rows : List D → Option D
  | [.lst A, .lst B] => (strsOf A).bind fun as => (strsOf B).bind fun bs => if as.all asciiS ∧ bs.all asciiS ∧ as.length = bs.length ∧ as.length ≤ 900 then some (.lst (((as.zip bs).map fun p => metS p.1 p.2).map D.str)) else none
  | _ => none
theorem strsOf_map : ∀ {ds : List D} {xs : List Str}, strsOf ds = some xs → ds = xs.map D.str := by
  intro ds
  induction ds with
  | nil => intro xs h; cases h; rfl
  | cons d r ih =>
    intro xs h
    cases d with
    | str x =>
      obtain ⟨ys, e, rfl⟩ := Option.map_eq_some_iff.mp h
      rw [List.map_cons, ← ih e]
    | _ => exact nn h
theorem one_x (n : Nat) : ((⟨#[n]⟩ : Str) = Str.ofString "x") ↔ n = 120 := by
  constructor
  · intro h
    have hx : Str.ofString "x" = (⟨#[120]⟩ : Str) := by decide
    rw [hx] at h
    have := congrArg (fun s : Str => s.cps.toList) h
    simpa using this
  · rintro rfl; rfl
theorem met_rows_ok {c : Cx} : RCon c 1 3 392 s_met_rows := by
  refine' RCon.spec_le (rcon_def (nd := 0) (nu := 0) (nm := ["one", "other", "found", "k"]) (np := 2) (fill := fillN 2) ?ho ?hcd (bind_n ?hb) ?K ?h) ?spec
  case ho => k_is
  case hcd => k_is
  case K => exact ⟨⟨by decide, by decide, by decide⟩, by decide, by decide, by decide, rfl, rfl, rfl⟩
  case hb => intro s vs h; obtain ⟨a0, a1, rfl⟩ := len2 h; exact BindsTo.of_eq rfl
  case h =>
    exact (sl_cons (sx_own 2 rfl rfl)
      (sl_cons (sx_for (tgt_name 3 rfl) (si_range1 rfl (se_bfun len_ok rfl (fun _ => by k_is) boot_len (by decide) (sa_cons (se_var 0 rfl) sa_nil))) (sl_cons (sx_append 2 rfl (se_smeth join_ok se_str (sa_cons (se_comp (si_zip rfl (se_idx (se_var 0 rfl) (se_var 3 rfl)) (se_idx (se_var 1 rfl) (se_var 3 rfl))) ctgt_pair (show CompOK _ _ _ _ [] from ⟨rfl, rfl, by decide, by decide, by decide, by decide, by decide, by decide⟩) sts_nil (se_ife (st_and (st_cmp (se_var 0 rfl) se_str) (st_cmp (se_var 1 rfl) se_str)) se_str se_str)) sa_nil) (fun _ _ _ _ _ _ _ _ h => GM.join h) (fun _ => ⟨_, rfl⟩)))
      sl_nil))
      (sl_cons (sx_ret (se_var 2 rfl))
      sl_nil)))
  case spec =>
    intro ds dd e
    unfold s_met_rows at e
    split at e
    · rename_i A B
      obtain ⟨as, hA, e2⟩ := Option.bind_eq_some_iff.mp e
      obtain ⟨bs, hB, e3⟩ := Option.bind_eq_some_iff.mp e2
      clear e e2
      split at e3
      · rename_i hc
        obtain ⟨h1, h2, h3, h4⟩ := hc
        cases e3
        have := strsOf_map hA; subst this
        have := strsOf_map hB; subst this
        refine gv_top (ds' := [.lst (as.map D.str), .lst (bs.map D.str)]) rfl ?_
        refine gv_seq ([some (.lst (as.map D.str)), some (.lst (bs.map D.str)), none, none], some (2, [])) rfl ?_
        have hl : as.length ≤ 1000 := by omega
        refine gv_for (ds := (List.range as.length).map fun (k : Nat) => D.int (k : Int)) (by simp [bLen_t, bLen_l, bLen_s, hl, rng1_nat hl]) (fun pre z => ∃ u, z = ([some (.lst (as.map D.str)), some (.lst (bs.map D.str)), none, u], some (2, (((as.zip bs).take pre.length).map fun p => metS p.1 p.2).map D.str))) ⟨none, rfl⟩ ?_ ?_
        · rintro p d q e z ⟨u, rfl⟩
          refine ⟨_, rfl, ?_⟩
          obtain ⟨rfl, hk⟩ := range_at e
          have hk2 : p.length < bs.length := by omega
          have ga : as[p.length]? = some (as[p.length]) := List.getElem?_eq_getElem hk
          have gb : bs[p.length]? = some (bs[p.length]) := List.getElem?_eq_getElem hk2
          have aa := List.all_eq_true.mp h1 _ (List.mem_of_getElem? ga)
          have ab := List.all_eq_true.mp h2 _ (List.mem_of_getElem? gb)
          generalize as[p.length] = a at ga aa
          generalize bs[p.length] = b at gb ab
          unfold asciiS at aa ab
          rw [Bool.and_eq_true, decide_eq_true_eq] at aa ab
          have gz : (as.zip bs)[p.length]? = some (a, b) := by rw [List.zip_eq_zipWith, List.getElem?_zipWith, ga, gb]
          have hk3 : p.length ≤ 1000 := by omega
          have hzl : (a.cps.toList.zip b.cps.toList).length ≤ 1000 := by
            rw [List.length_zip, Array.length_toList]
            have : a.cps.size ≤ 900 := aa.2
            omega
          have hall : ((a.cps.toList.zip b.cps.toList).map fun p => litX (decide (p.1 = 120) && decide (p.2 = 120))).all (fun y => decide (y.length ≤ 16)) = true := by
            rw [List.all_eq_true]
            intro x hx
            obtain ⟨c, _, rfl⟩ := List.mem_map.mp hx
            rw [litX_len]; rfl
          refine gv_seq _ (appS_ok (d := D.str (metS a b)) ?_ (by simp; omega)) (gv_nil ⟨rfl, some (.int (p.length : Int)), by simp [take_get gz]⟩)
          rw [compS_map (ds := (a.cps.toList.zip b.cps.toList).map fun p => D.tup [D.str ⟨#[p.1]⟩, D.str ⟨#[p.2]⟩]) (g := fun d => match d with | .tup [.str m, .str n] => .str (litX (decide (m = Str.ofString "x") && decide (n = Str.ofString "x"))) | _ => .none)]
          · have em : (List.map (fun d => match d with | D.tup [D.str m, D.str n] => D.str (litX (decide (m = Str.ofString "x") && decide (n = Str.ofString "x"))) | _ => D.none) ((a.cps.toList.zip b.cps.toList).map fun p => D.tup [D.str ⟨#[p.1]⟩, D.str ⟨#[p.2]⟩])) = ((a.cps.toList.zip b.cps.toList).map fun p => litX (decide (p.1 = 120) && decide (p.2 = 120))).map D.str := by
              rw [List.map_map, List.map_map]
              apply List.map_congr_left
              intro x _
              simp only [Function.comp_apply, one_x]
            rw [em]
            simp only [Option.bind_some, Option.map_some, bJoin, strsOf_str, List.length_map]
            rw [if_pos ⟨trivial, hzl⟩]
            simp only [Option.bind_some, hall, if_true]
            rfl
          · have hz : zipD (.str a) (.str b) = some ((a.cps.toList.zip b.cps.toList).map fun p => D.tup [D.str ⟨#[p.1]⟩, D.str ⟨#[p.2]⟩]) := by
              unfold zipD
              dsimp only
              rw [if_pos ⟨aa.1, ab.1⟩]
            simp [bidx, bidxL_nat _ _ hk3, ga, gb, hz]
          · rw [List.length_map]; exact hzl
          · intro d hd
            obtain ⟨x, _, rfl⟩ := List.mem_map.mp hd
            obtain ⟨m, n⟩ := x
            simp only [compF, spP, Option.bind_some, if_true]
            by_cases q1 : (⟨#[m]⟩ : Str) = Str.ofString "x" <;> by_cases q2 : (⟨#[n]⟩ : Str) = Str.ofString "x" <;> simp [bcmp, cEq, q1, q2, litX]
        · rintro z' ⟨u, rfl⟩
          have : (as.zip bs).take as.length = as.zip bs := List.take_of_length_le (by rw [List.length_zip]; omega)
          refine gv_return (r := .lst (((as.zip bs).map fun p => metS p.1 p.2).map D.str)) ?_ rfl
          simp only [List.length_map, List.length_range]
          rw [this]
          simp [thaw]
      · first | exact nn e3 | cases e3
    · first | exact nn e | cases e

noncomputable def cntX (x : Str) : Int := Txt.count x (Str.ofString "x")
noncomputable def s_filled_count : List D → Option D
  | [.lst A] => (strsOf A).bind fun as => if as.length ≤ 900 ∧ as.all (fun x => decide (x.length ≤ 900)) then some (.int ((as.map cntX).sum)) else none
  | _ => none
theorem intsOf_int : ∀ (xs : List Int), (∀ x ∈ xs, -1000000 ≤ x ∧ x ≤ 1000000) → intsOf (xs.map D.int) = some xs
  | [], _ => rfl
  | a :: r, h => by
    have := h a List.mem_cons_self
    rw [List.map_cons]
    unfold intsOf
    rw [if_pos this, intsOf_int r fun x hx => h x (List.mem_cons_of_mem _ hx)]; rfl
theorem filled_count_ok {c : Cx} : RCon c 1 3 397 s_filled_count := by
  refine' RCon.spec_le (rcon_def (nd := 0) (nu := 0) (nm := ["rows"]) (np := 1) (fill := fillN 1) ?ho ?hcd (bind_n ?hb) ?K ?h) ?spec
  case ho => k_is
  case hcd => k_is
  case K => exact ⟨⟨by decide, by decide, by decide⟩, by decide, by decide, by decide, rfl, rfl, rfl⟩
  case hb => intro s vs h; obtain ⟨a0, rfl⟩ := len1 h; exact BindsTo.of_eq rfl
  case h =>
    exact (sl_cons (sx_ret (se_bfun sum_ok rfl (fun _ => by k_is) boot_sum (by decide) (sa_cons (se_comp (SI.g (si_seq (se_var 0 rfl))) ctgt_name (show CompOK _ _ _ _ [] from ⟨rfl, rfl, by decide, by decide, by decide, by decide, by decide, by decide⟩) sts_nil (se_smeth count_ok (se_var 0 rfl) (sa_cons se_str sa_nil) (fun _ _ _ _ _ _ _ _ h => GM.count h) (fun _ => ⟨_, rfl⟩))) sa_nil)))
      sl_nil)
  case spec =>
    intro ds dd e
    unfold s_filled_count at e
    split at e
    · rename_i A
      obtain ⟨as, hA, e2⟩ := Option.bind_eq_some_iff.mp e
      clear e
      split at e2
      · rename_i hc
        obtain ⟨h1, h2⟩ := hc
        cases e2
        have := strsOf_map hA; subst this
        have h3 : as.length ≤ 1000 := by omega
        have hb : ∀ x ∈ as.map cntX, -1000000 ≤ x ∧ x ≤ 1000000 := by
          intro x hx
          obtain ⟨a, ha, rfl⟩ := List.mem_map.mp hx
          have := count_bounds a (Str.ofString "x")
          have h4 := of_decide_eq_true (List.all_eq_true.mp h2 a ha)
          unfold cntX
          omega
        refine gv_top (ds' := [.lst (as.map D.str)]) rfl ?_
        refine gv_return (r := .int ((as.map cntX).sum)) ?_ rfl
        rw [compS_map (ds := as.map D.str) (g := fun d => match d with | .str x => .int (cntX x) | _ => .none)]
        · have em : List.map (fun d => match d with | D.str x => D.int (cntX x) | _ => D.none) (as.map D.str) = (as.map cntX).map D.int := by
            rw [List.map_map, List.map_map]; rfl
          rw [em]
          simp only [Option.bind_some, Option.map_some, bSum, List.length_map, intsOf_int _ hb]
          rw [if_pos h3]
        · simp [thaw]
        · rw [List.length_map]; exact h3
        · intro d hd
          obtain ⟨x, _, rfl⟩ := List.mem_map.mp hd
          simp [compF, spN, bCount_at, cntX]
      · first | exact nn e2 | cases e2
    · first | exact nn e | cases e
end Mine

namespace Mine
open PySem PySem.W PySem.Calls PySem.SeqAt PyProof.Rows

noncomputable def dnum (v : Int) : D := if v % 10 = 0 then .dec (v / 10) 0 else .dec v 1
theorem dnum_asDec (v : Int) : asDec (dnum v) = some (dnum v) := by unfold dnum; split <;> rfl
theorem dnum_tenth (v : Int) : tenth (dnum v) = some v := by
  unfold dnum
  split
  · simp only [tenth, if_true]; congr 1; omega
  · simp [tenth]
theorem sDec_one {v : Int} (h : -1000000 ≤ v ∧ v ≤ 1000000) : sDec [.int v, .int 1] = some (dnum v) := by
  unfold sDec decOf dnum
  have h1 : (1 : Int) = 1 ∧ -1000000000000 ≤ v ∧ v ≤ 1000000000000 := by omega
  have h0 : ¬ ((1 : Int) = 0) := by decide
  simp only [h1, h0, and_self, if_true, if_false]
  split <;> simp
noncomputable def decPt (p : Int × Int) : D := .tup [dnum (5 * p.1), dnum (5 * p.2)]
noncomputable def moveS (p : Int × Int) : D := .tup [.str (Str.ofString "move"), decPt p]
noncomputable def lineS (p : Int × Int) : D := .tup [.str (Str.ofString "line"), decPt p]
noncomputable def segsOf : List (Int × Int) → List D
  | [] => []
  | p :: r => moveS p :: r.map lineS
theorem segsOf_len (ps : List (Int × Int)) : (segsOf ps).length = ps.length := by cases ps <;> simp [segsOf]
theorem segsOf_snoc (ps : List (Int × Int)) (h : ps ≠ []) (p : Int × Int) : segsOf (ps ++ [p]) = segsOf ps ++ [lineS p] := by
  cases ps with
  | nil => exact absurd rfl h
  | cons a r => simp [segsOf]
theorem segsOf_last {ps : List (Int × Int)} (h : ps ≠ []) : ∃ k p, (segsOf ps).getLast? = some (.tup [.str k, decPt p]) ∧ (k = Str.ofString "move" ∨ k = Str.ofString "line") := by
  rcases List.eq_nil_or_concat ps with rfl | ⟨r, p, rfl⟩
  · exact absurd rfl h
  · by_cases hr : r = []
    · subst hr; exact ⟨_, p, rfl, .inl rfl⟩
    · rw [List.concat_eq_append, segsOf_snoc r hr]
      exact ⟨_, p, by rw [List.getLast?_append]; rfl, .inr rfl⟩
noncomputable def ipt : D → Option (Int × Int)
  | .tup [.int x, .int y] => if -1000 ≤ x ∧ x ≤ 1000 ∧ -1000 ≤ y ∧ y ≤ 1000 then some (x, y) else none
  | _ => none
theorem ipt_inv {d : D} {p : Int × Int} (h : ipt d = some p) : d = encP p ∧ (-1000 ≤ p.1 ∧ p.1 ≤ 1000 ∧ -1000 ≤ p.2 ∧ p.2 ≤ 1000) := by
  unfold ipt at h
  split at h
  · split at h
    · cases h; exact ⟨rfl, by assumption⟩
    · first | exact nn h | cases h
  · first | exact nn h | cases h
noncomputable def ipolyOf : D → Option (List (Int × Int))
  | .lst pts => if 1 < pts.length ∧ pts.length ≤ 800 then pts.mapM ipt else none
  | _ => none
noncomputable def pathOf (P : List (List (Int × Int))) : D := .path (.tup (P.map fun ps => .tup (segsOf ps)))
noncomputable def s_law_path : List D → Option D
  | [.lst polys] => if polys.length ≤ 800 then (polys.mapM ipolyOf).map pathOf else none
  | _ => none
theorem openSegs_end {parts : List D} {ps : List (Int × Int)} (h : ps ≠ []) : ∃ p : Int × Int, openSegs (parts ++ [.tup (segsOf ps)]) = some (segsOf ps, [dnum (5 * p.1), dnum (5 * p.2)]) := by
  obtain ⟨k, p, h1, h2⟩ := segsOf_last h
  refine ⟨p, ?_⟩
  unfold openSegs
  have e : (parts ++ [D.tup (segsOf ps)]).getLast? = some (.tup (segsOf ps)) := by rw [List.getLast?_append]; rfl
  rw [e]
  dsimp only
  rw [h1]
  dsimp only [decPt]
  have hk : ¬ k = Str.ofString "close" := by rcases h2 with rfl | rfl <;> decide
  rw [if_neg hk]
theorem law_path_ok {c : Cx} : RCon c 6 19 430 s_law_path := by
  refine' RCon.spec_le (rcon_def (nd := 5) (nu := 16) (nm := ["polygons", "path", "corners", "x", "y"]) (np := 1) (fill := fillN 1) ?ho ?hcd (bind_n ?hb) ?K ?h) ?spec
  case ho => k_is
  case hcd => k_is
  case K => exact ⟨⟨by decide, by decide, by decide⟩, by decide, by decide, by decide, rfl, rfl, rfl⟩
  case hb => intro s vs h; obtain ⟨a0, rfl⟩ := len1 h; exact BindsTo.of_eq rfl
  case h =>
    exact (sl_cons (sx_assign 1 rfl (se_call (rcon_path (nd := 0) (nu := 0)).weaken rfl (fun _ => by k_is) (fun _ => by k_is) sa_nil) (fun _ => rfl))
      (sl_cons (sx_for (tgt_name 2 rfl) (si_seq (se_var 0 rfl)) (sl_cons (sx_assign 1 rfl (se_call (move_to_ok).weaken rfl (fun _ => by k_is) (fun _ => by k_is) (sa_cons (se_var 1 rfl) (sa_cons (se_call (rcon_dec (nd := 0) (nu := 0)).weaken rfl (fun _ => by k_is) (fun _ => by k_is) (sa_cons (se_bin se_int (se_idx (se_idx (se_var 2 rfl) se_int) se_int)) (sa_cons se_int sa_nil))) (sa_cons (se_call (rcon_dec (nd := 0) (nu := 0)).weaken rfl (fun _ => by k_is) (fun _ => by k_is) (sa_cons (se_bin se_int (se_idx (se_idx (se_var 2 rfl) se_int) se_int)) (sa_cons se_int sa_nil))) sa_nil)))) (fun _ => rfl))
      (sl_cons (sx_for (tgt_pair 3 4 rfl rfl) (si_seq (se_from (se_var 2 rfl) se_int)) (sl_cons (sx_assign 1 rfl (se_call (line_to_ok).weaken rfl (fun _ => by k_is) (fun _ => by k_is) (sa_cons (se_var 1 rfl) (sa_cons (se_call (rcon_dec (nd := 0) (nu := 0)).weaken rfl (fun _ => by k_is) (fun _ => by k_is) (sa_cons (se_bin se_int (se_var 3 rfl)) (sa_cons se_int sa_nil))) (sa_cons (se_call (rcon_dec (nd := 0) (nu := 0)).weaken rfl (fun _ => by k_is) (fun _ => by k_is) (sa_cons (se_bin se_int (se_var 4 rfl)) (sa_cons se_int sa_nil))) sa_nil)))) (fun _ => rfl))
      sl_nil))
      sl_nil)))
      (sl_cons (sx_ret (se_var 1 rfl))
      sl_nil)))
  case spec =>
    intro ds dd e
    unfold s_law_path at e
    split at e
    · rename_i polys
      split at e
      · rename_i hpl
        obtain ⟨P, hP, rfl⟩ := Option.map_eq_some_iff.mp e
        clear e
        refine gv_top (ds' := [.lst polys]) rfl ?_
        refine gv_seq ([some (.lst polys), some (pathOf []), none, none, none], none) (by simp [sPath, pathOf, dropOwn]) ?_
        refine gv_for (ds := polys) (by simp) (fun pre z => ∃ u2 u3 u4, z = ([some (.lst polys), some (pathOf (P.take pre.length)), u2, u3, u4], none)) ⟨none, none, none, rfl⟩ ?_ ?_
        · rintro p d q e z ⟨u2, u3, u4, rfl⟩
          refine ⟨_, rfl, ?_⟩
          obtain ⟨ps, hps, hPi⟩ := mapM_get hP (at_split e)
          unfold ipolyOf at hps
          split at hps
          · rename_i pts
            split at hps
            · rename_i hlen
              have hpsl := mapM_length hps
              have hpk : p.length < 800 := by have := congrArg List.length e; simp at this; omega
              cases hpts : pts with
              | nil => rw [hpts] at hlen; simp at hlen
              | cons d0 rest =>
                have hps' := hps
                rw [hpts] at hps
                rw [List.mapM_cons] at hps
                obtain ⟨p0, hp0, hps⟩ := Option.bind_eq_some_iff.mp hps
                obtain ⟨pr, hpr, hps⟩ := Option.bind_eq_some_iff.mp hps
                cases hps
                obtain ⟨rfl, b1, b2, b3, b4⟩ := ipt_inv hp0
                have hcm : canMove ((P.take p.length).map fun ps => D.tup (segsOf ps)) = true := by
                  unfold canMove
                  rcases List.eq_nil_or_concat (P.take p.length) with h | ⟨r, ps, h⟩
                  · rw [h]; rfl
                  · rw [h, List.concat_eq_append, List.map_append, List.map_cons, List.map_nil, List.getLast?_append]
                    have hm : ps ∈ P := List.mem_of_mem_take (by rw [h]; simp)
                    obtain ⟨i, hi⟩ := List.getElem?_of_mem hm
                    have hi2 : i < polys.length := by rw [mapM_length hP]; exact (List.getElem?_eq_some_iff.mp hi).1
                    obtain ⟨ps', e1, e2⟩ := mapM_get hP (List.getElem?_eq_getElem hi2)
                    rw [hi] at e2
                    cases e2
                    unfold ipolyOf at e1
                    split at e1
                    · split at e1
                      · rename_i hl2
                        have := mapM_length e1
                        have h3 : (segsOf ps).length ≠ 1 ∧ (segsOf ps).length ≤ 1000 := by rw [segsOf_len]; omega
                        simp [h3]
                      · first | exact nn e1 | cases e1
                    · first | exact nn e1 | cases e1
                have hpl2 : (P.take p.length).length ≤ 900 := by rw [List.length_take]; omega
                have hmv : s_move_to [pathOf (P.take p.length), dnum (5 * p0.1), dnum (5 * p0.2)] = some (.path (.tup (((P.take p.length).map fun ps => D.tup (segsOf ps)) ++ [.tup (segsOf [p0])]))) := by
                  unfold s_move_to pathOf
                  dsimp only
                  rw [dnum_asDec, dnum_asDec]
                  simp only [Option.bind_some]
                  rw [if_pos ⟨hcm, by rw [List.length_map]; exact hpl2⟩]
                  rfl
                have d1 := sDec_one (v := 5 * p0.1) (by omega)
                have d2 := sDec_one (v := 5 * p0.2) (by omega)
                refine gv_seq ([some (.lst polys), some (.path (.tup (((P.take p.length).map fun ps => D.tup (segsOf ps)) ++ [.tup (segsOf [p0])]))), some (.lst (encP p0 :: rest)), u3, u4], none) ?_ ?_
                · simp [bidx, bidxL_0, bidxL_1, encP, bop, bMul, mulOk, d1, d2, hmv, dropOwn]
                have hrl : rest.length = pr.length := mapM_length hpr
                have hrl2 : rest.length ≤ 799 := by rw [hpts] at hlen; simp at hlen; omega
                refine gv_for (ds := rest) ?_ (fun pre z => ∃ u3 u4, z = ([some (.lst polys), some (.path (.tup (((P.take p.length).map fun ps => D.tup (segsOf ps)) ++ [.tup (segsOf (p0 :: pr.take pre.length))]))), some (.lst (encP p0 :: rest)), u3, u4], none)) ⟨u3, u4, rfl⟩ ?_ ?_
                · have : rest.length + 1 ≤ 1000 := by omega
                  simp [sFrom, this]
                · rintro p' d' q' e' z ⟨u3, u4, rfl⟩
                  obtain ⟨pt, hpt, hpi⟩ := mapM_get hpr (at_split e')
                  obtain ⟨rfl, c1, c2, c3, c4⟩ := ipt_inv hpt
                  refine ⟨_, rfl, ?_⟩
                  have d1 := sDec_one (v := 5 * pt.1) (by omega)
                  have d2 := sDec_one (v := 5 * pt.2) (by omega)
                  have hle : (p0 :: pr.take p'.length).length ≤ 900 := by rw [List.length_cons, List.length_take]; omega
                  obtain ⟨lp, hop⟩ := openSegs_end (parts := (P.take p.length).map fun ps => D.tup (segsOf ps)) (ps := p0 :: pr.take p'.length) (by simp)
                  have hln : s_line_to [.path (.tup (((P.take p.length).map fun ps => D.tup (segsOf ps)) ++ [.tup (segsOf (p0 :: pr.take p'.length))])), dnum (5 * pt.1), dnum (5 * pt.2)] =
                      some (.path (.tup (((P.take p.length).map fun ps => D.tup (segsOf ps)) ++ [.tup (segsOf (p0 :: pr.take (p'.length + 1)))]))) := by
                    unfold s_line_to
                    dsimp only
                    rw [dnum_asDec, dnum_asDec]
                    simp only [Option.bind_some]
                    unfold s_path_with
                    dsimp only
                    rw [hop]
                    simp only [Option.bind_some]
                    rw [if_pos ⟨by rw [List.length_append, List.length_map]; simp; omega, by rw [segsOf_len]; exact hle⟩]
                    rw [List.dropLast_concat, take_get hpi, ← List.cons_append, segsOf_snoc _ (by simp)]
                    rfl
                  refine gv_seq ([some (.lst polys), some (.path (.tup (((P.take p.length).map fun ps => D.tup (segsOf ps)) ++ [.tup (segsOf (p0 :: pr.take (p'.length + 1)))]))), some (.lst (encP p0 :: rest)), some (.int pt.1), some (.int pt.2)], none) ?_ (gv_nil ⟨rfl, some (.int pt.1), some (.int pt.2), by simp⟩)
                  simp [-List.map_take, bop, bMul, mulOk, d1, d2, hln, dropOwn]
                · rintro z' ⟨u3, u4, rfl⟩
                  refine gv_nil ⟨rfl, some (.lst (encP p0 :: rest)), u3, u4, ?_⟩
                  have : pr.take rest.length = pr := List.take_of_length_le (by omega)
                  rw [this]
                  simp [take_get hPi, pathOf]
            · first | exact nn hps | cases hps
          · first | exact nn hps | cases hps
        · rintro z' ⟨u2, u3, u4, rfl⟩
          have : P.take polys.length = P := List.take_of_length_le (by rw [mapM_length hP]; exact Nat.le_refl _)
          exact gv_return (r := pathOf P) (by simp [thaw, this]) rfl
      · first | exact nn e | cases e
    · first | exact nn e | cases e
end Mine

namespace Mine
open PySem PySem.W PySem.Calls PySem.SeqAt PyProof.Rows

noncomputable def lawSide (p q : Int × Int) (x y : Int) : Int := (q.1 - p.1) * (y - p.2) - (x - p.1) * (q.2 - p.2)
noncomputable def lawStep (p q : Int × Int) (x y : Int) : Int :=
  if (decide (p.2 ≤ y) != decide (q.2 ≤ y)) = true then (if p.2 ≤ y ∧ lawSide p q x y > 0 then 1 else 0) - (if q.2 ≤ y ∧ lawSide p q x y < 0 then 1 else 0) else 0
noncomputable def lawAt (ps : List (Int × Int)) (x y : Int) (k : Nat) : Int := match ps[pv ps.length k]?, ps[k]? with
  | some a, some b => lawStep a b x y
  | _, _ => 0
noncomputable def lawPoly (x y : Int) (ps : List (Int × Int)) : Int := ((List.range ps.length).map (lawAt ps x y)).sum
noncomputable def lawRound (P : List (List (Int × Int))) (x y : Int) : Int := (P.map (lawPoly x y)).sum
noncomputable def s_law_round : List D → Option D
  | [.lst polys, .int x, .int y] => (polys.mapM ipolyOf).bind fun P => if -1000 ≤ x ∧ x ≤ 1000 ∧ -1000 ≤ y ∧ y ≤ 1000 then some (.int (lawRound P x y)) else none
  | _ => none
theorem law_round_ok {c : Cx} : RCon c 1 3 437 s_law_round := by
  refine' RCon.spec_le (rcon_def (nd := 0) (nu := 0) (nm := ["polygons", "x", "y", "total", "corners", "at", "p", "q", "side"]) (np := 3) (fill := fillN 3) ?ho ?hcd (bind_n ?hb) ?K ?h) ?spec
  case ho => k_is
  case hcd => k_is
  case K => exact ⟨⟨by decide, by decide, by decide⟩, by decide, by decide, by decide, rfl, rfl, rfl⟩
  case hb => intro s vs h; obtain ⟨a0, a1, a2, rfl⟩ := len3 h; exact BindsTo.of_eq rfl
  case h =>
    exact (sl_cons (sx_assign 3 rfl se_int (fun _ => rfl))
      (sl_cons (sx_for (tgt_name 4 rfl) (si_seq (se_var 0 rfl)) (sl_cons (sx_for (tgt_name 5 rfl) (si_range1 rfl (se_bfun len_ok rfl (fun _ => by k_is) boot_len (by decide) (sa_cons (se_var 4 rfl) sa_nil))) (sl_cons (sx_swap2 6 7 rfl rfl (se_tup (sa_cons (se_idx (se_var 4 rfl) (se_bin (se_var 5 rfl) se_int)) (sa_cons (se_idx (se_var 4 rfl) (se_var 5 rfl)) sa_nil))))
      (sl_cons (sx_if (st_ne_bool (se_cmp (se_idx (se_var 6 rfl) se_int) (se_var 2 rfl)) (se_cmp (se_idx (se_var 7 rfl) se_int) (se_var 2 rfl))) (sl_cons (sx_assign 8 rfl (se_bin (se_bin (se_bin (se_idx (se_var 7 rfl) se_int) (se_idx (se_var 6 rfl) se_int)) (se_bin (se_var 2 rfl) (se_idx (se_var 6 rfl) se_int))) (se_bin (se_bin (se_var 1 rfl) (se_idx (se_var 6 rfl) se_int)) (se_bin (se_idx (se_var 7 rfl) se_int) (se_idx (se_var 6 rfl) se_int)))) (fun _ => rfl))
      (sl_cons (sx_if (st_and (st_cmp (se_idx (se_var 6 rfl) se_int) (se_var 2 rfl)) (st_cmp (se_var 8 rfl) se_int)) (sl_cons (sx_assign 3 rfl (se_bin (se_var 3 rfl) se_int) (fun _ => rfl))
      sl_nil) sl_nil)
      (sl_cons (sx_if (st_and (st_cmp (se_idx (se_var 7 rfl) se_int) (se_var 2 rfl)) (st_cmp (se_var 8 rfl) se_int)) (sl_cons (sx_assign 3 rfl (se_bin (se_var 3 rfl) se_int) (fun _ => rfl))
      sl_nil) sl_nil)
      sl_nil))) sl_nil)
      sl_nil)))
      sl_nil))
      (sl_cons (sx_ret (se_var 3 rfl))
      sl_nil)))
  case spec =>
    intro ds d e
    unfold s_law_round at e
    split at e
    · rename_i polys x y
      obtain ⟨P, hP, e2⟩ := Option.bind_eq_some_iff.mp e
      clear e
      split at e2
      · rename_i hxy
        cases e2
        refine gv_top (ds' := [.lst polys, .int x, .int y]) rfl ?_
        refine gv_seq ([some (.lst polys), some (.int x), some (.int y), some (.int 0), none, none, none, none, none], none) (by simp [dropOwn]) ?_
        refine gv_for (ds := polys) (by simp) (fun pre z => ∃ u4 u5 u6 u7 u8, z = ([some (.lst polys), some (.int x), some (.int y), some (.int (((P.take pre.length).map (lawPoly x y)).sum)), u4, u5, u6, u7, u8], none)) ⟨none, none, none, none, none, by simp⟩ ?_ ?_
        · rintro p d q e z ⟨u4, u5, u6, u7, u8, rfl⟩
          refine ⟨_, rfl, ?_⟩
          obtain ⟨ps, hps, hPi⟩ := mapM_get hP (at_split e)
          unfold ipolyOf at hps
          split at hps
          · rename_i pts
            split at hps
            · rename_i hlen
              have hpl := mapM_length hps
              refine gv_for (ds := (List.range ps.length).map fun (k : Nat) => D.int (k : Int)) ?_ (fun pre z => ∃ u5 u6 u7 u8, z = ([some (.lst polys), some (.int x), some (.int y), some (.int (((P.take p.length).map (lawPoly x y)).sum + ((List.range pre.length).map (lawAt ps x y)).sum)), some (.lst pts), u5, u6, u7, u8], none)) ⟨u5, u6, u7, u8, by simp [dropOwn]⟩ ?_ ?_
              · have hl : ps.length ≤ 1000 := by omega
                simp [bLen_t, bLen_l, bLen_s, hpl, hl, rng1_nat hl]
              · rintro p' d' q' e' z ⟨u5, u6, u7, u8, rfl⟩
                refine ⟨_, rfl, ?_⟩
                obtain ⟨rfl, hk⟩ := range_at e'
                have hk2 := pv_lt hk
                have hk3 : p'.length ≤ 1000 := by omega
                have ga : pts[pv pts.length p'.length]? = some (pts[pv pts.length p'.length]'(by rw [hpl]; exact hk2)) := List.getElem?_eq_getElem _
                have gb : pts[p'.length]? = some (pts[p'.length]'(by rw [hpl]; exact hk)) := List.getElem?_eq_getElem _
                obtain ⟨a, ha, hpa⟩ := mapM_get hps ga
                obtain ⟨b, hb, hpb⟩ := mapM_get hps gb
                obtain ⟨ea, ba⟩ := ipt_inv ha
                obtain ⟨eb, bb⟩ := ipt_inv hb
                rw [ea] at ga
                rw [eb] at gb
                rw [hpl] at hpa
                have har : lawAt ps x y p'.length = lawStep a b x y := by unfold lawAt; rw [hpa, hpb]
                have hsum : ((P.take p.length).map (lawPoly x y)).sum + ((List.range (p'.length + 1)).map (lawAt ps x y)).sum = ((P.take p.length).map (lawPoly x y)).sum + ((List.range p'.length).map (lawAt ps x y)).sum + lawStep a b x y := by
                  rw [List.range_succ, List.map_append, List.sum_append, List.map_cons, List.map_nil, har]; simp [Int.add_assoc]
                generalize ((P.take p.length).map (lawPoly x y)).sum + ((List.range p'.length).map (lawAt ps x y)).sum = T at hsum
                refine gv_seq ([some (.lst polys), some (.int x), some (.int y), some (.int T), some (.lst pts), some (.int (p'.length : Int)), some (encP a), some (encP b), u8], none) ?_ ?_
                · simp [bop, bSub, bidx, bidxL_prev _ _ hk3, bidxL_nat _ _ hk3, ga, gb, tgP, dropOwn]
                have fin : ∀ T' z', T' = T + lawStep a b x y → (∃ u8, z' = ([some (.lst polys), some (.int x), some (.int y), some (.int T'), some (.lst pts), some (.int (p'.length : Int)), some (encP a), some (encP b), u8], none)) →
                    (((z', none) : St × Option D).2 = none ∧ ∃ u5 u6 u7 u8, ((z', none) : St × Option D).1 = ([some (.lst polys), some (.int x), some (.int y), some (.int (((P.take p.length).map (lawPoly x y)).sum + ((List.range (p' ++ [D.int (p'.length : Int)]).length).map (lawAt ps x y)).sum)), some (.lst pts), u5, u6, u7, u8], none)) := by
                  rintro T' z' hT ⟨u8, rfl⟩
                  refine ⟨rfl, some (.int (p'.length : Int)), some (encP a), some (encP b), u8, ?_⟩
                  rw [List.length_append, List.length_singleton, hsum, hT]
                by_cases hc : (decide (a.2 ≤ y) != decide (b.2 ≤ y)) = true
                · refine gv_if true (by simp only [encP, bidx, bidxL_1, bcmp, cInt, List.getElem?_cons_succ, List.getElem?_cons_zero, Option.join_some, Option.bind_some, Option.map_some, hc]) ?_
                  have m1 : mulOk (b.1 - a.1) (y - a.2) := mul_ok (by omega)
                  have m2 : mulOk (x - a.1) (b.2 - a.2) := mul_ok (by omega)
                  refine gv_assoc (gv_seq ([some (.lst polys), some (.int x), some (.int y), some (.int T), some (.lst pts), some (.int (p'.length : Int)), some (encP a), some (encP b), some (.int (lawSide a b x y))], none) ?_ ?_)
                  · simp [encP, bidx, bidxL_0, bidxL_1, bop, bSub, bMul, m1, m2, lawSide, dropOwn]
                  have hls : lawStep a b x y = (if a.2 ≤ y ∧ lawSide a b x y > 0 then 1 else 0) - (if b.2 ≤ y ∧ lawSide a b x y < 0 then 1 else 0) := by unfold lawStep; rw [if_pos hc]
                  generalize lawSide a b x y = sd at hls
                  have step2 : ∀ T1, Gv (seqS (fun z => ((((z.1[7]?).join.bind fun a => (some (D.int 1)).bind fun b => bidx a b).bind fun a => ((z.1[2]?).join.bind fun b => bcmp CmpOp.LtE a b)).bind fun a => if a = true then (z.1[8]?).join.bind fun a => (some (D.int 0)).bind fun b => bcmp CmpOp.Lt a b else some false).bind fun x =>
                      if x = true then seqS (fun z => Option.map (fun d => ((z.1.set 3 (some d), dropOwn 3 z.2), none)) ((z.1[3]?).join.bind fun a => (some (D.int 1)).bind fun b => bop Operator.Sub a b)) (fun z => some (z, none)) z else some (z, none)) (fun z => some (z, none))
                      ([some (.lst polys), some (.int x), some (.int y), some (.int T1), some (.lst pts), some (.int (p'.length : Int)), some (encP a), some (encP b), some (.int sd)], none))
                      (fun o => o = (([some (.lst polys), some (.int x), some (.int y), some (.int (T1 - (if b.2 ≤ y ∧ sd < 0 then 1 else 0))), some (.lst pts), some (.int (p'.length : Int)), some (encP a), some (encP b), some (.int sd)], none), none)) := by
                    intro T1
                    by_cases h2 : b.2 ≤ y ∧ sd < 0
                    · refine gv_if true (by simp [encP, bidx, bidxL_1, bcmp, cInt, h2.1, h2.2]) (gv_assoc (gv_seq ([some (.lst polys), some (.int x), some (.int y), some (.int (T1 - 1)), some (.lst pts), some (.int (p'.length : Int)), some (encP a), some (encP b), some (.int sd)], none) (by simp [bop, bSub, dropOwn]) (gv_unit (gv_nil ?_))))
                      rw [if_pos h2]
                    · refine gv_if false ?_ (gv_unit (gv_nil ?_))
                      · by_cases q1 : b.2 ≤ y
                        · have q2 : ¬ sd < 0 := fun q => h2 ⟨q1, q⟩
                          simp [encP, bidx, bidxL_1, bcmp, cInt, q1]; omega
                        · simp [encP, bidx, bidxL_1, bcmp, cInt, q1]
                      · rw [if_neg h2]; simp
                  by_cases h1 : a.2 ≤ y ∧ sd > 0
                  · refine gv_assoc (gv_if true (by simp [encP, bidx, bidxL_1, bcmp, cInt, h1.1, h1.2]) ?_)
                    refine gv_assoc (gv_seq ([some (.lst polys), some (.int x), some (.int y), some (.int (T + 1)), some (.lst pts), some (.int (p'.length : Int)), some (encP a), some (encP b), some (.int sd)], none) (by simp [bop, bAdd_i, bAdd_s, bAdd_t, bAdd_l, dropOwn]) (gv_unit ?_))
                    refine gv_assoc (gv_mono (step2 (T + 1)) ?_)
                    rintro _ rfl
                    refine fin _ _ ?_ ⟨_, rfl⟩
                    rw [hls, if_pos h1]; omega
                  · refine gv_assoc (gv_if false ?_ (gv_unit ?_))
                    · by_cases q1 : a.2 ≤ y
                      · have q2 : ¬ sd > 0 := fun q => h1 ⟨q1, q⟩
                        simp [encP, bidx, bidxL_1, bcmp, cInt, q1]; omega
                      · simp [encP, bidx, bidxL_1, bcmp, cInt, q1]
                    refine gv_assoc (gv_mono (step2 T) ?_)
                    rintro _ rfl
                    refine fin _ _ ?_ ⟨_, rfl⟩
                    rw [hls, if_neg h1]; omega
                · refine gv_if false (by simp only [encP, bidx, bidxL_1, bcmp, cInt, List.getElem?_cons_succ, List.getElem?_cons_zero, Option.join_some, Option.bind_some, Option.map_some, Bool.eq_false_iff.mpr hc]) (gv_unit (gv_nil (fin T _ ?_ ⟨u8, rfl⟩)))
                  unfold lawStep; rw [if_neg hc]; simp
              · rintro z' ⟨u5, u6, u7, u8, rfl⟩
                refine gv_nil ⟨rfl, some (.lst pts), u5, u6, u7, u8, ?_⟩
                simp [take_get hPi, lawPoly]
            · first | exact nn hps | cases hps
          · first | exact nn hps | cases hps
        · rintro z' ⟨u4, u5, u6, u7, u8, rfl⟩
          refine gv_return (r := .int (lawRound P x y)) ?_ rfl
          have : P.take polys.length = P := List.take_of_length_le (by rw [mapM_length hP]; exact Nat.le_refl _)
          simp [thaw, this, lawRound]
      · first | exact nn e2 | cases e2
    · first | exact nn e | cases e
end Mine

namespace Mine
open PySem PySem.W PySem.Calls PySem.SeqAt PyProof.Rows

noncomputable def lawRow (P : List (List (Int × Int))) (r : Str) (y : Int) : Nat → Str
  | 0 => Str.ofString ""
  | k + 1 => lawRow P r y k ++ litX (filled r (lawRound P (2 * (k : Int) + 1) y))
theorem lawRow_len (P : List (List (Int × Int))) (r : Str) (y : Int) : ∀ k, (lawRow P r y k).length = k
  | 0 => rfl
  | k + 1 => by rw [lawRow, Str.length_append, lawRow_len P r y k, litX_len]
noncomputable def lawRows (P : List (List (Int × Int))) (r : Str) (w h : Nat) : List Str := (List.range h).map fun (k : Nat) => lawRow P r (2 * ((h : Int) - (k : Int)) - 1) w
noncomputable def s_law_cells : List D → Option D
  | [.lst polys, .str r, .int w, .int h] => (polys.mapM ipolyOf).bind fun P => if 0 ≤ w ∧ w ≤ 100 ∧ 0 ≤ h ∧ h ≤ 100 then some (.lst ((lawRows P r w.toNat h.toNat).map D.str)) else none
  | _ => none
theorem s_law_cells_shape {P : List D → Prop} {xx : List D} {r : _} (e : s_law_cells xx = some r) (q0 : ∀ polys r w h, P [(.lst polys), (.str r), (.int w), (.int h)]) : P xx := by
  cases xx with
  | nil => exact nn e
  | cons h1 t2 =>
    cases h1 with
    | lst x3 =>
      cases t2 with
      | nil => exact nn e
      | cons h4 t5 =>
        cases h4 with
        | str x6 =>
          cases t5 with
          | nil => exact nn e
          | cons h7 t8 =>
            cases h7 with
            | int x9 =>
              cases t8 with
              | nil => exact nn e
              | cons h10 t11 =>
                cases h10 with
                | int x12 =>
                  cases t11 with
                  | nil =>
                    exact q0 x3 x6 x9 x12
                  | cons _ _ => exact nn e
                | _ => exact nn e
            | _ => exact nn e
        | _ => exact nn e
    | _ => exact nn e
theorem law_cells_ok {c : Cx} : RCon c 2 6 444 s_law_cells := by
  refine' RCon.spec_le (rcon_def (nd := 1) (nu := 3) (nm := ["polygons", "rule", "width", "height", "found", "row", "y", "text", "column", "total"]) (np := 4) (fill := fillN 4) ?ho ?hcd (bind_n ?hb) ?K ?h) ?spec
  case ho => k_is
  case hcd => k_is
  case K => exact ⟨⟨by decide, by decide, by decide⟩, by decide, by decide, by decide, rfl, rfl, rfl⟩
  case hb => intro s vs h; obtain ⟨a0, a1, a2, a3, rfl⟩ := len4 h; exact BindsTo.of_eq rfl
  case h =>
    exact (sl_cons (sx_own 4 rfl rfl)
      (sl_cons (sx_for (tgt_name 5 rfl) (si_range1 rfl (se_var 3 rfl)) (sl_cons (sx_assign 6 rfl (se_bin (se_bin se_int (se_bin (se_var 3 rfl) (se_var 5 rfl))) se_int) (fun _ => rfl))
      (sl_cons (sx_assign 7 rfl se_str (fun _ => rfl))
      (sl_cons (sx_for (tgt_name 8 rfl) (si_range1 rfl (se_var 2 rfl)) (sl_cons (sx_assign 9 rfl (se_call (law_round_ok).weaken rfl (fun _ => by k_is) (fun _ => by k_is) (sa_cons (se_var 0 rfl) (sa_cons (se_bin (se_bin se_int (se_var 8 rfl)) se_int) (sa_cons (se_var 6 rfl) sa_nil)))) (fun _ => rfl))
      (sl_cons (sx_assign 7 rfl (se_bin (se_var 7 rfl) (se_ife (st_ife (st_cmp (se_var 1 rfl) se_str) (st_cmp (se_var 9 rfl) se_int) (st_cmp (se_bin (se_var 9 rfl) se_int) se_int)) se_str se_str)) (fun _ => rfl))
      sl_nil)))
      (sl_cons (sx_append 4 rfl (se_var 7 rfl))
      sl_nil)))))
      (sl_cons (sx_ret (se_var 4 rfl))
      sl_nil)))
  case spec =>
    intro ds d e
    refine s_law_cells_shape (P := fun y => ds = y → _) e ?_ rfl
    rintro polys r w h rfl
    · obtain ⟨P, hP, e2⟩ := Option.bind_eq_some_iff.mp e
      clear e
      split at e2
      · rename_i hc
        obtain ⟨hw0, hw, hh0, hh⟩ := hc
        cases e2
        obtain ⟨w, rfl⟩ : ∃ n : Nat, w = (n : Int) := ⟨w.toNat, by omega⟩
        obtain ⟨h, rfl⟩ : ∃ n : Nat, h = (n : Int) := ⟨h.toNat, by omega⟩
        have hw1 : w ≤ 1000 := by omega
        have hh1 : h ≤ 1000 := by omega
        refine gv_top (ds' := [.lst polys, .str r, .int (w : Int), .int (h : Int)]) rfl ?_
        refine gv_seq ([some (.lst polys), some (.str r), some (.int (w : Int)), some (.int (h : Int)), none, none, none, none, none, none], some (4, [])) rfl ?_
        refine gv_for (ds := (List.range h).map fun (k : Nat) => D.int (k : Int)) (by simp [rng1_nat hh1]) (fun pre z => ∃ u5 u6 u7 u8 u9, z = ([some (.lst polys), some (.str r), some (.int (w : Int)), some (.int (h : Int)), none, u5, u6, u7, u8, u9], some (4, ((List.range pre.length).map fun (k : Nat) => lawRow P r (2 * ((h : Int) - (k : Int)) - 1) w).map D.str))) ⟨none, none, none, none, none, rfl⟩ ?_ ?_
        · rintro p d q e z ⟨u5, u6, u7, u8, u9, rfl⟩
          refine ⟨_, rfl, ?_⟩
          obtain ⟨rfl, hk⟩ := range_at e
          have m1 : mulOk 2 ((h : Int) - (p.length : Int)) := .inl (by omega)
          generalize hOwn : ((List.range p.length).map fun (k : Nat) => lawRow P r (2 * ((h : Int) - (k : Int)) - 1) w).map D.str = L
          have hLl : L.length < 1000 := by rw [← hOwn]; simp; omega
          have hy : -1000 ≤ 2 * ((h : Int) - (p.length : Int)) - 1 ∧ 2 * ((h : Int) - (p.length : Int)) - 1 ≤ 1000 := by omega
          refine gv_seq ([some (.lst polys), some (.str r), some (.int (w : Int)), some (.int (h : Int)), none, some (.int (p.length : Int)), some (.int (2 * ((h : Int) - (p.length : Int)) - 1)), u7, u8, u9], some (4, L)) (by simp [bop, bSub, bMul, m1, dropOwn]) ?_
          generalize hyy : 2 * ((h : Int) - (p.length : Int)) - 1 = y at hy
          refine gv_seq ([some (.lst polys), some (.str r), some (.int (w : Int)), some (.int (h : Int)), none, some (.int (p.length : Int)), some (.int y), some (.str (Str.ofString "")), u8, u9], some (4, L)) (by simp [dropOwn]) ?_
          refine gv_for (ds := (List.range w).map fun (k : Nat) => D.int (k : Int)) (by simp [rng1_nat hw1]) (fun pre z => ∃ u8 u9, z = ([some (.lst polys), some (.str r), some (.int (w : Int)), some (.int (h : Int)), none, some (.int (p.length : Int)), some (.int y), some (.str (lawRow P r y pre.length)), u8, u9], some (4, L))) ⟨u8, u9, rfl⟩ ?_ ?_
          · rintro p' d' q' e' z ⟨u8, u9, rfl⟩
            refine ⟨_, rfl, ?_⟩
            obtain ⟨rfl, hk'⟩ := range_at e'
            have m2 : mulOk 2 (p'.length : Int) := .inl (by omega)
            have hlr : s_law_round [.lst polys, .int (2 * (p'.length : Int) + 1), .int y] = some (.int (lawRound P (2 * (p'.length : Int) + 1) y)) := by
              unfold s_law_round
              simp only [hP, Option.bind_some]
              rw [if_pos ⟨by omega, by omega, hy.1, hy.2⟩]
            refine gv_seq ([some (.lst polys), some (.str r), some (.int (w : Int)), some (.int (h : Int)), none, some (.int (p.length : Int)), some (.int y), some (.str (lawRow P r y p'.length)), some (.int (p'.length : Int)), some (.int (lawRound P (2 * (p'.length : Int) + 1) y))], some (4, L)) (by simp [bop, bMul, bAdd_i, bAdd_s, bAdd_t, bAdd_l, m2, hlr, dropOwn]) ?_
            have hsl : (lawRow P r y p'.length).length ≤ 999 := by rw [lawRow_len]; omega
            generalize ht : lawRound P (2 * (p'.length : Int) + 1) y = t
            have hnext : lawRow P r y (p'.length + 1) = lawRow P r y p'.length ++ litX (filled r t) := by rw [lawRow, ht]
            refine gv_seq ([some (.lst polys), some (.str r), some (.int (w : Int)), some (.int (h : Int)), none, some (.int (p.length : Int)), some (.int y), some (.str (lawRow P r y (p'.length + 1))), some (.int (p'.length : Int)), some (.int t)], some (4, L)) ?_ (gv_nil ⟨rfl, some (.int (p'.length : Int)), some (.int t), by simp⟩)
            rw [hnext]
            have l1 : (Str.ofString "x").length = 1 := rfl
            have l2 : (Str.ofString ".").length = 1 := rfl
            generalize lawRow P r y p'.length = T at hsl
            by_cases hr : r = Str.ofString "nonzero"
            · by_cases h0 : t = 0 <;> simp [bcmp, cEq, cNe, hr, h0, bop, bAdd_i, bAdd_s, bAdd_t, bAdd_l, l1, l2, hsl, filled, litX, dropOwn]
            · by_cases h0 : t % 2 = 1 <;> simp [bcmp, cEq, cNe, hr, h0, bop, bAdd_i, bAdd_s, bAdd_t, bAdd_l, bMod, l1, l2, hsl, filled, litX, dropOwn]
          · rintro z' ⟨u8, u9, rfl⟩
            refine gv_seq _ (appS_ok (d := D.str (lawRow P r y w)) (by simp) hLl) (gv_nil ⟨rfl, some (.int (p.length : Int)), some (.int y), some (.str (lawRow P r y w)), u8, u9, ?_⟩)
            rw [← hOwn]
            simp [List.range_succ, hyy]
        · rintro z' ⟨u5, u6, u7, u8, u9, rfl⟩
          refine gv_return (r := .lst ((lawRows P r w h).map D.str)) ?_ rfl
          simp [thaw, lawRows]
      · first | exact nn e2 | cases e2
end Mine

namespace Mine
open PySem PySem.W PySem.Calls PySem.SeqAt PyProof.Rows

/-- the heap without one object -/
noncomputable def hide (h : Heap) (a : Addr) : Heap := h.update a fun o => { o with data := .freed }
theorem hide_self (h : Heap) (a : Addr) : (hide h a).get? a = none := by
  obtain ⟨objs, l⟩ := h
  simp only [hide, Heap.update, Heap.get?, Array.getElem?_modify, if_true]
  cases objs[a]? <;> rfl
theorem hide_other (h : Heap) {a b : Addr} (n : b ≠ a) : (hide h a).get? b = h.get? b := Heap.get?_update_other h _ (Ne.symm n)
theorem hide_stays (h : Heap) (a : Addr) : (hide h a).StaysIn h := fun b o e => by
  by_cases n : b = a
  · subst n; rw [hide_self] at e; cases e
  · rw [hide_other h n] at e; exact e
theorem stays_hide {h₀ h : Heap} {a : Addr} (s : h₀.StaysIn h) (n : h₀.get? a = none) : h₀.StaysIn (hide h a) := fun b o e => by
  have : b ≠ a := by rintro rfl; rw [n] at e; cases e
  rw [hide_other h this]; exact s b o e
theorem hide_none {h : Heap} {a b : Addr} (n : h.get? b = none) : (hide h a).get? b = none := none_of_stays (hide_stays h a) n

/-- an expression that gives a known datum, now and later -/
noncomputable def EV (c : Cx) (env : Env) (A : Around) (h : Heap) (P : PM) (e : Expr) (d : D) : Prop :=
  ∀ (s : Shared) (P' : PM) (Q : Value → Shared → Prop), Grow P h P' s.heap → (∀ v P'' h'' tk, Grow P' s.heap P'' h'' → DH c.w P'' v d → Q v { s with heap := h'', toks := tk }) → wpAny (model PG c.w) A (eval e env) Q NoE s
noncomputable def TEV (c : Cx) (env : Env) (A : Around) (h : Heap) (P : PM) (e : Expr) (b : Bool) : Prop :=
  ∀ (s : Shared) (P' : PM) (Q : Bool → Shared → Prop), Grow P h P' s.heap → (∀ P'' h'' tk, Grow P' s.heap P'' h'' → Q b { s with heap := h'', toks := tk }) → wpAny (model PG c.w) A (isTrue e env (eval e env)) Q NoE s
section
variable {c : Cx} {nd nu : Nat} {scope : Scope} {nm : List Str} {env : Env} {A : Around} {h : Heap} {P : PM} {G : Vars}
theorem ev_se {e : Expr} {phi : Vars → Option D} {d : D} (hs : SE c nd nu scope nm e phi) (eo : EnvOK scope env) (ao : AOK A nd nu) (ho : HOK c h) (rd : Rd c env nm G P h) (e1 : phi G = some d) : EV c env A h P e d :=
  fun s P' Q g q => hs env A s P' G d Q eo ao (ho.keeps g.stay) g.sub (rd.grow g) e1 q
theorem ev_bin {op : Operator} {l r : Expr} {pos : Pos} {a b d : D} (hl : EV c env A h P l a) (hr : EV c env A h P r b) (e : bop op a b = some d) : EV c env A h P (.BinOp l op r pos) d :=
  fun s P' Q g q => wpAny_BinOp (hl s P' _ g fun va P1 k1 tk1 g1 hva => hr { s with heap := k1, toks := tk1 } P1 _ (g.trans g1) fun vb P2 k2 tk2 g2 hvb =>
    bop_ok (s := { s with heap := k2, toks := tk2 }) e g2.sub (hva.mono g2.le) hvb fun v P3 k3 tk3 g3 hv => q v P3 k3 tk3 ((g1.trans g2).trans g3) hv)
theorem tev_cmp {op : CmpOp} {l r : Expr} {pos : Pos} {a b : D} {t : Bool} (hu : A.units < cLine) (hl : EV c env A h P l a) (hr : EV c env A h P r b) (e : bcmp op a b = some t) (hm : behindInMarks op r = false := by with_unfolding_all rfl) : TEV c env A h P (.Compare l [op] [r] pos) t :=
  fun s P' Q g q => wpAny_isTrue_Compare1 (hl s P' _ g fun va P1 k1 tk1 g1 hva => hr { s with heap := k1, toks := tk1 } P1 _ (g.trans g1) fun vb P2 k2 tk2 g2 hvb =>
    bcmp_ok (s := { s with heap := k2, toks := tk2 }) e g2.sub hu (hva.mono g2.le) hvb (wpAny_truthy_bool (q P2 k2 tk2 (g1.trans g2)))) hm
theorem sub_ok {v i : Expr} {va vb : Value} {a b d : D} {s : Shared} {Q : Value → Shared → Prop} (er : bidx a b = some d) (hva : DH c.w P va a) (hvb : DH c.w P vb b) (ip : PIn P s.heap) (fin : ∀ x, DH c.w P x d → Q x s)
    (hs : ∀ a k u, subscripted i false (.ref a) (.int k u) = operate [.ref a, .int k u] (getItem (.ref a) (.int k u))) : wpAny (model PG c.w) A (subscriptTail v i va vb) Q NoE s := by
  cases a with
  | tup ds =>
    obtain ⟨k, j, rfl, b1, b2, ej, ed⟩ := bidxL_inv er
    obtain ⟨u, rfl⟩ := hvb.int_inv
    obtain ⟨a1, o1, vs, n1, rfl, e1, c1, d1, p1⟩ := hva.tup_inv
    obtain ⟨x, hx, hdx⟩ := p1.get ed
    have t := tup_at e1 c1 d1 ip
    exact tail_any t.typeIs slot_tuple_getitem.lookup (getItem_tuple t (by omega) (by omega) (by rw [List.size_toArray, p1.length]; exact ej) (by simpa using hx) (fin x hdx)) (hs _ _ _)
  | lst ds =>
    obtain ⟨k, j, rfl, b1, b2, ej, ed⟩ := bidxL_inv er
    obtain ⟨u, rfl⟩ := hvb.int_inv
    obtain ⟨a1, o1, vs, n1, rfl, e1, c1, d1, p1⟩ := hva.lst_inv
    obtain ⟨x, hx, hdx⟩ := p1.get ed
    have t := lst_at e1 c1 d1 ip
    rw [← p1.length] at ej
    rcases seqIndex_inv ej with ⟨h0, h1, rfl⟩ | ⟨h0, h1, rfl⟩
    · exact tail_any t.typeIs slot_list_getitem.lookup (wpAny_getItem_list_neg t h0 (by rw [List.size_toArray]; exact h1) (by omega) (by rw [List.size_toArray]; simpa using hx) (fin x hdx)) (hs _ _ _)
    · exact tail_any t.typeIs slot_list_getitem.lookup (wpAny_getItem_list t h0 (by omega) (by simpa using hx) (fin x hdx)) (hs _ _ _)
  | _ => first | exact nn er | cases er
theorem ev_idx {v i : Expr} {pos : Pos} {a b d : D} (hv : EV c env A h P v a) (hi : EV c env A h P i b) (e : bidx a b = some d)
    (hs : ∀ a k u, subscripted i false (.ref a) (.int k u) = operate [.ref a, .int k u] (getItem (.ref a) (.int k u)) := by intro _ _ _; with_unfolding_all rfl) : EV c env A h P (.Subscript v i pos) d :=
  fun s P' Q g q => Subscript_ (hv s P' _ g fun va P1 k1 tk1 g1 hva => hi { s with heap := k1, toks := tk1 } P1 _ (g.trans g1) fun vb P2 k2 tk2 g2 hvb =>
    sub_ok (s := { s with heap := k2, toks := tk2 }) e (hva.mono g2.le) hvb g2.sub (fun x hx => q x P2 k2 tk2 (g1.trans g2) hx) hs)
/-- an item of the pool -/
theorem ev_item {x : Str} {p p2 pos : Pos} {kk : Nat} {pl : Addr} {items : List Value} {k : Nat} {v : Value} {d : D} (i : Nat) (hx : nm[i]? = some x) (hG : G[i]? = some (some (.raw (.ref pl)))) (rd : Rd c env nm G P h) (hl : h.IsList pl items.toArray) (hk : items[k]? = some v) (hk2 : k < 1000) (hv : DH c.w P v d)
    (hs : ∀ a k u, subscripted (.Constant (.int (k : Int)) kk p2) false (.ref a) (.int (k : Int) u) = operate [.ref a, .int (k : Int) u] (getItem (.ref a) (.int (k : Int) u)) := by intro _ _ _; with_unfolding_all rfl) :
    EV c env A h P (.Subscript (.Name x p) (.Constant (.int (k : Int)) kk p2) pos) d := by
  intro s P' Q g q
  obtain ⟨u, hu, l, _⟩ := rd.v i x _ hx hG
  have : u = .ref pl := by cases hu; rfl
  subst this
  refine Subscript_ (l _ _ _ _ _ _ g.stay (wpAny_Constant_int ?_))
  have hl' : s.heap.IsList pl items.toArray := hl.at fun o e => g.stay _ o e
  exact tail_any (s := { s with toks := s.toks + 1 }) hl'.typeIs slot_list_getitem.lookup (wpAny_getItem_list (s := { s with toks := s.toks + 1 }) hl' (by omega) (by omega) (by simpa using hk) (q v P' s.heap _ (.refl g.sub) (hv.mono g.le))) (hs _ _ _)
theorem ev_len {np pos : Pos} {x : Expr} {ds : List D} (eo : EnvOK scope env) (ho : HOK c h) (ao : AOK A nd nu) (kle : PLe (KPM c) P) (hx : scope.names.lookup (Str.ofString "len") = some .globalImplicit) (hv : EV c env A h P x (.lst ds)) (hl : ds.length ≤ 1000) (hpl : plainArg x = true := by rfl) :
    EV c env A h P (.Call (.Name (Str.ofString "len") np) [x] [] pos) (.int ds.length) := by
  intro s P' Q g q
  refine wpAny_Call_NameR (ld_boot eo (ho.keeps g.stay) hx (by k_is) boot_len (by decide) ?_)
  refine callWith_builtin1 ?_ (starEach_plain hpl) rfl
  rw [backTo_cons hpl]
  refine Calls.spliced_cons (hv s P' _ g fun va P1 k1 tk1 g1 hva => Calls.spliced_nil ?_)
  exact len_ok [va] [.lst ds] (.int ds.length) (by simp [bLen_t, bLen_l, bLen_s, hl]) A { s with heap := k1, toks := tk1 } P1 Q ao (ho.keeps (g.trans g1).stay) g1.sub (kle.trans (g.trans g1).le) (.one hva) fun v P2 k2 tk2 g2 hv => q v P2 k2 tk2 (g1.trans g2) hv
end
end Mine
namespace Mine
open PySem PySem.W PySem.Calls PySem.SeqAt PyProof.Rows

/-- a frame beside a list that is changed in place -/
structure LSt (c : Cx) (scope : Scope) (nm : List Str) (env : Env) (h₀ : Heap) (P₀ P : PM) (G : Vars) (ow : Own) (l : Addr) (m : Str → Option Value) (h : Heap) (pl : Addr) (items : List Value) : Prop where
  F : FS c scope nm env h₀ P₀ P G ow l m h
  hl : h.IsList pl items.toArray
  fr : h₀.get? pl = none
  pn : P pl = none
  n1 : pl ≠ env.locals
  n2 : pl ≠ l
  n3 : ∀ x, env.cells.lookup x ≠ some pl
theorem isList_live {h : Heap} {a : Addr} {xs : Array Value} (l : h.IsList a xs) : ∃ o, h.get? a = some o := let ⟨o, e, _⟩ := l; ⟨o, e⟩
theorem FS.rebase {c : Cx} {scope : Scope} {nm : List Str} {env : Env} {h₀ h₀' h : Heap} {P₀ P : PM} {G : Vars} {ow : Own} {l : Addr} {m : Str → Option Value} (F : FS c scope nm env h₀ P₀ P G ow l m h) (sub : h₀'.StaysIn h₀) : FS c scope nm env h₀' P₀ P G ow l m h where
  stay := fun b o e => F.stay b o (sub b o e)
  le := F.le
  sub := F.sub
  new := fun b o e => (F.new b o e).imp id (none_of_stays sub)
  ns := F.ns
  Ln := none_of_stays sub F.Ln
  PL := F.PL
  vars := F.vars
  cells := fun x a e => ⟨none_of_stays sub (F.cells x a e).1, (F.cells x a e).2⟩
  ckind := F.ckind
  cinj := F.cinj
  cdef := F.cdef
  own := fun i ds e => let ⟨x, vs, a1, a2, a3, a4, a5, a6, r⟩ := F.own i ds e; ⟨x, vs, a1, a2, a3, a4, a5, none_of_stays sub a6, r⟩
  lin := F.lin
  kle := F.kle
section
variable {c : Cx} {nd nu : Nat} {scope : Scope} {nm : List Str} {env : Env} {h₀ h h' : Heap} {P₀ P P' : PM} {G : Vars} {ow : Own} {l : Addr} {m : Str → Option Value} {pl : Addr} {items : List Value} {A : Around} {s : Shared} {Q : Flow → Shared → Prop}
theorem LSt.grow (L : LSt c scope nm env h₀ P₀ P G ow l m h pl items) (g : Grow P h P' h') : LSt c scope nm env h₀ P₀ P' G ow l m h' pl items :=
  ⟨L.F.grow g, L.hl.at fun o e => g.stay _ o e, L.fr, grow_none g L.pn (isList_live L.hl), L.n1, L.n2, L.n3⟩
theorem ls_assign {x : Str} {p pos : Pos} {e : Expr} {d : D} (L : LSt c scope nm env h₀ P₀ P G ow l m s.heap pl items) (eo : EnvOK scope env) (V : VOK scope nm) (i : Nat) (hx : nm[i]? = some x) (he : EV c env A s.heap P e d)
    (hs : swapsWith e (some (.Name x p)) pos.line env = pure false)
    (k : ∀ P' h' tk' m', LSt c scope nm env h₀ P₀ P' (G.set i (some d)) (dropOwn i ow) l m' h' pl items → PLe P P' → Q .next { s with heap := h', toks := tk' }) : wpAny (model PG c.w) A (exec (.Assign [.Name x p] e pos) env) Q NoE s := by
  refine wpAny_Assign_Name (he s P _ (.refl L.F.sub) fun v P1 k1 tk1 g1 hv => ?_) hs
  have L1 := L.grow g1
  exact L1.F.store (s := { s with heap := k1, toks := tk1 }) eo V hx (a := some d) (fun d' e => by cases e; exact hv) fun m' h' tk' F' K' _ _ => k P1 h' tk' m' ⟨F', L1.hl.at fun o e => K' _ o e L1.n1 L1.n2 L1.n3, L.fr, L1.pn, L.n1, L.n2, L.n3⟩ g1.le
theorem LSt.put {k : Nat} {v : Value} (L : LSt c scope nm env h₀ P₀ P G ow l m h pl items) (hl : h'.IsList pl (items.set k v).toArray) (hs : Heap.SameBut pl h h') : LSt c scope nm env h₀ P₀ P G ow l m h' pl (items.set k v) :=
  ⟨L.F.off (wr := [pl]) (fun b hb => by rw [List.mem_singleton.mp hb]; exact ⟨L.fr, L.pn, L.n1, L.n2, L.n3⟩) fun b o hb e => hs.extBut b o (by simpa using hb) e, hl, L.fr, L.pn, L.n1, L.n2, L.n3⟩
theorem ls_set {x : Str} {p p2 pos' pos : Pos} {kk k : Nat} {e : Expr} {d : D} (L : LSt c scope nm env h₀ P₀ P G ow l m s.heap pl items) (eo : EnvOK scope env) (V : VOK scope nm) (i : Nat) (hx : nm[i]? = some x) (hG : G[i]? = some (some (.raw (.ref pl)))) (he : EV c env A s.heap P e d) (hk : k < items.length) (hk2 : k < 1000)
    (hs : swapsWith e (some (.Subscript (.Name x p) (.Constant (.int (k : Int)) kk p2) pos')) pos.line env = pure false)
    (q : ∀ v P' h' tk', DH c.w P' v d → LSt c scope nm env h₀ P₀ P' G ow l m h' pl (items.set k v) → PLe P P' → Q .next { s with heap := h', toks := tk' }) :
    wpAny (model PG c.w) A (exec (.Assign [.Subscript (.Name x p) (.Constant (.int (k : Int)) kk p2) pos'] e pos) env) Q NoE s := by
  refine wpAny_Assign_Subscript (he s P _ (.refl L.F.sub) fun v P1 k1 tk1 g1 hv => ?_) hs
  have L1 := L.grow g1
  obtain ⟨u, hu, ld, _⟩ := (L1.F.rd eo V).v i x _ hx hG
  have : u = .ref pl := by cases hu; rfl
  subst this
  refine ld _ _ _ _ _ _ (fun _ _ e => e) (wpAny_Constant_int ?_)
  refine wpAny_setItem_list (s := { s with heap := k1, toks := tk1 + 1 }) L1.hl (by omega) (by omega) (by simpa using hk) fun h' hl' hs' => ?_
  have ee : (items.toArray.setIfInBounds ((k : Int)).toNat v) = (items.set k v).toArray := by simp
  rw [ee] at hl'
  exact q v P1 h' _ hv (L1.put hl' hs') g1.le
end

/-- the pool -/
noncomputable def PoolH (c : Cx) (P : PM) (h : Heap) (pl : Addr) (N : Nat) : Prop :=
  P pl = none ∧ ∃ (cl : Addr) (g st pc : Int) (t1 t2 t3 : Tok) (xs : List Int), h.IsList pl [Value.ref cl, .int g t1, .int st t2, .int pc t3].toArray ∧ DH c.w P (.ref cl) (.lst (xs.map D.int)) ∧ xs.length ≤ 1000 ∧ 0 ≤ pc ∧ pc ≤ (N : Int)
noncomputable def GX (pl : Addr) (h h' : Heap) : Prop := ∀ b o, b ≠ pl → h.get? b = some o → h'.get? b = some o

theorem draw_con {c : Cx} {nd nu : Nat} {A : Around} {s : Shared} {P : PM} {h₀ : Heap} {pl : Addr} {N : Nat} {most : Int} {tm : Tok} {Q : Value → Shared → Prop} (ao : AOK A (nd + 1) (nu + 3)) (hok : HOK c h₀) (hst : h₀.StaysIn s.heap) (hfr : h₀.get? pl = none)
    (hp : PIn P s.heap) (kle : PLe (KPM c) P) (hpool : PoolH c P s.heap pl N) (hN : N ≤ 100000) (hm : 0 < most ∧ most ≤ 1000)
    (q : ∀ r tr h' tk', 0 ≤ r → r < most → GX pl s.heap h' → PoolH c P h' pl (N + 1) → Q (.int r tr) { s with heap := h', toks := tk' }) : wpAny (model PG c.w) A (call (.ref 409) [.ref pl, .int most tm]) Q NoE s := by
  obtain ⟨hpn, cl, g, st, pc, t1, t2, t3, xs, hl, hcl, hxl, hpc0, hpc⟩ := hpool
  have hoks := hok.keeps hst
  refine wpAny_call ?_
  refine' def_code (nd := nd) (nu := nu) (f := 409) (nm := ["pool", "most", "place", "digit"]) (np := 2) (vs' := [.ref pl, .int most tm]) (ds' := [.raw (.ref pl), .int most]) ?ho ?hcd ?K ao hoks hp kle ?hb ?hvs ?hlen ?h
  case ho => k_is
  case hcd => k_is
  case K => exact ⟨⟨by decide, by decide, by decide⟩, by decide, by decide, by decide, rfl, rfl, rfl⟩
  case hb => exact BindsTo.of_eq rfl
  case hvs => exact .cons (.raw _ rfl) (.cons (.int _ _) .nil)
  case hlen => rfl
  case h =>
    intro env A' h₁ tk m eo ao' hL F
    have V : VOK env.scope ["pool", "most", "place", "digit"] := by rw [eo.sc]; exact ⟨by decide, by decide, by decide⟩
    rw [eo.sc] at V
    have hlive := isList_live hl
    have L0 : LSt c _ ["pool", "most", "place", "digit"] env (hide s.heap pl) P P [some (.raw (.ref pl)), some (.int most), none, none] none env.locals m h₁ pl [.ref cl, .int g t1, .int st t2, .int pc t3] :=
      ⟨F.rebase (hide_stays _ _), hl.at fun o e => F.stay _ o e, hide_self _ _, hpn, (by obtain ⟨o, e⟩ := hlive; rw [hL]; exact Nat.ne_of_lt (Heap.lt_size e)), (by obtain ⟨o, e⟩ := hlive; rw [hL]; exact Nat.ne_of_lt (Heap.lt_size e)), fun x e => by
        obtain ⟨h1, _⟩ := F.cells x pl e
        obtain ⟨o, e'⟩ := hlive
        rw [e'] at h1; cases h1⟩
    have HK : ∀ {sc : Scope} {P' : PM} {G : Vars} {m : Str → Option Value} {h : Heap} {items : List Value}, LSt c sc ["pool", "most", "place", "digit"] env (hide s.heap pl) P P' G none env.locals m h pl items → HOK c h := fun L => hok.keeps fun b o e => L.F.stay b o (stays_hide hst hfr b o e)
    -- the end: an int in range
    have fin : ∀ {sc : Scope} {P' : PM} {G : Vars} {m : Str → Option Value} {h : Heap} {tk : Nat} {g' st' pc' : Int} {u1 u2 u3 : Tok} {r : Int} {tr : Tok}, LSt c sc ["pool", "most", "place", "digit"] env (hide s.heap pl) P P' G none env.locals m h pl [.ref cl, .int g' u1, .int st' u2, .int pc' u3] → 0 ≤ pc' → pc' ≤ ((N + 1 : Nat) : Int) → 0 ≤ r → r < most → Q (.int r tr) { s with heap := h, toks := tk } := by
      intro sc P' G m h tk g' st' pc' u1 u2 u3 r tr L h0 h1 h2 h3
      exact q r tr h tk h2 h3 (fun b o n e => L.F.stay b o (by rw [hide_other _ n]; exact e)) ⟨hpn, cl, g', st', pc', u1, u2, u3, xs, L.hl, hcl, hxl, h0, h1⟩
    have seV : ∀ {sc : Scope} {P' : PM} {G : Vars} {m : Str → Option Value} {h : Heap} {items : List Value} {e : Expr} {phi : Vars → Option D} {d : D}, EnvOK sc env → VOK sc ["pool", "most", "place", "digit"] → LSt c sc ["pool", "most", "place", "digit"] env (hide s.heap pl) P P' G none env.locals m h pl items → SE c nd nu sc ["pool", "most", "place", "digit"] e phi → phi G = some d → EV c env A' h P' e d :=
      fun eo V L hs e => ev_se hs eo ao' (HK L) (L.F.rd eo V) e
    have clP : ∀ {P' : PM}, PLe P P' → DH c.w P' (.ref cl) (.lst (xs.map D.int)) := fun h => hcl.mono h
    -- place = pool[3]
    refine wpAny_execs_cons (ls_assign L0 eo V 2 rfl (ev_item (k := 3) 0 rfl rfl (L0.F.rd eo V) L0.hl rfl (by decide) (.int _ _)) rfl fun P1 k1 tk1 m1 L1 le1 => ?_)
    -- pool[3] = place + 1
    refine wpAny_execs_cons (ls_set (k := 3) (d := .int (pc + 1)) (s := { s with heap := k1, toks := tk1 }) L1 eo V 0 rfl rfl (seV eo V L1 (se_bin (se_var 2 rfl) se_int) rfl) (by simp) (by decide) rfl fun v2 P2 k2 tk2 hv2 L2 le2 => ?_)
    obtain ⟨t4, rfl⟩ := hv2.int_inv
    replace L2 : LSt c _ ["pool", "most", "place", "digit"] env (hide s.heap pl) P P2 [some (.raw (.ref pl)), some (.int most), some (.int pc), none] none env.locals m1 k2 pl [.ref cl, .int g t1, .int st t2, .int (pc + 1) t4] := L2
    have hpc1 : 0 ≤ pc + 1 ∧ pc + 1 ≤ ((N + 1 : Nat) : Int) := by omega
    have hmod : ∀ x : Int, bop .Mod (.int x) (.int most) = some (.int (x % most)) := fun x => by simp [bop, bMod, hm.1]
    have hmr : ∀ x : Int, 0 ≤ x % most ∧ x % most < most := fun x => ⟨Int.emod_nonneg _ (by omega), Int.emod_lt_of_pos _ hm.1⟩
    by_cases hg : g > 0
    · refine wpAny_execs_cons (wpAny_If ((tev_cmp (t := true) ao'.u (ev_item (k := 1) 0 rfl rfl (L2.F.rd eo V) L2.hl rfl (by decide) (.int g t1)) (seV eo V L2 se_int rfl) (by simp [bcmp, cInt]; omega)) { s with heap := k2, toks := tk2 } P2 _ (.refl L2.F.sub) fun P3 k3 tk3 g3 => ?_))
      rw [if_pos rfl]
      have L3 := L2.grow g3
      refine wpAny_execs_cons (ls_assign (s := { s with heap := k3, toks := tk3 }) L3 eo V 3 rfl (ev_bin (ev_item (k := 1) 0 rfl rfl (L3.F.rd eo V) L3.hl rfl (by decide) (.int g t1)) (seV eo V L3 (se_var 1 rfl) rfl) (hmod g)) rfl fun P4 k4 tk4 m4 L4 le4 => ?_)
      refine wpAny_execs_cons (ls_set (k := 1) (s := { s with heap := k4, toks := tk4 }) L4 eo V 0 rfl rfl (ev_bin (d := .int (g / most)) (ev_item (k := 1) 0 rfl rfl (L4.F.rd eo V) L4.hl rfl (by decide) (.int g t1)) (seV eo V L4 (se_var 1 rfl) rfl) (by
        have : 0 < most ∧ most ≤ 1000000 := by omega
        simp [bop, bDiv, this])) (by simp) (by decide) rfl fun v5 P5 k5 tk5 hv5 L5 le5 => ?_)
      obtain ⟨t5, rfl⟩ := hv5.int_inv
      refine wpAny_execs_cons (wpAny_Return_some (seV eo V L5 (se_var 3 rfl) rfl { s with heap := k5, toks := tk5 } P5 _ (.refl L5.F.sub) fun v6 P6 k6 tk6 g6 hv6 => ?_))
      obtain ⟨t6, rfl⟩ := hv6.int_inv
      exact fin (L5.grow g6) hpc1.1 hpc1.2 (hmr g).1 (hmr g).2
    · refine wpAny_execs_cons (wpAny_If ((tev_cmp (t := false) ao'.u (ev_item (k := 1) 0 rfl rfl (L2.F.rd eo V) L2.hl rfl (by decide) (.int g t1)) (seV eo V L2 se_int rfl) (by simp [bcmp, cInt]; omega)) { s with heap := k2, toks := tk2 } P2 _ (.refl L2.F.sub) fun P3 k3 tk3 g3 => ?_))
      simp only [Bool.false_eq_true, if_false]
      refine wpAny_execs_nil ?_
      have L3 := L2.grow g3
      have hsq : mulOk pc pc := .inl (by omega)
      have h16 : mulOk st 16807 := .inr (by decide)
      refine wpAny_execs_cons (ls_set (k := 2) (s := { s with heap := k3, toks := tk3 }) L3 eo V 0 rfl rfl (ev_bin (d := .int ((st * 16807 + pc * pc + 5) % 2147483647))
        (ev_bin (ev_bin (ev_bin (ev_item (k := 2) 0 rfl rfl (L3.F.rd eo V) L3.hl rfl (by decide) (.int st t2)) (seV eo V L3 se_int rfl) (d := .int (st * 16807)) (by simp [bop, bMul, h16]))
          (seV eo V L3 (se_bin (se_var 2 rfl) (se_var 2 rfl)) (d := .int (pc * pc)) (by simp [bop, bMul, hsq])) (d := .int (st * 16807 + pc * pc)) rfl) (seV eo V L3 se_int rfl) (d := .int (st * 16807 + pc * pc + 5)) rfl)
        (seV eo V L3 se_int rfl) (by simp [bop, bMod])) (by simp) (by decide) rfl fun v4 P4 k4 tk4 hv4 L4 le4 => ?_)
      obtain ⟨t5, rfl⟩ := hv4.int_inv
      replace L4 : LSt c _ ["pool", "most", "place", "digit"] env (hide s.heap pl) P P4 [some (.raw (.ref pl)), some (.int most), some (.int pc), none] none env.locals m1 k4 pl [.ref cl, .int g t1, .int ((st * 16807 + pc * pc + 5) % 2147483647) t5, .int (pc + 1) t4] := L4
      have xl : (xs.map D.int).length ≤ 1000 := by rw [List.length_map]; exact hxl
      by_cases hpx : pc < (xs.length : Int)
      · refine wpAny_execs_cons (wpAny_If ((tev_cmp (t := true) ao'.u (seV eo V L4 (se_var 2 rfl) rfl) (ev_len eo (HK L4) ao' L4.F.kle rfl (ev_item (k := 0) 0 rfl rfl (L4.F.rd eo V) L4.hl rfl (by decide) (clP L4.F.le)) xl) (by simp [bcmp, cInt]; omega)) { s with heap := k4, toks := tk4 } P4 _ (.refl L4.F.sub) fun P5 k5 tk5 g5 => ?_))
        rw [if_pos rfl]
        have L5 := L4.grow g5
        obtain ⟨j, rfl⟩ : ∃ j : Nat, pc = (j : Int) := ⟨pc.toNat, by omega⟩
        have hj : j < xs.length := by omega
        refine wpAny_execs_cons (wpAny_Return_some (ev_bin (d := .int (xs[j] % most)) (ev_idx (a := .lst (xs.map D.int)) (d := .int xs[j]) (ev_item (k := 0) 0 rfl rfl (L5.F.rd eo V) L5.hl rfl (by decide) (clP L5.F.le)) (seV eo V L5 (se_var 2 rfl) rfl) (by
          simp only [bidx]
          rw [bidxL_nat _ _ (by omega)]; simp [hj])) (seV eo V L5 (se_var 1 rfl) rfl) (hmod _) { s with heap := k5, toks := tk5 } P5 _ (.refl L5.F.sub) fun v6 P6 k6 tk6 g6 hv6 => ?_))
        obtain ⟨t6, rfl⟩ := hv6.int_inv
        exact fin (L5.grow g6) hpc1.1 hpc1.2 (hmr _).1 (hmr _).2
      · refine wpAny_execs_cons (wpAny_If ((tev_cmp (t := false) ao'.u (seV eo V L4 (se_var 2 rfl) rfl) (ev_len eo (HK L4) ao' L4.F.kle rfl (ev_item (k := 0) 0 rfl rfl (L4.F.rd eo V) L4.hl rfl (by decide) (clP L4.F.le)) xl) (by simp [bcmp, cInt]; omega)) { s with heap := k4, toks := tk4 } P4 _ (.refl L4.F.sub) fun P5 k5 tk5 g5 => ?_))
        simp only [Bool.false_eq_true, if_false]
        refine wpAny_execs_nil ?_
        have L5 := L4.grow g5
        generalize (st * 16807 + pc * pc + 5) % 2147483647 = st2 at L4 L5
        refine wpAny_execs_cons (wpAny_Return_some (ev_bin (d := .int (st2 / 5 % most)) (ev_bin (d := .int (st2 / 5)) (ev_item (k := 2) 0 rfl rfl (L5.F.rd eo V) L5.hl rfl (by decide) (.int st2 t5)) (seV eo V L5 se_int rfl) (by simp [bop, bDiv])) (seV eo V L5 (se_var 1 rfl) rfl) (hmod _) { s with heap := k5, toks := tk5 } P5 _ (.refl L5.F.sub) fun v6 P6 k6 tk6 g6 hv6 => ?_))
        obtain ⟨t6, rfl⟩ := hv6.int_inv
        exact fin (L5.grow g6) hpc1.1 hpc1.2 (hmr _).1 (hmr _).2
end Mine
namespace Mine
open PySem PySem.W PySem.Calls PySem.SeqAt PyProof.Rows

noncomputable def bAbs : List D → Option D
  | [.int a] => some (.int (if a < 0 then -a else a))
  | _ => none
noncomputable def bInt : List D → Option D
  | [.int a] => some (.int a)
  | _ => none
noncomputable def sUptoL (a : D) (b : D) : Option D := match a, b with
  | .lst ds, .int k => if 0 ≤ k ∧ ds.length ≤ 1000 then some (.lst (ds.take k.toNat)) else none
  | _, _ => none
section
variable {c : Cx} {nd nu : Nat} {scope : Scope} {nm : List Str} {env : Env}
theorem abs_ok : VCon c nd nu (.builtin "abs") bAbs := by
  intro args ds d e A s P Q ao ho hp kle hargs q
  unfold bAbs at e
  split at e
  · first | exact nn e | cases e
    obtain ⟨v, rfl, hv⟩ := hargs.one_inv
    obtain ⟨t, rfl⟩ := hv.int_inv
    exact call_abs_int fun u tk => q _ P s.heap tk (.refl hp) (.int _ _)
  · first | exact nn e | cases e
theorem int_ok : VCon c nd nu (.type "int") bInt := by
  intro args ds d e A s P Q ao ho hp kle hargs q
  unfold bInt at e
  split at e
  · first | exact nn e | cases e
    obtain ⟨v, rfl, hv⟩ := hargs.one_inv
    obtain ⟨t, rfl⟩ := hv.int_inv
    exact call_int_int (q _ P s.heap s.toks (.refl hp) (.int _ _))
  · first | exact nn e | cases e
theorem se_uptoL {v l : Expr} {p pos : Pos} {f g : Vars → Option D} (h1 : SE c nd nu scope nm v f) (h2 : SE c nd nu scope nm l g)
    (hs : ∀ a k, subscripted (.Slice none (some l) none p) false (.ref a) (.ref k) = operate [.ref k, .ref a] (getItem (.ref a) (.ref k)) := by intro _ _; with_unfolding_all rfl) :
    SE c nd nu scope nm (.Subscript v (.Slice none (some l) none p) pos) (fun G => (f G).bind fun a => (g G).bind fun b => sUptoL a b) := by
  intro env A s P G d Q eo ao ho hp rd e q
  obtain ⟨a, ea, e1⟩ := Option.bind_eq_some_iff.mp e
  obtain ⟨b, eb, er⟩ := Option.bind_eq_some_iff.mp e1
  refine Subscript_ (h1 env A s P G a _ eo ao ho hp rd ea fun va P1 k1 tk1 g1 hva => ?_)
  refine wpAny_Slice (evalPart_none' (evalPart_some' (h2 env A _ P1 G b _ eo ao (ho.keeps g1.stay) g1.sub (rd.grow g1) eb fun vb P2 k2 tk2 g2 hvb => ?_)))
  refine evalPart_none' ?_
  unfold sUptoL at er
  split at er
  · rename_i ds k
    split at er
    · rename_i hk
      cases er
      obtain ⟨u, rfl⟩ := hvb.int_inv
      obtain ⟨a1, o1, vs, n1, rfl, e1, c1, d1, p1⟩ := (hva.mono g2.le).lst_inv
      have t := lst_at e1 c1 d1 g2.sub
      have tp : (k2.push { cls := .type "slice", data := .fields #[.none, .int k u, .none] }).IsList a1 vs.toArray := t.push _
      refine tail_any (s := { s with heap := k2.push { cls := .type "slice", data := .fields #[.none, .int k u, .none] }, toks := tk2 }) tp.typeIs slot_list_getitem.lookup
        (wpAny_getItem_list_slice (s := { s with heap := k2.push { cls := .type "slice", data := .fields #[.none, .int k u, .none] }, toks := tk2 }) tp (Heap.IsSliceOf.new ..) .none (.int _ _) .none (by simp) ?_ (by rw [List.size_toArray, p1.length]; exact le_line hk.2)) (hs _ _)
      have ek : k = (k.toNat : Int) := by omega
      have ee : slicePick vs.toArray none (some k) none = (vs.take k.toNat).toArray := by
        rw [congrArg some ek, slicePick_upto']
      rw [ee]
      have g12 := (g1.trans g2).then (l := k2.push { cls := .type "slice", data := .fields #[.none, .int k u, .none] }) fun b o e => Heap.get?_push_of_some _ e
      exact grow_lst (s := { s with heap := k2.push { cls := .type "slice", data := .fields #[.none, .int k u, .none] }, toks := tk2 }) g12.sub (p1.take _) fun v P3 k3 tk3 g3 hv => q v P3 k3 tk3 (g12.trans g3) hv
    · first | exact nn er | cases er
  · first | exact nn er | cases er
/-- a list as a test -/
theorem st_list {x : Expr} {f : Vars → Option D} (h1 : SE c nd nu scope nm x f) (he : ∀ (env : Env) (whole : Sem Value), isTrue x env whole = (do let v ← whole; standAt x.pos; holding [v] (truthy v)) := by intro _ _; rfl) :
    ST c nd nu scope nm x (fun G => (f G).bind fun | .lst ds => if ds.length ≤ 1000 then some (!ds.isEmpty) else none | _ => none) := by
  intro env A s P G d Q eo ao ho hp rd e q
  obtain ⟨a, ea, e1⟩ := Option.bind_eq_some_iff.mp e
  cases a <;> first | exact nn e1 | skip
  rename_i ds
  dsimp only at e1
  split at e1
  · rename_i hl
    cases e1
    refine isTrue_plain (h1 env A s P G _ _ eo ao ho hp rd ea fun va P1 k1 tk1 g1 hva => ?_) (he _ _)
    obtain ⟨a1, o1, vs, n1, rfl, e1, c1, d1, p1⟩ := hva.lst_inv
    have z : (!vs.toArray.isEmpty) = !ds.isEmpty := by
      have := p1.length
      cases vs <;> cases ds <;> first | rfl | (simp at this)
    refine wpAny_truthy_list (s := { s with heap := k1, toks := tk1 }) (lst_at e1 c1 d1 g1.sub) (by rw [List.size_toArray, p1.length]; omega) ?_
    rw [z]
    exact q P1 k1 _ g1
  · first | exact nn e1 | cases e1

theorem gv_one {f : St → Option (St × Option D)} {z : St} {F : St × Option D → Prop} (h : Gv (seqS f (fun z => some (z, none)) z) F) : Gv (f z) F := by
  obtain ⟨x, e, hx⟩ := h
  refine ⟨x, ?_, hx⟩
  rw [← e]
  simp only [seqS]
  cases f z with
  | none => rfl
  | some y => obtain ⟨y1, y2⟩ := y; cases y2 <;> rfl
/-- one statement, then the rest -/
theorem run_gv {st : Stmt} {rest : List Stmt} {psi : St → Option (St × Option D)} {R : St → Prop} (hx : SX c nd nu scope nm st psi) {A : Around} {s : Shared} {h₀ : Heap} {P₀ P : PM} {z : St} {l : Addr} {m : Str → Option Value} {Q : Flow → Shared → Prop}
    (eo : EnvOK scope env) (V : VOK scope nm) (ao : AOK A nd nu) (ho : HOK c h₀) (F : FS c scope nm env h₀ P₀ P z.1 z.2 l m s.heap) (g : Gv (seqS psi (fun z => some (z, none)) z) (fun x => x.2 = none ∧ R x.1))
    (k : ∀ z' P' h' tk' l' m', R z' → FS c scope nm env h₀ P₀ P' z'.1 z'.2 l' m' h' → Out env l P s.heap P' h' l' → wpAny (model PG c.w) A (execs rest env) Q NoE { s with heap := h', toks := tk' }) :
    wpAny (model PG c.w) A (execs (st :: rest) env) Q NoE s := by
  obtain ⟨⟨z', r⟩, e, hr, hR⟩ := gv_one g
  cases hr
  refine wpAny_execs_cons (hx env A s h₀ P₀ P z l m z' none _ eo V ao ho F e fun fl P' h' tk' l' m' F' O' fi => ?_)
  have : fl = .next := fi
  subst this
  exact k z' P' h' tk' l' m' hR F' O'
end
end Mine
namespace Mine
open PySem PySem.W PySem.Calls PySem.SeqAt PyProof.Rows

theorem box_con {c : Cx} {nd nu : Nat} {A : Around} {s : Shared} {P : PM} {xs : List Int} {sv : Value} {Q : Value → Shared → Prop} (ao : AOK A (nd + 1) (nu + 3)) (hok : HOK c s.heap)
    (hp : PIn P s.heap) (kle : PLe (KPM c) P) (hsv : DH c.w P sv (.lst (xs.map D.int))) (hxl : xs.length ≤ 1000)
    (q : ∀ pl P' h' tk', Grow P s.heap P' h' → s.heap.get? pl = none → PoolH c P' h' pl 0 → Q (.ref pl) { s with heap := h', toks := tk' }) : wpAny (model PG c.w) A (call (.ref 402) [sv]) Q NoE s := by
  refine wpAny_call ?_
  refine' def_code (nd := nd) (nu := nu) (f := 402) (nm := ["script", "cells", "great", "state", "cell"]) (np := 1) (vs' := [sv]) (ds' := [.lst (xs.map D.int)]) ?ho ?hcd ?K ao hok hp kle ?hb ?hvs ?hlen ?h
  case ho => k_is
  case hcd => k_is
  case K => exact ⟨⟨by decide, by decide, by decide⟩, by decide, by decide, by decide, rfl, rfl, rfl⟩
  case hb => exact BindsTo.of_eq rfl
  case hvs => exact .one hsv
  case hlen => rfl
  case h =>
    intro env A' h₁ tk m eo ao' hL F
    have V : VOK env.scope ["script", "cells", "great", "state", "cell"] := by rw [eo.sc]; exact ⟨by decide, by decide, by decide⟩
    rw [eo.sc] at V
    replace F : FS c _ ["script", "cells", "great", "state", "cell"] env s.heap P P (([some (D.lst (xs.map D.int)), none, none, none, none], none) : St).1 (([some (D.lst (xs.map D.int)), none, none, none, none], none) : St).2 env.locals m ({ s with heap := h₁, toks := tk } : Shared).heap := F
    have xl : (xs.map D.int).length ≤ 1000 := by rw [List.length_map]; exact hxl
    -- cells
    refine run_gv (R := fun z => z = ([some (.lst (xs.map D.int)), some (.lst ((xs.take 40).map D.int)), none, none, none], none))
      (sx_assign_comp 1 rfl rfl (SI.g (si_seq (se_uptoL (se_var 0 rfl) se_int))) ctgt_name (show CompOK _ _ _ _ [] from ⟨rfl, rfl, by decide, by decide, by decide, by decide, by decide, by decide⟩) sts_nil (se_btype int_ok rfl (fun _ => by k_is) PyProof.Rows.boot_int (by decide) (sa_cons (se_var 0 rfl) sa_nil)) rfl rfl rfl)
      eo V ao' hok F ?_ ?_
    · refine gv_seq _ ?_ (gv_nil ⟨rfl, rfl⟩)
      rw [compS_map (ds := (xs.take 40).map D.int) (g := id)]
      · simp [dropOwn]
      · simp [sUptoL, xl, hxl]
      · rw [List.length_map, List.length_take]; omega
      · intro d hd
        obtain ⟨x, _, rfl⟩ := List.mem_map.mp hd
        simp [compF, spN, bInt]
    rintro _ P1 k1 tk1 l1 m1 rfl F1 O1
    generalize hcs : xs.take 40 = cs at F1
    have cl : cs.length ≤ 40 := by rw [← hcs, List.length_take]; omega
    have cl2 : (cs.map D.int).length ≤ 1000 := by rw [List.length_map]; omega
    -- great = 0
    refine run_gv (s := { s with heap := k1, toks := tk1 }) (R := fun z => z = ([some (.lst (xs.map D.int)), some (.lst (cs.map D.int)), some (.int 0), none, none], none)) (sx_assign 2 rfl se_int (fun _ => rfl)) eo V ao' hok F1 (gv_seq _ rfl (gv_nil ⟨rfl, rfl⟩)) ?_
    rintro _ P2 k2 tk2 l2 m2 rfl F2 O2
    -- the great first cell
    refine run_gv (s := { s with heap := k2, toks := tk2 }) (R := fun z => ∃ g, z = ([some (.lst (xs.map D.int)), some (.lst (cs.map D.int)), some (.int g), none, none], none))
      (sx_if (st_and (st_list (se_var 1 rfl)) (st_cmp (se_bfun abs_ok rfl (fun _ => by k_is) boot_abs (by decide) (sa_cons (se_idx (se_var 1 rfl) se_int) sa_nil)) (se_bin se_int se_int)))
        (sl_cons (sx_assign 2 rfl (se_bin (se_bin (se_bfun abs_ok rfl (fun _ => by k_is) boot_abs (by decide) (sa_cons (se_idx (se_var 1 rfl) se_int) sa_nil)) se_int) (se_bin se_int se_int)) (fun _ => rfl)) sl_nil) sl_nil) eo V ao' hok F2 ?_ ?_
    · cases cs with
      | nil =>
        refine gv_if false (by simp) (gv_unit (gv_nil ⟨rfl, 0, rfl⟩))
      | cons a r =>
        have hr : r.length ≤ 999 := by simp at cl; omega
        by_cases hb : (if a < 0 then -a else a) ≥ (10 : Int) ^ (15 : Int).toNat
        · refine gv_if true ?_ ?_
          · simp [hr, bidx, bidxL_0, bAbs, bop, bPow, bcmp, cInt]
            simpa using hb
          · exact gv_assoc (gv_seq ([some (.lst (xs.map D.int)), some (.lst ((a :: r).map D.int)), some (.int ((if a < 0 then -a else a) / 2 % (10 : Int) ^ (200 : Int).toNat)), none, none], none) (by simp [bidx, bidxL_0, bAbs, bop, bPow, bDiv, bMod, dropOwn]) (gv_unit (gv_nil ⟨rfl, _, rfl⟩)))
        · refine gv_if false ?_ (gv_unit (gv_nil ⟨rfl, 0, rfl⟩))
          simp [hr, bidx, bidxL_0, bAbs, bop, bPow, bcmp, cInt]
          simpa using hb
    rintro _ P3 k3 tk3 l3 m3 ⟨g, rfl⟩ F3 O3
    -- state = 7
    refine run_gv (s := { s with heap := k3, toks := tk3 }) (R := fun z => z = ([some (.lst (xs.map D.int)), some (.lst (cs.map D.int)), some (.int g), some (.int 7), none], none)) (sx_assign 3 rfl se_int (fun _ => rfl)) eo V ao' hok F3 (gv_seq _ rfl (gv_nil ⟨rfl, rfl⟩)) ?_
    rintro _ P4 k4 tk4 l4 m4 rfl F4 O4
    -- the loop
    refine run_gv (s := { s with heap := k4, toks := tk4 }) (R := fun z => ∃ st u, z = ([some (.lst (xs.map D.int)), some (.lst (cs.map D.int)), some (.int g), some (.int st), u], none))
      (sx_for (tgt_name 4 rfl) (si_seq (se_var 1 rfl)) (sl_cons (sx_assign 3 rfl (se_bin (se_bin (se_bin (se_bin (se_var 3 rfl) se_int) (se_bin (se_var 4 rfl) se_int)) se_int) se_int) (fun _ => rfl)) sl_nil)) eo V ao' hok F4 ?_ ?_
    · refine gv_for (ds := cs.map D.int) (by simp) (fun _ z => ∃ st u, z = ([some (.lst (xs.map D.int)), some (.lst (cs.map D.int)), some (.int g), some (.int st), u], none)) ⟨7, none, rfl⟩ ?_ ?_
      · rintro p d q' e z ⟨st, u, rfl⟩
        obtain ⟨x, _, rfl⟩ := List.mem_map.mp (show d ∈ cs.map D.int by rw [e]; simp)
        refine ⟨_, rfl, ?_⟩
        have h1 : mulOk st 48271 := .inr (by decide)
        exact gv_seq ([some (.lst (xs.map D.int)), some (.lst (cs.map D.int)), some (.int g), some (.int ((st * 48271 + x % 2147483647 + 11) % 2147483647)), some (.int x)], none) (by simp [bop, bMul, bAdd_i, bAdd_s, bAdd_t, bAdd_l, bMod, h1, dropOwn]) (gv_nil ⟨rfl, _, _, rfl⟩)
      · rintro z' h
        exact gv_nil ⟨rfl, h⟩
    rintro _ P5 k5 tk5 l5 m5 ⟨st, u, rfl⟩ F5 O5
    -- return
    have ho5 : HOK c k5 := hok.keeps F5.stay
    refine wpAny_execs_cons (wpAny_Return_some (wpAny_List_spliced ?_))
    refine (sa_cons (se_var 1 rfl) (sa_cons (se_var 2 rfl) (sa_cons (se_var 3 rfl) (sa_cons se_int sa_nil))) : SA c nd nu _ ["script", "cells", "great", "state", "cell"] _ _) env _ A' { s with heap := k5, toks := tk5 } P5 [some (.lst (xs.map D.int)), some (.lst (cs.map D.int)), some (.int g), some (.int st), u] [.lst (cs.map D.int), .int g, .int st, .int 0] _ eo ao' ho5 F5.sub (F5.rd eo V) (by simp) fun vs P6 k6 tk6 g6 hvs => ?_
    refine ⟨by rw [hvs.length]; exact le_line (by simp), ?_⟩
    have hn := get_size k6
    have gg : Grow P s.heap P6 k6 := (⟨F5.stay, F5.le, F5.sub, F5.new⟩ : Grow P s.heap P5 k5).trans g6
    have st6 : k6.StaysIn (k6.push { cls := .type "list", data := .seq vs.toArray }) := fun b o e => Heap.get?_push_of_some _ e
    refine q k6.objs.size P6 _ _ (gg.then st6) (none_of_stays gg.stay hn) ⟨none_of_in gg.sub hn, ?_⟩
    cases hvs with
    | cons h1 r1 =>
      rename_i v1 _
      obtain ⟨v2, v3, v4, rfl, h2, h3, h4⟩ := r1.three_inv
      obtain ⟨t2, rfl⟩ := h2.int_inv
      obtain ⟨t3, rfl⟩ := h3.int_inv
      obtain ⟨t4, rfl⟩ := h4.int_inv
      obtain ⟨a1, _, _, _, rfl, _⟩ := h1.lst_inv
      exact ⟨a1, g, st, 0, t2, t3, t4, cs, ⟨_, Heap.get?_push_size _ rfl, rfl, 0, rfl⟩, h1, by omega, by decide, by decide⟩
end Mine
namespace Mine
open PySem PySem.W PySem.Calls PySem.SeqAt PyProof.Rows

theorem AOK.less {A : Around} {nd nu nd' nu' : Nat} (a : AOK A nd nu) (h1 : nd' ≤ nd) (h2 : nu' ≤ nu) : AOK A nd' nu' := ⟨a.hh, by have := a.hd; omega, by have := a.hu; omega⟩
theorem PoolH.live {c : Cx} {P : PM} {h : Heap} {pl : Addr} {N : Nat} (p : PoolH c P h pl N) : ∃ o, h.get? pl = some o := by
  obtain ⟨_, cl, g, st, pc, t1, t2, t3, xs, hl, _⟩ := p
  exact isList_live hl
theorem PoolH.step {c : Cx} {P P' : PM} {h h' : Heap} {pl : Addr} {N N' : Nat} (p : PoolH c P h pl N) (k : ∀ o, h.get? pl = some o → h'.get? pl = some o) (le : PLe P P') (n : P' pl = none) (hN : N ≤ N') : PoolH c P' h' pl N' := by
  obtain ⟨_, cl, g, st, pc, t1, t2, t3, xs, hl, h1, h2, h3, h4⟩ := p
  exact ⟨n, cl, g, st, pc, t1, t2, t3, xs, hl.at fun o e => k o e, h1.mono le, h2, h3, by omega⟩
theorem GX.refl (pl : Addr) (h : Heap) : GX pl h h := fun _ _ _ e => e
theorem GX.trans {pl : Addr} {h k l : Heap} (a : GX pl h k) (b : GX pl k l) : GX pl h l := fun x o n e => b x o n (a x o n e)
theorem GX.of {pl : Addr} {h k : Heap} (s : h.StaysIn k) : GX pl h k := fun b o _ e => s b o e
theorem GX.base {pl : Addr} {H h k : Heap} (a : GX pl h k) (s : H.StaysIn h) (n : H.get? pl = none) : H.StaysIn k := fun b o e => a b o (by rintro rfl; rw [n] at e; cases e) (s b o e)

/-- an expression that may draw -/
noncomputable def NR (c : Cx) (nd nu : Nat) (scope : Scope) (nm : List Str) (pl : Addr) (G : Vars) (e : Expr) (S : D → Prop) (n : Nat) : Prop :=
  ∀ (env : Env) (A : Around) (s : Shared) (h₀ Hb : Heap) (P : PM) (N : Nat) (Q : Value → Shared → Prop), EnvOK scope env → AOK A nd nu → HOK c h₀ → h₀.StaysIn Hb → Hb.get? pl = none → Hb.StaysIn s.heap → PIn P s.heap → Rd c env nm G P Hb → PoolH c P s.heap pl N → N + n ≤ 100000 →
    (∀ v d P' h' tk', S d → DH c.w P' v d → PLe P P' → PIn P' h' → (∀ b o, P' b = some o → P b = some o ∨ s.heap.get? b = none) → GX pl s.heap h' → PoolH c P' h' pl (N + n) → Q v { s with heap := h', toks := tk' }) →
    wpAny (model PG c.w) A (eval e env) Q NoE s
section
variable {c : Cx} {nd nu : Nat} {scope : Scope} {nm : List Str} {pl : Addr} {G : Vars}
theorem rd_on {env : Env} {P : PM} {Hb h : Heap} (rd : Rd c env nm G P Hb) (s : Hb.StaysIn h) (i : PIn P h) : Rd c env nm G P h := rd.grow (h := Hb) (P := P) (P' := P) ⟨s, .refl _, i, fun _ _ e => .inl e⟩
theorem grow_pool {P P' : PM} {h h' : Heap} {N : Nat} (p : PoolH c P h pl N) (g : Grow P h P' h') : PoolH c P' h' pl N := p.step (fun o e => g.stay _ o e) g.le (grow_none g p.1 p.live) (Nat.le_refl _)
theorem nr_se {e : Expr} {phi : Vars → Option D} {d : D} (hs : SE c nd nu scope nm e phi) (e1 : phi G = some d) : NR c nd nu scope nm pl G e (fun x => x = d) 0 := by
  intro env A s h₀ Hb P N Q eo ao ho hb0 hbn hbs hp rd po hN q
  exact hs env A s P G d Q eo ao (ho.keeps fun b o e => hbs b o (hb0 b o e)) hp (rd_on rd hbs hp) e1 fun v P' h' tk' g hv => q v d P' h' tk' rfl hv g.le g.sub g.new (.of g.stay) (grow_pool po g)
theorem nr_mono {e : Expr} {S T : D → Prop} {n n' : Nat} (h : NR c nd nu scope nm pl G e S n) (m : ∀ d, S d → T d) (hn : n ≤ n') : NR c nd nu scope nm pl G e T n' := by
  intro env A s h₀ Hb P N Q eo ao ho hb0 hbn hbs hp rd po hN q
  exact h env A s h₀ Hb P N Q eo ao ho hb0 hbn hbs hp rd po (by omega) fun v d P' h' tk' hs hv le sub new gx po' => q v d P' h' tk' (m d hs) hv le sub new gx (po'.step (fun _ e => e) (.refl _) po'.1 (by omega))
theorem new_after {P P1 P2 : PM} {h k1 : Heap} {N : Nat} (new1 : ∀ b o, P1 b = some o → P b = some o ∨ h.get? b = none) (gx1 : GX pl h k1) (po1 : PoolH c P1 k1 pl N) (new2 : ∀ b o, P2 b = some o → P1 b = some o ∨ k1.get? b = none) : ∀ b o, P2 b = some o → P b = some o ∨ h.get? b = none := fun x o e => by
  rcases new2 x o e with r | r
  · exact new1 x o r
  · refine .inr ?_
    cases w : h.get? x with
    | none => rfl
    | some o' =>
      by_cases hx : x = pl
      · subst hx; obtain ⟨o2, e2⟩ := po1.live; rw [r] at e2; cases e2
      · have := gx1 x o' hx w
        rw [r] at this; cases this
/-- two in a row -/
theorem nr_two {e1 e2 : Expr} {S1 S2 : D → Prop} {n1 n2 : Nat} (h1 : NR c nd nu scope nm pl G e1 S1 n1) (h2 : NR c nd nu scope nm pl G e2 S2 n2)
    {env : Env} {A : Around} {s : Shared} {h₀ Hb : Heap} {P : PM} {N : Nat} {Q : Value → Value → Shared → Prop} (eo : EnvOK scope env) (ao : AOK A nd nu) (ho : HOK c h₀) (hb0 : h₀.StaysIn Hb) (hbn : Hb.get? pl = none) (hbs : Hb.StaysIn s.heap) (hp : PIn P s.heap) (rd : Rd c env nm G P Hb) (po : PoolH c P s.heap pl N) (hN : N + (n1 + n2) ≤ 100000)
    (q : ∀ v u a b P' h' tk', S1 a → S2 b → DH c.w P' v a → DH c.w P' u b → PLe P P' → PIn P' h' → (∀ b o, P' b = some o → P b = some o ∨ s.heap.get? b = none) → GX pl s.heap h' → PoolH c P' h' pl (N + (n1 + n2)) → Q v u { s with heap := h', toks := tk' }) :
    wpAny (model PG c.w) A (eval e1 env) (fun v s1 => wpAny (model PG c.w) A (eval e2 env) (fun u s2 => Q v u s2) NoE s1) NoE s := by
  refine h1 env A s h₀ Hb P N _ eo ao ho hb0 hbn hbs hp rd po (by omega) fun v a P1 k1 tk1 sa hv le1 sub1 new1 gx1 po1 => ?_
  have hbs1 := gx1.base hbs hbn
  have rd1 : Rd c env nm G P1 Hb := ⟨rd.k.trans le1, fun i x d a b => let ⟨v, hv, l, r⟩ := rd.v i x d a b; ⟨v, hv.mono le1, l, r⟩, rd.cd⟩
  refine h2 env A { s with heap := k1, toks := tk1 } h₀ Hb P1 (N + n1) _ eo ao ho hb0 hbn hbs1 sub1 rd1 po1 (by omega) fun u b P2 k2 tk2 sb hu le2 sub2 new2 gx2 po2 => ?_
  exact q v u a b P2 k2 tk2 sa sb (hv.mono le2) hu (le1.trans le2) sub2 (new_after new1 gx1 po1 new2) (gx1.trans gx2) (by rw [← Nat.add_assoc]; exact po2)
theorem nr_bin {op : Operator} {l r : Expr} {pos : Pos} {S1 S2 S : D → Prop} {n1 n2 : Nat} (h1 : NR c nd nu scope nm pl G l S1 n1) (h2 : NR c nd nu scope nm pl G r S2 n2) (hb : ∀ a b, S1 a → S2 b → ∃ d, bop op a b = some d ∧ S d) : NR c nd nu scope nm pl G (.BinOp l op r pos) S (n1 + n2) := by
  intro env A s h₀ Hb P N Q eo ao ho hb0 hbn hbs hp rd po hN q
  refine wpAny_BinOp (nr_two h1 h2 eo ao ho hb0 hbn hbs hp rd po hN fun v u a b P1 k1 tk1 sa sb hv hu le1 sub1 new1 gx1 po1 => ?_)
  obtain ⟨d, e, hd⟩ := hb a b sa sb
  refine bop_ok (s := { s with heap := k1, toks := tk1 }) e sub1 hv hu fun v P2 k2 tk2 g2 hv => ?_
  exact q v d P2 k2 tk2 hd hv (le1.trans g2.le) g2.sub (new_after new1 gx1 po1 g2.new) (gx1.trans (.of g2.stay)) (grow_pool po1 g2)
theorem nr_tup {e1 e2 : Expr} {k : Nat} {pos : Pos} {S1 S2 : D → Prop} {n1 n2 : Nat} (h1 : NR c nd nu scope nm pl G e1 S1 n1) (h2 : NR c nd nu scope nm pl G e2 S2 n2) (hp1 : plainArg e1 = true := by rfl) (hp2 : plainArg e2 = true := by rfl) :
    NR c nd nu scope nm pl G (.Tuple [e1, e2] k pos) (fun d => ∃ a b, d = .tup [a, b] ∧ S1 a ∧ S2 b) (n1 + n2) := by
  intro env A s h₀ Hb P N Q eo ao ho hb0 hbn hbs hp rd po hN q
  refine wpAny_Tuple_spliced (args_two hp1 hp2 (nr_two h1 h2 eo ao ho hb0 hbn hbs hp rd po hN fun v u a b P1 k1 tk1 sa sb hv hu le1 sub1 new1 gx1 po1 => ⟨le_line (by simp), ?_⟩))
  refine grow_tup (s := { s with heap := k1, toks := tk1 }) sub1 (.cons hv (.cons hu .nil)) fun v P2 k2 tk2 g2 hv => ?_
  exact q v _ P2 k2 tk2 ⟨a, b, rfl, sa, sb⟩ hv (le1.trans g2.le) g2.sub (new_after new1 gx1 po1 g2.new) (gx1.trans (.of g2.stay)) (grow_pool po1 g2)
theorem nr_lst1 {e1 : Expr} {pos : Pos} {S1 : D → Prop} {n1 : Nat} (h1 : NR c nd nu scope nm pl G e1 S1 n1) (hp1 : plainArg e1 = true := by rfl) : NR c nd nu scope nm pl G (.List [e1] pos) (fun d => ∃ a, d = .lst [a] ∧ S1 a) n1 := by
  intro env A s h₀ Hb P N Q eo ao ho hb0 hbn hbs hp rd po hN q
  refine wpAny_List_spliced ?_
  rw [backTo_cons hp1]
  refine Calls.spliced_cons (h1 env A s h₀ Hb P N _ eo ao ho hb0 hbn hbs hp rd po hN fun v a P1 k1 tk1 sa hv le1 sub1 new1 gx1 po1 => Calls.spliced_nil ⟨le_line (by simp), ?_⟩)
  refine grow_lst (s := { s with heap := k1, toks := tk1 }) sub1 (.one hv) fun v P2 k2 tk2 g2 hv => ?_
  exact q v _ P2 k2 tk2 ⟨a, rfl, sa⟩ hv (le1.trans g2.le) g2.sub (new_after new1 gx1 po1 g2.new) (gx1.trans (.of g2.stay)) (grow_pool po1 g2)
theorem nr_idx {e1 e2 : Expr} {pos : Pos} {S1 S2 S : D → Prop} {n1 n2 : Nat} (h1 : NR c nd nu scope nm pl G e1 S1 n1) (h2 : NR c nd nu scope nm pl G e2 S2 n2) (hb : ∀ a b, S1 a → S2 b → ∃ d, bidx a b = some d ∧ S d)
    (hs : ∀ a k u, subscripted e2 false (.ref a) (.int k u) = operate [.ref a, .int k u] (getItem (.ref a) (.int k u)) := by intro _ _ _; with_unfolding_all rfl) : NR c nd nu scope nm pl G (.Subscript e1 e2 pos) S (n1 + n2) := by
  intro env A s h₀ Hb P N Q eo ao ho hb0 hbn hbs hp rd po hN q
  refine Subscript_ (nr_two h1 h2 eo ao ho hb0 hbn hbs hp rd po hN fun v u a b P1 k1 tk1 sa sb hv hu le1 sub1 new1 gx1 po1 => ?_)
  obtain ⟨d, e, hd⟩ := hb a b sa sb
  exact sub_ok (s := { s with heap := k1, toks := tk1 }) e hv hu sub1 (fun x hx => q x d P1 k1 tk1 hd hx le1 sub1 new1 gx1 po1) hs
theorem nr_draw {np p pos : Pos} {e2 : Expr} {phi : Vars → Option D} {most : Int} (i : Nat) (hx : scope.names.lookup (Str.ofString "_law_draw") = some .globalImplicit) (hi : nm[i]? = some (Str.ofString "pool")) (hG : G[i]? = some (some (.raw (.ref pl)))) (h2 : SE c nd nu scope nm e2 phi) (e : phi G = some (.int most)) (hm : 0 < most ∧ most ≤ 1000) (hnd : 1 ≤ nd) (hnu : 3 ≤ nu)
    (hpl : plainArg e2 = true := by rfl) :
    NR c nd nu scope nm pl G (.Call (.Name (Str.ofString "_law_draw") np) [.Name (Str.ofString "pool") p, e2] [] pos) (fun d => ∃ r, d = .int r ∧ 0 ≤ r ∧ r < most) 1 := by
  intro env A s h₀ Hb P N Q eo ao ho hb0 hbn hbs hp rd po hN q
  have hos : HOK c s.heap := ho.keeps fun b o e => hbs b o (hb0 b o e)
  refine wpAny_Call_NameR (ld_glob eo hos hx (by k_is) ?_)
  refine callWith_of (P := fun h => (hd.heap_39 c.w.params).In h) (by rw [plain_none (by rw [List.all_cons, List.all_cons, hpl]; rfl)]; rfl) (keeps_K (by k_is)) ?_
  refine args_SA (sa_cons (se_var i hi) (sa_cons h2 sa_nil hpl)) (by rw [List.all_cons, List.all_cons, hpl]; rfl) eo ao hos hp (rd_on rd hbs hp) (ds := [.raw (.ref pl), .int most]) (by simp [hG, e]) fun vs P1 k1 tk1 g1 hvs => ⟨hos.X.keeps g1.stay, ?_⟩
  obtain ⟨v1, v2, rfl, hv1, hv2⟩ := hvs.two_inv
  have := hv1.raw_inv; subst this
  obtain ⟨t, rfl⟩ := hv2.int_inv
  have hfr : h₀.get? pl = none := none_of_stays hb0 hbn
  refine draw_con (nd := 0) (nu := 0) (s := { s with heap := k1, toks := tk1 }) (ao.less hnd hnu) ho (fun b o e => g1.stay b o (hbs b o (hb0 b o e))) hfr g1.sub (rd.k.trans g1.le) (grow_pool po g1) (by omega) hm fun r tr h' tk' h0 h1 gx po' => ?_
  have gx' : GX pl k1 h' := gx
  exact q (.int r tr) _ P1 h' tk' ⟨r, rfl, h0, h1⟩ (.int _ _) g1.le (fun b o e => gx b o (by rintro rfl; rw [po'.1] at e; cases e) (g1.sub b o e)) g1.new ((GX.of g1.stay).trans gx') po'
end
end Mine
namespace Mine
open PySem PySem.W PySem.Calls PySem.SeqAt PyProof.Rows

structure CompD (c : Cx) (P : PM) (h₂ : Heap) (pl : Addr) (wr : List Addr) (Se : D → Prop) (N ne : Nat) (Sv : Nat → Heap → Prop) (Da Ca : Addr) (k : Nat) (h' : Heap) (m' : Str → Option Value) (ys : List Value) (P' : PM) (es' : List D) : Prop where
  base : ∀ b o, b ∉ wr → b ≠ pl → h₂.get? b = some o → h'.get? b = some o
  st : Sv k h'
  pls : h'.PlainList Da ys.toArray
  ns : h'.Ns Ca m'
  sub : PIn P' h'
  le : PLe P P'
  dh : DHs c.w P' ys es'
  pD : P' Da = none
  pC : P' Ca = none
  pw : ∀ b ∈ wr, P' b = none
  new : ∀ b o, P' b = some o → P b = some o ∨ h₂.get? b = none
  all : ∀ x ∈ es', Se x
  len : es'.length = k
  po : PoolH c P' h' pl (N + k * ne)

section
variable {c : Cx} {nd nu : Nat} {scope oscope : Scope} {nm : List Str} {pl : Addr} {G : Vars}
theorem comp_draw {env : Env} {A : Around} {s₂ : Shared} {P : PM} {h₀ Hb H0 : Heap} {I : Addr} {fp wr : List Addr} {n N ne : Nat} {Sv : Nat → Heap → Prop} {elt iter : Expr} {kx : Str} {kp pos : Pos} {ip : Nat} {Se : D → Prop} {RR : Value → Addr → Result → Shared → Prop}
    (eo : EnvOK oscope env) (ao : AOK A nd nu) (ho : HOK c h₀) (hb0 : h₀.StaysIn Hb) (hbn : Hb.get? pl = none) (hbs : Hb.StaysIn s₂.heap) (hp : PIn P s₂.heap) (rd0 : Rd c env nm G P Hb) (po : PoolH c P s₂.heap pl N)
    (S : SrcG c A I (.Name kx kp) fp wr ((List.range n).map fun (k : Nat) => D.int (k : Int)) Sv H0 P s₂.heap) (hwr : ∀ b ∈ wr, Hb.get? b = none ∧ b ≠ pl) (hfp : ∀ b ∈ fp, b ∈ wr) (K : CompOK scope oscope nm [kx] [(Str.ofString "pool", ip)])
    (h2 : ∀ x : Int, NR c nd nu (relab scope oscope) [kx, Str.ofString "pool"] pl [some (.int x), some (.raw (.ref pl))] elt Se ne) (hG : G[ip]? = some (some (.raw (.ref pl)))) (hn : n ≤ 900) (hN : N + n * ne ≤ 100000)
    (hRR : ∀ D C h' tk m' ys es P', s₂.heap.get? D = none → s₂.heap.get? C = none → D ≠ C → h'.Ns C m' → h'.PlainList D ys.toArray → DHs c.w P' ys es → es.length = n → (∀ x ∈ es, Se x) → PLe P P' → PIn P' h' → (∀ b o, P' b = some o → P b = some o ∨ s₂.heap.get? b = none) → P' D = none → P' C = none →
      (∀ b o, b ∉ wr → b ≠ pl → s₂.heap.get? b = some o → h'.get? b = some o) → PoolH c P' h' pl (N + n * ne) → RR (.ref D) C (.ok .next) { s₂ with heap := h', toks := tk }) :
    wpAny (model PG c.w) A (newList []) (fun acc s₃ => wpAny (model PG c.w) A (newFunctionEnv scope env.globals (clGo env scope.names []) [] env.qual none .none (some env)) (fun cenv s₄ =>
      codeAny (model PG c.w) A (.compStart (.ListComp elt [⟨.Name kx kp, iter, [], 0⟩] scope pos) 0 (.ref I) acc { cenv with scope := relabel scope env }) (RR acc cenv.locals) s₄) NoE s₃) NoE s₂ := by
  have hdl : ((List.range n).map fun (k : Nat) => D.int (k : Int)).length = n := by simp
  refine wpAny_newObj_type (wpAny_newFunctionEnv K.cell (by intro y hy; simp at hy) (fun h₁ hns₁ hsb₁ => ?_) K.kind)
  dsimp only at hns₁ hsb₁ ⊢
  generalize hH2 : s₂.heap.push { cls := .type "list", dict := none, data := .seq ([] : List Value).toArray } = H2 at hns₁ hsb₁ ⊢
  have hC : H2.objs.size = s₂.heap.objs.size + 1 := by rw [← hH2, Heap.size_push]
  have hDC : s₂.heap.objs.size ≠ H2.objs.size := by rw [hC]; exact Nat.ne_of_lt (Nat.lt_succ_self _)
  have below : ∀ b, b < s₂.heap.objs.size → b ≠ H2.objs.size ∧ b ≠ s₂.heap.objs.size := fun b hb => ⟨by rw [hC]; exact Nat.ne_of_lt (Nat.lt_succ_of_lt hb), Nat.ne_of_lt hb⟩
  have old : ∀ b o, s₂.heap.get? b = some o → h₁.get? b = some o := fun b o e => hsb₁.extBut b o (below b (Heap.lt_size e)).1 (Heap.get?_push_of_some _ (hH2 ▸ Heap.get?_push_of_some _ e))
  have hacc : h₁.PlainList s₂.heap.objs.size #[] := ⟨_, hsb₁.extBut _ _ hDC (Heap.get?_push_of_some _ (hH2 ▸ Heap.get?_push_size _ rfl))⟩
  have fresh : ∀ a, s₂.heap.objs.size ≤ a → s₂.heap.get? a = none := fun a ha => by
    cases e : s₂.heap.get? a with
    | none => rfl
    | some o' => exact absurd (Heap.lt_size e) (Nat.not_lt.mpr ha)
  have fD := fresh s₂.heap.objs.size (Nat.le_refl _)
  have fC := fresh H2.objs.size (by rw [hC]; exact Nat.le_succ _)
  have hst₁ : Sv 0 h₁ := S.frame _ _ _ S.st fun b _ o e => old b o e
  have frk : ∀ y ∈ scope.names, y.2 = .free → ∃ a, env.cells.lookup y.1 = some a := fun y hy hf => rd0.cd y.1 (K.all y hy hf).1 (by show env.scope.names.lookup y.1 = _; rw [eo.sc]; exact (K.all y hy hf).2)
  have wrlt : ∀ b ∈ wr, b ≠ s₂.heap.objs.size ∧ b ≠ H2.objs.size := fun b hb => by
    obtain ⟨o, e⟩ := S.live _ _ S.st b hb
    exact ⟨(below b (Heap.lt_size e)).2, (below b (Heap.lt_size e)).1⟩
  have pll : pl ≠ H2.objs.size ∧ pl ≠ s₂.heap.objs.size := by obtain ⟨o, e⟩ := po.live; exact below pl (Heap.lt_size e)
  have plw : pl ∉ wr := fun hb => (hwr pl hb).2 rfl
  have wrP : ∀ b ∈ wr, P b = none := fun b hb => (S.wrIn b hb).2
  have po1 : PoolH c P h₁ pl (N + 0 * ne) := po.step (fun o e => old _ o e) (.refl _) po.1 (by omega)
  have cenvE : ∀ s₃ : Shared, s₃ = { s₂ with heap := h₁, toks := s₂.toks + ([] : List (Str × Value)).length } →
      codeAny (model PG c.w) A (.compLoop (.ListComp elt [⟨.Name kx kp, iter, [], 0⟩] scope pos) 0 (.ref I) (.ref s₂.heap.objs.size) (compEnvC scope (clGo env scope.names []) H2.objs.size env))
        (RR (.ref s₂.heap.objs.size) H2.objs.size) s₃ := by
    rintro s₃ rfl
    have ceo : EnvOK (relab scope oscope) (compEnvC scope (clGo env scope.names []) H2.objs.size env) := ⟨by show relabel scope env = _; rw [relab_eq, eo.sc], eo.gl, eo.bi, K.kind⟩
    have ckd : (compEnvC scope (clGo env scope.names []) H2.objs.size env).scope.kind = .function := K.kind
    obtain ⟨I', mk, un⟩ : ∃ I' : Nat → Shared → Prop, (∀ k h' tk' m' ys P' es', k ≤ n → CompD c P s₂.heap pl wr Se N ne Sv s₂.heap.objs.size H2.objs.size k h' m' ys P' es' → I' (n - k) { s₂ with heap := h', toks := tk' }) ∧
        ∀ j s' (C : Prop), I' j s' → (∀ k h' tk' m' ys P' es', s' = { s₂ with heap := h', toks := tk' } → j = n - k → k ≤ n → CompD c P s₂.heap pl wr Se N ne Sv s₂.heap.objs.size H2.objs.size k h' m' ys P' es' → C) → C :=
      ⟨fun j s' => ∃ k h' tk' m' ys P' es', s' = { s₂ with heap := h', toks := tk' } ∧ j = n - k ∧ k ≤ n ∧ CompD c P s₂.heap pl wr Se N ne Sv s₂.heap.objs.size H2.objs.size k h' m' ys P' es',
        fun k h' tk' m' ys P' es' hk J => ⟨k, h', tk', m', ys, P', es', rfl, rfl, hk, J⟩, by rintro j s' C ⟨k, h', tk', m', ys, P', es', e1, e2, hk, J⟩ q; exact q k h' tk' m' ys P' es' e1 e2 hk J⟩
    refine compLoopP (I := I') ?_ n
      (mk 0 h₁ _ _ [] P [] (Nat.zero_le _) ⟨fun b o _ _ e => old b o e, hst₁, hacc, hns₁, fun b o e => old b o (hp b o e), .refl _, .nil, none_of_in hp fD, none_of_in hp fC, wrP, fun _ _ e => .inl e, (fun x hx => by cases hx), rfl, po1⟩)
    intro j s' hI
    refine un j s' _ hI ?_
    rintro k h' tk' m' ys P' es' rfl rfl hk J
    by_cases hlt : k < n
    · refine wpAny_mono (S.item k { s₂ with heap := h', toks := tk' } P' (fun v s₁' => wpAny (model PG c.w) A (assign (.Name kx kp) (compEnvC scope (clGo env scope.names []) H2.objs.size env) v) _ NoE s₁') (by rw [hdl]; exact hlt) J.st J.le J.sub J.pw fun v d P3 h3 tk2 hd hv le3 sub3 new3 hS3 k3 => ?_) (fun r s₁ hr => by obtain ⟨v, rfl, hr⟩ := hr; exact hr) fun _ _ y => y
      replace k3 : ∀ b o, b ∉ wr → h'.get? b = some o → h3.get? b = some o := k3
      replace new3 : ∀ b o, P3 b = some o → P' b = some o ∨ h'.get? b = none := new3
      have hd' : d = .int (k : Int) := by
        rw [List.getElem?_map, List.getElem?_range hlt] at hd
        cases hd; rfl
      subst hd'
      have liveDa : ∃ o, h'.get? s₂.heap.objs.size = some o := let ⟨n0, e0⟩ := J.pls; ⟨_, e0⟩
      have liveCa : ∃ o, h'.get? H2.objs.size = some o := Ns.some J.ns
      have noP3 : ∀ b, P' b = none → (∃ o, h'.get? b = some o) → P3 b = none := fun b n ⟨o, e⟩ => by
        cases r : P3 b with
        | none => rfl
        | some o' =>
          rcases new3 b o' r with q | q
          · rw [n] at q; cases q
          · rw [e] at q; cases q
      have leJ : PLe P P3 := J.le.trans le3
      have pDJ : P3 s₂.heap.objs.size = none := noP3 _ J.pD liveDa
      have pCJ : P3 H2.objs.size = none := noP3 _ J.pC liveCa
      have pwJ : ∀ b ∈ wr, P3 b = none := fun b hb => noP3 b (J.pw b hb) (S.live _ _ J.st b hb)
      have ppJ : P3 pl = none := noP3 _ J.po.1 J.po.live
      have newJ : ∀ b o, P3 b = some o → P b = some o ∨ s₂.heap.get? b = none := fun b o e => by
        rcases new3 b o e with q | q
        · exact J.new b o q
        · refine .inr ?_
          cases r : s₂.heap.get? b with
          | none => rfl
          | some o' =>
            exfalso
            by_cases hb : b ∈ wr
            · obtain ⟨o2, e2⟩ := S.live _ _ J.st b hb
              rw [q] at e2; cases e2
            · by_cases hb2 : b = pl
              · subst hb2; obtain ⟨o2, e2⟩ := J.po.live; rw [q] at e2; cases e2
              · rw [J.base b o' hb hb2 r] at q; cases q
      have po3 : PoolH c P3 h3 pl (N + k * ne) := J.po.step (fun o e => k3 _ o plw e) le3 ppJ (Nat.le_refl _)
      have nC3 : h3.Ns H2.objs.size m' := J.ns.at' fun o e => k3 _ o (fun hb => (wrlt _ hb).2 rfl) e
      refine ctgt_name c (compEnvC scope (clGo env scope.names []) H2.objs.size env) A { s₂ with heap := h3, toks := tk2 } P3 m' (.int (k : Int)) v [.int (k : Int)] _ (fun x hx => lookup_relabel_local (K.xl x hx)) ckd ao.hh nC3 sub3 hv rfl fun h4 tk4 m4 hn4 hlen hm4 k4 => ?_
      replace k4 : ∀ b o, b ≠ H2.objs.size → h3.get? b = some o → h4.get? b = some o := k4
      replace hn4 : h4.Ns H2.objs.size m4 := hn4
      refine wpAny_tests_nil ?_
      rw [if_pos rfl]
      have sub4 : PIn P3 h4 := fun b o e => k4 b o (by rintro rfl; rw [pCJ] at e; cases e) (sub3 b o e)
      have base4 : ∀ b o, b ∉ wr → b ≠ pl → s₂.heap.get? b = some o → h4.get? b = some o := fun b o hb hb2 e => k4 b o (below b (Heap.lt_size e)).1 (k3 b o hb (J.base b o hb hb2 e))
      have hbs4 : Hb.StaysIn h4 := fun b o e => base4 b o (fun hb => by rw [(hwr b hb).1] at e; cases e) (by rintro rfl; rw [hbn] at e; cases e) (hbs b o e)
      have hbs5 : Hb.StaysIn (hide h4 pl) := stays_hide hbs4 hbn
      have po4 : PoolH c P3 h4 pl (N + k * ne) := po3.step (fun o e => k4 _ o pll.1 e) (.refl _) ppJ (Nat.le_refl _)
      have hn5 : (hide h4 pl).Ns H2.objs.size m4 := hn4.at' fun o e => by rw [hide_other _ (Ne.symm pll.1)]; exact e
      have rd4 : Rd c (compEnvC scope (clGo env scope.names []) H2.objs.size env) [kx, Str.ofString "pool"] [some (.int (k : Int)), some (.raw (.ref pl))] P3 (hide h4 pl) := by
        obtain ⟨f1, f2, f3, f4⟩ := K.frm (Str.ofString "pool", ip) (by simp)
        have hek : env.kindOf (Str.ofString "pool") = some .cell := by show env.scope.names.lookup _ = _; rw [eo.sc]; exact f3
        obtain ⟨a, ha⟩ := rd0.cd (Str.ofString "pool") (List.mem_of_getElem? f1) hek
        have hcl := clGo_lookup frk f2 ha
        have hxk : (compEnvC scope (clGo env scope.names []) H2.objs.size env).kindOf (Str.ofString "pool") = some .cell := by show (relabel scope env).names.lookup _ = _; rw [relab_eq, eo.sc]; exact f4
        have hkk : (compEnvC scope (clGo env scope.names []) H2.objs.size env).kindOf kx = some .local := lookup_relabel_local (K.xl kx (by simp))
        refine ⟨rd0.k.trans leJ, fun i x d' hx hg => ?_, fun x hx hkx => ?_⟩
        · match i with
          | 0 =>
            cases hx; cases hg
            obtain ⟨v', hmv, hdv⟩ := hm4 0 kx _ rfl rfl
            exact ⟨v', hdv, fun M A Q E s pos k hq => wpAny_Name (wpAny_loadName_local ckd hkk (hn5.keeps k) hmv hq) (K.dbg kx (by simp)), fun a hc _ => by rw [hkk] at hc; cases hc⟩
          | 1 =>
            cases hx; cases hg
            obtain ⟨v', hdv, _, hcv⟩ := rd0.v ip _ _ f1 hG
            have hcell := (hcv a hek ha).keeps hbs5
            exact ⟨v', hdv.mono leJ, fun M A Q E s pos k hq => wpAny_Name (wpAny_loadName_cell ckd hxk hcl (hcell.keeps k) hq) (K.dbg _ (by simp)), fun a' _ hc' => by
              rw [show (clGo env scope.names []).lookup (Str.ofString "pool") = some a' from hc'] at hcl
              cases hcl; exact hcell⟩
          | i + 2 => first | exact nn hx | cases hx
        · rcases List.mem_cons.mp hx with rfl | hx
          · rw [hkk] at hkx; cases hkx
          · rw [List.mem_singleton.mp hx]; exact ⟨a, hcl⟩
      have liveD : ∃ o, h4.get? s₂.heap.objs.size = some o := by
        obtain ⟨n0, e0⟩ := J.pls
        exact ⟨_, k4 _ _ hDC (k3 _ _ (fun hb => (wrlt _ hb).1 rfl) e0)⟩
      have liveC : ∃ o, h4.get? H2.objs.size = some o := Ns.some hn4
      have livew : ∀ b ∈ wr, ∃ o, h4.get? b = some o := fun b hb => by
        obtain ⟨o, e⟩ := S.live _ _ hS3 b hb
        exact ⟨o, k4 b o (wrlt b hb).2 e⟩
      have hS4 : Sv (k + 1) h4 := S.frame _ _ _ hS3 fun b hb o e => k4 b o (wrlt b (hfp b hb)).2 e
      have hne : N + k * ne + ne ≤ N + n * ne := by
        have : (k + 1) * ne ≤ n * ne := Nat.mul_le_mul_right _ hlt
        rw [Nat.succ_mul] at this; omega
      refine h2 (k : Int) _ A { s₂ with heap := h4, toks := tk4 } h₀ (hide h4 pl) P3 (N + k * ne) _ ceo ao ho (stays_hide (fun b o e => hbs4 b o (hb0 b o e)) (none_of_stays hb0 hbn)) (hide_self _ _) (hide_stays _ _) sub4 rd4 po4 (by omega) fun yv y P6 h6 tk6 sy hyv le6 sub6 new6 gx6 po6 => ?_
      replace gx6 : ∀ b o, b ≠ pl → h4.get? b = some o → h6.get? b = some o := gx6
      replace new6 : ∀ b o, P6 b = some o → P3 b = some o ∨ h4.get? b = none := new6
      have noP6 : ∀ b, P3 b = none → (∃ o, h4.get? b = some o) → P6 b = none := fun b n ⟨o, e⟩ => by
        cases r : P6 b with
        | none => rfl
        | some o' =>
          rcases new6 b o' r with q | q
          · rw [n] at q; cases q
          · rw [e] at q; cases q
      have pl6 : h6.PlainList s₂.heap.objs.size ys.toArray := J.pls.at fun o e => gx6 _ o (Ne.symm pll.2) (k4 _ _ hDC (k3 _ _ (fun hb => (wrlt _ hb).1 rfl) e))
      have hys : ys.length = k := by rw [J.dh.length, J.len]
      refine wpAny_list_append_plain (s := { s₂ with heap := h6, toks := tk6 }) pl6 (fun h7 hp7 hs7 => ?_) (by rw [List.size_toArray, hys]; exact le_line (by omega))
      have ee : ys.toArray.push yv = (ys ++ [yv]).toArray := by simp
      rw [ee] at hp7
      have k7 : ∀ b o, b ≠ s₂.heap.objs.size → h6.get? b = some o → h7.get? b = some o := fun b o n e => hs7.extBut b o n e
      have pD6 := noP6 _ pDJ liveD
      refine ⟨n - (k + 1), by omega, mk (k + 1) h7 tk6 m4 (ys ++ [yv]) P6 (es' ++ [y]) hlt ⟨fun b o hb hb2 e => k7 b o (below b (Heap.lt_size e)).2 (gx6 b o hb2 (base4 b o hb hb2 e)), ?_, hp7, ?_, fun b o e => k7 b o (by rintro rfl; rw [pD6] at e; cases e) (sub6 b o e), leJ.trans le6, ((J.dh.mono le3).mono le6).append (.one hyv), pD6, noP6 _ pCJ liveC,
        fun b hb => noP6 b (pwJ b hb) (livew b hb), fun b o e => ?_, fun x hx => ?_, by rw [List.length_append, J.len]; rfl, ?_⟩⟩
      · exact S.frame _ _ _ hS4 fun b hb o e => k7 b o (wrlt b (hfp b hb)).1 (gx6 b o (hwr b (hfp b hb)).2 e)
      · exact (hn4.at' fun o e => gx6 _ o (Ne.symm pll.1) e).sameBut hs7 (Ne.symm hDC)
      · rcases new6 b o e with q | q
        · exact newJ b o q
        · refine .inr ?_
          cases r : s₂.heap.get? b with
          | none => rfl
          | some o' =>
            exfalso
            by_cases hb : b ∈ wr
            · obtain ⟨o2, e2⟩ := livew b hb
              rw [q] at e2; cases e2
            · by_cases hb2 : b = pl
              · subst hb2; obtain ⟨o2, e2⟩ := po4.live; rw [q] at e2; cases e2
              · have := base4 b o' hb hb2 r
                rw [q] at this; cases this
      · rcases List.mem_append.mp hx with hx | hx
        · exact J.all x hx
        · rw [List.mem_singleton.mp hx]; exact sy
      · exact po6.step (fun o e => k7 _ o pll.2 e) (.refl _) po6.1 (by have := Nat.succ_mul k ne; simp only [Nat.succ_eq_add_one] at this; omega)
    · have hkk : k = n := by omega
      subst hkk
      refine S.done { s₂ with heap := h', toks := tk' } _ _ (by rw [hdl]; exact J.st) fun h2' tk2 ko => ?_
      replace ko : ∀ b o, b ∉ wr → h'.get? b = some o → h2'.get? b = some o := ko
      exact hRR _ _ h2' tk2 m' ys es' P' fD fC hDC (J.ns.at' fun o e => ko _ o (fun hb => (wrlt _ hb).2 rfl) e) (J.pls.at fun o e => ko _ o (fun hb => (wrlt _ hb).1 rfl) e) J.dh J.len J.all J.le
        (fun b o e => ko b o (fun hb => by rw [J.pw b hb] at e; cases e) (J.sub b o e)) J.new J.pD J.pC (fun b o hb hb2 e => ko b o hb (J.base b o hb hb2 e)) (J.po.step (fun o e => ko _ o plw e) (.refl _) J.po.1 (Nat.le_refl _))
  exact codeAny_compStart_list (cenvE _ rfl) (S.self 0 _ _ _ hst₁ (cenvE _ rfl))
end
end Mine
namespace Mine
open PySem PySem.W PySem.Calls PySem.SeqAt PyProof.Rows

section
variable {c : Cx} {nd nu : Nat} {scope oscope : Scope} {nm : List Str} {pl : Addr} {G : Vars}
/-- what evaluating range(e) to an iterator leaves -/
theorem nr_range {A : Around} {env : Env} {e3 : Expr} {np rpos : Pos} {n3 hi lo : Nat} {s : Shared} {h₀ Hb : Heap} {P : PM} {N : Nat} {Q : Value → Shared → Prop} (t : Expr) (eo : EnvOK oscope env) (ao : AOK A nd nu) (ho : HOK c h₀) (hb0 : h₀.StaysIn Hb) (hbn : Hb.get? pl = none) (hbs : Hb.StaysIn s.heap) (hp : PIn P s.heap) (rd : Rd c env nm G P Hb) (po : PoolH c P s.heap pl N) (hN : N + n3 ≤ 100000)
    (hx : oscope.names.lookup (Str.ofString "range") = some .globalImplicit) (h3 : NR c nd nu oscope nm pl G e3 (fun d => ∃ r : Nat, d = .int (r : Int) ∧ lo ≤ r ∧ r ≤ hi) n3) (hhi : hi ≤ 900) (hpl : plainArg e3 = true)
    (q : ∀ n I Sv P1 k1 tk1 H0, lo ≤ n → n ≤ hi → PLe P P1 → PIn P1 k1 → (∀ b o, P1 b = some o → P b = some o ∨ s.heap.get? b = none) → GX pl s.heap k1 → PoolH c P1 k1 pl (N + n3) → SrcG c A I t [I] [I] ((List.range n).map fun (k : Nat) => D.int (k : Int)) Sv H0 P1 k1 → s.heap.get? I = none → I ≠ pl → Q (.ref I) { s with heap := k1, toks := tk1 }) :
    wpAny (model PG c.w) A (eval (.Call (.Name (Str.ofString "range") np) [e3] [] rpos) env) (fun xv s₁ => wpAny (model PG c.w) A (pyIter xv) Q NoE s₁) NoE s := by
  have hos : HOK c s.heap := ho.keeps fun b o e => hbs b o (hb0 b o e)
  refine wpAny_Call_NameR (range_name eo hos hx ?_)
  refine callWith_type1 ?_ (starEach_plain hpl)
  rw [backTo_cons hpl]
  refine Calls.spliced_cons (h3 env A s h₀ Hb P N _ eo ao ho hb0 hbn hbs hp rd po (by omega) fun v d P1 k1 tk1 sd hv le1 sub1 new1 gx1 po1 => Calls.spliced_nil ?_)
  obtain ⟨n, rfl, hn1, hn2⟩ := sd
  obtain ⟨t', rfl⟩ := hv.int_inv
  refine call_range_1 (s := { s with heap := k1, toks := tk1 }) ?_
  have ex : k1.StaysIn (k1.push { cls := .type "range", data := .fields #[.int 0 tk1, .int (n : Int) t', .int 1 (tk1 + 1)] }) := fun b o e => Heap.get?_push_of_some _ e
  refine wpAny_pyIter_range (s := { s with heap := k1.push { cls := .type "range", data := .fields #[.int 0 tk1, .int (n : Int) t', .int 1 (tk1 + 1)] }, toks := tk1 + 1 + 1 }) (IsRange.new k1 0 n 1 tk1 t' (tk1 + 1)) (small_one (by omega) (by omega) (by omega) (by omega)) ?_
  have sub2 : PIn P1 (k1.push { cls := .type "range", data := .fields #[.int 0 tk1, .int (n : Int) t', .int 1 (tk1 + 1)] }) := fun b o e => ex b o (sub1 b o e)
  have gR : Grow P1 (k1.push { cls := .type "range", data := .fields #[.int 0 tk1, .int (n : Int) t', .int 1 (tk1 + 1)] }) P1 (k1.push { cls := .type "range", data := .fields #[.int 0 tk1, .int (n : Int) t', .int 1 (tk1 + 1)] }) := .refl sub2
  have hsz : Builtin.Range.rangeSize 0 (n : Int) 1 = (n : Int) := by rw [rangeSize_one]; split <;> omega
  have S := src_range (c := c) (A := A) (a := 0) (st := 1) ao.hh gR hsz
  have hD : ((List.range n).map fun (k : Nat) => D.int (0 + (k : Int) * 1)) = (List.range n).map fun (k : Nat) => D.int (k : Int) := by
    apply List.map_congr_left; intro k _; rw [Int.mul_one, Int.zero_add]
  rw [hD] at S
  generalize hk2 : k1.push { cls := .type "range", data := .fields #[.int 0 tk1, .int (n : Int) t', .int 1 (tk1 + 1)] } = k2 at *
  have ex2 : k2.StaysIn (k2.push { cls := .type "range_iterator", data := .fields #[rawInt 0, rawInt (Builtin.Range.rangeSize 0 (n : Int) 1), rawInt 1] }) := fun b o e => Heap.get?_push_of_some _ e
  have hI1 : k1.get? k2.objs.size = none := none_of_stays ex (get_size k2)
  have hIpl : k2.objs.size ≠ pl := by
    intro e
    obtain ⟨o, e2⟩ := po1.live
    rw [e, e2] at hI1; cases hI1
  refine q n _ _ P1 _ _ _ hn1 hn2 le1 (fun b o e => ex2 b o (sub2 b o e)) new1 (gx1.trans (.of fun b o e => ex2 b o (ex b o e))) (po1.step (fun o e => ex2 _ o (ex _ o e)) (.refl _) po1.1 (Nat.le_refl _)) S.g ?_ hIpl
  cases w : s.heap.get? k2.objs.size with
  | none => rfl
  | some o' =>
    have := gx1 _ o' hIpl w
    rw [show k1.get? k2.objs.size = none from hI1] at this; cases this
theorem nr_comp {elt e3 : Expr} {kx : Str} {kp np rpos pos : Pos} {ip n3 ne lo hi : Nat} {Se : D → Prop} (hx : oscope.names.lookup (Str.ofString "range") = some .globalImplicit) (h3 : NR c nd nu oscope nm pl G e3 (fun d => ∃ r : Nat, d = .int (r : Int) ∧ lo ≤ r ∧ r ≤ hi) n3)
    (K : CompOK scope oscope nm [kx] [(Str.ofString "pool", ip)]) (h2 : ∀ x : Int, NR c nd nu (relab scope oscope) [kx, Str.ofString "pool"] pl [some (.int x), some (.raw (.ref pl))] elt Se ne) (hG : G[ip]? = some (some (.raw (.ref pl)))) (hhi : hi ≤ 900) (hpl : plainArg e3 = true := by rfl)
    (hs : ∀ env x, foldedSetIterable (.Call (.Name (Str.ofString "range") np) [e3] [] rpos) env x = pure x := by intro _ _; rfl) :
    NR c nd nu oscope nm pl G (.ListComp elt [⟨.Name kx kp, .Call (.Name (Str.ofString "range") np) [e3] [] rpos, [], 0⟩] scope pos) (fun d => ∃ es, d = .lst es ∧ lo ≤ es.length ∧ es.length ≤ hi ∧ ∀ x ∈ es, Se x) (n3 + hi * ne) := by
  intro env A s h₀ Hb P N Q eo ao ho hb0 hbn hbs hp rd po hN q
  have frk : ∀ y ∈ scope.names, y.2 = .free → ∃ a, env.cells.lookup y.1 = some a := fun y hy hf => rd.cd y.1 (K.all y hy hf).1 (by show env.scope.names.lookup y.1 = _; rw [eo.sc]; exact (K.all y hy hf).2)
  rw [eval_ListComp]
  refine wpAny_comprehension_free (use := none) (cl := clGo env scope.names []) rfl (hs env) (closure_ok frk) K.kind K.names ?_
  refine nr_range (.Name kx kp) eo ao ho hb0 hbn hbs hp rd po (by omega) hx h3 hhi hpl fun n I Sv P1 k1 tk1 H0 hn1 hn2 le1 sub1 new1 gx1 po1 S hI hIpl => ?_
  have rd1 : Rd c env nm G P1 Hb := ⟨rd.k.trans le1, fun i x d a b => let ⟨v, hv, l, r⟩ := rd.v i x d a b; ⟨v, hv.mono le1, l, r⟩, rd.cd⟩
  have hmul : n * ne ≤ hi * ne := Nat.mul_le_mul_right _ hn2
  refine comp_draw (RR := fun acc C => compPost (model PG c.w) A NoE none Q acc C) (s₂ := { s with heap := k1, toks := tk1 }) eo ao ho hb0 hbn (gx1.base hbs hbn) sub1 rd1 po1 S (fun b hb => by rw [List.mem_singleton.mp hb]; exact ⟨none_of_stays hbs hI, hIpl⟩) (fun _ h => h) K h2 hG (by omega) (by omega) ?_
  intro Da Ca h' tk m' ys es P' fD fC hDC hn ⟨n0, hpl'⟩ hdh hel hes le sub new pD pC k po2
  refine ⟨m', hn, fun h'' hs'' => ?_⟩
  replace k : ∀ b o, b ∉ [I] → b ≠ pl → k1.get? b = some o → h'.get? b = some o := k
  have k'' : ∀ b o, b ≠ Ca → h'.get? b = some o → h''.get? b = some o := fun b o n e => hs''.extBut b o n e
  have hold : ∀ b, k1.get? b = none → b ≠ pl → s.heap.get? b = none := fun b e hb => by
    cases w : s.heap.get? b with
    | none => rfl
    | some o' => rw [gx1 _ o' hb w] at e; cases e
  have hDpl : Da ≠ pl := by rintro rfl; obtain ⟨o, e⟩ := po1.live; rw [show k1.get? Da = none from fD] at e; cases e
  have hCpl : Ca ≠ pl := by rintro rfl; obtain ⟨o, e⟩ := po1.live; rw [show k1.get? Ca = none from fC] at e; cases e
  have subD : PIn (P'.put Da { cls := .type "list", data := .seq ys.toArray n0 }) h'' := fun b o e => by
    unfold PM.put at e
    by_cases hb : b = Da
    · subst hb; rw [if_pos rfl] at e; rw [← e]; exact k'' _ _ hDC hpl'
    · rw [if_neg hb] at e; exact k'' b o (by rintro rfl; rw [pC] at e; cases e) (sub b o e)
  refine q _ (.lst es) (P'.put Da { cls := .type "list", data := .seq ys.toArray n0 }) h'' tk ⟨es, rfl, by omega, by omega, hes⟩ (.lst (PM.put_self _ _ _) rfl rfl (hdh.mono (PM.put_le pD))) (le1.trans (le.trans (PM.put_le pD))) subD (fun b o e => ?_) (fun b o hb e => ?_) ?_
  · unfold PM.put at e
    by_cases hb : b = Da
    · subst hb; exact .inr (hold _ fD hDpl)
    · rw [if_neg hb] at e
      exact new_after new1 gx1 po1 new b o e
  · refine k'' b o ?_ (k b o ?_ hb (gx1 b o hb e))
    · rintro rfl; have := gx1 b o hb e; rw [show k1.get? b = none from fC] at this; cases this
    · rw [List.mem_singleton]; rintro rfl; rw [hI] at e; cases e
  · exact po2.step (fun o e => k'' _ o (Ne.symm hCpl) e) (PM.put_le pD) (by unfold PM.put; rw [if_neg (Ne.symm hDpl)]; exact po2.1) (by omega)
end

/-! the law's frame -/
structure LP (c : Cx) (scope : Scope) (nm : List Str) (env : Env) (h₀ : Heap) (P₀ P : PM) (G : Vars) (ow : Own) (l : Addr) (m : Str → Option Value) (h : Heap) (pl : Addr) (N : Nat) : Prop where
  F : FS c scope nm env h₀ P₀ P G ow l m (hide h pl)
  po : PoolH c P h pl N
  fr : h₀.get? pl = none
section
variable {c : Cx} {nd nu : Nat} {scope : Scope} {nm : List Str} {env : Env} {h₀ h h' : Heap} {P₀ P P' : PM} {G : Vars} {ow : Own} {l l' : Addr} {m m' : Str → Option Value} {pl : Addr} {N n : Nat} {A : Around} {s : Shared}
theorem hide_ne {h : Heap} {pl b : Addr} (e : ∃ o, (hide h pl).get? b = some o) : pl ≠ b := by
  rintro rfl
  obtain ⟨o, e⟩ := e
  rw [hide_self] at e; cases e
theorem FS.nl (F : FS c scope nm env h₀ P₀ P G ow l m (hide h pl)) : pl ≠ env.locals := hide_ne (Ns.some F.ns)
theorem FS.nlin (F : FS c scope nm env h₀ P₀ P G ow l m (hide h pl)) : pl ≠ l := hide_ne F.lin
theorem FS.ncell (F : FS c scope nm env h₀ P₀ P G ow l m (hide h pl)) : ∀ x, env.cells.lookup x ≠ some pl := fun x e => by
  obtain ⟨_, _, _, ov, h4, _⟩ := F.cells x pl e
  exact hide_ne (IsCell.some h4) rfl
theorem LP.toF (L : LP c scope nm env h₀ P₀ P G ow l m h pl N) : FS c scope nm env h₀ P₀ P G ow l m h := L.F.grow ((Grow.refl L.F.sub).then (hide_stays _ _))
theorem LP.of (F : FS c scope nm env h₀ P₀ P G ow l m h) (po : PoolH c P h pl N) (fr : h₀.get? pl = none) (n1 : pl ≠ env.locals) (n2 : pl ≠ l) (n3 : ∀ x, env.cells.lookup x ≠ some pl) : LP c scope nm env h₀ P₀ P G ow l m h pl N :=
  ⟨F.off (wr := [pl]) (fun b hb => by rw [List.mem_singleton.mp hb]; exact ⟨fr, po.1, n1, n2, n3⟩) fun b o hb e => by rw [hide_other _ (by simpa using hb)]; exact e, po, fr⟩
/-- evaluating an expression that may draw, in the law's frame -/
theorem lp_nr {e : Expr} {S : D → Prop} {Q : Value → Shared → Prop} (nr : NR c nd nu scope nm pl G e S n) (L : LP c scope nm env h₀ P₀ P G ow l m s.heap pl N) (eo : EnvOK scope env) (V : VOK scope nm) (ao : AOK A nd nu) (ho : HOK c h₀) (hN : N + n ≤ 100000)
    (q : ∀ v d P' h' tk', S d → DH c.w P' v d → PLe P P' → GX pl s.heap h' → LP c scope nm env h₀ P₀ P' G ow l m h' pl (N + n) → Q v { s with heap := h', toks := tk' }) : wpAny (model PG c.w) A (eval e env) Q NoE s := by
  refine nr env A s h₀ (hide s.heap pl) P N Q eo ao ho L.F.stay (hide_self _ _) (hide_stays _ _) L.toF.sub (L.F.rd eo V) L.po hN fun v d P' h' tk' hs hv le sub new gx po' => q v d P' h' tk' hs hv le gx ⟨L.F.grow ⟨fun b o e => ?_, le, fun b o e => ?_, fun b o e => (new b o e).imp id hide_none⟩, po', L.fr⟩
  · have hb : b ≠ pl := by rintro rfl; rw [hide_self] at e; cases e
    rw [hide_other _ hb] at e ⊢
    exact gx b o hb e
  · rw [hide_other _ (by rintro rfl; rw [po'.1] at e; cases e)]; exact sub b o e
noncomputable def KX (env : Env) (l pl : Addr) (h h' : Heap) : Prop := ∀ b o, h.get? b = some o → b ≠ env.locals → b ≠ l → b ≠ pl → (∀ x, env.cells.lookup x ≠ some b) → h'.get? b = some o
theorem lp_store {x : Str} {v : Value} {d : D} {Q : Unit → Shared → Prop} (L : LP c scope nm env h₀ P₀ P G ow l m s.heap pl N) (eo : EnvOK scope env) (V : VOK scope nm) (i : Nat) (hx : nm[i]? = some x) (hv : DH c.w P v d)
    (q : ∀ h' tk' m', LP c scope nm env h₀ P₀ P (G.set i (some d)) (dropOwn i ow) l m' h' pl N → Kx env l s.heap h' → Q () { s with heap := h', toks := tk' }) : wpAny (model PG c.w) A (storeName env x v) Q NoE s :=
  L.toF.store eo V hx (a := some d) (fun d' e => by cases e; exact hv) fun m' h' tk' F' K' _ _ => q h' tk' m' (.of F' (L.po.step (fun o e => K' _ o e L.F.nl L.F.nlin L.F.ncell) (.refl _) L.po.1 (Nat.le_refl _)) L.fr L.F.nl L.F.nlin L.F.ncell) K'
theorem lp_assign {x : Str} {p pos : Pos} {e : Expr} {S : D → Prop} {Q : Flow → Shared → Prop} (nr : NR c nd nu scope nm pl G e S n) (L : LP c scope nm env h₀ P₀ P G ow l m s.heap pl N) (eo : EnvOK scope env) (V : VOK scope nm) (ao : AOK A nd nu) (ho : HOK c h₀) (hN : N + n ≤ 100000) (i : Nat) (hx : nm[i]? = some x)
    (hs : swapsWith e (some (.Name x p)) pos.line env = pure false)
    (q : ∀ d P' h' tk' m', S d → LP c scope nm env h₀ P₀ P' (G.set i (some d)) (dropOwn i ow) l m' h' pl (N + n) → Q .next { s with heap := h', toks := tk' }) : wpAny (model PG c.w) A (exec (.Assign [.Name x p] e pos) env) Q NoE s :=
  wpAny_Assign_Name (lp_nr nr L eo V ao ho hN fun v d P' h' tk' hs hv le gx L' => lp_store (s := { s with heap := h', toks := tk' }) L' eo V i hx hv fun h2 tk2 m2 L2 _ => q d P' h2 tk2 m2 hs L2) hs
theorem lp_swap {elts : List Expr} {k : Nat} {tp pos : Pos} {x y : Str} {e : Expr} {S : D → D → Prop} {Q : Flow → Shared → Prop} (nr : NR c nd nu scope nm pl G e (fun d => ∃ a b, d = .tup [a, b] ∧ S a b) n) (L : LP c scope nm env h₀ P₀ P G ow l m s.heap pl N) (eo : EnvOK scope env) (V : VOK scope nm) (ao : AOK A nd nu) (ho : HOK c h₀) (hN : N + n ≤ 100000)
    (i j : Nat) (hx : nm[i]? = some x) (hy : nm[j]? = some y)
    (q : ∀ a b P' h' tk' m', S a b → LP c scope nm env h₀ P₀ P' ((G.set j (some b)).set i (some a)) (dropOwn i (dropOwn j ow)) l m' h' pl (N + n) → Q .next { s with heap := h', toks := tk' })
    (hs : ∀ env, swapsWithSole [.Tuple elts k tp] e pos.line env = pure false := by intro _; rfl) (hw : ∀ env : Env, env.scope = scope → swappedStores [.Tuple elts k tp] e env = pure (some [x, y]) := by intro env h; cases env; cases h; rfl) :
    wpAny (model PG c.w) A (exec (.Assign [.Tuple elts k tp] e pos) env) Q NoE s := by
  refine Assign_Tuple_swapped (names := [x, y]) (lp_nr nr L eo V ao ho hN fun v d P1 k1 tk1 sd hv le gx L1 => ?_) (hs env) (hw env eo.sc)
  obtain ⟨a, b, rfl, sab⟩ := sd
  obtain ⟨a1, o1, vs, n1, rfl, e1, c1, d1, p1⟩ := hv.tup_inv
  obtain ⟨va, vb, rfl, pa, pb⟩ := p1.two_inv
  refine unpackItems_tuple (s := { s with heap := k1, toks := tk1 }) (items := [va, vb].toArray) ao.hh (tup_at e1 c1 d1 L1.toF.sub) fun h1 hs1 => ?_
  have st : k1.StaysIn h1 := fun b o e => hs1 b o (Nat.ne_of_lt (Heap.lt_size e)) e
  have L2 : LP c scope nm env h₀ P₀ P1 G ow l m h1 pl (N + n) := .of (L1.toF.grow ((Grow.refl L1.toF.sub).then st)) (L1.po.step (fun o e => st _ o e) (.refl _) L1.po.1 (Nat.le_refl _)) L1.fr L1.F.nl L1.F.nlin L1.F.ncell
  refine assignInOrder_cons (wpAny_bindName (lp_store (s := { s with heap := h1, toks := tk1 }) L2 eo V j hy pb fun h2 tk2 m2 L3 _ => ?_))
  refine assignInOrder_cons (wpAny_bindName (lp_store (s := { s with heap := h2, toks := tk2 }) L3 eo V i hx pa fun h3 tk3 m3 L4 _ => ?_))
  exact assignInOrder_nil (q a b P1 h3 tk3 m3 sab L4)
/-- a statement without draws -/
theorem lp_run {st : Stmt} {psi : St → Option (St × Option D)} {R : St → Prop} {z : St} {Q : Flow → Shared → Prop} (hx : SX c nd nu scope nm st psi) (L : LP c scope nm env h₀ P₀ P z.1 z.2 l m s.heap pl N) (eo : EnvOK scope env) (V : VOK scope nm) (ao : AOK A nd nu) (ho : HOK c h₀) (g : Gv (seqS psi (fun z => some (z, none)) z) (fun x => x.2 = none ∧ R x.1))
    (q : ∀ z' P' h' tk' l' m', R z' → LP c scope nm env h₀ P₀ P' z'.1 z'.2 l' m' h' pl N → Q .next { s with heap := h', toks := tk' }) : wpAny (model PG c.w) A (exec st env) Q NoE s := by
  obtain ⟨⟨z', r⟩, e, hr, hR⟩ := gv_one g
  cases hr
  refine hx env A s h₀ P₀ P z l m z' none _ eo V ao ho L.toF e fun fl P' h' tk' l' m' F' O' fi => ?_
  have : fl = .next := fi
  subst this
  have live := L.po.live
  have pn : P' pl = none := by
    cases r : P' pl with
    | none => rfl
    | some o =>
      rcases O'.np pl o r with q | q | q
      · rw [L.po.1] at q; cases q
      · obtain ⟨o2, e2⟩ := live; rw [q] at e2; cases e2
      · exact absurd q L.F.nlin
  have nl' : pl ≠ l' := by
    rcases O'.n with q | q
    · rw [q]; exact L.F.nlin
    · rintro rfl; obtain ⟨o2, e2⟩ := live; rw [q] at e2; cases e2
  exact q z' P' h' tk' l' m' hR (.of F' (L.po.step (fun o e => O'.k _ o e L.F.nl L.F.nlin L.F.ncell) O'.p pn (Nat.le_refl _)) L.fr L.F.nl nl' L.F.ncell)
end
end Mine
namespace Mine
open PySem PySem.W PySem.Calls PySem.SeqAt PyProof.Rows

section
variable {c : Cx} {nd nu : Nat} {scope : Scope} {nm : List Str} {env : Env} {h₀ h h' : Heap} {P₀ P P' : PM} {G : Vars} {ow : Own} {l l' : Addr} {m m' : Str → Option Value} {pl : Addr} {N n : Nat} {A : Around} {s : Shared}
theorem lp_append {x : Str} {np apos pos spos : Pos} {e : Expr} {S : D → Prop} {ds : List D} {Q : Flow → Shared → Prop} (i : Nat) (hx : nm[i]? = some x) (nr : NR c nd nu scope nm pl G e S n) (L : LP c scope nm env h₀ P₀ P G (some (i, ds)) l m s.heap pl N) (eo : EnvOK scope env) (V : VOK scope nm) (ao : AOK A nd nu) (ho : HOK c h₀) (hN : N + n ≤ 100000) (hlen : ds.length < 900)
    (q : ∀ d P' h' tk', S d → LP c scope nm env h₀ P₀ P' G (some (i, ds ++ [d])) l m h' pl (N + n) → PLe P P' → KX env l pl s.heap h' → (∀ b o, P' b = some o → P b = some o ∨ s.heap.get? b = none) → Q .next { s with heap := h', toks := tk' })
    (hpl : plainArg e = true := by rfl) (hline : (apos.endLine == pos.line) = true := by rfl) :
    wpAny (model PG c.w) A (exec (.Expr (.Call (.Attribute (.Name x np) (Str.ofString "append") apos) [e] [] pos) spos) env) Q NoE s := by
  obtain ⟨x', vs, h1, h2, h3, h4, h5, h6, h7, h8, h9⟩ := L.toF.own i ds rfl
  have : x' = x := by rw [hx] at h1; exact (Option.some.inj h1).symm
  subst this
  have hk : env.scope.kind = .function := by rw [eo.sc]; exact eo.kd
  refine wpAny_Expr_any ?_ (by unfold interactive; rw [hk]; rfl) rfl
  refine wpAny_Call_append rfl (by rw [backTo_cons hpl]; rfl) hline (by rw [backTo_cons hpl]; rfl) ?_
  refine wpAny_Name (wpAny_loadName_local hk (by show env.scope.names.lookup x' = _; rw [eo.sc]; exact h2) L.toF.ns h3 ?_) (V.dbg x' (List.mem_of_getElem? hx))
  obtain ⟨n0, h4'⟩ := id h4
  refine ⟨l, vs.toArray, rfl, ⟨_, n0, h4', rfl, rfl, rfl⟩, ?_⟩
  have lnew : ∀ {P1 : PM} {k1 : Heap} {v : Value} {d : D} {tk : Nat}, S d → DH c.w P1 v d → PLe P P1 → GX pl s.heap k1 → (∀ b o, P1 b = some o → P b = some o ∨ s.heap.get? b = none) → LP c scope nm env h₀ P₀ P1 G (some (i, ds)) l m k1 pl (N + n) →
      wpAny (model PG c.w) A (call (.builtin "list.append") [.ref l, v]) (fun _ s' => Q .next s') NoE { s with heap := k1, toks := tk } := by
    intro P1 k1 v d tk sd hv le gx new L1
    obtain ⟨x2, vs2, _, _, j3, i4, i5, i6, i7, i8, i9⟩ := L1.toF.own i ds rfl
    have hvs : vs2.length < 900 := by rw [i5.length]; exact hlen
    refine wpAny_list_append_plain (s := { s with heap := k1, toks := tk }) i4 (fun h' hp' hs' => ?_) (by rw [List.size_toArray]; exact le_line (by omega))
    have kp : ∀ b o, b ≠ l → k1.get? b = some o → h'.get? b = some o := fun b o n e => hs'.extBut b o n e
    have ee : vs2.toArray.push v = (vs2 ++ [v]).toArray := by simp
    rw [ee] at hp'
    have F1 := L1.toF
    have F2 : FS c scope nm env h₀ P₀ P1 G (some (i, ds ++ [d])) l m h' :=
      { stay := fun b o e => kp b o (by rintro rfl; rw [i6] at e; cases e) (F1.stay b o e), le := F1.le, sub := fun b o e => kp b o (by rintro rfl; rw [i7] at e; cases e) (F1.sub b o e), new := F1.new,
        ns := F1.ns.sameBut hs' (Ne.symm i8), Ln := F1.Ln, PL := F1.PL, vars := F1.vars,
        cells := fun y a e => by
          obtain ⟨c1, c2, c3, ov, c4, c5⟩ := F1.cells y a e
          exact ⟨c1, c2, c3, ov, c4.sameBut hs' (by rintro rfl; exact i9 y e), c5⟩,
        ckind := F1.ckind, cinj := F1.cinj, cdef := F1.cdef,
        own := fun j' ds' e => by
          cases e
          exact ⟨x', vs2 ++ [v], hx, h2, h3, hp', i5.append (.one hv), i6, i7, i8, i9⟩,
        lin := Plain.some hp', kle := F1.kle }
    refine q d P1 h' tk sd (.of F2 (L1.po.step (fun o e => kp _ o L1.F.nlin e) (.refl _) L1.po.1 (Nat.le_refl _)) L1.fr L1.F.nl L1.F.nlin L1.F.ncell) le (fun b o e n1 n2 n3 n4 => kp b o n2 (gx b o n3 e)) new
  -- the value
  refine nr env A s h₀ (hide s.heap pl) P N _ eo ao ho L.F.stay (hide_self _ _) (hide_stays _ _) L.toF.sub (L.F.rd eo V) L.po hN fun v d P1 k1 tk1 hs hv le sub new gx po' => ?_
  refine lnew hs hv le gx new ⟨L.F.grow ⟨fun b o e => ?_, le, fun b o e => ?_, fun b o e => (new b o e).imp id hide_none⟩, po', L.fr⟩
  · have hb : b ≠ pl := by rintro rfl; rw [hide_self] at e; cases e
    rw [hide_other _ hb] at e ⊢
    exact gx b o hb e
  · rw [hide_other _ (by rintro rfl; rw [po'.1] at e; cases e)]; exact sub b o e

theorem lp_for {x y : Str} {tp np rpos fpos : Pos} {np2 apos pos spos : Pos} {e1 e2 : Expr} {Se : D → Prop} {n1 n2 lo hi : Nat} {Q : Flow → Shared → Prop} (i j : Nat) (hx : nm[i]? = some x) (hy : nm[j]? = some y) (hij : i ≠ j) (hr : scope.names.lookup (Str.ofString "range") = some .globalImplicit)
    (h1 : NR c nd nu scope nm pl G e1 (fun d => ∃ r : Nat, d = .int (r : Int) ∧ lo ≤ r ∧ r ≤ hi) n1) (h2 : ∀ u : Int, NR c nd nu scope nm pl (G.set j (some (.int u))) e2 Se n2) (L : LP c scope nm env h₀ P₀ P G (some (i, [])) l m s.heap pl N) (eo : EnvOK scope env) (V : VOK scope nm) (ao : AOK A nd nu) (ho : HOK c h₀)
    (hN : N + (n1 + hi * n2) ≤ 100000) (hhi : hi ≤ 800) (hlo : 0 < lo)
    (q : ∀ u ds P' h' tk' m', lo ≤ ds.length → ds.length ≤ hi → (∀ d ∈ ds, Se d) → LP c scope nm env h₀ P₀ P' (G.set j (some (.int u))) (some (i, ds)) l m' h' pl (N + (n1 + hi * n2)) → Q .next { s with heap := h', toks := tk' })
    (hp1 : plainArg e1 = true := by rfl) (hpl : plainArg e2 = true := by rfl) (hline : (apos.endLine == pos.line) = true := by rfl)
    (hs : ∀ env x, foldedSetIterable (.Call (.Name (Str.ofString "range") np) [e1] [] rpos) env x = pure x := by intro _ _; rfl) :
    wpAny (model PG c.w) A (exec (.For (.Name y tp) (.Call (.Name (Str.ofString "range") np) [e1] [] rpos) [.Expr (.Call (.Attribute (.Name x np2) (Str.ofString "append") apos) [e2] [] pos) spos] [] fpos) env) Q NoE s := by
  refine wpAny_For (wpAny_mono (nr_range (lo := lo) (hi := hi) (.Name y tp) eo ao ho L.F.stay (hide_self _ _) (hide_stays _ _) L.toF.sub (L.F.rd eo V) L.po (by omega) hr h1 (by omega) hp1 (Q := fun it s₂ => codeAny (model PG c.w) A (.forLoop (.Name y tp) it [.Expr (.Call (.Attribute (.Name x np2) (Str.ofString "append") apos) [e2] [] pos) spos] [] env) (fun r s' => match r with | .ok f => Q f s' | .error e => cameBackBy (model PG c.w) A env NoE e s') s₂)
    fun n I Sv P1 k1 tk1 H0 hn1 hn2 le1 sub1 new1 gx1 po1 S hI hIpl => ?_) (fun _ _ x => wpAny_mono x (fun _ _ y => y) fun _ _ y => y) fun _ _ x => x.elim) (hs env)
  have hdl : ((List.range n).map fun (k : Nat) => D.int (k : Int)).length = n := by simp
  have L1 : LP c scope nm env h₀ P₀ P1 G (some (i, [])) l m k1 pl (N + n1) := ⟨L.F.grow ⟨fun b o e => by
      have hb : b ≠ pl := by rintro rfl; rw [hide_self] at e; cases e
      rw [hide_other _ hb] at e ⊢
      exact gx1 b o hb e, le1, fun b o e => by rw [hide_other _ (by rintro rfl; rw [po1.1] at e; cases e)]; exact sub1 b o e, fun b o e => (new1 b o e).imp id hide_none⟩, po1, L.fr⟩
  have I0 : h₀.get? I = none ∧ I ≠ env.locals ∧ I ≠ l ∧ ∀ x, env.cells.lookup x ≠ some I := by
    refine ⟨none_of_stays L.toF.stay hI, ?_, ?_, ?_⟩
    · rintro rfl; obtain ⟨o, e⟩ := Ns.some L.toF.ns; rw [e] at hI; cases hI
    · rintro rfl; obtain ⟨o, e⟩ := L.toF.lin; rw [e] at hI; cases hI
    · intro x e
      obtain ⟨_, _, _, ov, h4, _⟩ := L.toF.cells x I e
      obtain ⟨o, e'⟩ := IsCell.some h4
      rw [e'] at hI; cases hI
  have PI : P1 I = none := (S.wrIn I (by simp)).2
  obtain ⟨I', mk, un⟩ : ∃ I' : Nat → Shared → Prop, (∀ k h' tk' Gk P' m' ds, k ≤ n → (Gk = G ∧ k = 0 ∨ ∃ u : Int, Gk = G.set j (some (.int u))) → PLe P1 P' → P' I = none → Sv k h' → ds.length = k → (∀ d ∈ ds, Se d) → LP c scope nm env h₀ P₀ P' Gk (some (i, ds)) l m' h' pl (N + n1 + k * n2) → I' (n - k) { s with heap := h', toks := tk' }) ∧
      ∀ a s' (C : Prop), I' a s' → (∀ k h' tk' Gk P' m' ds, s' = { s with heap := h', toks := tk' } → a = n - k → k ≤ n → (Gk = G ∧ k = 0 ∨ ∃ u : Int, Gk = G.set j (some (.int u))) → PLe P1 P' → P' I = none → Sv k h' → ds.length = k → (∀ d ∈ ds, Se d) → LP c scope nm env h₀ P₀ P' Gk (some (i, ds)) l m' h' pl (N + n1 + k * n2) → C) → C :=
    ⟨fun a s' => ∃ k h' tk' Gk P' m' ds, s' = { s with heap := h', toks := tk' } ∧ a = n - k ∧ k ≤ n ∧ (Gk = G ∧ k = 0 ∨ ∃ u : Int, Gk = G.set j (some (.int u))) ∧ PLe P1 P' ∧ P' I = none ∧ Sv k h' ∧ ds.length = k ∧ (∀ d ∈ ds, Se d) ∧ LP c scope nm env h₀ P₀ P' Gk (some (i, ds)) l m' h' pl (N + n1 + k * n2),
      fun k h' tk' Gk P' m' ds hk a1 a2 a3 a4 a5 a6 a7 => ⟨k, h', tk', Gk, P', m', ds, rfl, rfl, hk, a1, a2, a3, a4, a5, a6, a7⟩, by rintro a s' C ⟨k, h', tk', Gk, P', m', ds, e1, e2, hk, a1, a2, a3, a4, a5, a6, a7⟩ q; exact q k h' tk' Gk P' m' ds e1 e2 hk a1 a2 a3 a4 a5 a6 a7⟩
  refine forLoopP (I := I')
    ?_ n (mk 0 k1 tk1 G P1 m [] (Nat.zero_le _) (.inl ⟨rfl, rfl⟩) (.refl _) PI S.st rfl (fun _ h => by cases h) (by rw [Nat.zero_mul]; exact L1))
  intro a s' hI'
  refine un a s' _ hI' ?_
  rintro k h' tk' Gk P' m' ds rfl rfl hk hGk lek PIk hSk hdk hall Lk
  have pw : ∀ b ∈ [I], P' b = none := fun b hb => by rw [List.mem_singleton.mp hb]; exact PIk
  by_cases hlt : k < n
  · refine wpAny_mono (S.item k { s with heap := h', toks := tk' } P' (fun v s₁' => wpAny (model PG c.w) A (assign (.Name y tp) env v) _ NoE s₁') (by rw [hdl]; exact hlt) hSk lek Lk.toF.sub pw fun v d P3 h3 tk2 hd hv le3 sub3 new3 hS3 k3 => ?_) (fun r s₁ hr => by obtain ⟨v, rfl, hr⟩ := hr; exact hr) fun _ _ y => y
    replace k3 : ∀ b o, b ∉ [I] → h'.get? b = some o → h3.get? b = some o := k3
    replace new3 : ∀ b o, P3 b = some o → P' b = some o ∨ h'.get? b = none := new3
    have hd' : d = .int (k : Int) := by
      rw [List.getElem?_map, List.getElem?_range hlt] at hd
      cases hd; rfl
    subst hd'
    have noP3 : ∀ b, P' b = none → (∃ o, h'.get? b = some o) → P3 b = none := fun b n ⟨o, e⟩ => by
      cases r : P3 b with
      | none => rfl
      | some o' =>
        rcases new3 b o' r with q | q
        · rw [n] at q; cases q
        · rw [e] at q; cases q
    have PI3 : P3 I = none := noP3 I PIk (S.live _ _ hSk I (by simp))
    have pp3 : P3 pl = none := noP3 pl Lk.po.1 Lk.po.live
    have hpI : pl ∉ [I] := by rw [List.mem_singleton]; exact Ne.symm hIpl
    -- the frame beside the iterator
    have F3 : FS c scope nm env h₀ P₀ P3 Gk (some (i, ds)) l m' h3 := by
      have Fa := Lk.toF.off (wr := [I]) (h' := hide h' I) (fun b hb => by rw [List.mem_singleton.mp hb]; exact ⟨I0.1, PIk, I0.2.1, I0.2.2.1, I0.2.2.2⟩) (fun b o hb e => by rw [hide_other _ (by simpa using hb)]; exact e)
      exact Fa.grow ⟨fun b o e => by
        have hb : b ≠ I := by rintro rfl; rw [hide_self] at e; cases e
        rw [hide_other _ hb] at e
        exact k3 b o (by simpa using hb) e, le3, sub3, fun b o e => (new3 b o e).imp id hide_none⟩
    have L3 : LP c scope nm env h₀ P₀ P3 Gk (some (i, ds)) l m' h3 pl (N + n1 + k * n2) := .of F3 (Lk.po.step (fun o e => k3 _ o hpI e) le3 pp3 (Nat.le_refl _)) L.fr L.F.nl L.F.nlin L.F.ncell
    refine wpAny_assign_Name (lp_store (s := { s with heap := h3, toks := tk2 }) L3 eo V j hy hv fun h4 tk4 m4 L4 K4 => ?_)
    have hGs : Gk.set j (some (.int (k : Int))) = G.set j (some (.int (k : Int))) := by
      rcases hGk with ⟨rfl, _⟩ | ⟨u, rfl⟩
      · rfl
      · rw [List.set_set]
    have hdo : dropOwn j (some (i, ds)) = some (i, ds) := by simp [dropOwn, Ne.symm hij]
    rw [hGs, hdo] at L4
    have I4 : ∀ o, h3.get? I = some o → h4.get? I = some o := fun o e => K4 I o e I0.2.1 I0.2.2.1 I0.2.2.2
    have hS4 : Sv (k + 1) h4 := S.frame _ _ _ hS3 fun b hb o e => by rw [List.mem_singleton.mp hb] at e ⊢; exact I4 o e
    have hmul : k * n2 + n2 ≤ hi * n2 := by
      have := Nat.mul_le_mul_right n2 (Nat.le_trans hlt hn2 : k + 1 ≤ hi)
      rw [Nat.succ_mul] at this; omega
    refine wpAny_execs_cons (lp_append (s := { s with heap := h4, toks := tk4 }) i hx (h2 (k : Int)) L4 eo V ao ho (by omega) (by omega) (fun d P5 h5 tk5 sd L5 le5 K5 new5 => ?_) hpl hline)
    refine wpAny_execs_nil ?_
    have liveI : ∃ o, h4.get? I = some o := S.live _ _ hS4 I (by simp)
    have PI5 : P5 I = none := by
      cases r : P5 I with
      | none => rfl
      | some o =>
        rcases new5 I o r with q | q
        · rw [PI3] at q; cases q
        · obtain ⟨o2, e2⟩ := liveI; rw [show h4.get? I = none from q] at e2; cases e2
    refine ⟨n - (k + 1), by omega, mk (k + 1) h5 tk5 _ P5 m4 (ds ++ [d]) hlt (.inr ⟨(k : Int), rfl⟩) (lek.trans (le3.trans le5)) PI5 ?_ (by rw [List.length_append, hdk]; rfl) (fun d' hd' => ?_) (by rw [Nat.succ_mul, ← Nat.add_assoc]; exact L5)⟩
    · exact S.frame _ _ _ hS4 fun b hb o e => by
        rw [List.mem_singleton.mp hb] at e ⊢
        exact K5 I o e I0.2.1 I0.2.2.1 hIpl I0.2.2.2
    · rcases List.mem_append.mp hd' with h | h
      · exact hall d' h
      · rw [List.mem_singleton.mp h]; exact sd
  · have hkk : k = n := by omega
    subst hkk
    refine S.done { s with heap := h', toks := tk' } _ _ (by rw [hdl]; exact hSk) fun h2' tk2 ko => ?_
    replace ko : ∀ b o, b ∉ [I] → h'.get? b = some o → h2'.get? b = some o := ko
    refine wpAny_execs_nil ?_
    rcases hGk with ⟨_, h0⟩ | ⟨u, rfl⟩
    · omega
    · have hmul : k * n2 ≤ hi * n2 := Nat.mul_le_mul_right _ hn2
      have F5 := Lk.toF.off (wr := [I]) (h' := h2') (fun b hb => by rw [List.mem_singleton.mp hb]; exact ⟨I0.1, PIk, I0.2.1, I0.2.2.1, I0.2.2.2⟩) ko
      exact q u ds P' h2' tk2 m' (by omega) (by omega) hall (.of F5 (Lk.po.step (fun o e => ko _ o (by rw [List.mem_singleton]; exact Ne.symm hIpl) e) (.refl _) Lk.po.1 (by omega)) L.fr L.F.nl L.F.nlin L.F.ncell)
end
end Mine
namespace Mine
open PySem PySem.W PySem.Calls PySem.SeqAt PyProof.Rows

section
variable {c : Cx} {nd nu : Nat} {scope : Scope} {nm : List Str}
/-- a sign of a text -/
noncomputable def sidx (a b : D) : Option D := match a, b with
  | .str x, .int k => if 0 ≤ k ∧ k ≤ 1000 then (x.cps[k.toNat]?).map fun n => .str ⟨#[n]⟩ else none
  | _, _ => none
theorem se_sidx {v i : Expr} {pos : Pos} {f g : Vars → Option D} (h1 : SE c nd nu scope nm v f) (h2 : SE c nd nu scope nm i g)
    (hs : ∀ x t k u, subscripted i false (.str x t) (.int k u) = operate [.str x t, .int k u] (getItem (.str x t) (.int k u)) := by intro _ _ _ _; with_unfolding_all rfl) :
    SE c nd nu scope nm (.Subscript v i pos) (fun G => (f G).bind fun a => (g G).bind fun b => sidx a b) := by
  intro env A s P G d Q eo ao ho hp rd e q
  obtain ⟨a, ea, e1⟩ := Option.bind_eq_some_iff.mp e
  obtain ⟨b, eb, er⟩ := Option.bind_eq_some_iff.mp e1
  refine Subscript_ (h1 env A s P G a _ eo ao ho hp rd ea fun va P1 k1 tk1 g1 hva => ?_)
  refine h2 env A _ P1 G b _ eo ao (ho.keeps g1.stay) g1.sub (rd.grow g1) eb fun vb P2 k2 tk2 g2 hvb => ?_
  unfold sidx at er
  split at er
  · rename_i x k
    split at er
    · rename_i hk
      obtain ⟨n, hn, rfl⟩ := Option.map_eq_some_iff.mp er
      obtain ⟨t, rfl⟩ := hva.str_inv
      obtain ⟨u, rfl⟩ := hvb.int_inv
      have hsz : k.toNat < x.cps.size := by
        rw [Array.getElem?_eq_some_iff] at hn
        exact hn.1
      refine tail_any (s := { s with heap := k2, toks := tk2 }) (typeIs_str _ _ _) PySem.F.slot_str_getitem.lookup (PySem.P.getItem_str (s := { s with heap := k2, toks := tk2 }) (c := n) ?_ ?_ ?_) (hs _ _ _ _)
      · simp only [Bool.or_eq_false_iff, decide_eq_false_iff_not]; omega
      · have : seqIndex? k x.length = some k.toNat := by
          unfold seqIndex?
          have h1 : ¬ k < 0 := by omega
          have h2 : decide ((0 : Int) ≤ k) = true := by simpa using hk.1
          have h3 : decide (k < (x.length : Int)) = true := by
            have : x.length = x.cps.size := rfl
            simp; omega
          simp only [h1, if_false]
          rw [h2, h3]; rfl
        rw [this]
        exact hn
      · exact q _ P2 k2 _ (g1.trans g2) (.str _ _)
    · first | exact nn er | cases er
  · first | exact nn er | cases er
end
section
variable {c : Cx} {nd nu : Nat} {scope : Scope} {nm : List Str} {env : Env} {h₀ h h' : Heap} {P₀ P P' : PM} {l : Addr} {m : Str → Option Value} {pl : Addr} {N n : Nat} {A : Around} {s : Shared}
theorem lp_thaw {z : St} (L : LP c scope nm env h₀ P₀ P z.1 z.2 l m h pl N) : ∃ P', LP c scope nm env h₀ P₀ P' (thaw z).1 (thaw z).2 l m h pl N := by
  obtain ⟨P', F', le, new⟩ := L.F.thaw
  refine ⟨P', F', L.po.step (fun _ e => e) le ?_ (Nat.le_refl _), L.fr⟩
  cases r : P' pl with
  | none => rfl
  | some o =>
    rcases new pl o r with q | q
    · rw [L.po.1] at q; cases q
    · exact absurd q L.F.nlin
/-- pool = _law_box(script) -/
theorem lp_box {p np ap cp pos : Pos} {G : Vars} {xs : List Int} {Q : Flow → Shared → Prop} (F : FS c scope nm env h₀ P₀ P G none l m s.heap) (eo : EnvOK scope env) (V : VOK scope nm) (ao : AOK A nd nu) (ho : HOK c h₀) (hx : scope.names.lookup (Str.ofString "_law_box") = some .globalImplicit) (hs : nm[0]? = some (Str.ofString "script")) (hpn : nm[1]? = some (Str.ofString "pool"))
    (hG : G[0]? = some (some (.lst (xs.map D.int)))) (hxl : xs.length ≤ 1000) (hnd : 1 ≤ nd) (hnu : 3 ≤ nu)
    (q : ∀ pl P' h' tk' m', LP c scope nm env h₀ P₀ P' (G.set 1 (some (.raw (.ref pl)))) none l m' h' pl 0 → Q .next { s with heap := h', toks := tk' }) :
    wpAny (model PG c.w) A (exec (.Assign [.Name (Str.ofString "pool") p] (.Call (.Name (Str.ofString "_law_box") np) [.Name (Str.ofString "script") ap] [] cp) pos) env) Q NoE s := by
  have hos : HOK c s.heap := ho.keeps F.stay
  refine wpAny_Assign_Name ?_ rfl
  refine wpAny_Call_NameR (ld_glob eo hos hx (by k_is) ?_)
  refine callWith_of (P := fun h => (hd.heap_39 c.w.params).In h) rfl (keeps_K (by k_is)) ?_
  refine args_SA (sa_cons (se_var 0 hs) sa_nil) rfl eo ao hos F.sub (F.rd eo V) (ds := [.lst (xs.map D.int)]) (by simp [hG]) fun vs P1 k1 tk1 g1 hvs => ⟨hos.X.keeps g1.stay, ?_⟩
  obtain ⟨v, rfl, hv⟩ := hvs.one_inv
  have F1 := F.grow g1
  refine box_con (nd := 0) (nu := 0) (s := { s with heap := k1, toks := tk1 }) (ao.less hnd hnu) (hos.keeps g1.stay) g1.sub F1.kle hv hxl fun pl P2 k2 tk2 g2 hfr po => ?_
  have F2 := F1.grow g2
  replace hfr : k1.get? pl = none := hfr
  have n1 : pl ≠ env.locals := by rintro rfl; obtain ⟨o, e⟩ := Ns.some F1.ns; rw [e] at hfr; cases hfr
  have n2 : pl ≠ l := by rintro rfl; obtain ⟨o, e⟩ := F1.lin; rw [e] at hfr; cases hfr
  have n3 : ∀ x, env.cells.lookup x ≠ some pl := fun x e => by
    obtain ⟨_, _, _, ov, h4, _⟩ := F1.cells x pl e
    obtain ⟨o, e'⟩ := IsCell.some h4
    rw [e'] at hfr; cases hfr
  have L2 : LP c scope nm env h₀ P₀ P2 G none l m k2 pl 0 := .of F2 po (none_of_stays F1.stay hfr) n1 n2 n3
  exact lp_store (s := { s with heap := k2, toks := tk2 }) L2 eo V 1 hpn (.raw _ rfl) fun h3 tk3 m3 L3 _ => q pl P2 h3 tk3 m3 L3
end
end Mine
namespace Mine
open PySem PySem.W PySem.Calls PySem.SeqAt PyProof.Rows
noncomputable abbrev Poly := List (Int × Int)
noncomputable def closeS : D := .tup [.str (Str.ofString "close")]
noncomputable def partQ (q : Poly × Bool) : D := .tup (segsOf q.1 ++ if q.2 then [closeS] else [])
noncomputable def pathQ (Q : List (Poly × Bool)) : D := .path (.tup (Q.map partQ))
noncomputable def polyD (ps : Poly) : D := .lst (ps.map encP)
noncomputable def okP (ps : Poly) : Prop := 3 ≤ ps.length ∧ ps.length ≤ 5 ∧ ∀ p ∈ ps, -20 ≤ p.1 ∧ p.1 ≤ 20 ∧ -20 ≤ p.2 ∧ p.2 ≤ 20
noncomputable def frameP (l b w h : Int) : Poly := [(2 * l, 2 * b), (2 * l + 2 * w, 2 * b), (2 * l + 2 * w, 2 * b + 2 * h), (2 * l, 2 * b + 2 * h)]
noncomputable def okF (l b w h : Int) : Prop := 0 ≤ l ∧ l ≤ 3 ∧ 0 ≤ b ∧ b ≤ 3 ∧ 1 ≤ w ∧ w ≤ 3 ∧ 1 ≤ h ∧ h ≤ 3
noncomputable def NZ : Str := Str.ofString "nonzero"
noncomputable def EO : Str := Str.ofString "evenodd"
noncomputable def rowsD (P : List Poly) (r : Str) (w h : Nat) : D := .lst ((lawRows P r w h).map D.str)
noncomputable def oneP (l b w h x y : Int) : Poly := [(2 * l, 2 * b), (2 * l + 2 * w, 2 * b), (2 * l + 2 * w, 2 * b + 2 * h), (x, y)]
noncomputable def otherP (l b w h x y : Int) : Poly := [(2 * l, 2 * b), (x, y), (2 * l + 2 * w, 2 * b + 2 * h), (2 * l, 2 * b + 2 * h)]
noncomputable def inF (l b w h x y : Int) : Prop := 2 * l ≤ x ∧ x ≤ 2 * l + 2 * w ∧ 2 * b ≤ y ∧ y ≤ 2 * b + 2 * h
/-- the row due -/
noncomputable def dueRow (a b : Str) : Str := Txt.join (Str.ofString "") ((List.range 8).map fun k => litX (decide (a.cps[k]? = some 120) && decide (b.cps[k]? = some 120)))
noncomputable def dueRows (A B : List Str) : List Str := (List.range 8).map fun k => dueRow ((A[k]?).getD (Str.ofString "")) ((B[k]?).getD (Str.ofString ""))
end Mine
namespace Mine
open PySem PySem.W PySem.Calls PySem.SeqAt PyProof.Rows
theorem str_ext {a b : Str} (h : a.cps.toList = b.cps.toList) : a = b := Str.ext' (Array.toList_inj.mp h)
theorem tjoin_nil : Txt.join (Str.ofString "") [] = (⟨#[]⟩ : Str) := rfl
theorem tjoin_eq (sep : Str) (l : List Str) : Txt.join sep l = Str.join sep l := by
  have := join_plain_closes sep l
  simpa using this
theorem sjoin_list : ∀ (l : List Str), (Str.join ⟨#[]⟩ l).cps.toList = l.flatMap (fun s => s.cps.toList)
  | [] => rfl
  | x :: r => by rw [join_nil_cons, Str.cps_append, Array.toList_append, sjoin_list r]; rfl
theorem tjoin_list (l : List Str) : (Txt.join (Str.ofString "") l).cps.toList = l.flatMap (fun s => s.cps.toList) := by
  rw [tjoin_eq]; exact sjoin_list l
noncomputable def sgn (b : Bool) : Nat := if b then 120 else 46
theorem litX_cps (b : Bool) : (litX b).cps.toList = [sgn b] := by cases b <;> rfl
noncomputable def rowS (f : Nat → Bool) (w : Nat) : Str := ⟨((List.range w).map fun k => sgn (f k)).toArray⟩
theorem rowS_list (f : Nat → Bool) (w : Nat) : (rowS f w).cps.toList = (List.range w).map fun k => sgn (f k) := by simp [rowS]
theorem flat_lit (g : Nat → Bool) (l : List Nat) : (l.map fun k => litX (g k)).flatMap (fun s => s.cps.toList) = l.map fun k => sgn (g k) := by
  induction l with
  | nil => rfl
  | cons a r ih => rw [List.map_cons, List.flatMap_cons, ih, litX_cps]; rfl
theorem join_rowS (f : Nat → Bool) (w : Nat) : Txt.join (Str.ofString "") ((List.range w).map fun k => litX (f k)) = rowS f w := by
  apply str_ext
  rw [tjoin_list, flat_lit, rowS_list]
theorem rowS_len (f : Nat → Bool) (w : Nat) : (rowS f w).length = w := by simp [rowS, Str.length]
theorem rowS_congr {f g : Nat → Bool} {w : Nat} (h : ∀ k, k < w → f k = g k) : rowS f w = rowS g w := by
  apply str_ext
  rw [rowS_list, rowS_list]
  apply List.map_congr_left
  intro k hk
  rw [h k (List.mem_range.mp hk)]
theorem lawRow_rowS (P : List Poly) (r : Str) (y : Int) : ∀ w, lawRow P r y w = rowS (fun k => filled r (lawRound P (2 * (k : Int) + 1) y)) w
  | 0 => rfl
  | w + 1 => by
    apply str_ext
    rw [lawRow, lawRow_rowS P r y w, Str.cps_append, Array.toList_append, rowS_list, rowS_list, litX_cps, List.range_succ, List.map_append]
    rfl
theorem lawRows_eq (P : List Poly) (r : Str) (w h : Nat) : lawRows P r w h = (List.range h).map fun (k : Nat) => rowS (fun c => filled r (lawRound P (2 * (c : Int) + 1) (2 * ((h : Int) - (k : Int)) - 1))) w := by
  unfold lawRows
  apply List.map_congr_left
  intro k _
  exact lawRow_rowS _ _ _ _
theorem sgn_x (b : Bool) : decide (sgn b = 120) = b := by cases b <;> rfl
theorem metS_rowS (f g : Nat → Bool) (w : Nat) : metS (rowS f w) (rowS g w) = rowS (fun k => f k && g k) w := by
  unfold metS
  rw [rowS_list, rowS_list, List.zip_map', List.map_map]
  rw [← join_rowS (fun k => f k && g k)]
  congr 1
  apply List.map_congr_left
  intro k _
  simp only [Function.comp_apply, sgn_x]
theorem rowS_get (f : Nat → Bool) {w k : Nat} (h : k < w) : (rowS f w).cps[k]? = some (sgn (f k)) := by
  rw [← Array.getElem?_toList, rowS_list]
  simp [h]
theorem dueRow_rowS (f g : Nat → Bool) : dueRow (rowS f 8) (rowS g 8) = rowS (fun k => f k && g k) 8 := by
  unfold dueRow
  rw [← join_rowS (fun k => f k && g k)]
  congr 1
  apply List.map_congr_left
  intro k hk
  have hk := List.mem_range.mp hk
  rw [rowS_get f hk, rowS_get g hk]
  simp only [Option.some.injEq, sgn_x]
noncomputable def b01 (b : Bool) : Int := if b then 1 else 0
theorem cntX_cnt (x : Str) : cntX x = cnt 120 x.cps.toList := count_is x 120
theorem cnt_map (f : Nat → Bool) : ∀ l : List Nat, cnt 120 (l.map fun k => sgn (f k)) = (l.map fun k => b01 (f k)).sum
  | [] => rfl
  | a :: r => by
    rw [List.map_cons, List.map_cons, cnt_cons, cnt_map f r, List.sum_cons]
    congr 1
    cases f a <;> rfl
theorem cntX_rowS (f : Nat → Bool) (w : Nat) : cntX (rowS f w) = ((List.range w).map fun k => b01 (f k)).sum := by
  rw [cntX_cnt, rowS_list, cnt_map]
end Mine
namespace Mine
open PySem PySem.W PySem.Calls PySem.SeqAt PyProof.Rows
noncomputable def scl (ps : Poly) : Poly := ps.map fun p => (5 * p.1, 5 * p.2)
theorem corner_segs (ps : Poly) : compL corner1 (segsOf ps) = some (ps.map decPt) := by
  have k1 : ¬ (Str.ofString "move" = Str.ofString "close") := by decide
  have k2 : ¬ (Str.ofString "line" = Str.ofString "close") := by decide
  have hl : ∀ r : Poly, compL corner1 (r.map lineS) = some (r.map decPt) := by
    intro r
    induction r with
    | nil => rfl
    | cons a r ih => rw [List.map_cons, compL, ih]; simp [corner1, lineS, k2]
  cases ps with
  | nil => rfl
  | cons a r => rw [segsOf, compL, hl]; simp [corner1, moveS, k1]
theorem corner_part (q : Poly × Bool) : compL corner1 (segsOf q.1 ++ if q.2 then [closeS] else []) = some (q.1.map decPt) := by
  cases q.2 with
  | false => simp [corner_segs]
  | true =>
    have h := compL_snoc (corner_segs q.1) (show corner1 closeS = some none by simp [corner1, closeS])
    simpa using h
theorem part_ok (q : Poly × Bool) (h : q.1.length ≤ 900) : partOK (partQ q) = true := by
  have k1 : ¬ (Str.ofString "move" = Str.ofString "curve") := by decide
  have k2 : ¬ (Str.ofString "line" = Str.ofString "curve") := by decide
  have k3 : ¬ (Str.ofString "close" = Str.ofString "curve") := by decide
  unfold partOK partQ
  have a1 : (segsOf q.1).all segOK = true := by
    rw [List.all_eq_true]
    intro d hd
    cases hq : q.1 with
    | nil => rw [hq] at hd; cases hd
    | cons a r =>
      rw [hq, segsOf] at hd
      rcases List.mem_cons.mp hd with rfl | hd
      · simp [moveS, segOK, k1]
      · obtain ⟨p, _, rfl⟩ := List.mem_map.mp hd
        simp [lineS, segOK, k2]
  have a2 : (if q.2 = true then [closeS] else []).all segOK = true := by
    cases q.2 <;> simp [closeS, segOK, k3]
  have a3 : (segsOf q.1 ++ if q.2 = true then [closeS] else []).length ≤ 999 := by
    rw [List.length_append, segsOf_len]
    cases q.2 <;> simp <;> omega
  simp only [List.all_append, a1, a2, a3, decide_true, Bool.and_self]
theorem lines_part (q : Poly × Bool) (h : q.1.length ≤ 900) (h2 : 1 < q.1.length) : linesF (partQ q) = some (some (.lst (q.1.map decPt))) := by
  have hp := part_ok q h
  unfold partQ at hp ⊢
  simp only [linesF]
  rw [if_pos hp, corner_part]
  simp [h2]
theorem lines_all (f : List D → Option D) : ∀ Q : List (Poly × Bool), (∀ q ∈ Q, q.1.length ≤ 900 ∧ 1 < q.1.length) → compL linesF (Q.map partQ) = some (Q.map fun q => .lst (q.1.map decPt))
  | [], _ => rfl
  | q :: r, h => by
    have hq := h q List.mem_cons_self
    rw [List.map_cons, compL, lines_part q hq.1 hq.2, lines_all f r fun x hx => h x (List.mem_cons_of_mem _ hx)]
    rfl
theorem lines_ok {Q : List (Poly × Bool)} (hQ : ∀ q ∈ Q, okP q.1) (hl : Q.length ≤ 3) : s_lines_of [pathQ Q, .int 3] = some (.lst (Q.map fun q => .lst (q.1.map decPt))) ∧ s_lines_of [pathQ Q] = some (.lst (Q.map fun q => .lst (q.1.map decPt))) := by
  have h1 : (Q.map partQ).all partOK = true := by
    rw [List.all_eq_true]
    intro d hd
    obtain ⟨q, hq, rfl⟩ := List.mem_map.mp hd
    exact part_ok q (by have := (hQ q hq).2.1; omega)
  have h2 : (Q.map partQ).length ≤ 999 := by rw [List.length_map]; omega
  have h3 := lines_all (fun _ => none) Q fun q hq => ⟨by have := (hQ q hq).2.1; omega, by have := (hQ q hq).1; omega⟩
  constructor
  · unfold s_lines_of pathQ
    dsimp only
    rw [if_pos ⟨rfl, h1, h2⟩, h3]; rfl
  · unfold s_lines_of pathQ
    dsimp only
    rw [if_pos ⟨h1, h2⟩, h3]; rfl
theorem ptOf_dec (p : Int × Int) : ptOf (decPt p) = some (5 * p.1, 5 * p.2) := by
  simp only [ptOf, decPt, dnum_tenth, Option.bind_some, Option.map_some]
theorem mapM_pts : ∀ ps : Poly, (ps.map decPt).mapM ptOf = some (scl ps)
  | [] => rfl
  | p :: r => by rw [List.map_cons, List.mapM_cons, ptOf_dec, mapM_pts r]; rfl
theorem mapM_polys : ∀ Q : List (Poly × Bool), (Q.map fun q => D.lst (q.1.map decPt)).mapM polyOf = some (Q.map fun q => scl q.1)
  | [] => rfl
  | q :: r => by
    rw [List.map_cons, List.mapM_cons, mapM_polys r]
    simp only [polyOf, mapM_pts]; rfl
theorem scl_get (ps : Poly) (k : Nat) : (scl ps)[k]? = (ps[k]?).map fun p => (5 * p.1, 5 * p.2) := by unfold scl; rw [List.getElem?_map]
theorem scl_len (ps : Poly) : (scl ps).length = ps.length := by unfold scl; rw [List.length_map]
theorem mul55 (a b : Int) : 5 * a * (5 * b) = 25 * (a * b) := by
  rw [Int.mul_assoc, Int.mul_left_comm a 5 b, ← Int.mul_assoc]; rfl
theorem cross_step (a b : Int × Int) (x y : Int) : crossOf (5 * a.1, 5 * a.2, 5 * b.1, 5 * b.2) (5 * x) (5 * y) = lawStep a b x y := by
  have hs : sideOf (5 * a.1, 5 * a.2, 5 * b.1, 5 * b.2) (5 * x) (5 * y) = 25 * lawSide a b x y := by
    unfold sideOf lawSide
    dsimp only
    rw [← Int.mul_sub, ← Int.mul_sub, ← Int.mul_sub, ← Int.mul_sub, mul55, mul55]
    omega
  unfold crossOf lawStep
  rw [hs]
  dsimp only
  generalize lawSide a b x y = s
  have e1 : (5 * a.2 ≤ 5 * y) = (a.2 ≤ y) := by apply propext; omega
  have e2 : (5 * b.2 ≤ 5 * y) = (b.2 ≤ y) := by apply propext; omega
  have e3 : (5 * y < 5 * b.2) = ¬ (b.2 ≤ y) := by apply propext; omega
  have e4 : (5 * y < 5 * a.2) = ¬ (a.2 ≤ y) := by apply propext; omega
  have e5 : (25 * s > 0) = (s > 0) := by apply propext; omega
  have e6 : (25 * s < 0) = (s < 0) := by apply propext; omega
  simp only [e1, e2, e3, e4, e5, e6]
  by_cases h1 : a.2 ≤ y <;> by_cases h2 : b.2 ≤ y <;> simp [h1, h2]
  split <;> simp
theorem step_flat {a b : Int × Int} (x y : Int) (h : a.2 = b.2) : lawStep a b x y = 0 := by
  unfold lawStep; rw [h]; simp
theorem edge_one (ps : Poly) (x y : Int) (k : Nat) : ((edgeAt (scl ps) k).map fun e => crossOf e (5 * x) (5 * y)).getD 0 = lawAt ps x y k := by
  unfold lawAt edgeAt
  rw [scl_get, scl_get, scl_len]
  cases h1 : ps[pv ps.length k]? with
  | none => rfl
  | some a =>
    cases h2 : ps[k]? with
    | none => rfl
    | some b =>
      dsimp only [Option.map_some]
      by_cases h : a.2 = b.2
      · rw [if_pos (by rw [h]), step_flat _ _ h]; rfl
      · rw [if_neg (by omega)]
        exact cross_step a b x y
theorem wind_edges (ps : Poly) (x y : Int) : ∀ l : List Nat, windOf (l.filterMap (edgeAt (scl ps))) (5 * x) (5 * y) = (l.map (lawAt ps x y)).sum
  | [] => rfl
  | k :: r => by
    have ih := wind_edges ps x y r
    have h1 := edge_one ps x y k
    rw [List.map_cons, List.sum_cons, ← h1, ← ih]
    unfold windOf
    cases h : edgeAt (scl ps) k with
    | none => rw [List.filterMap_cons_none h]; simp
    | some e => rw [List.filterMap_cons_some h]; simp
theorem wind_polys (x y : Int) : ∀ P : List Poly, windOf ((P.map scl).flatMap edgesOf) (5 * x) (5 * y) = lawRound P x y
  | [] => rfl
  | ps :: r => by
    have ih := wind_polys x y r
    have h1 := wind_edges ps x y (List.range (scl ps).length)
    unfold windOf lawRound at *
    rw [List.map_cons, List.flatMap_cons, List.map_append, List.sum_append, ih, List.map_cons, List.sum_cons]
    congr 1
    unfold edgesOf lawPoly
    rw [h1, scl_len]
theorem cross_far {e : Int × Int × Int × Int} {y : Int} (x : Int) (h : nearE y e = false) : crossOf e x y = 0 := by
  unfold nearE at h
  simp only [Bool.or_eq_false_iff, Bool.and_eq_false_iff, decide_eq_false_iff_not] at h
  unfold crossOf
  rw [if_neg (by omega), if_neg (by omega)]
theorem wind_near (x y : Int) : ∀ E, windOf (E.filter (nearE y)) x y = windOf E x y
  | [] => rfl
  | e :: r => by
    have ih := wind_near x y r
    rw [List.filter_cons]
    cases h : nearE y e with
    | true =>
      unfold windOf at ih ⊢
      simp only [if_true, List.map_cons, List.sum_cons, ih]
    | false =>
      unfold windOf at ih ⊢
      simp only [Bool.false_eq_true, if_false, List.map_cons, List.sum_cons, ih, cross_far x h]
      omega
theorem rows_eq (P : List Poly) (r : Str) (w h : Nat) : rasterRows ((P.map scl).flatMap edgesOf) r w h = lawRows P r w h := by
  rw [lawRows_eq]
  unfold rasterRows
  apply List.map_congr_left
  intro k _
  unfold rowTxt
  rw [join_rowS (fun c => filled r (windOf (((P.map scl).flatMap edgesOf).filter (nearE ((2 * ((h : Int) - 1 + (k : Int) * -1) + 1) * 5))) ((2 * (c : Int) + 1) * 5) ((2 * ((h : Int) - 1 + (k : Int) * -1) + 1) * 5)))]
  apply rowS_congr
  intro c _
  rw [wind_near]
  have e1 : (2 * (c : Int) + 1) * 5 = 5 * (2 * (c : Int) + 1) := by omega
  have e2 : (2 * ((h : Int) - 1 + (k : Int) * -1) + 1) * 5 = 5 * (2 * ((h : Int) - (k : Int)) - 1) := by omega
  rw [e1, e2, wind_polys]
theorem edges_le (ps : Poly) : (edgesOf ps).length ≤ ps.length := by
  have := List.length_filterMap_le (edgeAt ps) (List.range ps.length)
  rw [List.length_range] at this
  exact this
theorem flat_le {P : List Poly} (h : ∀ p ∈ P, p.length ≤ 5) : (P.flatMap edgesOf).length ≤ 5 * P.length := by
  induction P with
  | nil => exact Nat.le_refl _
  | cons p r ih =>
    have := ih fun x hx => h x (List.mem_cons_of_mem _ hx)
    have h1 := edges_le p
    have h2 := h p List.mem_cons_self
    rw [List.flatMap_cons, List.length_append, List.length_cons]
    omega
theorem edge_sm {ps : Poly} (h : ∀ p ∈ ps, sm p.1 ∧ sm p.2) : ∀ e ∈ edgesOf ps, smE e := by
  intro e he
  obtain ⟨k, _, hk⟩ := List.mem_filterMap.mp he
  unfold edgeAt at hk
  split at hk
  · rename_i a b h1 h2
    split at hk
    · first | exact nn hk | cases hk
    · first | exact nn hk | cases hk
      have ha := h a (List.mem_of_getElem? h1)
      have hb := h b (List.mem_of_getElem? h2)
      exact ⟨ha.1, ha.2, hb.1, hb.2⟩
  · first | exact nn hk | cases hk
theorem f_raster {Q : List (Poly × Bool)} (hQ : ∀ q ∈ Q, okP q.1) (hl : Q.length ≤ 3) {r : Str} (hr : okRule r) {w h : Nat} (hw : w ≤ 8) (hh : h ≤ 8) : s_raster [pathQ Q, .str r, .int w, .int h] = some (rowsD (Q.map (·.1)) r w h) := by
  have e : (Q.map fun q => scl q.1) = (Q.map (·.1)).map scl := by rw [List.map_map]; rfl
  unfold s_raster
  dsimp only
  rw [(lines_ok hQ hl).1]
  simp only [Option.bind_some, mapM_polys]
  rw [if_pos]
  · rw [e, Int.toNat_natCast, Int.toNat_natCast, rows_eq]; rfl
  · have h5 : ∀ p ∈ Q.map fun q => scl q.1, p.length ≤ 5 := by
      intro p hp
      obtain ⟨q, hq, rfl⟩ := List.mem_map.mp hp
      rw [scl_len]; exact (hQ q hq).2.1
    have h6 := flat_le h5
    rw [List.length_map] at h6
    refine ⟨hr, by omega, by omega, by omega, by omega, fun p hp => by have := h5 p hp; omega, by omega, ?_⟩
    intro e he
    obtain ⟨p, hp, hpe⟩ := List.mem_flatMap.mp he
    obtain ⟨q, hq, rfl⟩ := List.mem_map.mp hp
    refine edge_sm (fun x hx => ?_) e hpe
    obtain ⟨y, hy, rfl⟩ := List.mem_map.mp hx
    have := (hQ q hq).2.2 y hy
    unfold sm
    dsimp only
    omega
end Mine
namespace Mine
open PySem PySem.W PySem.Calls PySem.SeqAt PyProof.Rows
theorem ipt_enc {p : Int × Int} (h : -1000 ≤ p.1 ∧ p.1 ≤ 1000 ∧ -1000 ≤ p.2 ∧ p.2 ≤ 1000) : ipt (encP p) = some p := by
  unfold ipt encP
  dsimp only
  rw [if_pos h]
theorem mapM_ipt : ∀ {ps : Poly}, (∀ p ∈ ps, -20 ≤ p.1 ∧ p.1 ≤ 20 ∧ -20 ≤ p.2 ∧ p.2 ≤ 20) → (ps.map encP).mapM ipt = some ps
  | [], _ => rfl
  | p :: r, h => by
    have := h p List.mem_cons_self
    rw [List.map_cons, List.mapM_cons, ipt_enc (by omega), mapM_ipt fun x hx => h x (List.mem_cons_of_mem _ hx)]; rfl
theorem ipoly_ok {ps : Poly} (h : okP ps) : ipolyOf (polyD ps) = some ps := by
  obtain ⟨h1, h2, h3⟩ := h
  unfold ipolyOf polyD
  dsimp only
  rw [if_pos (by rw [List.length_map]; omega), mapM_ipt h3]
theorem mapM_ipoly : ∀ {P : List Poly}, (∀ p ∈ P, okP p) → (P.map polyD).mapM ipolyOf = some P
  | [], _ => rfl
  | p :: r, h => by
    rw [List.map_cons, List.mapM_cons, ipoly_ok (h p List.mem_cons_self), mapM_ipoly fun x hx => h x (List.mem_cons_of_mem _ hx)]; rfl
theorem f_path {P : List Poly} (hP : ∀ p ∈ P, okP p) (hl : P.length ≤ 3) : s_law_path [.lst (P.map polyD)] = some (pathQ (P.map fun p => (p, false))) := by
  unfold s_law_path
  dsimp only
  rw [if_pos (by rw [List.length_map]; omega), mapM_ipoly hP]
  unfold pathOf pathQ
  rw [List.map_map]
  simp only [Option.map_some, Option.some.injEq, D.path.injEq, D.tup.injEq]
  apply List.map_congr_left
  intro p _
  simp [partQ]
theorem f_cells {P : List Poly} (hP : ∀ p ∈ P, okP p) {r : Str} {w h : Nat} (hw : w ≤ 8) (hh : h ≤ 8) : s_law_cells [.lst (P.map polyD), .str r, .int w, .int h] = some (rowsD P r w h) := by
  unfold s_law_cells
  dsimp only
  rw [mapM_ipoly hP]
  simp only [Option.bind_some]
  rw [if_pos (by omega)]
  rfl
theorem dnum_whole (v : Int) : dnum (5 * (2 * v)) = .dec v 0 := by
  unfold dnum
  rw [if_pos (by omega)]
  congr 1
  omega
theorem f_rect (l b w h : Int) : rectPts l b w h = pathQ [(frameP l b w h, true)] := by
  have e1 : 2 * l + 2 * w = 2 * (l + w) := by omega
  have e2 : 2 * b + 2 * h = 2 * (b + h) := by omega
  unfold rectPts pathQ partQ frameP
  rw [e1, e2]
  simp [segsOf, moveS, lineS, decPt, dnum_whole, closeS]
theorem f_area {l b w h : Int} (ok : okF l b w h) : (s_lines_of [pathQ [(frameP l b w h, true)]]).bind (fun d => s_doubled_area [d]) = some (.dec (2 * w * h) 0) := by
  have hok : ∀ q ∈ [(frameP l b w h, true)], okP q.1 := by
    intro q hq
    rw [List.mem_singleton.mp hq]
    unfold okF at ok
    refine ⟨by simp [frameP], by simp [frameP], fun p hp => ?_⟩
    simp only [frameP, List.mem_cons, List.not_mem_nil, or_false] at hp
    rcases hp with rfl | rfl | rfl | rfl <;> dsimp only <;> omega
  rw [(lines_ok hok (by simp)).2]
  unfold okF at ok
  have e1 : 2 * l + 2 * w = 2 * (l + w) := by omega
  have e2 : 2 * b + 2 * h = 2 * (b + h) := by omega
  have c1 : (-100000 : Int) ≤ l ∧ l ≤ 100000 := by omega
  have c2 : (-100000 : Int) ≤ l + w ∧ l + w ≤ 100000 := by omega
  have hw : wpolyOf (.lst ((frameP l b w h).map decPt)) = some [(l, b), (l + w, b), (l + w, b + h), (l, b + h)] := by
    unfold frameP
    rw [e1, e2]
    simp [wpolyOf, wptOf_at, decPt, dnum_whole, List.mapM_cons, c1, c2]
  simp only [Option.bind_some, s_doubled_area, List.map_cons, List.map_nil, List.mapM_cons, List.mapM_nil, hw]
  have ha : areaOf [(l, b), (l + w, b), (l + w, b + h), (l, b + h)] = 2 * w * h := by
    have r4 : List.range ([(l, b), (l + w, b), (l + w, b + h), (l, b + h)] : List (Int × Int)).length = [0, 1, 2, 3] := rfl
    unfold areaOf
    rw [r4]
    simp [areaAt, pv]
    simp only [Int.mul_add, Int.add_mul, Int.mul_comm b l, Int.mul_comm b w, Int.mul_comm h l, Int.mul_assoc]
    have : 2 * w * h = 2 * (w * h) := Int.mul_assoc _ _ _
    omega
  simp [ha]
end Mine
namespace Mine
open PySem PySem.W PySem.Calls PySem.SeqAt PyProof.Rows
theorem round4 (p q r s : Int × Int) (x y : Int) : lawRound [[p, q, r, s]] x y = lawStep s p x y + lawStep p q x y + lawStep q r x y + lawStep r s x y := by
  have r4 : List.range ([p, q, r, s] : Poly).length = [0, 1, 2, 3] := rfl
  unfold lawRound lawPoly
  simp only [List.map_cons, List.map_nil, List.sum_cons, List.sum_nil]
  rw [r4]
  simp [lawAt, pv, Int.add_assoc]
theorem step_up {p q : Int × Int} {x y : Int} (h : p.2 ≤ q.2) : lawStep p q x y = if p.2 ≤ y ∧ y < q.2 ∧ lawSide p q x y > 0 then 1 else 0 := by
  unfold lawStep
  generalize lawSide p q x y = s
  by_cases h1 : p.2 ≤ y <;> by_cases h2 : q.2 ≤ y
  · have : ¬ (y < q.2) := by omega
    simp [h1, h2, this]
  · have : y < q.2 := by omega
    simp [h1, h2, this]
  · omega
  · have : ¬ (p.2 ≤ y) := h1
    simp [h1, h2]
theorem side_swap (p q : Int × Int) (x y : Int) : lawSide q p x y = - lawSide p q x y := by
  unfold lawSide
  obtain ⟨a, b⟩ := p
  obtain ⟨c, d⟩ := q
  dsimp only
  simp only [Int.sub_mul, Int.mul_sub]
  have : a * b = b * a := Int.mul_comm _ _
  have : c * d = d * c := Int.mul_comm _ _
  have : a * d = d * a := Int.mul_comm _ _
  have : b * c = c * b := Int.mul_comm _ _
  omega
theorem step_swap (p q : Int × Int) (x y : Int) : lawStep q p x y = - lawStep p q x y := by
  unfold lawStep
  rw [side_swap]
  generalize lawSide p q x y = s
  by_cases h1 : p.2 ≤ y <;> by_cases h2 : q.2 ≤ y <;> simp [h1, h2]
/-- one edge up, seen from x -/
noncomputable def upE (a b c d x y : Int) : Int := if b ≤ y ∧ y < d ∧ (c - a) * (y - b) - (x - a) * (d - b) > 0 then 1 else 0
theorem up_eq {a b c d x y : Int} (h : b ≤ d) : lawStep (a, b) (c, d) x y = upE a b c d x y := step_up h
theorem up_right {a b c d x y : Int} (h1 : a ≤ x) (h2 : c ≤ x) : upE a b c d x y = 0 := by
  unfold upE
  rw [if_neg]
  rintro ⟨h3, h4, h5⟩
  have e1 : (c - a) * (y - b) ≤ (x - a) * (y - b) := Int.mul_le_mul_of_nonneg_right (by omega) (by omega)
  have e2 : (x - a) * (y - b) ≤ (x - a) * (d - b) := Int.mul_le_mul_of_nonneg_left (by omega) (by omega)
  omega
theorem up_left {a b c d x y : Int} (h1 : x < a) (h2 : x < c) : upE a b c d x y = if b ≤ y ∧ y < d then 1 else 0 := by
  unfold upE
  by_cases h : b ≤ y ∧ y < d
  · rw [if_pos h, if_pos]
    refine ⟨h.1, h.2, ?_⟩
    have e0 : (c - a) * (y - b) - (x - a) * (d - b) = (c - x) * (y - b) + (a - x) * (d - y) := by
      simp only [Int.sub_mul, Int.mul_sub]; omega
    rw [e0]
    have e1 : 0 ≤ (c - x) * (y - b) := Int.mul_nonneg (by omega) (by omega)
    have e2 : 0 < (a - x) * (d - y) := Int.mul_pos (by omega) (by omega)
    omega
  · rw [if_neg h, if_neg]
    rintro ⟨a1, a2, _⟩
    exact h ⟨a1, a2⟩
theorem up_out {a b c d x y : Int} (h : y < b ∨ d ≤ y) : upE a b c d x y = 0 := by
  unfold upE
  rw [if_neg]
  rintro ⟨a1, a2, _⟩
  omega
theorem up_vert {a b d x y : Int} : upE a b a d x y = if b ≤ y ∧ y < d ∧ x < a then 1 else 0 := by
  by_cases h : x < a
  · rw [up_left h h]
    simp [h]
  · rw [up_right (by omega) (by omega), if_neg (by omega)]
theorem flat2 (a c b x y : Int) : lawStep (a, b) (c, b) x y = 0 := step_flat x y rfl
theorem frame_round (l b w h x y : Int) (hh : 0 ≤ h) : lawRound [frameP l b w h] x y = upE (2 * l + 2 * w) (2 * b) (2 * l + 2 * w) (2 * b + 2 * h) x y - upE (2 * l) (2 * b) (2 * l) (2 * b + 2 * h) x y := by
  unfold frameP
  rw [round4, step_swap (2 * l, 2 * b) (2 * l, 2 * b + 2 * h), flat2, flat2, up_eq (by omega), up_eq (by omega)]
  omega
noncomputable def inB (l b w h x y : Int) : Prop := 2 * l < x ∧ x < 2 * l + 2 * w ∧ 2 * b < y ∧ y < 2 * b + 2 * h
theorem frame_val {l b w h x y : Int} (hw : 0 ≤ w) (hh : 0 ≤ h) (ox : x % 2 = 1) (oy : y % 2 = 1) : (inB l b w h x y ∧ lawRound [frameP l b w h] x y = 1) ∨ (¬ inB l b w h x y ∧ lawRound [frameP l b w h] x y = 0) := by
  rw [frame_round l b w h x y hh, up_vert, up_vert]
  unfold inB
  by_cases h1 : 2 * l < x ∧ x < 2 * l + 2 * w ∧ 2 * b < y ∧ y < 2 * b + 2 * h
  · refine .inl ⟨h1, ?_⟩
    rw [if_pos (by omega), if_neg (by omega)]; rfl
  · refine .inr ⟨h1, ?_⟩
    by_cases h2 : 2 * b ≤ y ∧ y < 2 * b + 2 * h ∧ x < 2 * l
    · rw [if_pos (by omega), if_pos h2]; rfl
    · rw [if_neg h2, if_neg (by omega)]; rfl
theorem one_round {l b w h u v x y : Int} (hi : inF l b w h u v) : lawRound [oneP l b w h u v] x y = upE (2 * l + 2 * w) (2 * b) (2 * l + 2 * w) (2 * b + 2 * h) x y - (upE (2 * l) (2 * b) u v x y + upE u v (2 * l + 2 * w) (2 * b + 2 * h) x y) := by
  unfold inF at hi
  unfold oneP
  rw [round4, step_swap (2 * l, 2 * b) (u, v), step_swap (u, v) (2 * l + 2 * w, 2 * b + 2 * h), flat2, up_eq (by omega), up_eq (by omega), up_eq (by omega)]
  omega
theorem other_round {l b w h u v x y : Int} (hi : inF l b w h u v) : lawRound [otherP l b w h u v] x y = (upE (2 * l) (2 * b) u v x y + upE u v (2 * l + 2 * w) (2 * b + 2 * h) x y) - upE (2 * l) (2 * b) (2 * l) (2 * b + 2 * h) x y := by
  unfold inF at hi
  unfold otherP
  rw [round4, step_swap (2 * l, 2 * b) (2 * l, 2 * b + 2 * h), flat2, up_eq (by omega), up_eq (by omega), up_eq (by omega)]
  omega
theorem bend_sum {l b w h u v x y : Int} (hi : inF l b w h u v) (hh : 0 ≤ h) : lawRound [oneP l b w h u v] x y + lawRound [otherP l b w h u v] x y = lawRound [frameP l b w h] x y := by
  rw [one_round hi, other_round hi, frame_round l b w h x y hh]; omega
theorem bend_out {l b w h u v x y : Int} (hi : inF l b w h u v) (hw : 0 ≤ w) (hh : 0 ≤ h) (ox : x % 2 = 1) (oy : y % 2 = 1) (ho : ¬ inB l b w h x y) : lawRound [oneP l b w h u v] x y = 0 ∧ lawRound [otherP l b w h u v] x y = 0 := by
  have hi' := hi
  unfold inF at hi
  unfold inB at ho
  rw [one_round hi', other_round hi']
  by_cases h1 : y < 2 * b ∨ 2 * b + 2 * h ≤ y
  · rw [up_out (b := 2 * b) (d := 2 * b + 2 * h) h1, up_out (b := 2 * b) (d := 2 * b + 2 * h) h1, up_out (b := 2 * b) (d := v) (by omega), up_out (b := v) (d := 2 * b + 2 * h) (by omega)]
    exact ⟨rfl, rfl⟩
  · by_cases h2 : x < 2 * l
    · rw [up_left (a := 2 * l + 2 * w) (by omega) (by omega), up_left (a := 2 * l) (c := u) (by omega) (by omega), up_left (a := u) (by omega) (by omega), up_left (a := 2 * l) (c := 2 * l) (by omega) (by omega)]
      rw [if_pos (show 2 * b ≤ y ∧ y < 2 * b + 2 * h by omega)]
      by_cases h3 : y < v
      · rw [if_pos (by omega), if_neg (by omega)]; exact ⟨rfl, rfl⟩
      · rw [if_neg (by omega), if_pos (by omega)]; exact ⟨rfl, rfl⟩
    · rw [up_right (a := 2 * l + 2 * w) (by omega) (by omega), up_right (a := 2 * l) (c := u) (by omega) (by omega), up_right (a := u) (by omega) (by omega), up_right (a := 2 * l) (c := 2 * l) (by omega) (by omega)]
      exact ⟨rfl, rfl⟩
end Mine
namespace Mine
open PySem PySem.W PySem.Calls PySem.SeqAt PyProof.Rows
noncomputable def rowsG (f : Nat → Nat → Bool) : List Str := (List.range 8).map fun k => rowS (f k) 8
noncomputable def cellF (P : List Poly) (r : Str) (k c : Nat) : Bool := filled r (lawRound P (2 * (c : Int) + 1) (2 * ((8 : Int) - (k : Int)) - 1))
theorem lawRows_8 (P : List Poly) (r : Str) : lawRows P r 8 8 = rowsG (cellF P r) := lawRows_eq P r 8 8
theorem rowsG_congr {f g : Nat → Nat → Bool} (h : ∀ k c, k < 8 → c < 8 → f k c = g k c) : rowsG f = rowsG g := by
  unfold rowsG
  apply List.map_congr_left
  intro k hk
  exact rowS_congr fun c hc => h k c (List.mem_range.mp hk) hc
theorem rowsG_mem {f : Nat → Nat → Bool} {x : Str} (h : x ∈ rowsG f) : ∃ k, k < 8 ∧ x = rowS (f k) 8 := by
  obtain ⟨k, hk, rfl⟩ := List.mem_map.mp h
  exact ⟨k, List.mem_range.mp hk, rfl⟩
theorem rowsG_len (f : Nat → Nat → Bool) : (rowsG f).length = 8 := by simp [rowsG]
noncomputable def sumC (f : Nat → Bool) : Int := ((List.range 8).map fun c => b01 (f c)).sum
noncomputable def sumG (f : Nat → Nat → Bool) : Int := ((List.range 8).map fun k => sumC (f k)).sum
theorem count_rowsG (f : Nat → Nat → Bool) : s_filled_count [.lst ((rowsG f).map D.str)] = some (.int (sumG f)) := by
  unfold s_filled_count
  dsimp only
  rw [strsOf_str]
  simp only [Option.bind_some]
  rw [if_pos]
  · have e : (rowsG f).map cntX = (List.range 8).map fun k => sumC (f k) := by
      unfold rowsG
      rw [List.map_map]
      apply List.map_congr_left
      intro k _
      exact cntX_rowS _ _
    rw [e]; rfl
  · refine ⟨by rw [rowsG_len]; decide, ?_⟩
    rw [List.all_eq_true]
    intro x hx
    obtain ⟨k, _, rfl⟩ := rowsG_mem hx
    rw [rowS_len]; decide
theorem ascii_rowS (f : Nat → Bool) : asciiS (rowS f 8) = true := by
  unfold asciiS
  rw [rowS_len, Bool.and_eq_true]
  refine ⟨?_, by decide⟩
  rw [Array.all_eq_true_iff_forall_mem]
  intro x hx
  rw [← Array.mem_toList_iff, rowS_list] at hx
  obtain ⟨k, _, rfl⟩ := List.mem_map.mp hx
  cases f k <;> rfl
theorem met_rowsG (f g : Nat → Nat → Bool) : s_met_rows [.lst ((rowsG f).map D.str), .lst ((rowsG g).map D.str)] = some (.lst ((rowsG fun k c => f k c && g k c).map D.str)) := by
  have hall : ∀ f : Nat → Nat → Bool, (rowsG f).all asciiS = true := fun f => by
    rw [List.all_eq_true]
    intro x hx
    obtain ⟨k, _, rfl⟩ := rowsG_mem hx
    exact ascii_rowS _
  unfold s_met_rows
  dsimp only
  rw [strsOf_str, strsOf_str]
  simp only [Option.bind_some]
  rw [if_pos ⟨hall f, hall g, by rw [rowsG_len, rowsG_len], by rw [rowsG_len]; decide⟩]
  congr 3
  unfold rowsG
  rw [List.zip_map', List.map_map]
  apply List.map_congr_left
  intro k _
  exact metS_rowS _ _ _
theorem due_rowsG (f g : Nat → Nat → Bool) : dueRows (rowsG f) (rowsG g) = rowsG fun k c => f k c && g k c := by
  unfold dueRows
  rw [show (rowsG fun k c => f k c && g k c) = (List.range 8).map fun k => rowS (fun c => f k c && g k c) 8 from rfl]
  apply List.map_congr_left
  intro k hk
  have hk := List.mem_range.mp hk
  have h1 : ∀ f : Nat → Nat → Bool, (rowsG f)[k]? = some (rowS (f k) 8) := fun f => by
    unfold rowsG; rw [List.getElem?_map, List.getElem?_range hk]; rfl
  rw [h1, h1]
  exact dueRow_rowS _ _
theorem f_due {P P2 : List Poly} {r r2 : Str} : s_met_rows [rowsD P r 8 8, rowsD P2 r2 8 8] = some (.lst ((dueRows (lawRows P r 8 8) (lawRows P2 r2 8 8)).map D.str)) := by
  unfold rowsD
  rw [lawRows_8, lawRows_8, met_rowsG, due_rowsG]
theorem f_sign (P : List Poly) (r : Str) (i k : Nat) (hi : i < 8) (hk : k < 8) : ∃ a n, (lawRows P r 8 8)[i]? = some a ∧ a.cps[k]? = some n := by
  rw [lawRows_8]
  refine ⟨rowS (cellF P r i) 8, sgn (cellF P r i k), ?_, rowS_get _ hk⟩
  unfold rowsG; rw [List.getElem?_map, List.getElem?_range hi]; rfl
theorem dueRows_G (A B : List Str) : ∃ f, dueRows A B = rowsG f :=
  ⟨fun k c => decide ((((A[k]?).getD (Str.ofString "")).cps[c]? = some 120)) && decide ((((B[k]?).getD (Str.ofString "")).cps[c]? = some 120)), by
    unfold dueRows rowsG
    apply List.map_congr_left
    intro k _
    unfold dueRow
    exact join_rowS (fun c => decide ((((A[k]?).getD (Str.ofString "")).cps[c]? = some 120)) && decide ((((B[k]?).getD (Str.ofString "")).cps[c]? = some 120))) 8⟩
theorem cnt_filter : ∀ L : List Nat, cnt 120 L = ((L.filter (fun m => decide (m = 120))).length : Int)
  | [] => rfl
  | a :: r => by
    rw [cnt_cons, cnt_filter r, List.filter_cons]
    by_cases h : a = 120
    · simp [h]; omega
    · simp [h]
theorem cnt_flat (f : Nat → Nat → Bool) : ∀ l : List Nat, cnt 120 ((l.map fun k => rowS (f k) 8).flatMap fun s => s.cps.toList) = (l.map fun k => sumC (f k)).sum
  | [] => rfl
  | a :: r => by
    rw [List.map_cons, List.flatMap_cons, cnt_append, cnt_flat f r, List.map_cons, List.sum_cons]
    congr 1
    rw [← cntX_cnt, cntX_rowS]; rfl
theorem flat_len8 (f : Nat → Nat → Bool) : ∀ l : List Nat, ((l.map fun k => rowS (f k) 8).flatMap fun s => s.cps.toList).length = 8 * l.length
  | [] => rfl
  | a :: r => by
    rw [List.map_cons, List.flatMap_cons, List.length_append, flat_len8 f r, rowS_list]
    simp; omega
theorem f_dcount (A B : List Str) : ∃ n : Nat, s_filled_count [.lst ((dueRows A B).map D.str)] = some (.int n) ∧ (∀ x ∈ dueRows A B, x.length ≤ 16) ∧ ((Txt.join (Str.ofString "") (dueRows A B)).cps.toList.filter (fun m => decide (m = 120))).length = n ∧ (Txt.join (Str.ofString "") (dueRows A B)).cps.toList.length ≤ 1000 := by
  obtain ⟨f, hf⟩ := dueRows_G A B
  rw [hf]
  refine ⟨_, ?_, fun x hx => ?_, rfl, ?_⟩
  · rw [count_rowsG, ← cnt_filter, tjoin_list]
    congr 2
    exact (cnt_flat f (List.range 8)).symm
  · obtain ⟨k, _, rfl⟩ := rowsG_mem hx
    rw [rowS_len]; decide
  · rw [tjoin_list]
    have := flat_len8 f (List.range 8)
    rw [show (rowsG f) = (List.range 8).map fun k => rowS (f k) 8 from rfl, this]; decide
theorem sum_and (R C : Nat → Bool) : ∀ l : List Nat, (l.map fun k => sumC (fun c => R k && C c)).sum = (l.map fun k => b01 (R k)).sum * sumC C
  | [] => by simp
  | a :: r => by
    rw [List.map_cons, List.sum_cons, sum_and R C r, List.map_cons, List.sum_cons, Int.add_mul]
    congr 1
    cases R a with
    | true => simp [b01]
    | false => simp [b01, sumC, List.range_succ]
theorem col_count {l w : Int} (h : 0 ≤ l ∧ l ≤ 3 ∧ 1 ≤ w ∧ w ≤ 3) : sumC (fun c => decide (2 * l < 2 * (c : Int) + 1 ∧ 2 * (c : Int) + 1 < 2 * l + 2 * w)) = w := by
  have h1 : l = 0 ∨ l = 1 ∨ l = 2 ∨ l = 3 := by omega
  have h2 : w = 1 ∨ w = 2 ∨ w = 3 := by omega
  rcases h1 with rfl | rfl | rfl | rfl <;> rcases h2 with rfl | rfl | rfl <;> decide
theorem row_count {b h : Int} (hh : 0 ≤ b ∧ b ≤ 3 ∧ 1 ≤ h ∧ h ≤ 3) : ((List.range 8).map fun (k : Nat) => b01 (decide (2 * b < 2 * ((8 : Int) - (k : Int)) - 1 ∧ 2 * ((8 : Int) - (k : Int)) - 1 < 2 * b + 2 * h))).sum = h := by
  have h1 : b = 0 ∨ b = 1 ∨ b = 2 ∨ b = 3 := by omega
  have h2 : h = 1 ∨ h = 2 ∨ h = 3 := by omega
  rcases h1 with rfl | rfl | rfl | rfl <;> rcases h2 with rfl | rfl | rfl <;> decide
noncomputable def inC (l b w h : Int) (k c : Nat) : Bool := decide (2 * b < 2 * ((8 : Int) - (k : Int)) - 1 ∧ 2 * ((8 : Int) - (k : Int)) - 1 < 2 * b + 2 * h) && decide (2 * l < 2 * (c : Int) + 1 ∧ 2 * (c : Int) + 1 < 2 * l + 2 * w)
theorem inC_iff (l b w h : Int) (k c : Nat) : inC l b w h k c = true ↔ inB l b w h (2 * (c : Int) + 1) (2 * ((8 : Int) - (k : Int)) - 1) := by
  unfold inC inB
  rw [Bool.and_eq_true, decide_eq_true_eq, decide_eq_true_eq]
  constructor
  · rintro ⟨⟨a, b⟩, c, d⟩; exact ⟨c, d, a, b⟩
  · rintro ⟨c, d, a, b⟩; exact ⟨⟨a, b⟩, c, d⟩
theorem sum_inC {l b w h : Int} (ok : okF l b w h) : sumG (inC l b w h) = w * h := by
  unfold okF at ok
  have e := sum_and (fun k => decide (2 * b < 2 * ((8 : Int) - (k : Int)) - 1 ∧ 2 * ((8 : Int) - (k : Int)) - 1 < 2 * b + 2 * h)) (fun c => decide (2 * l < 2 * (c : Int) + 1 ∧ 2 * (c : Int) + 1 < 2 * l + 2 * w)) (List.range 8)
  rw [row_count (by omega), col_count (by omega)] at e
  rw [Int.mul_comm w h]
  exact e
theorem filled_1 {r : Str} : filled r 1 = true := by unfold filled; split <;> rfl
theorem filled_0 {r : Str} : filled r 0 = false := by unfold filled; split <;> rfl
theorem frame_cell {l b w h : Int} (ok : okF l b w h) (r : Str) (k c : Nat) : cellF [frameP l b w h] r k c = inC l b w h k c := by
  unfold okF at ok
  unfold cellF
  rcases frame_val (l := l) (b := b) (w := w) (h := h) (x := 2 * (c : Int) + 1) (y := 2 * ((8 : Int) - (k : Int)) - 1) (by omega) (by omega) (by omega) (by omega) with ⟨h1, h2⟩ | ⟨h1, h2⟩
  · rw [h2, filled_1, (inC_iff ..).mpr h1]
  · rw [h2, filled_0]
    cases h3 : inC l b w h k c with
    | false => rfl
    | true => exact absurd ((inC_iff ..).mp h3) h1
theorem f_count {l b w h : Int} (ok : okF l b w h) {r : Str} (hr : okRule r) : s_filled_count [rowsD [frameP l b w h] r 8 8] = some (.int (w * h)) := by
  unfold rowsD
  rw [lawRows_8, rowsG_congr (fun k c _ _ => frame_cell ok r k c), count_rowsG, sum_inC ok]
theorem f_rule {l b w h : Int} (ok : okF l b w h) {r : Str} (hr : okRule r) : lawRows [frameP l b w h] r 8 8 = lawRows [frameP l b w h] NZ 8 8 := by
  rw [lawRows_8, lawRows_8, rowsG_congr (fun k c _ _ => frame_cell ok r k c), rowsG_congr (fun k c _ _ => frame_cell ok NZ k c)]
theorem filled_EO (t : Int) : filled EO t = decide (t % 2 = 1) := by
  unfold filled EO
  rw [if_neg (by decide)]
theorem bend_cell {l b w h x y : Int} (ok : okF l b w h) (hi : inF l b w h x y) (k c : Nat) :
    (cellF [oneP l b w h x y] EO k c && cellF [otherP l b w h x y] EO k c) = false ∧ b01 (cellF [oneP l b w h x y] EO k c) + b01 (cellF [otherP l b w h x y] EO k c) = b01 (inC l b w h k c) := by
  unfold okF at ok
  have hs := bend_sum (x := 2 * (c : Int) + 1) (y := 2 * ((8 : Int) - (k : Int)) - 1) hi (by omega)
  unfold cellF
  rw [filled_EO, filled_EO]
  rcases frame_val (l := l) (b := b) (w := w) (h := h) (x := 2 * (c : Int) + 1) (y := 2 * ((8 : Int) - (k : Int)) - 1) (by omega) (by omega) (by omega) (by omega) with ⟨h1, h2⟩ | ⟨h1, h2⟩
  · rw [h2] at hs
    rw [(inC_iff ..).mpr h1]
    generalize lawRound [oneP l b w h x y] (2 * (c : Int) + 1) (2 * ((8 : Int) - (k : Int)) - 1) = p at hs
    generalize lawRound [otherP l b w h x y] (2 * (c : Int) + 1) (2 * ((8 : Int) - (k : Int)) - 1) = q at hs
    by_cases hp : p % 2 = 1
    · have hq : ¬ q % 2 = 1 := by omega
      simp [hp, hq, b01]
    · have hq : q % 2 = 1 := by omega
      simp [hp, hq, b01]
  · obtain ⟨h4, h5⟩ := bend_out hi (by omega) (by omega) (by omega) (by omega) h1
    rw [h4, h5]
    cases h3 : inC l b w h k c with
    | false => exact ⟨rfl, rfl⟩
    | true => exact absurd ((inC_iff ..).mp h3) h1
theorem sumC_add {f g e : Nat → Bool} (h : ∀ c, b01 (f c) + b01 (g c) = b01 (e c)) : sumC f + sumC g = sumC e := by
  unfold sumC
  generalize List.range 8 = L
  induction L with
  | nil => rfl
  | cons a r ih =>
    have := h a
    simp only [List.map_cons, List.sum_cons]
    omega
theorem sumG_add {f g e : Nat → Nat → Bool} (h : ∀ k c, b01 (f k c) + b01 (g k c) = b01 (e k c)) : sumG f + sumG g = sumG e := by
  unfold sumG
  generalize List.range 8 = L
  induction L with
  | nil => rfl
  | cons a r ih =>
    have := sumC_add (h a)
    simp only [List.map_cons, List.sum_cons]
    omega
theorem sumG_none {f : Nat → Nat → Bool} (h : ∀ k c, f k c = false) : sumG f = 0 := by
  have : f = fun _ _ => false := funext fun k => funext fun c => h k c
  rw [this]; decide
theorem f_bend {l b w h x y : Int} (ok : okF l b w h) (hi : inF l b w h x y) : ∃ both i j, s_met_rows [rowsD [oneP l b w h x y] EO 8 8, rowsD [otherP l b w h x y] EO 8 8] = some both ∧ s_filled_count [both] = some (.int 0) ∧
   s_filled_count [rowsD [oneP l b w h x y] EO 8 8] = some (.int i) ∧ s_filled_count [rowsD [otherP l b w h x y] EO 8 8] = some (.int j) ∧ i + j = w * h := by
  unfold rowsD
  rw [lawRows_8, lawRows_8]
  refine ⟨_, _, _, met_rowsG _ _, ?_, count_rowsG _, count_rowsG _, ?_⟩
  · rw [count_rowsG, sumG_none fun k c => (bend_cell ok hi k c).1]
  · rw [sumG_add fun k c => (bend_cell ok hi k c).2, sum_inC ok]
end Mine
namespace Mine
open PySem PySem.W PySem.Calls PySem.SeqAt PyProof.Rows

theorem all_enc {B : Int × Int → Prop} : ∀ {es : List D}, (∀ x ∈ es, ∃ p, x = encP p ∧ B p) → ∃ ps : Poly, es = ps.map encP ∧ ∀ p ∈ ps, B p
  | [], _ => ⟨[], rfl, fun _ h => by cases h⟩
  | d :: r, h => by
    obtain ⟨p, rfl, hp⟩ := h d List.mem_cons_self
    obtain ⟨ps, rfl, hps⟩ := all_enc fun x hx => h x (List.mem_cons_of_mem _ hx)
    exact ⟨p :: ps, rfl, fun q hq => by
      rcases List.mem_cons.mp hq with rfl | hq
      · exact hp
      · exact hps q hq⟩
theorem all_poly : ∀ {ds : List D}, (∀ x ∈ ds, ∃ ps, x = polyD ps ∧ okP ps) → ∃ P : List Poly, ds = P.map polyD ∧ ∀ p ∈ P, okP p
  | [], _ => ⟨[], rfl, fun _ h => by cases h⟩
  | d :: r, h => by
    obtain ⟨p, rfl, hp⟩ := h d List.mem_cons_self
    obtain ⟨ps, rfl, hps⟩ := all_poly fun x hx => h x (List.mem_cons_of_mem _ hx)
    exact ⟨p :: ps, rfl, fun q hq => by
      rcases List.mem_cons.mp hq with rfl | hq
      · exact hp
      · exact hps q hq⟩
theorem ne_rows {P P2 : List Poly} {r r2 : Str} {w h w2 h2 : Nat} (e : lawRows P r w h = lawRows P2 r2 w2 h2) : bcmp .NotEq (rowsD P r w h) (rowsD P2 r2 w2 h2) = some false := by
  simp [bcmp, cNe, rowsD, strsOf_str, e]
theorem eq_rows {P P2 : List Poly} {r r2 : Str} {w h w2 h2 : Nat} (e : lawRows P r w h = lawRows P2 r2 w2 h2) : bcmp .Eq (rowsD P r w h) (rowsD P2 r2 w2 h2) = some true := by
  simp [bcmp, cEq, rowsD, strsOf_str, e]
theorem map_fst_false (P : List Poly) : (P.map fun p => (p, false)).map (·.1) = P := by rw [List.map_map]; exact List.map_id P
theorem okP_frame {l b w h : Int} (ok : okF l b w h) : okP (frameP l b w h) := by
  unfold okF at ok
  refine ⟨by simp [frameP], by simp [frameP], fun p hp => ?_⟩
  simp only [frameP, List.mem_cons, List.not_mem_nil, or_false] at hp
  rcases hp with rfl | rfl | rfl | rfl <;> dsimp only <;> omega
theorem okP_one {l b w h x y : Int} (ok : okF l b w h) (hi : inF l b w h x y) : okP (oneP l b w h x y) := by
  unfold okF at ok; unfold inF at hi
  refine ⟨by simp [oneP], by simp [oneP], fun p hp => ?_⟩
  simp only [oneP, List.mem_cons, List.not_mem_nil, or_false] at hp
  rcases hp with rfl | rfl | rfl | rfl <;> dsimp only <;> omega
theorem okP_other {l b w h x y : Int} (ok : okF l b w h) (hi : inF l b w h x y) : okP (otherP l b w h x y) := by
  unfold okF at ok; unfold inF at hi
  refine ⟨by simp [otherP], by simp [otherP], fun p hp => ?_⟩
  simp only [otherP, List.mem_cons, List.not_mem_nil, or_false] at hp
  rcases hp with rfl | rfl | rfl | rfl <;> dsimp only <;> omega

section
variable {c : Cx} {nd nu : Nat} {scope : Scope} {nm : List Str} {env : Env} {h₀ h h' : Heap} {P₀ P P' : PM} {G G' : Vars} {l : Addr} {m : Str → Option Value} {pl : Addr} {N n : Nat} {A : Around} {s : Shared} {Q : Flow → Shared → Prop}
theorem lp_asg {x : Str} {p pos : Pos} {e : Expr} {phi : Vars → Option D} {d : D} (i : Nat) (hx : nm[i]? = some x) (h : SE c nd nu scope nm e phi) (L : LP c scope nm env h₀ P₀ P G none l m s.heap pl N) (eo : EnvOK scope env) (V : VOK scope nm) (ao : AOK A nd nu) (ho : HOK c h₀) (hN : N ≤ 100000)
    (ev : phi G = some d) (hG : G.set i (some d) = G') (q : ∀ P' h' tk' m', LP c scope nm env h₀ P₀ P' G' none l m' h' pl N → Q .next { s with heap := h', toks := tk' }) (hs : swapsWith e (some (.Name x p)) pos.line env = pure false := by rfl) : wpAny (model PG c.w) A (exec (.Assign [.Name x p] e pos) env) Q NoE s :=
  lp_assign (nr_se h ev) L eo V ao ho hN i hx hs fun d' P' h' tk' m' hd L' => by subst hd hG; exact q P' h' tk' m' L'
theorem lp_ifno {t : Expr} {b : List Stmt} {pos : Pos} {tau : Vars → Option Bool} (h1 : ST c nd nu scope nm t tau) (L : LP c scope nm env h₀ P₀ P G none l m s.heap pl N) (eo : EnvOK scope env) (V : VOK scope nm) (ao : AOK A nd nu) (ho : HOK c h₀)
    (ev : tau G = some false) (q : ∀ P' h' tk' l' m', LP c scope nm env h₀ P₀ P' G none l' m' h' pl N → Q .next { s with heap := h', toks := tk' }) : wpAny (model PG c.w) A (exec (.If t b [] pos) env) Q NoE s :=
  lp_run (R := fun z => z = (G, none)) (z := (G, none)) (sx_if h1 sl_dead sl_nil) L eo V ao ho (gv_if false ev (gv_unit (gv_nil ⟨rfl, rfl⟩))) (by rintro _ P' h' tk' l' m' rfl L'; exact q P' h' tk' l' m' L')
theorem lp_own {x : Str} {p p2 pos : Pos} (i : Nat) (hx : nm[i]? = some x) (hl : scope.names.lookup x = some .local) (L : LP c scope nm env h₀ P₀ P G none l m s.heap pl N) (eo : EnvOK scope env) (V : VOK scope nm) (ao : AOK A nd nu) (ho : HOK c h₀) (hG : G.set i none = G')
    (q : ∀ P' h' tk' l' m', LP c scope nm env h₀ P₀ P' G' (some (i, [])) l' m' h' pl N → Q .next { s with heap := h', toks := tk' }) : wpAny (model PG c.w) A (exec (.Assign [.Name x p] (.List [] p2) pos) env) Q NoE s :=
  lp_run (R := fun z => z = (G', some (i, []))) (z := (G, none)) (sx_own i hx hl) L eo V ao ho (gv_seq (G', some (i, [])) (by rw [← hG]) (gv_nil ⟨rfl, rfl⟩)) (by rintro _ P' h' tk' l' m' rfl L'; exact q P' h' tk' l' m' L')
theorem lp_nat {x : Str} {p pos : Pos} {e : Expr} {lo hi : Int} (nr : NR c nd nu scope nm pl G e (fun d => ∃ r : Int, d = .int r ∧ lo ≤ r ∧ r ≤ hi) n) (L : LP c scope nm env h₀ P₀ P G none l m s.heap pl N) (eo : EnvOK scope env) (V : VOK scope nm) (ao : AOK A nd nu) (ho : HOK c h₀) (hN : N + n ≤ 100000) (i : Nat) (hx : nm[i]? = some x) (hlo : 0 ≤ lo)
    {F : Nat → Vars} (hG : ∀ r : Nat, G.set i (some (.int (r : Int))) = F r) (q : ∀ (r : Nat) P' h' tk' m', lo ≤ r → r ≤ hi → LP c scope nm env h₀ P₀ P' (F r) none l m' h' pl (N + n) → Q .next { s with heap := h', toks := tk' }) (hs : swapsWith e (some (.Name x p)) pos.line env = pure false := by rfl) :
    wpAny (model PG c.w) A (exec (.Assign [.Name x p] e pos) env) Q NoE s :=
  lp_assign nr L eo V ao ho hN i hx hs fun d P' h' tk' m' hd L' => by
    obtain ⟨r, rfl, h0, h1⟩ := hd
    obtain ⟨r, rfl⟩ : ∃ n : Nat, r = (n : Int) := ⟨r.toNat, by omega⟩
    exact q r P' h' tk' m' h0 h1 (hG r ▸ L')
theorem lp_two {elts : List Expr} {k : Nat} {tp pos : Pos} {x y : Str} {e : Expr} {lo hi : Int} (nr : NR c nd nu scope nm pl G e (fun d => ∃ a b, d = .tup [a, b] ∧ (∃ r, a = D.int r ∧ lo ≤ r ∧ r ≤ hi) ∧ (∃ r, b = D.int r ∧ lo ≤ r ∧ r ≤ hi)) n) (L : LP c scope nm env h₀ P₀ P G none l m s.heap pl N) (eo : EnvOK scope env) (V : VOK scope nm) (ao : AOK A nd nu) (ho : HOK c h₀) (hN : N + n ≤ 100000)
    (i j : Nat) (hx : nm[i]? = some x) (hy : nm[j]? = some y) {F : Int → Int → Vars} (hG : ∀ a b : Int, (G.set j (some (.int b))).set i (some (.int a)) = F a b)
    (q : ∀ (a b : Int) P' h' tk' m', lo ≤ a → a ≤ hi → lo ≤ b → b ≤ hi → LP c scope nm env h₀ P₀ P' (F a b) none l m' h' pl (N + n) → Q .next { s with heap := h', toks := tk' })
    (hs : ∀ env, swapsWithSole [.Tuple elts k tp] e pos.line env = pure false := by intro _; rfl) (hw : ∀ env : Env, env.scope = scope → swappedStores [.Tuple elts k tp] e env = pure (some [x, y]) := by intro env h; cases env; cases h; rfl) :
    wpAny (model PG c.w) A (exec (.Assign [.Tuple elts k tp] e pos) env) Q NoE s :=
  lp_swap nr L eo V ao ho hN i j hx hy (fun a b P' h' tk' m' sd L' => by
    obtain ⟨⟨a, rfl, a1, a2⟩, ⟨b, rfl, b1, b2⟩⟩ := sd
    exact q a b P' h' tk' m' a1 a2 b1 b2 (hG a b ▸ L')) hs hw
theorem lp_thaw' {i : Nat} {ds : List D} (L : LP c scope nm env h₀ P₀ P G (some (i, ds)) l m h pl N) (hG : G.set i (some (.lst ds)) = G') : ∃ P', LP c scope nm env h₀ P₀ P' G' none l m h pl N := by
  subst hG; exact lp_thaw (z := (G, some (i, ds))) L
end

theorem due_eval (P P2 : List Poly) (r r2 : Str) {i : Nat} (hi : i < 8) {G : Vars} (h20 : G[20]? = some (some (rowsD P r 8 8))) (h14 : G[14]? = some (some (rowsD P2 r2 8 8))) (h22 : G[22]? = some (some (.int (i : Int)))) :
    ((((compS (fun _ => rng1 (.int 8)) spN [20, 22, 14] (fun _ => some true) (fun G => ((((G[1]?.join.bind fun a => G[2]?.join.bind fun b => bidx a b).bind fun a => G[0]?.join.bind fun b => sidx a b).bind fun a => bcmp .Eq a (.str (Str.ofString "x"))).bind
        fun a => if a = true then ((G[3]?.join.bind fun a => G[2]?.join.bind fun b => bidx a b).bind fun a => G[0]?.join.bind fun b => sidx a b).bind fun a => bcmp .Eq a (.str (Str.ofString "x")) else some false).bind
        fun b => if b = true then some (D.str (Str.ofString "x")) else some (D.str (Str.ofString "."))) G).bind fun d => some [d]).bind fun ds => bJoin (D.str (Str.ofString "") :: ds))) =
    some (D.str (dueRow (((lawRows P r 8 8)[i]?).getD (Str.ofString "")) (((lawRows P2 r2 8 8)[i]?).getD (Str.ofString "")))) := by
  have hs := fun k (hk : k < 8) => f_sign P r i k hi hk
  have hs2 := fun k (hk : k < 8) => f_sign P2 r2 i k hi hk
  obtain ⟨ra, ha⟩ : ∃ ra, (lawRows P r 8 8)[i]? = some ra := let ⟨ra, _, ha, _⟩ := hs 0 (by decide); ⟨ra, ha⟩
  obtain ⟨rb, hb⟩ : ∃ rb, (lawRows P2 r2 8 8)[i]? = some rb := let ⟨rb, _, hb, _⟩ := hs2 0 (by decide); ⟨rb, hb⟩
  have sg : ∀ k : Nat, k < 8 → ∃ n, ra.cps[k]? = some n ∧ sidx (.str ra) (.int (k : Int)) = some (.str ⟨#[n]⟩) := fun k hk => by
    obtain ⟨ra', n, h1, h2⟩ := hs k hk
    cases ha.symm.trans h1
    exact ⟨n, h2, by simp [sidx, h2]; omega⟩
  have sg2 : ∀ k : Nat, k < 8 → ∃ n, rb.cps[k]? = some n ∧ sidx (.str rb) (.int (k : Int)) = some (.str ⟨#[n]⟩) := fun k hk => by
    obtain ⟨rb', n, h1, h2⟩ := hs2 k hk
    cases hb.symm.trans h1
    exact ⟨n, h2, by simp [sidx, h2]; omega⟩
  have hA : bidx (rowsD P r 8 8) (.int (i : Int)) = some (.str ra) := by
    simp only [rowsD, bidx]
    rw [bidxL_nat _ _ (by omega), List.getElem?_map, ha]; rfl
  have hB : bidx (rowsD P2 r2 8 8) (.int (i : Int)) = some (.str rb) := by
    simp only [rowsD, bidx]
    rw [bidxL_nat _ _ (by omega), List.getElem?_map, hb]; rfl
  clear hs hs2
  rw [compS_map (ds := (List.range 8).map fun (k : Nat) => D.int (k : Int)) (g := fun d => match d with | .int k => .str (litX (decide (ra.cps[k.toNat]? = some 120) && decide (rb.cps[k.toNat]? = some 120))) | _ => .none) rfl (by decide)]
  · have em : List.map (fun d => match d with | D.int k => D.str (litX (decide (ra.cps[k.toNat]? = some 120) && decide (rb.cps[k.toNat]? = some 120))) | _ => D.none) ((List.range 8).map fun (k : Nat) => D.int (k : Int)) = ((List.range 8).map fun k => litX (decide (ra.cps[k]? = some 120) && decide (rb.cps[k]? = some 120))).map D.str := by
      rw [List.map_map, List.map_map]; rfl
    have hall : ((List.range 8).map fun k => litX (decide (ra.cps[k]? = some 120) && decide (rb.cps[k]? = some 120))).all (fun y => decide (y.length ≤ 16)) = true := by
      rw [List.all_eq_true]
      intro x hx
      obtain ⟨k, _, rfl⟩ := List.mem_map.mp hx
      rw [litX_len]; rfl
    rw [em, ha, hb]
    dsimp only [Option.bind_some, Option.map_some, bJoin, Option.getD_some]
    rw [strsOf_str]
    dsimp only [Option.bind_some]
    rw [if_pos ⟨rfl, by simp⟩, if_pos hall]
    rfl
  · intro d hd
    obtain ⟨k, hk2, rfl⟩ := List.mem_map.mp hd
    have hk3 := List.mem_range.mp hk2
    dsimp only [compF, spN, Option.bind_some]
    rw [if_pos rfl]
    simp only [List.map_cons, List.map_nil, List.cons_append, List.nil_append, List.getElem?_cons_zero, List.getElem?_cons_succ, Option.join_some, Option.bind_some, h20, h22, h14, hA, hB]
    obtain ⟨n, h1, h2⟩ := sg k hk3
    obtain ⟨n2, h3, h4⟩ := sg2 k hk3
    rw [h2, h4]
    dsimp only [Option.bind_some, Int.toNat_natCast]
    by_cases q1 : (⟨#[n]⟩ : Str) = Str.ofString "x" <;> by_cases q2 : (⟨#[n2]⟩ : Str) = Str.ofString "x" <;> simp [bcmp, cEq, q1, q2, litX, h1, h3, ← one_x]
theorem comp_x {iphi : Vars → Option (List D)} {fr : List Nat} {G : Vars} {T : Str} (hi : iphi G = some (T.cps.toList.map fun m => D.str ⟨#[m]⟩)) (hl : T.cps.toList.length ≤ 1000) :
    compS iphi spN fr (fun G => G[0]?.join.bind fun a => bcmp .Eq a (.str (Str.ofString "x"))) (fun G => G[0]?.join) G = some (.lst ((T.cps.toList.filter (fun m => decide (m = 120))).map fun m => D.str ⟨#[m]⟩)) := by
  refine compS_L (f := fun d => match d with | .str x => some (if x = Str.ofString "x" then some (.str x) else none) | _ => none) hi (by rw [List.length_map]; exact hl) ?_ ?_
  · generalize T.cps.toList = L
    induction L with
    | nil => rfl
    | cons a r ih =>
      simp only [List.map_cons, compL, ih, Option.bind_some, Option.map_some, one_x]
      by_cases h : a = 120 <;> simp [h]
  · intro d hd r hr
    obtain ⟨m, _, rfl⟩ := List.mem_map.mp hd
    simp only at hr
    cases hr
    by_cases h : (⟨#[m]⟩ : Str) = Str.ofString "x" <;> simp [compF, spN, bcmp, cEq, h]

theorem law_con {c : Cx} {A : Around} {s : Shared} {P : PM} {xs : List Int} {sv : Value} {R : Result → Shared → Prop} (ao : AOK A 7 22) (hok : HOK c s.heap) (hp : PIn P s.heap) (kle : PLe (KPM c) P) (hsv : DH c.w P sv (.lst (xs.map D.int))) (hxl : xs.length ≤ 1000)
    (q : ∀ h' tk', s.heap.StaysIn h' → R (.ok (.ret (.bool true))) { s with heap := h', toks := tk' }) : codeAny (model PG c.w) A (.call (.ref 449) ⟨[sv], []⟩) R s := by
  refine' def_code (nd := 6) (nu := 19) (f := 449) (nm := ["script", "pool", "width", "height", "polygons", "turn", "path", "rule", "rows", "left", "low", "wide", "high", "plain", "whole_rows", "frame", "bend", "one", "other", "both", "large", "due", "row"]) (np := 1) (vs' := [sv]) (ds' := [.lst (xs.map D.int)]) ?ho ?hcd ?K ao hok hp kle ?hb ?hvs ?hlen ?h
  case ho => k_is
  case hcd => k_is
  case K => exact ⟨⟨by decide, by decide, by decide⟩, by decide, by decide, by decide, rfl, rfl, rfl⟩
  case hb => exact BindsTo.of_eq rfl
  case hvs => exact .one hsv
  case hlen => rfl
  case h =>
    intro env A' k0 tk0 m0 eo ao' hL F
    have V : VOK env.scope ["script", "pool", "width", "height", "polygons", "turn", "path", "rule", "rows", "left", "low", "wide", "high", "plain", "whole_rows", "frame", "bend", "one", "other", "both", "large", "due", "row"] := by rw [eo.sc]; exact ⟨by decide, by decide, by decide⟩
    rw [eo.sc] at V
    replace F : FS c _ ["script", "pool", "width", "height", "polygons", "turn", "path", "rule", "rows", "left", "low", "wide", "high", "plain", "whole_rows", "frame", "bend", "one", "other", "both", "large", "due", "row"] env s.heap P P [some (.lst (xs.map D.int)), none, none, none, none, none, none, none, none, none, none, none, none, none, none, none, none, none, none, none, none, none, none] none env.locals m0 ({ s with heap := k0, toks := tk0 } : Shared).heap := F
    refine wpAny_execs_cons (lp_box (s := { s with heap := k0, toks := tk0 }) F eo V ao' hok rfl rfl rfl rfl hxl (by decide) (by decide) fun pl P1 k1 tk1 m1 L1 => ?_)
    replace L1 : LP c _ ["script", "pool", "width", "height", "polygons", "turn", "path", "rule", "rows", "left", "low", "wide", "high", "plain", "whole_rows", "frame", "bend", "one", "other", "both", "large", "due", "row"] env s.heap P P1 [some (.lst (xs.map D.int)), some (.raw (.ref pl)), none, none, none, none, none, none, none, none, none, none, none, none, none, none, none, none, none, none, none, none, none] (none) env.locals m1 k1 pl 0 := L1
    -- width = 1 + _law_draw(pool, 5)
    refine wpAny_execs_cons (lp_nat (s := { s with heap := k1, toks := tk1 }) (nr_bin (S := fun d => ∃ r : Int, d = .int r ∧ 1 ≤ r ∧ r ≤ 5) (nr_se se_int rfl) (nr_draw (most := 5) 1 rfl rfl rfl se_int rfl (by decide) (by decide) (by decide)) (by rintro _ _ rfl ⟨r, rfl, h0, h1⟩; exact ⟨_, rfl, 1 + r, rfl, by omega, by omega⟩)) L1 eo V ao' hok (by decide) 2 rfl (by decide) (F := fun r => [some (.lst (xs.map D.int)), some (.raw (.ref pl)), some (.int (r : Int)), none, none, none, none, none, none, none, none, none, none, none, none, none, none, none, none, none, none, none, none]) (fun _ => rfl) fun wd P2 k2 tk2 m2 hwd1 hwd2 L2 => ?_)
    -- height = 1 + _law_draw(pool, 5)
    refine wpAny_execs_cons (lp_nat (s := { s with heap := k2, toks := tk2 }) (nr_bin (S := fun d => ∃ r : Int, d = .int r ∧ 1 ≤ r ∧ r ≤ 5) (nr_se se_int rfl) (nr_draw (most := 5) 1 rfl rfl rfl se_int rfl (by decide) (by decide) (by decide)) (by rintro _ _ rfl ⟨r, rfl, h0, h1⟩; exact ⟨_, rfl, 1 + r, rfl, by omega, by omega⟩)) L2 eo V ao' hok (by decide) 3 rfl (by decide) (F := fun r => [some (.lst (xs.map D.int)), some (.raw (.ref pl)), some (.int (wd : Int)), some (.int (r : Int)), none, none, none, none, none, none, none, none, none, none, none, none, none, none, none, none, none, none, none]) (fun _ => rfl) fun ht P3 k3 tk3 m3 hht1 hht2 L3 => ?_)
    -- polygons = []
    refine wpAny_execs_cons (lp_own (s := { s with heap := k3, toks := tk3 }) 4 rfl rfl (G' := [some (.lst (xs.map D.int)), some (.raw (.ref pl)), some (.int (wd : Int)), some (.int (ht : Int)), none, none, none, none, none, none, none, none, none, none, none, none, none, none, none, none, none, none, none]) L3 eo V ao' hok rfl fun P4 k4 tk4 l4 m4 L4 => ?_)
    -- for turn
    refine wpAny_execs_cons (lp_for (s := { s with heap := k4, toks := tk4 }) (lo := 1) (hi := 2) (n2 := 11) (Se := fun d => ∃ ps, d = polyD ps ∧ okP ps) 4 5 rfl rfl (by decide) rfl
      (nr_bin (S := fun d => ∃ r : Nat, d = .int (r : Int) ∧ 1 ≤ r ∧ r ≤ 2) (nr_se se_int rfl) (nr_draw (most := 2) 1 rfl rfl rfl se_int rfl (by decide) (by decide) (by decide)) (by rintro _ _ rfl ⟨r, rfl, h0, h1⟩; exact ⟨_, rfl, (1 + r).toNat, by rw [Int.toNat_of_nonneg (by omega)], by omega, by omega⟩))
      (fun u => nr_mono (nr_comp (lo := 3) (hi := 5) (n3 := 1) (ne := 2) (Se := fun d => ∃ p, d = encP p ∧ (-20 ≤ p.1 ∧ p.1 ≤ 20 ∧ -20 ≤ p.2 ∧ p.2 ≤ 20)) rfl
        (nr_bin (S := fun d => ∃ r : Nat, d = .int (r : Int) ∧ 3 ≤ r ∧ r ≤ 5) (nr_se se_int rfl) (nr_draw (most := 3) 1 rfl rfl rfl se_int rfl (by decide) (by decide) (by decide)) (by rintro _ _ rfl ⟨r, rfl, h0, h1⟩; exact ⟨_, rfl, (3 + r).toNat, by rw [Int.toNat_of_nonneg (by omega)], by omega, by omega⟩))
        (show CompOK _ _ _ _ [(Str.ofString "pool", 1)] from ⟨rfl, rfl, by decide, by decide, by decide, by decide, by decide, by decide⟩)
        (fun x => nr_mono (nr_tup (nr_bin (S := fun d => ∃ r : Int, d = .int r ∧ -2 ≤ r ∧ r ≤ 12) (nr_draw (most := 15) 1 rfl rfl rfl se_int rfl (by decide) (by decide) (by decide)) (nr_se se_int rfl) (by rintro _ _ ⟨r, rfl, h0, h1⟩ rfl; exact ⟨_, rfl, r - 2, rfl, by omega, by omega⟩)) (nr_bin (S := fun d => ∃ r : Int, d = .int r ∧ -2 ≤ r ∧ r ≤ 12) (nr_draw (most := 15) 1 rfl rfl rfl se_int rfl (by decide) (by decide) (by decide)) (nr_se se_int rfl) (by rintro _ _ ⟨r, rfl, h0, h1⟩ rfl; exact ⟨_, rfl, r - 2, rfl, by omega, by omega⟩))) (by rintro _ ⟨_, _, rfl, ⟨a, rfl, a1, a2⟩, ⟨b, rfl, b1, b2⟩⟩; exact ⟨(a, b), rfl, by dsimp only; omega⟩) (by decide)) rfl (by decide))
        (by rintro _ ⟨es, rfl, h1, h2, h3⟩; obtain ⟨ps, rfl, hps⟩ := all_enc h3; rw [List.length_map] at h1 h2; exact ⟨ps, rfl, h1, h2, hps⟩) (by decide))
      L4 eo V ao' hok (by decide) (by decide) (by decide) fun u ds P5 k5 tk5 m5 hds1 hds2 hall L5 => ?_)
    obtain ⟨PP, rfl, hPP⟩ := all_poly hall
    rw [List.length_map] at hds1 hds2
    obtain ⟨P6, L6⟩ := lp_thaw' (G' := [some (.lst (xs.map D.int)), some (.raw (.ref pl)), some (.int (wd : Int)), some (.int (ht : Int)), some (.lst (PP.map polyD)), some (.int u), none, none, none, none, none, none, none, none, none, none, none, none, none, none, none, none, none]) L5 rfl
    clear L5
    -- path = _law_path(polygons)
    refine wpAny_execs_cons (lp_asg (s := { s with heap := k5, toks := tk5 }) 6 rfl (se_call (law_path_ok).weaken rfl (fun _ => by k_is) (fun _ => by k_is) (sa_cons (se_var 4 rfl) sa_nil)) (G' := [some (.lst (xs.map D.int)), some (.raw (.ref pl)), some (.int (wd : Int)), some (.int (ht : Int)), some (.lst (PP.map polyD)), some (.int u), some (pathQ (PP.map fun p => (p, false))), none, none, none, none, none, none, none, none, none, none, none, none, none, none, none, none]) L6 eo V ao' hok (by decide) (by dsimp only [List.getElem?_cons_zero, List.getElem?_cons_succ, Option.join_some, Option.bind_some, Option.map_some]; exact f_path hPP (by omega)) rfl fun P7 k7 tk7 m7 L7 => ?_)
    -- rule = ['nonzero', 'evenodd'][_law_draw(pool, 2)]
    refine wpAny_execs_cons (lp_assign (s := { s with heap := k7, toks := tk7 }) (nr_idx (S := fun d => ∃ r : Str, d = .str r ∧ okRule r) (nr_se (d := .lst [.str NZ, .str EO]) (se_lst (sa_cons se_str (sa_cons se_str sa_nil))) rfl) (nr_draw (most := 2) 1 rfl rfl rfl se_int rfl (by decide) (by decide) (by decide)) (by rintro _ _ rfl ⟨r, rfl, h0, h1⟩; rcases (show r = 0 ∨ r = 1 by omega) with rfl | rfl; exact ⟨.str NZ, rfl, NZ, rfl, .inl rfl⟩; exact ⟨.str EO, rfl, EO, rfl, .inr rfl⟩)) L7 eo V ao' hok (by decide) 7 rfl rfl fun d8 P8 k8 tk8 m8 sd8 L8 => ?_)
    obtain ⟨rule, rfl, hrule⟩ := sd8
    replace L8 : LP c _ ["script", "pool", "width", "height", "polygons", "turn", "path", "rule", "rows", "left", "low", "wide", "high", "plain", "whole_rows", "frame", "bend", "one", "other", "both", "large", "due", "row"] env s.heap P P8 [some (.lst (xs.map D.int)), some (.raw (.ref pl)), some (.int (wd : Int)), some (.int (ht : Int)), some (.lst (PP.map polyD)), some (.int u), some (pathQ (PP.map fun p => (p, false))), some (.str rule), none, none, none, none, none, none, none, none, none, none, none, none, none, none, none] (none) l4 m8 k8 pl 26 := L8
    have hq1 : ∀ q ∈ PP.map (fun p => (p, false)), okP q.1 := fun q hq => by obtain ⟨p, hp, rfl⟩ := List.mem_map.mp hq; exact hPP p hp
    have fr1 := f_raster hq1 (by rw [List.length_map]; omega) hrule (w := wd) (h := ht) (by omega) (by omega)
    rw [map_fst_false] at fr1
    -- rows = raster(path, rule, width, height)
    refine wpAny_execs_cons (lp_asg (s := { s with heap := k8, toks := tk8 }) 8 rfl (se_call (raster_ok).weaken rfl (fun _ => by k_is) (fun _ => by k_is) (sa_cons (se_var 6 rfl) (sa_cons (se_var 7 rfl) (sa_cons (se_var 2 rfl) (sa_cons (se_var 3 rfl) sa_nil))))) (G' := [some (.lst (xs.map D.int)), some (.raw (.ref pl)), some (.int (wd : Int)), some (.int (ht : Int)), some (.lst (PP.map polyD)), some (.int u), some (pathQ (PP.map fun p => (p, false))), some (.str rule), some (rowsD PP rule wd ht), none, none, none, none, none, none, none, none, none, none, none, none, none, none]) L8 eo V ao' hok (by decide) (by dsimp only [List.getElem?_cons_zero, List.getElem?_cons_succ, Option.join_some, Option.bind_some, Option.map_some]; exact fr1) rfl fun P9 k9 tk9 m9 L9 => ?_)
    have fc1 := f_cells hPP (r := rule) (w := wd) (h := ht) (by omega) (by omega)
    -- if rows != _law_cells(polygons, rule, width, height):
    refine wpAny_execs_cons (lp_ifno (s := { s with heap := k9, toks := tk9 }) (st_cmp (se_var 8 rfl) (se_call (law_cells_ok).weaken rfl (fun _ => by k_is) (fun _ => by k_is) (sa_cons (se_var 4 rfl) (sa_cons (se_var 7 rfl) (sa_cons (se_var 2 rfl) (sa_cons (se_var 3 rfl) sa_nil)))))) L9 eo V ao' hok (by dsimp only [List.getElem?_cons_zero, List.getElem?_cons_succ, Option.join_some, Option.bind_some, Option.map_some]; rw [fc1]; exact ne_rows rfl) fun P10 k10 tk10 l10 m10 L10 => ?_)
    -- left, low = (_law_draw(pool, 4), _law_draw(pool, 4))
    refine wpAny_execs_cons (lp_two (s := { s with heap := k10, toks := tk10 }) (nr_mono (T := fun d => ∃ a b, d = .tup [a, b] ∧ (∃ r, a = .int r ∧ (0 : Int) ≤ r ∧ r ≤ 3) ∧ (∃ r, b = .int r ∧ (0 : Int) ≤ r ∧ r ≤ 3)) (nr_tup (nr_draw (most := 4) 1 rfl rfl rfl se_int rfl (by decide) (by decide) (by decide)) (nr_draw (most := 4) 1 rfl rfl rfl se_int rfl (by decide) (by decide) (by decide))) (by rintro _ ⟨_, _, rfl, ⟨a, rfl, a1, a2⟩, ⟨b, rfl, b1, b2⟩⟩; exact ⟨_, _, rfl, ⟨a, rfl, a1, by omega⟩, ⟨b, rfl, b1, by omega⟩⟩) (Nat.le_refl _)) L10 eo V ao' hok (by decide) 9 10 rfl rfl (F := fun a b => [some (.lst (xs.map D.int)), some (.raw (.ref pl)), some (.int (wd : Int)), some (.int (ht : Int)), some (.lst (PP.map polyD)), some (.int u), some (pathQ (PP.map fun p => (p, false))), some (.str rule), some (rowsD PP rule wd ht), some (.int a), some (.int b), none, none, none, none, none, none, none, none, none, none, none, none]) (fun _ _ => rfl) (fun lf lw P11 k11 tk11 m11 hlf1 hlf2 hlw1 hlw2 L11 => ?_))
    -- wide, high = (1 + _law_draw(pool, 3), 1 + _law_draw(pool, 3))
    refine wpAny_execs_cons (lp_two (s := { s with heap := k11, toks := tk11 }) (nr_mono (T := fun d => ∃ a b, d = .tup [a, b] ∧ (∃ r, a = .int r ∧ (1 : Int) ≤ r ∧ r ≤ 3) ∧ (∃ r, b = .int r ∧ (1 : Int) ≤ r ∧ r ≤ 3)) (nr_tup (nr_bin (S := fun d => ∃ r : Int, d = .int r ∧ 1 ≤ r ∧ r ≤ 3) (nr_se se_int rfl) (nr_draw (most := 3) 1 rfl rfl rfl se_int rfl (by decide) (by decide) (by decide)) (by rintro _ _ rfl ⟨r, rfl, h0, h1⟩; exact ⟨_, rfl, 1 + r, rfl, by omega, by omega⟩)) (nr_bin (S := fun d => ∃ r : Int, d = .int r ∧ 1 ≤ r ∧ r ≤ 3) (nr_se se_int rfl) (nr_draw (most := 3) 1 rfl rfl rfl se_int rfl (by decide) (by decide) (by decide)) (by rintro _ _ rfl ⟨r, rfl, h0, h1⟩; exact ⟨_, rfl, 1 + r, rfl, by omega, by omega⟩))) (by exact fun _ h => h) (Nat.le_refl _)) L11 eo V ao' hok (by decide) 11 12 rfl rfl (F := fun a b => [some (.lst (xs.map D.int)), some (.raw (.ref pl)), some (.int (wd : Int)), some (.int (ht : Int)), some (.lst (PP.map polyD)), some (.int u), some (pathQ (PP.map fun p => (p, false))), some (.str rule), some (rowsD PP rule wd ht), some (.int lf), some (.int lw), some (.int a), some (.int b), none, none, none, none, none, none, none, none, none, none]) (fun _ _ => rfl) (fun wi hi P12 k12 tk12 m12 hwi1 hwi2 hhi1 hhi2 L12 => ?_))
    have hF : okF lf lw wi hi := ⟨hlf1, hlf2, hlw1, hlw2, hwi1, hwi2, hhi1, hhi2⟩
    have frr : s_rectangle [.path (.tup []), .int lf, .int lw, .int wi, .int hi] = some (pathQ [(frameP lf lw wi hi, true)]) := by rw [← f_rect]; rfl
    -- plain = rectangle(Path(), left, low, wide, high)
    refine wpAny_execs_cons (lp_asg (s := { s with heap := k12, toks := tk12 }) 13 rfl (se_call (rectangle_ok).weaken rfl (fun _ => by k_is) (fun _ => by k_is) (sa_cons (se_call (rcon_path (nd := 0) (nu := 0)).weaken rfl (fun _ => by k_is) (fun _ => by k_is) sa_nil) (sa_cons (se_var 9 rfl) (sa_cons (se_var 10 rfl) (sa_cons (se_var 11 rfl) (sa_cons (se_var 12 rfl) sa_nil)))))) (G' := [some (.lst (xs.map D.int)), some (.raw (.ref pl)), some (.int (wd : Int)), some (.int (ht : Int)), some (.lst (PP.map polyD)), some (.int u), some (pathQ (PP.map fun p => (p, false))), some (.str rule), some (rowsD PP rule wd ht), some (.int lf), some (.int lw), some (.int wi), some (.int hi), some (pathQ [(frameP lf lw wi hi, true)]), none, none, none, none, none, none, none, none, none]) L12 eo V ao' hok (by decide) (by dsimp only [List.getElem?_cons_zero, List.getElem?_cons_succ, Option.join_some, Option.bind_some, Option.map_some, sPath]; exact frr) rfl fun P13 k13 tk13 m13 L13 => ?_)
    have hq2 : ∀ q ∈ [(frameP lf lw wi hi, true)], okP q.1 := fun q hq => by rw [List.mem_singleton.mp hq]; exact okP_frame hF
    have fr2 : s_raster [pathQ [(frameP lf lw wi hi, true)], .str rule, .int 8, .int 8] = some (rowsD [frameP lf lw wi hi] rule 8 8) := f_raster hq2 (by simp) hrule (w := 8) (h := 8) (by decide) (by decide)
    -- whole_rows = raster(plain, rule, 8, 8)
    refine wpAny_execs_cons (lp_asg (s := { s with heap := k13, toks := tk13 }) 14 rfl (se_call (raster_ok).weaken rfl (fun _ => by k_is) (fun _ => by k_is) (sa_cons (se_var 13 rfl) (sa_cons (se_var 7 rfl) (sa_cons se_int (sa_cons se_int sa_nil))))) (G' := [some (.lst (xs.map D.int)), some (.raw (.ref pl)), some (.int (wd : Int)), some (.int (ht : Int)), some (.lst (PP.map polyD)), some (.int u), some (pathQ (PP.map fun p => (p, false))), some (.str rule), some (rowsD PP rule wd ht), some (.int lf), some (.int lw), some (.int wi), some (.int hi), some (pathQ [(frameP lf lw wi hi, true)]), some (rowsD [frameP lf lw wi hi] rule 8 8), none, none, none, none, none, none, none, none]) L13 eo V ao' hok (by decide) (by dsimp only [List.getElem?_cons_zero, List.getElem?_cons_succ, Option.join_some, Option.bind_some, Option.map_some]; exact fr2) rfl fun P14 k14 tk14 m14 L14 => ?_)
    have fa := f_area hF
    have fct := f_count hF hrule
    have mw : mulOk wi hi := .inl (by omega)
    have m2w : mulOk 2 wi := .inl (by omega)
    have m2wh : mulOk (2 * wi) hi := .inl (by omega)
    obtain ⟨dl, hdl, hda⟩ := Option.bind_eq_some_iff.mp fa
    -- if filled_count(whole_rows) != wide * high or doubled_area(lines_of(plain)).compared(2 * w
    refine wpAny_execs_cons (lp_ifno (s := { s with heap := k14, toks := tk14 }) (st_or (st_cmp (se_call (filled_count_ok).weaken rfl (fun _ => by k_is) (fun _ => by k_is) (sa_cons (se_var 14 rfl) sa_nil)) (se_bin (se_var 11 rfl) (se_var 12 rfl))) (st_cmp (se_meth (dec_compared_ok).weaken (se_call (doubled_area_ok).weaken rfl (fun _ => by k_is) (fun _ => by k_is) (sa_cons (se_call (lines_of_ok).weaken rfl (fun _ => by k_is) (fun _ => by k_is) (sa_cons (se_var 13 rfl) sa_nil)) sa_nil)) (sa_cons (se_bin (se_bin se_int (se_var 11 rfl)) (se_var 12 rfl)) sa_nil) (fun _ => by k_is) (fun _ => by k_is) (fun _ => by k_is) (fun _ => by k_is) (fun _ _ _ _ _ => rfl) (fun _ => by k_is) (fun _ => ⟨_, rfl⟩)) se_int)) L14 eo V ao' hok (by dsimp only [List.getElem?_cons_zero, List.getElem?_cons_succ, Option.join_some, Option.bind_some, Option.map_some]; simp [fct, bop, bMul, mw, m2w, m2wh, bcmp, cNe, hdl, hda, s_dec_compared, whole]) fun P15 k15 tk15 l15 m15 L15 => ?_)
    have m2a : mulOk 2 lf := .inl (by omega)
    have m2b : mulOk 2 lw := .inl (by omega)
    have m2h : mulOk 2 hi := .inl (by omega)
    -- frame = [(2 * left, 2 * low), (2 * left + 2 * wide, 2 * low), (2 * left + 2 * wide, 2 * lo
    refine wpAny_execs_cons (lp_asg (s := { s with heap := k15, toks := tk15 }) 15 rfl (se_lst (sa_cons (se_tup (sa_cons (se_bin se_int (se_var 9 rfl)) (sa_cons (se_bin se_int (se_var 10 rfl)) sa_nil))) (sa_cons (se_tup (sa_cons (se_bin (se_bin se_int (se_var 9 rfl)) (se_bin se_int (se_var 11 rfl))) (sa_cons (se_bin se_int (se_var 10 rfl)) sa_nil))) (sa_cons (se_tup (sa_cons (se_bin (se_bin se_int (se_var 9 rfl)) (se_bin se_int (se_var 11 rfl))) (sa_cons (se_bin (se_bin se_int (se_var 10 rfl)) (se_bin se_int (se_var 12 rfl))) sa_nil))) (sa_cons (se_tup (sa_cons (se_bin se_int (se_var 9 rfl)) (sa_cons (se_bin (se_bin se_int (se_var 10 rfl)) (se_bin se_int (se_var 12 rfl))) sa_nil))) sa_nil))))) (G' := [some (.lst (xs.map D.int)), some (.raw (.ref pl)), some (.int (wd : Int)), some (.int (ht : Int)), some (.lst (PP.map polyD)), some (.int u), some (pathQ (PP.map fun p => (p, false))), some (.str rule), some (rowsD PP rule wd ht), some (.int lf), some (.int lw), some (.int wi), some (.int hi), some (pathQ [(frameP lf lw wi hi, true)]), some (rowsD [frameP lf lw wi hi] rule 8 8), some (polyD (frameP lf lw wi hi)), none, none, none, none, none, none, none]) L15 eo V ao' hok (by decide) (by dsimp only [List.getElem?_cons_zero, List.getElem?_cons_succ, Option.join_some, Option.bind_some, Option.map_some]; simp [bop, bMul, bAdd_i, m2a, m2b, m2w, m2h, polyD, frameP, encP]) rfl fun P16 k16 tk16 m16 L16 => ?_)
    have fc2 : s_law_cells [.lst [polyD (frameP lf lw wi hi)], .str NZ, .int 8, .int 8] = some (rowsD [frameP lf lw wi hi] NZ 8 8) := f_cells (P := [frameP lf lw wi hi]) (fun p hp => by rw [List.mem_singleton.mp hp]; exact okP_frame hF) (w := 8) (h := 8) (by decide) (by decide)
    have fru := ne_rows (f_rule hF hrule)
    unfold NZ at fc2 fru
    -- if whole_rows != _law_cells([frame], 'nonzero', 8, 8):
    refine wpAny_execs_cons (lp_ifno (s := { s with heap := k16, toks := tk16 }) (st_cmp (se_var 14 rfl) (se_call (law_cells_ok).weaken rfl (fun _ => by k_is) (fun _ => by k_is) (sa_cons (se_lst (sa_cons (se_var 15 rfl) sa_nil)) (sa_cons se_str (sa_cons se_int (sa_cons se_int sa_nil)))))) L16 eo V ao' hok (by dsimp only [List.getElem?_cons_zero, List.getElem?_cons_succ, Option.join_some, Option.bind_some, Option.map_some]; rw [if_pos (by simp)]; dsimp only [Option.bind_some, Option.map_some]; rw [fc2]; exact fru) fun P17 k17 tk17 l17 m17 L17 => ?_)
    -- bend = [(2 * left + _law_draw(pool, 2 * wide + 1), 2 * low + _law_draw(pool, 2 * high + 1)
    refine wpAny_execs_cons (lp_assign (s := { s with heap := k17, toks := tk17 }) (nr_lst1 (nr_tup (nr_bin (S := fun d => ∃ r : Int, d = .int r ∧ 2 * lf ≤ r ∧ r ≤ 2 * lf + 2 * wi) (nr_se (d := .int (2 * lf)) (se_bin se_int (se_var 9 rfl)) (by simp [bop, bMul, m2a])) (nr_draw (most := 2 * wi + 1) 1 rfl rfl rfl (se_bin (se_bin se_int (se_var 11 rfl)) se_int) (by simp [bop, bMul, bAdd_i, bAdd_s, bAdd_t, bAdd_l, m2w]) (by omega) (by decide) (by decide)) (by rintro _ _ rfl ⟨r, rfl, h0, h1⟩; exact ⟨_, rfl, 2 * lf + r, rfl, by omega, by omega⟩)) (nr_bin (S := fun d => ∃ r : Int, d = .int r ∧ 2 * lw ≤ r ∧ r ≤ 2 * lw + 2 * hi) (nr_se (d := .int (2 * lw)) (se_bin se_int (se_var 10 rfl)) (by simp [bop, bMul, m2b])) (nr_draw (most := 2 * hi + 1) 1 rfl rfl rfl (se_bin (se_bin se_int (se_var 12 rfl)) se_int) (by simp [bop, bMul, bAdd_i, bAdd_s, bAdd_t, bAdd_l, m2h]) (by omega) (by decide) (by decide)) (by rintro _ _ rfl ⟨r, rfl, h0, h1⟩; exact ⟨_, rfl, 2 * lw + r, rfl, by omega, by omega⟩)))) L17 eo V ao' hok (by decide) 16 rfl rfl fun d18 P18 k18 tk18 m18 sd18 L18 => ?_)
    obtain ⟨_, rfl, _, _, rfl, ⟨bx, rfl, hbx1, hbx2⟩, ⟨by_, rfl, hby1, hby2⟩⟩ := sd18
    replace L18 : LP c _ ["script", "pool", "width", "height", "polygons", "turn", "path", "rule", "rows", "left", "low", "wide", "high", "plain", "whole_rows", "frame", "bend", "one", "other", "both", "large", "due", "row"] env s.heap P P18 [some (.lst (xs.map D.int)), some (.raw (.ref pl)), some (.int (wd : Int)), some (.int (ht : Int)), some (.lst (PP.map polyD)), some (.int u), some (pathQ (PP.map fun p => (p, false))), some (.str rule), some (rowsD PP rule wd ht), some (.int lf), some (.int lw), some (.int wi), some (.int hi), some (pathQ [(frameP lf lw wi hi, true)]), some (rowsD [frameP lf lw wi hi] rule 8 8), some (polyD (frameP lf lw wi hi)), some (.lst [encP (bx, by_)]), none, none, none, none, none, none] (none) l17 m18 k18 pl 32 := L18
    have hI : inF lf lw wi hi bx by_ := ⟨hbx1, hbx2, hby1, hby2⟩
    have fp17 : s_law_path [.lst [polyD (oneP lf lw wi hi bx by_)]] = some (pathQ [(oneP lf lw wi hi bx by_, false)]) := f_path (P := [oneP lf lw wi hi bx by_]) (fun p hp => by rw [List.mem_singleton.mp hp]; exact okP_one hF hI) (by simp)
    have fr17 : s_raster [pathQ [(oneP lf lw wi hi bx by_, false)], .str EO, .int 8, .int 8] = some (rowsD [oneP lf lw wi hi bx by_] EO 8 8) := f_raster (Q := [(oneP lf lw wi hi bx by_, false)]) (fun q hq => by rw [List.mem_singleton.mp hq]; exact okP_one hF hI) (by simp) (.inr rfl) (w := 8) (h := 8) (by decide) (by decide)
    unfold EO at fr17
    simp only [polyD, oneP, otherP, List.map_cons, List.map_nil] at fp17
    -- one = raster(_law_path([[frame[0], frame[1]] + [frame[2]] + bend]), 'evenodd', 8, 8)
    refine wpAny_execs_cons (lp_asg (s := { s with heap := k18, toks := tk18 }) 17 rfl (se_call (raster_ok).weaken rfl (fun _ => by k_is) (fun _ => by k_is) (sa_cons (se_call (law_path_ok).weaken rfl (fun _ => by k_is) (fun _ => by k_is) (sa_cons (se_lst (sa_cons (se_bin (se_bin (se_lst (sa_cons (se_idx (se_var 15 rfl) se_int) (sa_cons (se_idx (se_var 15 rfl) se_int) sa_nil))) (se_lst (sa_cons (se_idx (se_var 15 rfl) se_int) sa_nil))) (se_var 16 rfl)) sa_nil)) sa_nil)) (sa_cons se_str (sa_cons se_int (sa_cons se_int sa_nil))))) (G' := [some (.lst (xs.map D.int)), some (.raw (.ref pl)), some (.int (wd : Int)), some (.int (ht : Int)), some (.lst (PP.map polyD)), some (.int u), some (pathQ (PP.map fun p => (p, false))), some (.str rule), some (rowsD PP rule wd ht), some (.int lf), some (.int lw), some (.int wi), some (.int hi), some (pathQ [(frameP lf lw wi hi, true)]), some (rowsD [frameP lf lw wi hi] rule 8 8), some (polyD (frameP lf lw wi hi)), some (.lst [encP (bx, by_)]), some (rowsD [oneP lf lw wi hi bx by_] EO 8 8), none, none, none, none, none]) L18 eo V ao' hok (by decide) (by dsimp only [List.getElem?_cons_zero, List.getElem?_cons_succ, Option.join_some, Option.bind_some, Option.map_some]; simp [polyD, frameP, bidx, bidxL_0, bidxL_1, bidxL_2, bidxL_3, bop, bAdd_l]; rw [fp17]; exact fr17) rfl fun P19 k19 tk19 m19 L19 => ?_)
    have fp18 : s_law_path [.lst [polyD (otherP lf lw wi hi bx by_)]] = some (pathQ [(otherP lf lw wi hi bx by_, false)]) := f_path (P := [otherP lf lw wi hi bx by_]) (fun p hp => by rw [List.mem_singleton.mp hp]; exact okP_other hF hI) (by simp)
    have fr18 : s_raster [pathQ [(otherP lf lw wi hi bx by_, false)], .str EO, .int 8, .int 8] = some (rowsD [otherP lf lw wi hi bx by_] EO 8 8) := f_raster (Q := [(otherP lf lw wi hi bx by_, false)]) (fun q hq => by rw [List.mem_singleton.mp hq]; exact okP_other hF hI) (by simp) (.inr rfl) (w := 8) (h := 8) (by decide) (by decide)
    unfold EO at fr18
    simp only [polyD, oneP, otherP, List.map_cons, List.map_nil] at fp18
    -- other = raster(_law_path([[frame[0]] + bend + [frame[2], frame[3]]]), 'evenodd', 8, 8)
    refine wpAny_execs_cons (lp_asg (s := { s with heap := k19, toks := tk19 }) 18 rfl (se_call (raster_ok).weaken rfl (fun _ => by k_is) (fun _ => by k_is) (sa_cons (se_call (law_path_ok).weaken rfl (fun _ => by k_is) (fun _ => by k_is) (sa_cons (se_lst (sa_cons (se_bin (se_bin (se_lst (sa_cons (se_idx (se_var 15 rfl) se_int) sa_nil)) (se_var 16 rfl)) (se_lst (sa_cons (se_idx (se_var 15 rfl) se_int) (sa_cons (se_idx (se_var 15 rfl) se_int) sa_nil)))) sa_nil)) sa_nil)) (sa_cons se_str (sa_cons se_int (sa_cons se_int sa_nil))))) (G' := [some (.lst (xs.map D.int)), some (.raw (.ref pl)), some (.int (wd : Int)), some (.int (ht : Int)), some (.lst (PP.map polyD)), some (.int u), some (pathQ (PP.map fun p => (p, false))), some (.str rule), some (rowsD PP rule wd ht), some (.int lf), some (.int lw), some (.int wi), some (.int hi), some (pathQ [(frameP lf lw wi hi, true)]), some (rowsD [frameP lf lw wi hi] rule 8 8), some (polyD (frameP lf lw wi hi)), some (.lst [encP (bx, by_)]), some (rowsD [oneP lf lw wi hi bx by_] EO 8 8), some (rowsD [otherP lf lw wi hi bx by_] EO 8 8), none, none, none, none]) L19 eo V ao' hok (by decide) (by dsimp only [List.getElem?_cons_zero, List.getElem?_cons_succ, Option.join_some, Option.bind_some, Option.map_some]; simp [polyD, frameP, bidx, bidxL_0, bidxL_1, bidxL_2, bidxL_3, bop, bAdd_l]; rw [fp18]; exact fr18) rfl fun P20 k20 tk20 m20 L20 => ?_)
    obtain ⟨both, ci, cj, hb1, hb2, hb3, hb4, hb5⟩ := f_bend hF hI
    -- both = met_rows(one, other)
    refine wpAny_execs_cons (lp_asg (s := { s with heap := k20, toks := tk20 }) 19 rfl (se_call (met_rows_ok).weaken rfl (fun _ => by k_is) (fun _ => by k_is) (sa_cons (se_var 17 rfl) (sa_cons (se_var 18 rfl) sa_nil))) (G' := [some (.lst (xs.map D.int)), some (.raw (.ref pl)), some (.int (wd : Int)), some (.int (ht : Int)), some (.lst (PP.map polyD)), some (.int u), some (pathQ (PP.map fun p => (p, false))), some (.str rule), some (rowsD PP rule wd ht), some (.int lf), some (.int lw), some (.int wi), some (.int hi), some (pathQ [(frameP lf lw wi hi, true)]), some (rowsD [frameP lf lw wi hi] rule 8 8), some (polyD (frameP lf lw wi hi)), some (.lst [encP (bx, by_)]), some (rowsD [oneP lf lw wi hi bx by_] EO 8 8), some (rowsD [otherP lf lw wi hi bx by_] EO 8 8), some (both), none, none, none]) L20 eo V ao' hok (by decide) (by dsimp only [List.getElem?_cons_zero, List.getElem?_cons_succ, Option.join_some, Option.bind_some, Option.map_some]; exact hb1) rfl fun P21 k21 tk21 m21 L21 => ?_)
    -- if filled_count(both) != 0 or filled_count(one) + filled_count(other) != wide * high:
    refine wpAny_execs_cons (lp_ifno (s := { s with heap := k21, toks := tk21 }) (st_or (st_cmp (se_call (filled_count_ok).weaken rfl (fun _ => by k_is) (fun _ => by k_is) (sa_cons (se_var 19 rfl) sa_nil)) se_int) (st_cmp (se_bin (se_call (filled_count_ok).weaken rfl (fun _ => by k_is) (fun _ => by k_is) (sa_cons (se_var 17 rfl) sa_nil)) (se_call (filled_count_ok).weaken rfl (fun _ => by k_is) (fun _ => by k_is) (sa_cons (se_var 18 rfl) sa_nil))) (se_bin (se_var 11 rfl) (se_var 12 rfl)))) L21 eo V ao' hok (by dsimp only [List.getElem?_cons_zero, List.getElem?_cons_succ, Option.join_some, Option.bind_some, Option.map_some]; simp [hb2, hb3, hb4, bop, bAdd_i, bAdd_s, bAdd_t, bAdd_l, bMul, mw, bcmp, cNe, hb5]) fun P22 k22 tk22 l22 m22 L22 => ?_)
    have fc3 : s_law_cells [.lst (PP.map polyD), .str rule, .int 8, .int 8] = some (rowsD PP rule 8 8) := f_cells hPP (r := rule) (w := 8) (h := 8) (by decide) (by decide)
    -- large = _law_cells(polygons, rule, 8, 8)
    refine wpAny_execs_cons (lp_asg (s := { s with heap := k22, toks := tk22 }) 20 rfl (se_call (law_cells_ok).weaken rfl (fun _ => by k_is) (fun _ => by k_is) (sa_cons (se_var 4 rfl) (sa_cons (se_var 7 rfl) (sa_cons se_int (sa_cons se_int sa_nil))))) (G' := [some (.lst (xs.map D.int)), some (.raw (.ref pl)), some (.int (wd : Int)), some (.int (ht : Int)), some (.lst (PP.map polyD)), some (.int u), some (pathQ (PP.map fun p => (p, false))), some (.str rule), some (rowsD PP rule wd ht), some (.int lf), some (.int lw), some (.int wi), some (.int hi), some (pathQ [(frameP lf lw wi hi, true)]), some (rowsD [frameP lf lw wi hi] rule 8 8), some (polyD (frameP lf lw wi hi)), some (.lst [encP (bx, by_)]), some (rowsD [oneP lf lw wi hi bx by_] EO 8 8), some (rowsD [otherP lf lw wi hi bx by_] EO 8 8), some (both), some (rowsD PP rule 8 8), none, none]) L22 eo V ao' hok (by decide) (by dsimp only [List.getElem?_cons_zero, List.getElem?_cons_succ, Option.join_some, Option.bind_some, Option.map_some]; exact fc3) rfl fun P23 k23 tk23 m23 L23 => ?_)
    -- due = []
    refine wpAny_execs_cons (lp_own (s := { s with heap := k23, toks := tk23 }) 21 rfl rfl (G' := [some (.lst (xs.map D.int)), some (.raw (.ref pl)), some (.int (wd : Int)), some (.int (ht : Int)), some (.lst (PP.map polyD)), some (.int u), some (pathQ (PP.map fun p => (p, false))), some (.str rule), some (rowsD PP rule wd ht), some (.int lf), some (.int lw), some (.int wi), some (.int hi), some (pathQ [(frameP lf lw wi hi, true)]), some (rowsD [frameP lf lw wi hi] rule 8 8), some (polyD (frameP lf lw wi hi)), some (.lst [encP (bx, by_)]), some (rowsD [oneP lf lw wi hi bx by_] EO 8 8), some (rowsD [otherP lf lw wi hi bx by_] EO 8 8), some (both), some (rowsD PP rule 8 8), none, none]) L23 eo V ao' hok rfl fun P24 k24 tk24 l24 m24 L24 => ?_)
    -- for row
    refine wpAny_execs_cons (lp_run (s := { s with heap := k24, toks := tk24 }) (z := ([some (.lst (xs.map D.int)), some (.raw (.ref pl)), some (.int (wd : Int)), some (.int (ht : Int)), some (.lst (PP.map polyD)), some (.int u), some (pathQ (PP.map fun p => (p, false))), some (.str rule), some (rowsD PP rule wd ht), some (.int lf), some (.int lw), some (.int wi), some (.int hi), some (pathQ [(frameP lf lw wi hi, true)]), some (rowsD [frameP lf lw wi hi] rule 8 8), some (polyD (frameP lf lw wi hi)), some (.lst [encP (bx, by_)]), some (rowsD [oneP lf lw wi hi bx by_] EO 8 8), some (rowsD [otherP lf lw wi hi bx by_] EO 8 8), some (both), some (rowsD PP rule 8 8), none, none], some (21, []))) (R := fun z => ∃ u22, z = ([some (.lst (xs.map D.int)), some (.raw (.ref pl)), some (.int (wd : Int)), some (.int (ht : Int)), some (.lst (PP.map polyD)), some (.int u), some (pathQ (PP.map fun p => (p, false))), some (.str rule), some (rowsD PP rule wd ht), some (.int lf), some (.int lw), some (.int wi), some (.int hi), some (pathQ [(frameP lf lw wi hi, true)]), some (rowsD [frameP lf lw wi hi] rule 8 8), some (polyD (frameP lf lw wi hi)), some (.lst [encP (bx, by_)]), some (rowsD [oneP lf lw wi hi bx by_] EO 8 8), some (rowsD [otherP lf lw wi hi bx by_] EO 8 8), some (both), some (rowsD PP rule 8 8), none, u22], some (21, (dueRows (lawRows PP rule 8 8) (lawRows [frameP lf lw wi hi] rule 8 8)).map D.str))) (sx_for (tgt_name 22 rfl) (si_range1 rfl se_int) (sl_cons (sx_append 21 rfl (se_smeth join_ok se_str (sa_cons (se_comp (SI.g (si_range1 rfl se_int)) ctgt_name (show CompOK _ _ _ _ [(Str.ofString "large", 20), (Str.ofString "row", 22), (Str.ofString "whole_rows", 14)] from ⟨rfl, rfl, by decide, by decide, by decide, by decide, by decide, by decide⟩) sts_nil (se_ife (st_and (st_cmp (se_sidx (se_idx (se_var 1 rfl) (se_var 2 rfl)) (se_var 0 rfl)) se_str) (st_cmp (se_sidx (se_idx (se_var 3 rfl) (se_var 2 rfl)) (se_var 0 rfl)) se_str)) se_str se_str)) sa_nil) (fun _ _ _ _ _ _ _ _ h => GM.join h) (fun _ => ⟨_, rfl⟩)))
      sl_nil)) L24 eo V ao' hok ?_ ?_)
    · refine gv_for (ds := (List.range 8).map fun (k : Nat) => D.int (k : Int)) rfl (fun pre z => ∃ u22, z = ([some (.lst (xs.map D.int)), some (.raw (.ref pl)), some (.int (wd : Int)), some (.int (ht : Int)), some (.lst (PP.map polyD)), some (.int u), some (pathQ (PP.map fun p => (p, false))), some (.str rule), some (rowsD PP rule wd ht), some (.int lf), some (.int lw), some (.int wi), some (.int hi), some (pathQ [(frameP lf lw wi hi, true)]), some (rowsD [frameP lf lw wi hi] rule 8 8), some (polyD (frameP lf lw wi hi)), some (.lst [encP (bx, by_)]), some (rowsD [oneP lf lw wi hi bx by_] EO 8 8), some (rowsD [otherP lf lw wi hi bx by_] EO 8 8), some (both), some (rowsD PP rule 8 8), none, u22], some (21, (((List.range pre.length).map fun k => dueRow (((lawRows PP rule 8 8)[k]?).getD (Str.ofString "")) (((lawRows [frameP lf lw wi hi] rule 8 8)[k]?).getD (Str.ofString ""))).map D.str)))) ⟨none, rfl⟩ ?_ ?_
      · rintro p d q' e z ⟨u22, rfl⟩
        refine ⟨_, rfl, ?_⟩
        obtain ⟨rfl, hk⟩ := range_at e
        exact gv_seq _ (appS_ok (due_eval PP [frameP lf lw wi hi] rule rule hk rfl rfl rfl) (by simp; omega)) (gv_nil ⟨rfl, some (.int (p.length : Int)), by simp [List.range_succ]⟩)
      · rintro z' ⟨u22, rfl⟩
        exact gv_nil ⟨rfl, u22, rfl⟩
    rintro _ P25 k25 tk25 l25 m25 ⟨u22, rfl⟩ L25
    obtain ⟨P26, L26⟩ := lp_thaw' (G' := [some (.lst (xs.map D.int)), some (.raw (.ref pl)), some (.int (wd : Int)), some (.int (ht : Int)), some (.lst (PP.map polyD)), some (.int u), some (pathQ (PP.map fun p => (p, false))), some (.str rule), some (rowsD PP rule wd ht), some (.int lf), some (.int lw), some (.int wi), some (.int hi), some (pathQ [(frameP lf lw wi hi, true)]), some (rowsD [frameP lf lw wi hi] rule 8 8), some (polyD (frameP lf lw wi hi)), some (.lst [encP (bx, by_)]), some (rowsD [oneP lf lw wi hi bx by_] EO 8 8), some (rowsD [otherP lf lw wi hi bx by_] EO 8 8), some (both), some (rowsD PP rule 8 8), some (.lst ((dueRows (lawRows PP rule 8 8) (lawRows [frameP lf lw wi hi] rule 8 8)).map D.str)), u22]) L25 rfl
    clear L25
    have fd := f_due (P := PP) (P2 := [frameP lf lw wi hi]) (r := rule) (r2 := rule)
    obtain ⟨dn, hdn1, hdn2, hdn3, hdn4⟩ := f_dcount (lawRows PP rule 8 8) (lawRows [frameP lf lw wi hi] rule 8 8)
    have hd21 : ((dueRows (lawRows PP rule 8 8) (lawRows [frameP lf lw wi hi] rule 8 8)).map D.str).length ≤ 1000 := by simp [dueRows]
    have hall21 : (dueRows (lawRows PP rule 8 8) (lawRows [frameP lf lw wi hi] rule 8 8)).all (fun y => decide (y.length ≤ 16)) = true := List.all_eq_true.mpr fun x hx => by simpa using hdn2 x hx
    generalize hDU : dueRows (lawRows PP rule 8 8) (lawRows [frameP lf lw wi hi] rule 8 8) = DU at *
    -- if met_rows(large, whole_rows) != due or ...
    have hjoin : bJoin [.str (Str.ofString ""), .lst (DU.map D.str)] = some (.str (Txt.join (Str.ofString "") DU)) := by
      have hd21' : (DU.map D.str).length ≤ 1000 := hd21
      simp only [bJoin, strsOf_str]
      rw [if_pos ⟨trivial, hd21'⟩]
      simp only [Option.bind_some, hall21, if_true]
    refine wpAny_execs_cons (lp_ifno (s := { s with heap := k25, toks := tk25 }) (st_or (st_cmp (se_call (met_rows_ok).weaken rfl (fun _ => by k_is) (fun _ => by k_is) (sa_cons (se_var 20 rfl) (sa_cons (se_var 14 rfl) sa_nil))) (se_var 21 rfl)) (st_cmp (se_call (filled_count_ok).weaken rfl (fun _ => by k_is) (fun _ => by k_is) (sa_cons (se_var 21 rfl) sa_nil)) (se_bfun len_ok rfl (fun _ => by k_is) boot_len (by decide) (sa_cons (se_comp (SI.g (si_str (se_smeth join_ok se_str (sa_cons (se_var 21 rfl) sa_nil) (fun _ _ _ _ _ _ _ _ h => GM.join h) (fun _ => ⟨_, rfl⟩)))) ctgt_name (show CompOK _ _ _ _ [] from ⟨rfl, rfl, by decide, by decide, by decide, by decide, by decide, by decide⟩) (sts_one (st_cmp (se_var 0 rfl) se_str)) (se_var 0 rfl)) sa_nil)))) L26 eo V ao' hok ?_ fun P27 k27 tk27 l27 m27 L27 => ?_)
    · have hdn5 : ((Txt.join (Str.ofString "") DU).cps.toList.filter (fun m => decide (m = 120))).length ≤ 1000 := Nat.le_trans (List.length_filter_le _ _) hdn4
      dsimp only [List.getElem?_cons_zero, List.getElem?_cons_succ, Option.join_some, Option.bind_some, Option.map_some]
      rw [comp_x (T := Txt.join (Str.ofString "") DU) (by dsimp only [List.getElem?_cons_zero, List.getElem?_cons_succ, Option.join_some, Option.bind_some, Option.map_some]; rw [hjoin]; rfl) hdn4, fd, hdn1]
      rw [hdn3] at hdn5
      dsimp only [Option.bind_some, bcmp, cNe, strsOf_str]
      rw [bLen_l, List.length_map, hdn3, if_pos hdn5]
      simp [strsOf_str]
    -- return
    have hjp : s_joined_paths [pathQ (PP.map fun p => (p, false)), pathQ [(frameP lf lw wi hi, true)]] = some (pathQ ((PP.map fun p => (p, false)) ++ [(frameP lf lw wi hi, true)])) := by
      unfold s_joined_paths pathQ
      dsimp only
      rw [if_pos (by simp; omega), List.map_append]
    have hq3 : ∀ q ∈ (PP.map fun p => (p, false)) ++ [(frameP lf lw wi hi, true)], okP q.1 := fun q hq => by
      rcases List.mem_append.mp hq with h | h
      · exact hq1 q h
      · exact hq2 q h
    have fr3 := f_raster hq3 (by simp; omega) (r := EO) (.inr rfl) (w := wd) (h := ht) (by omega) (by omega)
    rw [List.map_append, map_fst_false] at fr3
    have fc4 := f_cells (P := PP ++ [frameP lf lw wi hi]) (fun p hp => by
      rcases List.mem_append.mp hp with h | h
      · exact hPP p h
      · rw [List.mem_singleton.mp h]; exact okP_frame hF) (r := EO) (w := wd) (h := ht) (by omega) (by omega)
    rw [List.map_append] at fc4
    have hfin := eq_rows (P := PP ++ [frameP lf lw wi hi]) (P2 := PP ++ [frameP lf lw wi hi]) (r := EO) (r2 := EO) (w := wd) (h := ht) (w2 := wd) (h2 := ht) rfl
    have hpl2 : PP.length + 1 ≤ 1000 := by omega
    unfold EO at fr3 fc4 hfin
    refine wpAny_execs_cons (((sx_ret (se_cmp (se_call (raster_ok).weaken rfl (fun _ => by k_is) (fun _ => by k_is) (sa_cons (se_call (joined_paths_ok).weaken rfl (fun _ => by k_is) (fun _ => by k_is) (sa_cons (se_var 6 rfl) (sa_cons (se_var 13 rfl) sa_nil))) (sa_cons se_str (sa_cons (se_var 2 rfl) (sa_cons (se_var 3 rfl) sa_nil))))) (se_call (law_cells_ok).weaken rfl (fun _ => by k_is) (fun _ => by k_is) (sa_cons (se_bin (se_var 4 rfl) (se_lst (sa_cons (se_var 15 rfl) sa_nil))) (sa_cons se_str (sa_cons (se_var 2 rfl) (sa_cons (se_var 3 rfl) sa_nil))))))) : SX c 6 19 _ ["script", "pool", "width", "height", "polygons", "turn", "path", "rule", "rows", "left", "low", "wide", "high", "plain", "whole_rows", "frame", "bend", "one", "other", "both", "large", "due", "row"] _ _) env A' { s with heap := k27, toks := tk27 } s.heap P P27 ([some (.lst (xs.map D.int)), some (.raw (.ref pl)), some (.int (wd : Int)), some (.int (ht : Int)), some (.lst (PP.map polyD)), some (.int u), some (pathQ (PP.map fun p => (p, false))), some (.str rule), some (rowsD PP rule wd ht), some (.int lf), some (.int lw), some (.int wi), some (.int hi), some (pathQ [(frameP lf lw wi hi, true)]), some (rowsD [frameP lf lw wi hi] rule 8 8), some (polyD (frameP lf lw wi hi)), some (.lst [encP (bx, by_)]), some (rowsD [oneP lf lw wi hi bx by_] EO 8 8), some (rowsD [otherP lf lw wi hi bx by_] EO 8 8), some (both), some (rowsD PP rule 8 8), some (.lst (DU.map D.str)), u22], none) l27 m27 ([some (.lst (xs.map D.int)), some (.raw (.ref pl)), some (.int (wd : Int)), some (.int (ht : Int)), some (.lst (PP.map polyD)), some (.int u), some (pathQ (PP.map fun p => (p, false))), some (.str rule), some (rowsD PP rule wd ht), some (.int lf), some (.int lw), some (.int wi), some (.int hi), some (pathQ [(frameP lf lw wi hi, true)]), some (rowsD [frameP lf lw wi hi] rule 8 8), some (polyD (frameP lf lw wi hi)), some (.lst [encP (bx, by_)]), some (rowsD [oneP lf lw wi hi bx by_] EO 8 8), some (rowsD [otherP lf lw wi hi bx by_] EO 8 8), some (both), some (rowsD PP rule 8 8), some (.lst (DU.map D.str)), u22], none) (some (.bool true)) _ eo V ao' hok L27.toF ?_ fun fl P' h' tk' l' m' F' O' fi => ?_)
    · simp only [List.map_cons, List.map_nil] at fr3 fc4 hfin
      simp [thaw, hjp, fr3, bop, bAdd_i, bAdd_s, bAdd_t, bAdd_l, hpl2, fc4, hfin]
    · obtain ⟨v, rfl, hv⟩ := fi
      have := hv.bool_inv; subst this
      exact q h' tk' F'.stay
end Mine
namespace Mine
open PySem PySem.W PySem.Calls PySem.SeqAt PyProof.Rows
theorem dh_ints {w : World} {P : PM} : ∀ {vs : List Value} {xs : List Int}, IntsAre vs xs → DHs w P vs (xs.map D.int)
  | _, _, .nil => .nil
  | _, _, .cons n t h => .cons (.int n t) (dh_ints h)
theorem law_top {c : Cx} {A : Around} {s : Shared} {l : Addr} {vs : List Value} {xs : List Int} {R : Result → Shared → Prop} (ao : AOK A 7 22) (hok : HOK c s.heap) (hL : s.heap.IsList l vs.toArray) (hI : IntsAre vs xs) (hxl : xs.length ≤ 1000)
    (q : ∀ h' tk', s.heap.StaysIn h' → R (.ok (.ret (.bool true))) { s with heap := h', toks := tk' }) : codeAny (model PG c.w) A (.call (.ref 449) ⟨[.ref l], []⟩) R s := by
  obtain ⟨o, e, hc, n, hd⟩ := hL
  refine law_con (P := (KPM c).put l o) ao hok (fun b o' e' => ?_) (fun b o' e' => ?_) (.lst (PM.put_self _ _ _) hc hd (dh_ints hI)) hxl q
  · unfold PM.put at e'
    by_cases r : b = l
    · subst r; rw [if_pos rfl] at e'; rw [← e']; exact e
    · rw [if_neg r] at e'; exact hok.X b o' e'
  · unfold PM.put
    by_cases r : b = l
    · subst r
      have := hok.X b o' e'
      rw [this] at e
      cases e
      rw [if_pos rfl]
    · rw [if_neg r]; exact e'
end Mine
namespace Mine
open PySem PySem.W PyProof.Rows
noncomputable def oddsOf : List Obj → List Obj
  | _ :: b :: r => b :: oddsOf r
  | _ => []
noncomputable def evensOf : List Obj → List Obj
  | a :: _ :: r => a :: evensOf r
  | [a] => [a]
  | [] => []
noncomputable def mkT : Nat → List Obj → BT
  | n + 1, a :: r => .node a (mkT n (evensOf r)) (mkT n (oddsOf r))
  | _, _ => .nil
noncomputable def obs (P : Params) : List Obj := boot_o_0 P :: boot_o_1 P :: h2 P :: h3 P :: boot_o_4 P :: boot_o_5 P :: boot_o_6 P :: boot_o_7 P :: boot_o_8 P :: boot_o_9 P :: boot_o_10 P :: emT :: h12 P :: h13 P :: h14 P :: emT :: emF :: h17 P :: emT :: h19 P :: h20 P :: h21 P :: h22 P :: h23 P :: h24 P :: emT :: h26 P :: h27 P :: h28 P :: h29 P :: emT :: emF :: h32 P :: emT :: h34 P :: h35 P :: h36 P :: emT :: emF :: h39 P :: emT :: h41 P :: h42 P :: h43 P :: h44 P :: h45 P :: h46 P :: h47 P :: h48 P :: h49 P :: h50 P :: h51 P :: h52 P :: emT :: emF :: h55 P :: h56 P :: emT :: h58 P :: h59 P :: h60 P :: h61 P :: emT :: h63 P :: h64 P :: emT :: h66 P :: h67 P :: h68 P :: emT :: emF :: h71 P :: emT :: h73 P :: h74 P :: h75 P :: emT :: emF :: h78 P :: emT :: h80 P :: h81 P :: h82 P :: emT :: emF :: h85 P :: emT :: h87 P :: h88 P :: h89 P :: emT :: emF :: h92 P :: emT :: h94 P :: h95 P :: h96 P :: emT :: emF :: h99 P :: emT :: h101 P :: h102 P :: h103 P :: emT :: emF :: h106 P :: emT :: h108 P :: h109 P :: h110 P :: emT :: emF :: h113 P :: emT :: h115 P :: h116 P :: h117 P :: emT :: emF :: h120 P :: emT :: h122 P :: h123 P :: h124 P :: emT :: emF :: h127 P :: emT :: h129 P :: h130 P :: h131 P :: emT :: emF :: h134 P :: emT :: h136 P :: h137 P :: h138 P :: emT :: emF :: h141 P :: emT :: h143 P :: h144 P :: h145 P :: emT :: emF :: h148 P :: emT :: h150 P :: h151 P :: h152 P :: h153 P :: h154 P :: h155 P :: h156 P :: h157 P :: h158 P :: h159 P :: emT :: emF :: h162 P :: emT :: h164 P :: h165 P :: h166 P :: emT :: emF :: h169 P :: emT :: h171 P :: h172 P :: h173 P :: emT :: emF :: h176 P :: emT :: h178 P :: h179 P :: h180 P :: emT :: emF :: h183 P :: emT :: h185 P :: h186 P :: h187 P :: emT :: emF :: h190 P :: emT :: h192 P :: h193 P :: h194 P :: emT :: emF :: h197 P :: emT :: h199 P :: h200 P :: h201 P :: h202 P :: emT :: h204 P :: h205 P :: emT :: h207 P :: h208 P :: h209 P :: emT :: h211 P :: emT :: emF :: h214 P :: emT :: h216 P :: h217 P :: h218 P :: h219 P :: h220 P :: h221 P :: h222 P :: h223 P :: h224 P :: h225 P :: emT :: emF :: h228 P :: emT :: h230 P :: h231 P :: h232 P :: emT :: emF :: h235 P :: emT :: h237 P :: h238 P :: h239 P :: emT :: emF :: h242 P :: emT :: h244 P :: h245 P :: h246 P :: emT :: emF :: h249 P :: emT :: h251 P :: h252 P :: h253 P :: emT :: emF :: h256 P :: emT :: h258 P :: h259 P :: h260 P :: emT :: emF :: h263 P :: emT :: h265 P :: h266 P :: h267 P :: emT :: emF :: h270 P :: emT :: h272 P :: h273 P :: h274 P :: emT :: emF :: h277 P :: emT :: h279 P :: h280 P :: h281 P :: emT :: emF :: h284 P :: emT :: h286 P :: h287 P :: h288 P :: emT :: emF :: h291 P :: emT :: h293 P :: h294 P :: h295 P :: emT :: emF :: h298 P :: emT :: h300 P :: h301 P :: h302 P :: emT :: emF :: h305 P :: emT :: h307 P :: h308 P :: h309 P :: emT :: emF :: h312 P :: emT :: h314 P :: h315 P :: h316 P :: h317 P :: emT :: emF :: h320 P :: h321 P :: h322 P :: h323 P :: emT :: emF :: h326 P :: h327 P :: h328 P :: h329 P :: emT :: emF :: h332 P :: emT :: h334 P :: h335 P :: h336 P :: emT :: emF :: h339 P :: emT :: h341 P :: h342 P :: h343 P :: emT :: emF :: h346 P :: h347 P :: h348 P :: emT :: emF :: h351 P :: emT :: h353 P :: h354 P :: h355 P :: emT :: emF :: h358 P :: emT :: h360 P :: h361 P :: h362 P :: emT :: emF :: h365 P :: emT :: h367 P :: h368 P :: h369 P :: emT :: emF :: h372 P :: emT :: h374 P :: h375 P :: h376 P :: emT :: emF :: h379 P :: h380 P :: h381 P :: h382 P :: emT :: emF :: h385 P :: h386 P :: h387 P :: emT :: emF :: h390 P :: h391 P :: h392 P :: emT :: emF :: h395 P :: h396 P :: h397 P :: emT :: emF :: h400 P :: h401 P :: h402 P :: emT :: emF :: h405 P :: emT :: h407 P :: h408 P :: h409 P :: emT :: emF :: h412 P :: emT :: h414 P :: h415 P :: h416 P :: emT :: emF :: h419 P :: emT :: h421 P :: h422 P :: h423 P :: emT :: emF :: h426 P :: emT :: h428 P :: h429 P :: h430 P :: emT :: emF :: h433 P :: emT :: h435 P :: h436 P :: h437 P :: emT :: emF :: h440 P :: emT :: h442 P :: h443 P :: h444 P :: emT :: emF :: h447 P :: h448 P :: h449 P :: []
noncomputable def obs0 (P : Params) : List Obj := [boot_o_0 P, boot_o_1 P, boot_o_2 P, boot_o_3 P, boot_o_4 P, boot_o_5 P, boot_o_6 P, boot_o_7 P, boot_o_8 P, boot_o_9 P, boot_o_10 P, emT, emF] ++ ((obs P).take 15).drop 13
noncomputable def obs1 (P : Params) : List Obj := [boot_o_0 P, boot_o_1 P, h2 P, g50 P, boot_o_4 P, boot_o_5 P, boot_o_6 P, boot_o_7 P, boot_o_8 P, boot_o_9 P, boot_o_10 P, emT, g51 P, h13 P, h14 P, emT, emF, h17 P, emT, h19 P, h20 P, h21 P, h22 P, h23 P, h24 P, emT, h26 P, h27 P, h28 P, h29 P, emT, emF, h32 P, emT, h34 P, h35 P, h36 P, emT, emF, h39 P, emT, h41 P, h42 P, h43 P, h44 P, h45 P, g83 P] ++ ((obs P).take 50).drop 47
noncomputable def obs2 (P : Params) : List Obj := [boot_o_0 P, boot_o_1 P, h2 P, g87 P, boot_o_4 P, boot_o_5 P, boot_o_6 P, boot_o_7 P, boot_o_8 P, boot_o_9 P, boot_o_10 P, emT, g88 P] ++ ((obs P).take 62).drop 13
noncomputable def obs3 (P : Params) : List Obj := [boot_o_0 P, boot_o_1 P, h2 P, g102 P, boot_o_4 P, boot_o_5 P, boot_o_6 P, boot_o_7 P, boot_o_8 P, boot_o_9 P, boot_o_10 P, emT, g103 P] ++ ((obs P).take 160).drop 13
noncomputable def obs4 (P : Params) : List Obj := [boot_o_0 P, boot_o_1 P, h2 P, g202 P, boot_o_4 P, boot_o_5 P, boot_o_6 P, boot_o_7 P, boot_o_8 P, boot_o_9 P, boot_o_10 P, emT, g203 P] ++ ((obs P).take 203).drop 13
noncomputable def obs5 (P : Params) : List Obj := [boot_o_0 P, boot_o_1 P, h2 P, g247 P, boot_o_4 P, boot_o_5 P, boot_o_6 P, boot_o_7 P, boot_o_8 P, boot_o_9 P, boot_o_10 P, emT, g248 P] ++ ((obs P).take 261).drop 13
noncomputable def obs6 (P : Params) : List Obj := [boot_o_0 P, boot_o_1 P, h2 P, g307 P, boot_o_4 P, boot_o_5 P, boot_o_6 P, boot_o_7 P, boot_o_8 P, boot_o_9 P, boot_o_10 P, emT, g308 P] ++ ((obs P).take 344).drop 13
noncomputable def obs7 (P : Params) : List Obj := [boot_o_0 P, boot_o_1 P, h2 P, g392 P, boot_o_4 P, boot_o_5 P, boot_o_6 P, boot_o_7 P, boot_o_8 P, boot_o_9 P, boot_o_10 P, emT, g393 P] ++ ((obs P).take 424).drop 13
noncomputable def tr0 (P : Params) : BT := mkT 12 (obs0 P)
noncomputable def tr1 (P : Params) : BT := mkT 12 (obs1 P)
noncomputable def tr2 (P : Params) : BT := mkT 12 (obs2 P)
noncomputable def tr3 (P : Params) : BT := mkT 12 (obs3 P)
noncomputable def tr4 (P : Params) : BT := mkT 12 (obs4 P)
noncomputable def tr5 (P : Params) : BT := mkT 12 (obs5 P)
noncomputable def tr6 (P : Params) : BT := mkT 12 (obs6 P)
noncomputable def tr7 (P : Params) : BT := mkT 12 (obs7 P)
noncomputable def tr8 (P : Params) : BT := mkT 12 (obs P)
noncomputable def heapE (P : Params) : Heap := { objs := ⟨obs P⟩, life := {} }
noncomputable def heapB (P : Params) : Heap := { objs := ⟨obs0 P⟩, life := {} }
noncomputable def env0 : Env := { scope := PySem.Challenge.rw_nn0218_01.row.toRowW.1.main.scope, locals := PySem.mainNs, globals := PySem.mainNs, cells := [], code := PySem.Value.ref 13, frame := some 14 }
noncomputable def sts0 : List Stmt := [stA 0, stA 1, stA 2]
noncomputable def sts1 : List Stmt := [stA 3, stA 4]
noncomputable def sts2 : List Stmt := [stA 5]
noncomputable def sts3 : List Stmt := [stA 6, stA 7, stA 8, stA 9, stA 10, stA 11, stA 12, stA 13, stA 14, stA 15]
noncomputable def sts4 : List Stmt := [stA 16, stA 17, stA 18, stA 19, stA 20, stA 21]
noncomputable def sts5 : List Stmt := [stA 22, stA 23, stA 24, stA 25, stA 26, stA 27, stA 28, stA 29, stA 30, stA 31, stA 32, stA 33]
noncomputable def sts6 : List Stmt := [stA 34, stA 35, stA 36, stA 37, stA 38, stA 39, stA 40, stA 41, stA 42, stA 43, stA 44, stA 45, stA 46, stA 47]
noncomputable def sts7 : List Stmt := [stA 48, stA 49, stA 50, stA 51]
theorem hd.p0 : opening PySem.Challenge.rw_nn0218_01.row.toRowW.1 = plainProg PySem.Challenge.rw_nn0218_01.row.toRowW.1.main.scope.names := by kernel_rfl
theorem hd.p1 : ∀ (s : Shared), fenceModules? PySem.Challenge.rw_nn0218_01.row.toRowW.1 s = some s := by intro s; kernel_rfl
theorem hd.pre : ∀ (w : World), (fun os => topGo treeTable PySem.Challenge.rw_nn0218_01.row.toRowW.1 w 11 (some (Value.ref 6)) 12 { heap := boot_heap w.params, drawn := boot_drawn, toks := boot_toks, os := os } (topStub PySem.Challenge.rw_nn0218_01.row.toRowW.1)) = fun os => some ({ heap := heapB w.params, toks := 187, os := os }, { cur := denote treeTable (Code.body (behindTheImports PySem.Challenge.rw_nn0218_01.row.toRowW.1) env0), code := Code.body (behindTheImports PySem.Challenge.rw_nn0218_01.row.toRowW.1) env0, pos := { line := 0, col := 0, endLine := 0, endCol := 0 }, stack := [topFrame { line := 0, col := 0, endLine := 0, endCol := 0 }] }) := by intro w; rewrite [Fast.te15667345088766844465, Fast.te14364793385576792824, Fast.te11892475500146522536]; kernel_rfl
theorem hd.block : ∀ (w : World), (fun os => segRun treeTable PySem.Challenge.rw_nn0218_01.row.toRowW.1 w 11 (some (Value.ref 6)) 1 1 { heap := heapB w.params, toks := 187, os := os } (blockOf (behindTheImports PySem.Challenge.rw_nn0218_01.row.toRowW.1) env0 (Code.body (behindTheImports PySem.Challenge.rw_nn0218_01.row.toRowW.1) env0) { line := 0, col := 0, endLine := 0, endCol := 0 } [topFrame { line := 0, col := 0, endLine := 0, endCol := 0 }])) = fun os => some (Flow.next, ({ tree := tr0 w.params, n := 15, life := { }, gens := { toList := [] }, drawn := { }, toks := 187, os := os } : SharedT).abs, Code.body (behindTheImports PySem.Challenge.rw_nn0218_01.row.toRowW.1) env0, { line := 0, col := 0, endLine := 0, endCol := 0 }) := by intro w; rewrite [Fast.te14374325043358763698, Fast.te14364793385576792824]; kernel_rfl
theorem hd.seg0 : ∀ (w : World), (fun os => segRunT treeTable PySem.Challenge.rw_nn0218_01.row.toRowW.1 w 11 (some (Value.ref 6)) 1 307 { tree := tr0 w.params, n := 15, life := { }, gens := { toList := [] }, drawn := { }, toks := 187, os := os } (piecesOf sts0 env0 (Code.body (behindTheImports PySem.Challenge.rw_nn0218_01.row.toRowW.1) env0) { line := 0, col := 0, endLine := 0, endCol := 0 } [topFrame { line := 0, col := 0, endLine := 0, endCol := 0 }])) = fun os => some (Flow.next, { tree := tr1 w.params, n := 50, life := { }, gens := { toList := [] }, drawn := { }, toks := 236, os := os }, Code.body (behindTheImports PySem.Challenge.rw_nn0218_01.row.toRowW.1) env0, { line := 5, col := 0, endLine := 13, endCol := 16 }) := by intro w; rewrite [Fast.te10110043849684766642, Fast.te14364793385576792824]; kernel_rfl
theorem hd.seg1 : ∀ (w : World), (fun os => segRunT treeTable PySem.Challenge.rw_nn0218_01.row.toRowW.1 w 11 (some (Value.ref 6)) 1 223 { tree := tr1 w.params, n := 50, life := { }, gens := { toList := [] }, drawn := { }, toks := 236, os := os } (piecesOf sts1 env0 (Code.body (behindTheImports PySem.Challenge.rw_nn0218_01.row.toRowW.1) env0) { line := 5, col := 0, endLine := 13, endCol := 16 } [topFrame { line := 0, col := 0, endLine := 0, endCol := 0 }])) = fun os => some (Flow.next, { tree := tr2 w.params, n := 62, life := { }, gens := { toList := [] }, drawn := { }, toks := 254, os := os }, Code.body (behindTheImports PySem.Challenge.rw_nn0218_01.row.toRowW.1) env0, { line := 16, col := 0, endLine := 16, endCol := 8 }) := by intro w; rewrite [Fast.te10110043849684766642, Fast.te14364793385576792824]; kernel_rfl
theorem hd.seg2 : ∀ (w : World), (fun os => segRunT treeTable PySem.Challenge.rw_nn0218_01.row.toRowW.1 w 11 (some (Value.ref 6)) 1 582 { tree := tr2 w.params, n := 62, life := { }, gens := { toList := [] }, drawn := { }, toks := 254, os := os } (piecesOf sts2 env0 (Code.body (behindTheImports PySem.Challenge.rw_nn0218_01.row.toRowW.1) env0) { line := 16, col := 0, endLine := 16, endCol := 8 } [topFrame { line := 0, col := 0, endLine := 0, endCol := 0 }])) = fun os => some (Flow.next, { tree := tr3 w.params, n := 160, life := { }, gens := { toList := [] }, drawn := { }, toks := 378, os := os }, Code.body (behindTheImports PySem.Challenge.rw_nn0218_01.row.toRowW.1) env0, { line := 17, col := 0, endLine := 65, endCol := 16 }) := by intro w; rewrite [Fast.te10110043849684766642, Fast.te14364793385576792824]; kernel_rfl
theorem hd.seg3 : ∀ (w : World), (fun os => segRunT treeTable PySem.Challenge.rw_nn0218_01.row.toRowW.1 w 11 (some (Value.ref 6)) 1 219 { tree := tr3 w.params, n := 160, life := { }, gens := { toList := [] }, drawn := { }, toks := 378, os := os } (piecesOf sts3 env0 (Code.body (behindTheImports PySem.Challenge.rw_nn0218_01.row.toRowW.1) env0) { line := 17, col := 0, endLine := 65, endCol := 16 } [topFrame { line := 0, col := 0, endLine := 0, endCol := 0 }])) = fun os => some (Flow.next, { tree := tr4 w.params, n := 203, life := { }, gens := { toList := [] }, drawn := { }, toks := 434, os := os }, Code.body (behindTheImports PySem.Challenge.rw_nn0218_01.row.toRowW.1) env0, { line := 90, col := 0, endLine := 90, endCol := 5 }) := by intro w; rewrite [Fast.te10110043849684766642, Fast.te14364793385576792824]; kernel_rfl
theorem hd.seg4 : ∀ (w : World), (fun os => segRunT treeTable PySem.Challenge.rw_nn0218_01.row.toRowW.1 w 11 (some (Value.ref 6)) 1 379 { tree := tr4 w.params, n := 203, life := { }, gens := { toList := [] }, drawn := { }, toks := 434, os := os } (piecesOf sts4 env0 (Code.body (behindTheImports PySem.Challenge.rw_nn0218_01.row.toRowW.1) env0) { line := 90, col := 0, endLine := 90, endCol := 5 } [topFrame { line := 0, col := 0, endLine := 0, endCol := 0 }])) = fun os => some (Flow.next, { tree := tr5 w.params, n := 261, life := { }, gens := { toList := [] }, drawn := { }, toks := 506, os := os }, Code.body (behindTheImports PySem.Challenge.rw_nn0218_01.row.toRowW.1) env0, { line := 111, col := 0, endLine := 118, endCol := 55 }) := by intro w; rewrite [Fast.te10110043849684766642, Fast.te14364793385576792824]; kernel_rfl
theorem hd.seg5 : ∀ (w : World), (fun os => segRunT treeTable PySem.Challenge.rw_nn0218_01.row.toRowW.1 w 11 (some (Value.ref 6)) 1 390 { tree := tr5 w.params, n := 261, life := { }, gens := { toList := [] }, drawn := { }, toks := 506, os := os } (piecesOf sts5 env0 (Code.body (behindTheImports PySem.Challenge.rw_nn0218_01.row.toRowW.1) env0) { line := 111, col := 0, endLine := 118, endCol := 55 } [topFrame { line := 0, col := 0, endLine := 0, endCol := 0 }])) = fun os => some (Flow.next, { tree := tr6 w.params, n := 344, life := { }, gens := { toList := [] }, drawn := { }, toks := 628, os := os }, Code.body (behindTheImports PySem.Challenge.rw_nn0218_01.row.toRowW.1) env0, { line := 176, col := 0, endLine := 177, endCol := 52 }) := by intro w; rewrite [Fast.te10110043849684766642, Fast.te14364793385576792824]; kernel_rfl
theorem hd.seg6 : ∀ (w : World), (fun os => segRunT treeTable PySem.Challenge.rw_nn0218_01.row.toRowW.1 w 11 (some (Value.ref 6)) 1 394 { tree := tr6 w.params, n := 344, life := { }, gens := { toList := [] }, drawn := { }, toks := 628, os := os } (piecesOf sts6 env0 (Code.body (behindTheImports PySem.Challenge.rw_nn0218_01.row.toRowW.1) env0) { line := 176, col := 0, endLine := 177, endCol := 52 } [topFrame { line := 0, col := 0, endLine := 0, endCol := 0 }])) = fun os => some (Flow.next, { tree := tr7 w.params, n := 424, life := { }, gens := { toList := [] }, drawn := { }, toks := 737, os := os }, Code.body (behindTheImports PySem.Challenge.rw_nn0218_01.row.toRowW.1) env0, { line := 261, col := 0, endLine := 265, endCol := 39 }) := by intro w; rewrite [Fast.te10110043849684766642, Fast.te14364793385576792824]; kernel_rfl
theorem hd.seg7 : ∀ (w : World), (fun os => segRunT treeTable PySem.Challenge.rw_nn0218_01.row.toRowW.1 w 11 (some (Value.ref 6)) 1 135 { tree := tr7 w.params, n := 424, life := { }, gens := { toList := [] }, drawn := { }, toks := 737, os := os } (piecesOf sts7 env0 (Code.body (behindTheImports PySem.Challenge.rw_nn0218_01.row.toRowW.1) env0) { line := 261, col := 0, endLine := 265, endCol := 39 } [topFrame { line := 0, col := 0, endLine := 0, endCol := 0 }])) = fun os => some (Flow.next, { tree := tr8 w.params, n := 450, life := { }, gens := { toList := [] }, drawn := { }, toks := 785, os := os }, Code.body (behindTheImports PySem.Challenge.rw_nn0218_01.row.toRowW.1) env0, { line := 295, col := 0, endLine := 328, endCol := 130 }) := by intro w; rewrite [Fast.te10110043849684766642, Fast.te14364793385576792824]; kernel_rfl
theorem hd.fin : ∀ (w : World), (fun os => topRun treeTable PySem.Challenge.rw_nn0218_01.row.toRowW.1 w 11 (some (Value.ref 6)) 2 ({ tree := tr8 w.params, n := 450, life := { }, gens := { toList := [] }, drawn := { }, toks := 785, os := os } : SharedT).abs { cur := doneF Flow.next, code := Code.body (behindTheImports PySem.Challenge.rw_nn0218_01.row.toRowW.1) env0, pos := { line := 295, col := 0, endLine := 328, endCol := 130 }, stack := [topFrame { line := 0, col := 0, endLine := 0, endCol := 0 }] }) = fun os => some (⟨heapE w.params, #[], {}, 785, os⟩ : Shared) := by intro w; rewrite [Fast.te14082659384304107361, Fast.te14364793385576792824]; kernel_rfl
theorem hd.size : ∀ (w : World), ((boot_heap w.params).isNs mainGlobals && (#[] : Array GenState).size == 0, (boot_heap w.params).objs.size, (boot_heap w.params).nsMap mainGlobals (Str.ofString "__annotations__")) = (true, 11, some (Value.ref 6)) := by intro w; rewrite [Fast.te8920871248978507458]; kernel_rfl
theorem hd.run : ∀ (w : World) (os : OsState), topRun treeTable PySem.Challenge.rw_nn0218_01.row.toRowW.1 w 11 (some (Value.ref 6)) (Nat.add 12 (Nat.add 1 (Nat.add 307 (Nat.add 223 (Nat.add 582 (Nat.add 219 (Nat.add 379 (Nat.add 390 (Nat.add 394 (Nat.add 135 2)))))))))) { heap := boot_heap w.params, drawn := boot_drawn, toks := boot_toks, os := os } (topStub PySem.Challenge.rw_nn0218_01.row.toRowW.1) = some (⟨heapE w.params, #[], {}, 785, os⟩ : Shared) := fun w os => go_top (congrFun (hd.pre w) os) (piece_block (congrFun (hd.block w) os) (piece_app (segRun_of (congrFun (hd.seg0 w) os)) (piece_app (segRun_of (congrFun (hd.seg1 w) os)) (piece_app (segRun_of (congrFun (hd.seg2 w) os)) (piece_app (segRun_of (congrFun (hd.seg3 w) os)) (piece_app (segRun_of (congrFun (hd.seg4 w) os)) (piece_app (segRun_of (congrFun (hd.seg5 w) os)) (piece_app (segRun_of (congrFun (hd.seg6 w) os)) (piece_app (segRun_of (congrFun (hd.seg7 w) os)) (congrFun (hd.fin w) os))))))))))
theorem hd.look509 : ∀ (w : World), (fun os => staticsOk (importedModules PySem.Challenge.rw_nn0218_01.row.toRowW.1.main.body) (boot_heap w.params) (heapE w.params) && namesBound PySem.Challenge.rw_nn0218_01.row.toRowW.1 (heapE w.params) && gensDone (⟨heapE w.params, #[], {}, 785, os⟩ : Shared) && laidKept (boot_heap w.params) (heapE w.params)) = fun os => true := by intro w; rewrite [Fast.te5923862056798008813]; kernel_rfl
theorem hd.look511 : ∀ (w : World), (fun os => seen (List.map (fun x => x.name) (recsOf Mine.hd.view_39)) (ownsOf Mine.hd.view_39) [] { heap := (⟨heapE w.params, #[], {}, 785, os⟩ : Shared).heap, toks := (⟨heapE w.params, #[], {}, 785, os⟩ : Shared).toks, os := (⟨heapE w.params, #[], {}, 785, os⟩ : Shared).os }) = fun os => expectedOf Mine.hd.view_39 := by intro w; rewrite [Fast.te5160383126252970620, R.mapR_eq, Fast.te3399658132070893891, Fast.te5991557255702980513]; kernel_rfl
theorem hd.look513 : ∀ (w : World), (fun os => (⟨heapE w.params, #[], {}, 785, os⟩ : Shared).heap.bltView) = fun os => bltViewBooted := by intro w; kernel_rfl
theorem hd.look515 : ∀ (w : World), (fun os => (⟨heapE w.params, #[], {}, 785, os⟩ : Shared).heap.keysOk (looseW Mine.hd.view_39 [Str.ofString "PaperError", Str.ofString "Path", Str.ofString "flattened", Str.ofString "lines_of", Str.ofString "places_of", Str.ofString "raster"]) (List.map (fun x => x.name) (recsOf Mine.hd.view_39)) (List.map (fun x => x.fst) (litsOf Mine.hd.view_39)) (List.map (fun x => x.name) (clssOf Mine.hd.view_39 (looseW Mine.hd.view_39 [Str.ofString "PaperError", Str.ofString "Path", Str.ofString "flattened", Str.ofString "lines_of", Str.ofString "places_of", Str.ofString "raster"]))) && (⟨heapE w.params, #[], {}, 785, os⟩ : Shared).heap.accountedOkI (importedModules PySem.Challenge.rw_nn0218_01.row.toRowW.1.main.body) && (⟨heapE w.params, #[], {}, 785, os⟩ : Shared).heap.isNs mainGlobals && (⟨heapE w.params, #[], {}, 785, os⟩ : Shared).heap.isNs builtinsNs && tablesOk Mine.hd.view_39 (⟨heapE w.params, #[], {}, 785, os⟩ : Shared).heap && (fun s => xlAt Mine.hd.view_39 [] s && recOk PySem.Challenge.rw_nn0218_01.row.records s) (⟨heapE w.params, #[], {}, 785, os⟩ : Shared) && if true = true then (⟨heapE w.params, #[], {}, 785, os⟩ : Shared).gens.size == 0 else !leftWithCleanup (⟨heapE w.params, #[], {}, 785, os⟩ : Shared).gens) = fun os => true := by intro w; rewrite [Fast.te10880121769531294198, Fast.te821141287760084731, R.mapR_eq, Fast.te3399658132070893891, Fast.te7409074990110511671, Fast.te13664370479719496447, Fast.te14722251495701143533, Fast.te5923862056798008813, Fast.te10994771534591457954]; kernel_rfl
theorem hd.look517 : ∀ (w : World), (fun os => tabsOk Mine.hd.view_39 (⟨heapE w.params, #[], {}, 785, os⟩ : Shared)) = fun os => true := by intro w; rewrite [Fast.te479339242167458305]; kernel_rfl
theorem hd.look519 : ∀ (w : World), (fun os => pinSeenD Mine.hd.view_39 (drecsOf Mine.hd.view_39) (⟨heapE w.params, #[], {}, 785, os⟩ : Shared)) = fun os => pinGoodD (drecsOf Mine.hd.view_39) := by intro w; rewrite [Fast.te16090120013241838585, Fast.te3247288618530077131]; kernel_rfl
theorem hd.look521 : ∀ (w : World), (fun os => plainSeenE Mine.hd.view_39 (looseW Mine.hd.view_39 [Str.ofString "PaperError", Str.ofString "Path", Str.ofString "flattened", Str.ofString "lines_of", Str.ofString "places_of", Str.ofString "raster"]) (⟨heapE w.params, #[], {}, 785, os⟩ : Shared)) = fun os => plainGoodE Mine.hd.view_39 (looseW Mine.hd.view_39 [Str.ofString "PaperError", Str.ofString "Path", Str.ofString "flattened", Str.ofString "lines_of", Str.ofString "places_of", Str.ofString "raster"]) := by intro w; rewrite [Fast.te2386780881361962483, Fast.te821141287760084731]; kernel_rfl
theorem hd.look523 : ∀ (w : World), (fun os => plainSeenD Mine.hd.view_39 [Str.ofString "PaperError", Str.ofString "Path", Str.ofString "flattened", Str.ofString "lines_of", Str.ofString "places_of", Str.ofString "raster"] (⟨heapE w.params, #[], {}, 785, os⟩ : Shared)) = fun os => plainGoodD Mine.hd.view_39 [Str.ofString "PaperError", Str.ofString "Path", Str.ofString "flattened", Str.ofString "lines_of", Str.ofString "places_of", Str.ofString "raster"] := by intro w; rewrite [Fast.te11698064438423848299]; kernel_rfl
theorem hd.look525 : ∀ (w : World), (fun os => wideSeen Mine.hd.view_39 (⟨heapE w.params, #[], {}, 785, os⟩ : Shared)) = fun os => wideGood Mine.hd.view_39 := by intro w; rewrite [Fast.te7317090234206586261]; kernel_rfl
theorem hd.look527 : ∀ (w : World), (fun os => clsSeenW Mine.hd.view_39 [Str.ofString "PaperError", Str.ofString "Path", Str.ofString "flattened", Str.ofString "lines_of", Str.ofString "places_of", Str.ofString "raster"] (⟨heapE w.params, #[], {}, 785, os⟩ : Shared)) = fun os => clsGoodW Mine.hd.view_39 [Str.ofString "PaperError", Str.ofString "Path", Str.ofString "flattened", Str.ofString "lines_of", Str.ofString "places_of", Str.ofString "raster"] := by intro w; rewrite [Fast.te7369524293546568484]; kernel_rfl
theorem hd.look537 : ∀ (w : World), (fun (os : OsState) => hd.hook.obs (⟨heapE w.params, #[], {}, 785, os⟩ : Shared)) = fun _ => hd.hook.val w := by intro w; kernel_rfl
end Mine
namespace Mine
open PySem PySem.W PyProof.Rows
theorem hd.looks (w : World) (os : OsState) :
    openSeen hd.view_39 ["PaperError", "Path", "flattened", "lines_of", "places_of", "raster"] (importedModules PySem.Challenge.rw_nn0218_01.row.toRowW.1.main.body) (fun s => xlAt hd.view_39 [] s && recOk PySem.Challenge.rw_nn0218_01.row.records s) true (⟨heapE w.params, #[], {}, 785, os⟩ : Shared) =
      openGood hd.view_39 ["PaperError", "Path", "flattened", "lines_of", "places_of", "raster"] :=
  looks_pair (congrFun (hd.look511 w) os) (looks_pair (congrFun (hd.look513 w) os) (looks_pair (congrFun (hd.look515 w) os) (looks_pair (congrFun (hd.look517 w) os) (looks_pair (congrFun (hd.look519 w) os)
    (looks_pair (congrFun (hd.look521 w) os) (looks_pair (congrFun (hd.look523 w) os) (looks_pair (congrFun (hd.look525 w) os) (congrFun (hd.look527 w) os))))))))
theorem hd.left : LeftO PySem.Challenge.rw_nn0218_01.row.prog hd.view_39 ["PaperError", "Path", "flattened", "lines_of", "places_of", "raster"] (fun s => xlAt hd.view_39 [] s && recOk PySem.Challenge.rw_nn0218_01.row.records s) hd.hook.obs hd.hook.val 5800 :=
  LeftO.of_pieces (boot_open hd.p0 (by decide) hd.p1) hd.size hd.run (by decide) fun w => funext fun os =>
    looks_pair (congrFun (hd.look509 w) os) (looks_pair (hd.looks w os) (congrFun (hd.look537 w) os))
theorem and_t {a b : Bool} (x : a = true) (y : b = true) : (a && b) = true := by rw [x, y]; rfl
theorem fil3 {α : Type} {p : α → Bool} {a b c : α} (x : p a = false) (y : p b = false) (z : p c = false) : R.filterR p [a, b, c] = [] := by simp only [R.filterR, x, y, z]
theorem hd.names : Fast.tw8377067652309620493 PySem.Challenge.rw_nn0218_01.row.prog = true := by kernel_rfl
theorem hd.meet : Fast.tw17119622794617984870 PySem.Challenge.rw_nn0218_01.row.prog PySem.Challenge.rw_nn0218_01.row.prog.main.body (fun _ n => Fast.tw17868728402115742887 n) = true := by kernel_rfl
theorem hd.vars : Fast.tw13343964577679436407 PySem.Challenge.rw_nn0218_01.row.prog PySem.Challenge.rw_nn0218_01.row.prog.main.body { cps := { toList := [118, 97, 114, 115] } } = false := by kernel_rfl
theorem hd.dir : Fast.tw13343964577679436407 PySem.Challenge.rw_nn0218_01.row.prog PySem.Challenge.rw_nn0218_01.row.prog.main.body { cps := { toList := [100, 105, 114] } } = false := by kernel_rfl
theorem hd.locals : Fast.tw13343964577679436407 PySem.Challenge.rw_nn0218_01.row.prog PySem.Challenge.rw_nn0218_01.row.prog.main.body { cps := { toList := [108, 111, 99, 97, 108, 115] } } = false := by kernel_rfl
theorem hd.strict : R.allR (Fast.tw5923862056798008813 PySem.Challenge.rw_nn0218_01.row.prog.main.body) (Fast.tw3471404346716756564 Fast.tw17691160309236699985) = true := by kernel_rfl
theorem hd.road : Fast.tw8326940854005059898 { strict := !true, foot := none, bare := [] } PySem.Challenge.rw_nn0218_01.row.prog.main.body = true := by kernel_rfl
theorem hd.roadR {a : Bool} {l : List Str} (x : a = true) (y : l = []) : Fast.tw8326940854005059898 { strict := !a, foot := none, bare := l } PySem.Challenge.rw_nn0218_01.row.prog.main.body = true := by rw [x, y]; exact hd.road
theorem hd.open : Fast.tw12908688711261696721 PySem.Challenge.rw_nn0218_01.row.prog = true :=
  and_t (and_t (and_t (and_t (by kernel_rfl) hd.names) (by kernel_rfl)) (hd.roadR hd.strict (fil3 hd.vars hd.dir hd.locals))) hd.meet
theorem hd.part : Fast.tw2436336058641802641 PySem.Challenge.rw_nn0218_01.row = true :=
  and_t (and_t (and_t (and_t (and_t (and_t (and_t (and_t (and_t (and_t (and_t (and_t (and_t hd.open (by kernel_rfl)) (by kernel_rfl)) (by kernel_rfl)) (by kernel_rfl)) (by kernel_rfl)) (by kernel_rfl)) (by kernel_rfl)) (by kernel_rfl)) (by kernel_rfl)) (by kernel_rfl)) (by kernel_rfl)) (by kernel_rfl)) (by kernel_rfl)
theorem hd.rowSaid : Fast.tw17960256430627541270 PySem.Challenge.rw_nn0218_01.row = true := and_t (and_t hd.part (by kernel_rfl)) (by kernel_rfl)
theorem hd.said : OpenLaw.wellSaid PySem.Challenge.rw_nn0218_01 = true := by
  rewrite [Fast.te9446332074065402090]
  exact and_t (and_t (and_t (and_t (and_t (and_t (and_t (and_t (and_t (and_t (and_t (and_t (and_t (and_t (and_t (and_t (and_t (and_t hd.rowSaid (by kernel_rfl)) (by kernel_rfl)) (by kernel_rfl)) (by kernel_rfl)) (by kernel_rfl)) (by kernel_rfl)) (by kernel_rfl)) (by kernel_rfl)) (by kernel_rfl)) (by kernel_rfl)) (by kernel_rfl)) (by kernel_rfl)) (by kernel_rfl)) (by kernel_rfl)) (by kernel_rfl)) (by kernel_rfl)) (by kernel_rfl)) (by kernel_rfl)
end Mine
open PySem PySem.W PySem.Calls PySem.SeqAt PyProof.Rows in
theorem Mine.ao_top : Mine.AOK callerA 7 22 := ⟨rfl, by decide, by decide⟩
theorem PySem.Challenge.cw_nn0218_01_holds : PySem.Challenge.rw_nn0218_01.Holds := by
  w_on
  refine holds_law Mine.hd.said fun said => ?_
  refine holds_open (q := Mine.hd.view_39) (loose := ["PaperError", "Path", "flattened", "lines_of", "places_of", "raster"]) (Xt := fun s => xlAt Mine.hd.view_39 [] s && recOk PySem.Challenge.rw_nn0218_01.row.records s) (XP := XL Mine.hd.view_39 [])
    (Yf := Mine.hd.hook.obs) (Ya := Mine.hd.hook.val) (YP := Mine.hd.hook.says) Mine.hd.left (Hook.of Mine.hd.hook) (Hook.keeps Mine.hd.hook) (fun s e => xl_of s (Bool.and_eq_true_iff.mp e).1) XL.keeps (by rfl) (by rfl) (by rfl)
    (fun s e => recFacts_of (Bool.and_eq_true_iff.mp e).2) (by rfl) said (by decide +kernel) ⟨rfl, rfl, rfl, rfl, rfl, by decide +kernel⟩ ?hw ?hc
  case hw => w_witness2
  case hc =>
    intro w s₀ s₁ mg mb G Y fa o pm cd doc dV kV ho hd' hcd hD hmg hg args vals as hpre hlay hrd hwl hlo
    have KX : (Mine.hd.heap_39 w.params).In s₁.heap := kIn_of Y
    refine Ground.open G ?_
    intro T B D TE TW
    clear ho hd' hcd hD
    have hfa : fa = 449 := by
      have h1 : mg (Str.ofString "law") = some (.ref 449) := mg_of KX T.g (by k_is)
      have h2 : mg (Str.ofString "law") = some (.ref fa) := hmg
      rw [h1] at h2
      cases h2; rfl
    subst hfa
    wrow_args hpre hlay hrd hwl hlo
    refine enter_call ?_
    w_top on
    refine codeAny_mono ?_ (fun _ _ g => GoodW.toG g)
    refine Mine.law_top (c := ⟨w, _, _, _, mg, mb⟩) Mine.ao_top ⟨KX, T⟩ (by assumption) (by assumption) (by omega) ?_
    intro h' tk' hst
    refine ⟨.inl ⟨.bool true, .bool true, [], rfl, ?_, .bool true, ?_, ?_⟩, hst, rfl, hg⟩
    · exact raisesW_false (by wrow_none_raised)
    · exact postW_of (by wrow_shape) (by wtm_val) (by first | rfl | w_fin)
    · exact unshared_nil
