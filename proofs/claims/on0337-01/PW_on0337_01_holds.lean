import PyProof.Rows.All
import Wide.All
import OpenK.AllK
import Wide.FinOn
import PySem.Challenge.RW_on0337_01
set_option Elab.async false
set_option maxRecDepth 100000
set_option linter.unusedVariables false
section
open PySem PySem.W PySem.Spec PySem.Calls PyProof.Rows
namespace Mine
abbrev tops : List Stmt := PySem.Challenge.pw_on0337_01.main.body
/-- a def of the top, with its parts -/
inductive DefAt : Str → Arguments → List Stmt → Scope → Type
  | mk (name : Str) (args : Arguments) (body : List Stmt) (scope : Scope) : DefAt name args body scope
abbrev defAt (i : Nat) {name bind : Str} {args : Arguments} {body : List Stmt} {dl : List Expr} {ret : Option Expr} {tp : List TypeParam} {scope : Scope} {ts : Option Scope} {pos : Pos} (h : tops[i]? = some (.FunctionDef name args body dl ret tp scope ts bind pos)) : DefAt name args body scope := .mk name args body scope
abbrev inAt (i : Nat) {name bind n2 b2 : Str} {bases : List Expr} {kw : List Keyword} {r : List Stmt} {d2 : List Expr} {tp2 : List TypeParam} {s2 : Scope} {ts2 : Option Scope} {sa : List Str} {p2 : Pos} {args : Arguments} {body : List Stmt} {dl : List Expr} {ret : Option Expr} {tp : List TypeParam} {scope : Scope} {ts : Option Scope} {pos : Pos}
    (h : tops[i]? = some (.ClassDef n2 bases kw (.FunctionDef name args body dl ret tp scope ts bind pos :: r) d2 tp2 s2 ts2 b2 sa p2)) : DefAt name args body scope := .mk name args body scope
abbrev fnAt (m : Value) (c : Addr) {name : Str} {args : Arguments} {body : List Stmt} {scope : Scope} (d : DefAt name args body scope) : Obj := { cls := .type "function", data := .func { name := name, qualname := name, params := args, body := .stmts body, scope := scope, globals := 3, closure := [], defaults := .none, kwdefaults := .none, pyModule := m, code := .ref c } }
abbrev fnIn (q : Str) (m : Value) (c : Addr) {name : Str} {args : Arguments} {body : List Stmt} {scope : Scope} (d : DefAt name args body scope) : Obj := { cls := .type "function", data := .func { name := name, qualname := q, params := args, body := .stmts body, scope := scope, globals := 3, closure := [], defaults := .none, kwdefaults := .none, pyModule := m, code := .ref c } }
abbrev tpl (vs : Array Value) : Obj := { cls := .type "tuple", data := .seq vs }
/-- the objects that stand when the top has run -/
noncomputable def hd.heap_39 : Params → Frag := fun P =>
  (nat_lit 2, { cls := Value.none, data := Data.dict #[{ hash := PyData.keyHash P "type.__subclasses__.Exception.0", key := .str "type.__subclasses__.Exception.0" 214, val := Value.int 31 0 }, { hash := PyData.keyHash P "type.__subclasses__.Exception.n", key := .str "type.__subclasses__.Exception.n" 215, val := Value.int 1 0 }] 2 }) ::
  (nat_lit 3, { cls := Value.type "dict", data := Data.dict #[{ hash := PyData.keyHash P "__name__", key := .str "__name__" 165, val := .str "law_on0337_01" 418 }, { hash := PyData.keyHash P "__doc__", key := .str "__doc__" 166, val := Value.none }, { hash := PyData.keyHash P "__package__", key := .str "__package__" 167, val := Value.none }, { hash := PyData.keyHash P "__loader__", key := .str "__loader__" 168, val := Value.builtin "__main__.__loader__#opaque" }, { hash := PyData.keyHash P "__spec__", key := .str "__spec__" 169, val := Value.none }, { hash := PyData.keyHash P "__annotations__", key := .str "__annotations__" 170, val := Value.ref 6 }, { hash := PyData.keyHash P "__builtins__", key := .str "__builtins__" 171, val := Value.ref 4 }, { hash := PyData.keyHash P "__file__", key := .str "__file__" 173, val := .str "/claim/cut.py" 172 }, { hash := PyData.keyHash P "__cached__", key := .str "__cached__" 174, val := Value.none }, { hash := PyData.keyHash P "StackError", key := .str "StackError" 217, val := Value.ref 31 }, { hash := PyData.keyHash P "FormError", key := .str "FormError" 233, val := Value.ref 44 }, { hash := PyData.keyHash P "SizeError", key := .str "SizeError" 249, val := Value.ref 56 }, { hash := PyData.keyHash P "put16", key := .str "put16" 258, val := Value.ref 65 }, { hash := PyData.keyHash P "put32", key := .str "put32" 265, val := Value.ref 72 }, { hash := PyData.keyHash P "need", key := .str "need" 274, val := Value.ref 79 }, { hash := PyData.keyHash P "get16", key := .str "get16" 282, val := Value.ref 86 }, { hash := PyData.keyHash P "get32", key := .str "get32" 290, val := Value.ref 93 }, { hash := PyData.keyHash P "END", key := .str "END" 294, val := Value.int 0 293 }, { hash := PyData.keyHash P "NOTHING", key := .str "NOTHING" 296, val := Value.int 1 295 }, { hash := PyData.keyHash P "LOOSE_ROUTE", key := .str "LOOSE_ROUTE" 298, val := Value.int 131 297 }, { hash := PyData.keyHash P "STRICT_ROUTE", key := .str "STRICT_ROUTE" 300, val := Value.int 137 299 }, { hash := PyData.keyHash P "MOST_OPTIONS", key := .str "MOST_OPTIONS" 302, val := Value.int 40 301 }, { hash := PyData.keyHash P "COPY_BIT", key := .str "COPY_BIT" 304, val := Value.int 128 303 }, { hash := PyData.keyHash P "FIRST_POINTER", key := .str "FIRST_POINTER" 306, val := Value.int 4 305 }, { hash := PyData.keyHash P "is_single", key := .str "is_single" 313, val := Value.ref 100 }, { hash := PyData.keyHash P "read_options", key := .str "read_options" 324, val := Value.ref 107 }, { hash := PyData.keyHash P "size_at", key := .str "size_at" 333, val := Value.ref 114 }, { hash := PyData.keyHash P "write_options", key := .str "write_options" 343, val := Value.ref 121 }, { hash := PyData.keyHash P "option_octets", key := .str "option_octets" 351, val := Value.ref 128 }, { hash := PyData.keyHash P "is_copied", key := .str "is_copied" 358, val := Value.ref 135 }, { hash := PyData.keyHash P "copied", key := .str "copied" 364, val := Value.ref 140 }, { hash := PyData.keyHash P "pointer_place", key := .str "pointer_place" 371, val := Value.ref 147 }, { hash := PyData.keyHash P "record_route", key := .str "record_route" 380, val := Value.ref 154 }, { hash := PyData.keyHash P "recorded", key := .str "recorded" 386, val := Value.ref 159 }, { hash := PyData.keyHash P "source_route", key := .str "source_route" 392, val := Value.ref 164 }, { hash := PyData.keyHash P "is_strict", key := .str "is_strict" 399, val := Value.ref 171 }, { hash := PyData.keyHash P "tells_way", key := .str "tells_way" 408, val := Value.ref 178 }, { hash := PyData.keyHash P "next_on_way", key := .str "next_on_way" 417, val := Value.ref 185 }, { hash := PyData.keyHash P "_law_pool", key := .str "_law_pool" 430, val := Value.ref 192 }, { hash := PyData.keyHash P "_law_take", key := .str "_law_take" 439, val := Value.ref 199 }, { hash := PyData.keyHash P "_law_one", key := .str "_law_one" 447, val := Value.ref 206 }, { hash := PyData.keyHash P "_law_some", key := .str "_law_some" 453, val := Value.ref 211 }, { hash := PyData.keyHash P "_law_option", key := .str "_law_option" 461, val := Value.ref 218 }, { hash := PyData.keyHash P "_law_plain", key := .str "_law_plain" 471, val := Value.ref 225 }, { hash := PyData.keyHash P "_law_told", key := .str "_law_told" 478, val := Value.ref 232 }, { hash := PyData.keyHash P "_law_size", key := .str "_law_size" 486, val := Value.ref 239 }, { hash := PyData.keyHash P "_law_read", key := .str "_law_read" 497, val := Value.ref 246 }, { hash := PyData.keyHash P "_law_rows_right", key := .str "_law_rows_right" 503, val := Value.ref 251 }, { hash := PyData.keyHash P "_law_four", key := .str "_law_four" 509, val := Value.ref 256 }, { hash := PyData.keyHash P "_law_route_right", key := .str "_law_route_right" 515, val := Value.ref 261 }, { hash := PyData.keyHash P "law", key := .str "law" 527, val := Value.ref 268 }] 51 }) ::
  (nat_lit 15, tpl #[Value.type "Exception"]) ::
  (nat_lit 22, tpl #[]) ::
  (nat_lit 24, tpl #[.str "self" 204, .str "message" 205]) ::
  (nat_lit 25, tpl #[]) ::
  (nat_lit 27, { cls := Value.type "code", data := Data.fields #[.str "__init__" 201, .str "StackError.__init__" 202, .str "/claim/cut.py" 203, Value.int 4 0, Value.int 2 0, Value.int 0 0, Value.int 0 0, Value.int 3 0, Value.ref 22, Value.bool true, Value.int 181 0, Value.ref 23, Value.none, Value.ref 24, Value.ref 25, Value.ref 26, Value.int 206 0, Value.int 4 0, .str "/claim/cut.py" 207] }) ::
  (nat_lit 28, fnIn "StackError.__init__" (.str "thinstack.errors" 187) 27 (inAt 1 rfl)) ::
  (nat_lit 29, tpl #[.str "message" 209]) ::
  (nat_lit 30, { cls := Value.type "dict", data := Data.dict #[{ hash := PyData.keyHash P "__module__", key := .str "__module__" 196, val := .str "thinstack.errors" 187 }, { hash := PyData.keyHash P "__firstlineno__", key := .str "__firstlineno__" 200, val := Value.int 2 199 }, { hash := PyData.keyHash P "__init__", key := .str "__init__" 208, val := Value.ref 28 }, { hash := PyData.keyHash P "__static_attributes__", key := .str "__static_attributes__" 210, val := Value.ref 29 }, { hash := PyData.keyHash P "__weakref__", key := .str "__weakref__" 212, val := Value.ref 32 }, { hash := PyData.keyHash P "__doc__", key := .str "__doc__" 213, val := Value.none }] 3 }) ::
  (nat_lit 31, { cls := Value.type "type", data := Data.cls { name := Str.ofString "StackError", bases := [Value.type "Exception"], mro := [Value.ref 31, Value.type "Exception", Value.type "BaseException", Value.type "object"], ns := 30, qualname := Str.ofString "StackError", subclasses := [Value.ref 44, Value.ref 56] }, slots := #[some (Value.ref 15), none, some (.str "StackError" 189), some (.str "StackError" 197), some (Value.builtin "Exception.__new__"), some (Value.bool true)] }) ::
  (nat_lit 32, { cls := Value.type "getset_descriptor", data := Data.fields #[.str "__weakref__" 211, Value.ref 31, Value.builtin "ExceptionGroup.__weakref__", Value.none] }) ::
  (nat_lit 35, tpl #[Value.ref 31]) ::
  (nat_lit 42, tpl #[]) ::
  (nat_lit 43, { cls := Value.type "dict", data := Data.dict #[{ hash := PyData.keyHash P "__module__", key := .str "__module__" 225, val := .str "thinstack.errors" 187 }, { hash := PyData.keyHash P "__firstlineno__", key := .str "__firstlineno__" 229, val := Value.int 6 228 }, { hash := PyData.keyHash P "__static_attributes__", key := .str "__static_attributes__" 230, val := Value.ref 42 }, { hash := PyData.keyHash P "__doc__", key := .str "__doc__" 231, val := Value.none }] 2 }) ::
  (nat_lit 44, { cls := Value.type "type", data := Data.cls { name := Str.ofString "FormError", bases := [Value.ref 31], mro := [Value.ref 44, Value.ref 31, Value.type "Exception", Value.type "BaseException", Value.type "object"], ns := 43, qualname := Str.ofString "FormError" }, slots := #[some (Value.ref 35), none, some (.str "FormError" 218), some (.str "FormError" 226), some (Value.builtin "Exception.__new__"), some (Value.bool true)] }) ::
  (nat_lit 47, tpl #[Value.ref 31]) ::
  (nat_lit 54, tpl #[]) ::
  (nat_lit 55, { cls := Value.type "dict", data := Data.dict #[{ hash := PyData.keyHash P "__module__", key := .str "__module__" 241, val := .str "thinstack.errors" 187 }, { hash := PyData.keyHash P "__firstlineno__", key := .str "__firstlineno__" 245, val := Value.int 8 244 }, { hash := PyData.keyHash P "__static_attributes__", key := .str "__static_attributes__" 246, val := Value.ref 54 }, { hash := PyData.keyHash P "__doc__", key := .str "__doc__" 247, val := Value.none }] 2 }) ::
  (nat_lit 56, { cls := Value.type "type", data := Data.cls { name := Str.ofString "SizeError", bases := [Value.ref 31], mro := [Value.ref 56, Value.ref 31, Value.type "Exception", Value.type "BaseException", Value.type "object"], ns := 55, qualname := Str.ofString "SizeError" }, slots := #[some (Value.ref 47), none, some (.str "SizeError" 234), some (.str "SizeError" 242), some (Value.builtin "Exception.__new__"), some (Value.bool true)] }) ::
  (nat_lit 59, tpl #[]) ::
  (nat_lit 61, tpl #[.str "n" 255]) ::
  (nat_lit 62, tpl #[]) ::
  (nat_lit 64, { cls := Value.type "code", data := Data.fields #[.str "put16" 252, .str "put16" 253, .str "/claim/cut.py" 254, Value.int 11 0, Value.int 1 0, Value.int 0 0, Value.int 0 0, Value.int 3 0, Value.ref 59, Value.bool true, Value.int 181 0, Value.ref 60, Value.none, Value.ref 61, Value.ref 62, Value.ref 63, Value.int 256 0, Value.int 11 0, .str "/claim/cut.py" 257] }) ::
  (nat_lit 65, fnAt (.str "thinstack.octets" 250) 64 (defAt 5 rfl)) ::
  (nat_lit 66, tpl #[]) ::
  (nat_lit 68, tpl #[.str "n" 262]) ::
  (nat_lit 69, tpl #[]) ::
  (nat_lit 71, { cls := Value.type "code", data := Data.fields #[.str "put32" 259, .str "put32" 260, .str "/claim/cut.py" 261, Value.int 13 0, Value.int 1 0, Value.int 0 0, Value.int 0 0, Value.int 3 0, Value.ref 66, Value.bool true, Value.int 181 0, Value.ref 67, Value.none, Value.ref 68, Value.ref 69, Value.ref 70, Value.int 263 0, Value.int 13 0, .str "/claim/cut.py" 264] }) ::
  (nat_lit 72, fnAt (.str "thinstack.octets" 250) 71 (defAt 6 rfl)) ::
  (nat_lit 73, tpl #[]) ::
  (nat_lit 75, tpl #[.str "octets" 269, .str "at" 270, .str "size" 271]) ::
  (nat_lit 76, tpl #[]) ::
  (nat_lit 78, { cls := Value.type "code", data := Data.fields #[.str "need" 266, .str "need" 267, .str "/claim/cut.py" 268, Value.int 15 0, Value.int 3 0, Value.int 0 0, Value.int 0 0, Value.int 3 0, Value.ref 73, Value.bool true, Value.int 181 0, Value.ref 74, Value.none, Value.ref 75, Value.ref 76, Value.ref 77, Value.int 272 0, Value.int 15 0, .str "/claim/cut.py" 273] }) ::
  (nat_lit 79, fnAt (.str "thinstack.octets" 250) 78 (defAt 7 rfl)) ::
  (nat_lit 80, tpl #[]) ::
  (nat_lit 82, tpl #[.str "octets" 278, .str "at" 279]) ::
  (nat_lit 83, tpl #[]) ::
  (nat_lit 85, { cls := Value.type "code", data := Data.fields #[.str "get16" 275, .str "get16" 276, .str "/claim/cut.py" 277, Value.int 18 0, Value.int 2 0, Value.int 0 0, Value.int 0 0, Value.int 3 0, Value.ref 80, Value.bool true, Value.int 181 0, Value.ref 81, Value.none, Value.ref 82, Value.ref 83, Value.ref 84, Value.int 280 0, Value.int 18 0, .str "/claim/cut.py" 281] }) ::
  (nat_lit 86, fnAt (.str "thinstack.octets" 250) 85 (defAt 8 rfl)) ::
  (nat_lit 87, tpl #[]) ::
  (nat_lit 89, tpl #[.str "octets" 286, .str "at" 287]) ::
  (nat_lit 90, tpl #[]) ::
  (nat_lit 92, { cls := Value.type "code", data := Data.fields #[.str "get32" 283, .str "get32" 284, .str "/claim/cut.py" 285, Value.int 21 0, Value.int 2 0, Value.int 0 0, Value.int 0 0, Value.int 3 0, Value.ref 87, Value.bool true, Value.int 181 0, Value.ref 88, Value.none, Value.ref 89, Value.ref 90, Value.ref 91, Value.int 288 0, Value.int 21 0, .str "/claim/cut.py" 289] }) ::
  (nat_lit 93, fnAt (.str "thinstack.octets" 250) 92 (defAt 9 rfl)) ::
  (nat_lit 94, tpl #[]) ::
  (nat_lit 96, tpl #[.str "kind" 310]) ::
  (nat_lit 97, tpl #[]) ::
  (nat_lit 99, { cls := Value.type "code", data := Data.fields #[.str "is_single" 307, .str "is_single" 308, .str "/claim/cut.py" 309, Value.int 32 0, Value.int 1 0, Value.int 0 0, Value.int 0 0, Value.int 3 0, Value.ref 94, Value.bool true, Value.int 181 0, Value.ref 95, Value.none, Value.ref 96, Value.ref 97, Value.ref 98, Value.int 311 0, Value.int 32 0, .str "/claim/cut.py" 312] }) ::
  (nat_lit 100, fnAt (.str "thinstack.ip_options" 291) 99 (defAt 18 rfl)) ::
  (nat_lit 101, tpl #[]) ::
  (nat_lit 103, tpl #[.str "octets" 317, .str "found" 318, .str "at" 319, .str "kind" 320, .str "size" 321]) ::
  (nat_lit 104, tpl #[]) ::
  (nat_lit 106, { cls := Value.type "code", data := Data.fields #[.str "read_options" 314, .str "read_options" 315, .str "/claim/cut.py" 316, Value.int 34 0, Value.int 1 0, Value.int 0 0, Value.int 0 0, Value.int 3 0, Value.ref 101, Value.bool true, Value.int 181 0, Value.ref 102, Value.none, Value.ref 103, Value.ref 104, Value.ref 105, Value.int 322 0, Value.int 34 0, .str "/claim/cut.py" 323] }) ::
  (nat_lit 107, fnAt (.str "thinstack.ip_options" 291) 106 (defAt 19 rfl)) ::
  (nat_lit 108, tpl #[]) ::
  (nat_lit 110, tpl #[.str "octets" 328, .str "at" 329, .str "size" 330]) ::
  (nat_lit 111, tpl #[]) ::
  (nat_lit 113, { cls := Value.type "code", data := Data.fields #[.str "size_at" 325, .str "size_at" 326, .str "/claim/cut.py" 327, Value.int 47 0, Value.int 2 0, Value.int 0 0, Value.int 0 0, Value.int 3 0, Value.ref 108, Value.bool true, Value.int 181 0, Value.ref 109, Value.none, Value.ref 110, Value.ref 111, Value.ref 112, Value.int 331 0, Value.int 47 0, .str "/claim/cut.py" 332] }) ::
  (nat_lit 114, fnAt (.str "thinstack.ip_options" 291) 113 (defAt 20 rfl)) ::
  (nat_lit 115, tpl #[]) ::
  (nat_lit 117, tpl #[.str "options" 337, .str "found" 338, .str "kind" 339, .str "octets" 340]) ::
  (nat_lit 118, tpl #[]) ::
  (nat_lit 120, { cls := Value.type "code", data := Data.fields #[.str "write_options" 334, .str "write_options" 335, .str "/claim/cut.py" 336, Value.int 54 0, Value.int 1 0, Value.int 0 0, Value.int 0 0, Value.int 3 0, Value.ref 115, Value.bool true, Value.int 181 0, Value.ref 116, Value.none, Value.ref 117, Value.ref 118, Value.ref 119, Value.int 341 0, Value.int 54 0, .str "/claim/cut.py" 342] }) ::
  (nat_lit 121, fnAt (.str "thinstack.ip_options" 291) 120 (defAt 21 rfl)) ::
  (nat_lit 122, tpl #[]) ::
  (nat_lit 124, tpl #[.str "kind" 347, .str "octets" 348]) ::
  (nat_lit 125, tpl #[]) ::
  (nat_lit 127, { cls := Value.type "code", data := Data.fields #[.str "option_octets" 344, .str "option_octets" 345, .str "/claim/cut.py" 346, Value.int 62 0, Value.int 2 0, Value.int 0 0, Value.int 0 0, Value.int 3 0, Value.ref 122, Value.bool true, Value.int 181 0, Value.ref 123, Value.none, Value.ref 124, Value.ref 125, Value.ref 126, Value.int 349 0, Value.int 62 0, .str "/claim/cut.py" 350] }) ::
  (nat_lit 128, fnAt (.str "thinstack.ip_options" 291) 127 (defAt 22 rfl)) ::
  (nat_lit 129, tpl #[]) ::
  (nat_lit 131, tpl #[.str "kind" 355]) ::
  (nat_lit 132, tpl #[]) ::
  (nat_lit 134, { cls := Value.type "code", data := Data.fields #[.str "is_copied" 352, .str "is_copied" 353, .str "/claim/cut.py" 354, Value.int 72 0, Value.int 1 0, Value.int 0 0, Value.int 0 0, Value.int 3 0, Value.ref 129, Value.bool true, Value.int 181 0, Value.ref 130, Value.none, Value.ref 131, Value.ref 132, Value.ref 133, Value.int 356 0, Value.int 72 0, .str "/claim/cut.py" 357] }) ::
  (nat_lit 135, fnAt (.str "thinstack.ip_options" 291) 134 (defAt 23 rfl)) ::
  (nat_lit 136, tpl #[]) ::
  (nat_lit 139, { cls := Value.type "code", data := Data.fields #[.str "copied" 359, .str "copied" 360, .str "/claim/cut.py" 361, Value.int 74 0, Value.int 1 0, Value.int 0 0, Value.int 0 0, Value.int 3 0, Value.ref 136, Value.bool true, Value.int 181 0, Value.ref 137, Value.none, Value.none, Value.none, Value.ref 138, Value.int 362 0, Value.int 74 0, .str "/claim/cut.py" 363] }) ::
  (nat_lit 140, fnAt (.str "thinstack.ip_options" 291) 139 (defAt 24 rfl)) ::
  (nat_lit 141, tpl #[]) ::
  (nat_lit 143, tpl #[.str "octets" 368]) ::
  (nat_lit 144, tpl #[]) ::
  (nat_lit 146, { cls := Value.type "code", data := Data.fields #[.str "pointer_place" 365, .str "pointer_place" 366, .str "/claim/cut.py" 367, Value.int 76 0, Value.int 1 0, Value.int 0 0, Value.int 0 0, Value.int 3 0, Value.ref 141, Value.bool true, Value.int 181 0, Value.ref 142, Value.none, Value.ref 143, Value.ref 144, Value.ref 145, Value.int 369 0, Value.int 76 0, .str "/claim/cut.py" 370] }) ::
  (nat_lit 147, fnAt (.str "thinstack.ip_options" 291) 146 (defAt 25 rfl)) ::
  (nat_lit 148, tpl #[]) ::
  (nat_lit 150, tpl #[.str "octets" 375, .str "address" 376, .str "place" 377]) ::
  (nat_lit 151, tpl #[]) ::
  (nat_lit 153, { cls := Value.type "code", data := Data.fields #[.str "record_route" 372, .str "record_route" 373, .str "/claim/cut.py" 374, Value.int 80 0, Value.int 2 0, Value.int 0 0, Value.int 0 0, Value.int 3 0, Value.ref 148, Value.bool true, Value.int 181 0, Value.ref 149, Value.none, Value.ref 150, Value.ref 151, Value.ref 152, Value.int 378 0, Value.int 80 0, .str "/claim/cut.py" 379] }) ::
  (nat_lit 154, fnAt (.str "thinstack.ip_options" 291) 153 (defAt 26 rfl)) ::
  (nat_lit 155, tpl #[]) ::
  (nat_lit 158, { cls := Value.type "code", data := Data.fields #[.str "recorded" 381, .str "recorded" 382, .str "/claim/cut.py" 383, Value.int 85 0, Value.int 1 0, Value.int 0 0, Value.int 0 0, Value.int 3 0, Value.ref 155, Value.bool true, Value.int 181 0, Value.ref 156, Value.none, Value.none, Value.none, Value.ref 157, Value.int 384 0, Value.int 85 0, .str "/claim/cut.py" 385] }) ::
  (nat_lit 159, fnAt (.str "thinstack.ip_options" 291) 158 (defAt 27 rfl)) ::
  (nat_lit 160, tpl #[]) ::
  (nat_lit 163, { cls := Value.type "code", data := Data.fields #[.str "source_route" 387, .str "source_route" 388, .str "/claim/cut.py" 389, Value.int 88 0, Value.int 1 0, Value.int 0 0, Value.int 0 0, Value.int 3 0, Value.ref 160, Value.bool true, Value.int 181 0, Value.ref 161, Value.none, Value.none, Value.none, Value.ref 162, Value.int 390 0, Value.int 88 0, .str "/claim/cut.py" 391] }) ::
  (nat_lit 164, fnAt (.str "thinstack.ip_options" 291) 163 (defAt 28 rfl)) ::
  (nat_lit 165, tpl #[]) ::
  (nat_lit 167, tpl #[.str "kind" 396]) ::
  (nat_lit 168, tpl #[]) ::
  (nat_lit 170, { cls := Value.type "code", data := Data.fields #[.str "is_strict" 393, .str "is_strict" 394, .str "/claim/cut.py" 395, Value.int 91 0, Value.int 1 0, Value.int 0 0, Value.int 0 0, Value.int 3 0, Value.ref 165, Value.bool true, Value.int 181 0, Value.ref 166, Value.none, Value.ref 167, Value.ref 168, Value.ref 169, Value.int 397 0, Value.int 91 0, .str "/claim/cut.py" 398] }) ::
  (nat_lit 171, fnAt (.str "thinstack.ip_options" 291) 170 (defAt 29 rfl)) ::
  (nat_lit 172, tpl #[]) ::
  (nat_lit 174, tpl #[.str "options" 403, .str "kind" 404, .str "octets" 405]) ::
  (nat_lit 175, tpl #[]) ::
  (nat_lit 177, { cls := Value.type "code", data := Data.fields #[.str "tells_way" 400, .str "tells_way" 401, .str "/claim/cut.py" 402, Value.int 93 0, Value.int 1 0, Value.int 0 0, Value.int 0 0, Value.int 3 0, Value.ref 172, Value.bool true, Value.int 181 0, Value.ref 173, Value.none, Value.ref 174, Value.ref 175, Value.ref 176, Value.int 406 0, Value.int 93 0, .str "/claim/cut.py" 407] }) ::
  (nat_lit 178, fnAt (.str "thinstack.ip_options" 291) 177 (defAt 30 rfl)) ::
  (nat_lit 179, tpl #[]) ::
  (nat_lit 181, tpl #[.str "octets" 412, .str "here" 413, .str "place" 414]) ::
  (nat_lit 182, tpl #[]) ::
  (nat_lit 184, { cls := Value.type "code", data := Data.fields #[.str "next_on_way" 409, .str "next_on_way" 410, .str "/claim/cut.py" 411, Value.int 98 0, Value.int 2 0, Value.int 0 0, Value.int 0 0, Value.int 3 0, Value.ref 179, Value.bool true, Value.int 181 0, Value.ref 180, Value.none, Value.ref 181, Value.ref 182, Value.ref 183, Value.int 415 0, Value.int 98 0, .str "/claim/cut.py" 416] }) ::
  (nat_lit 185, fnAt (.str "thinstack.ip_options" 291) 184 (defAt 31 rfl)) ::
  (nat_lit 186, tpl #[]) ::
  (nat_lit 188, tpl #[.str "script" 423, .str "k" 424, .str "cell" 425, .str "big" 426, .str "blend" 427]) ::
  (nat_lit 189, tpl #[]) ::
  (nat_lit 191, { cls := Value.type "code", data := Data.fields #[.str "_law_pool" 420, .str "_law_pool" 421, .str "/claim/cut.py" 422, Value.int 104 0, Value.int 2 0, Value.int 0 0, Value.int 0 0, Value.int 3 0, Value.ref 186, Value.bool true, Value.int 181 0, Value.ref 187, Value.none, Value.ref 188, Value.ref 189, Value.ref 190, Value.int 428 0, Value.int 104 0, .str "/claim/cut.py" 429] }) ::
  (nat_lit 192, fnAt (.str "law_on0337_01" 418) 191 (defAt 33 rfl)) ::
  (nat_lit 193, tpl #[]) ::
  (nat_lit 195, tpl #[.str "source" 434, .str "top" 435, .str "figure" 436]) ::
  (nat_lit 196, tpl #[]) ::
  (nat_lit 198, { cls := Value.type "code", data := Data.fields #[.str "_law_take" 431, .str "_law_take" 432, .str "/claim/cut.py" 433, Value.int 109 0, Value.int 2 0, Value.int 0 0, Value.int 0 0, Value.int 3 0, Value.ref 193, Value.bool true, Value.int 181 0, Value.ref 194, Value.none, Value.ref 195, Value.ref 196, Value.ref 197, Value.int 437 0, Value.int 109 0, .str "/claim/cut.py" 438] }) ::
  (nat_lit 199, fnAt (.str "law_on0337_01" 418) 198 (defAt 34 rfl)) ::
  (nat_lit 200, tpl #[]) ::
  (nat_lit 202, tpl #[.str "source" 443, .str "things" 444]) ::
  (nat_lit 203, tpl #[]) ::
  (nat_lit 205, { cls := Value.type "code", data := Data.fields #[.str "_law_one" 440, .str "_law_one" 441, .str "/claim/cut.py" 442, Value.int 116 0, Value.int 2 0, Value.int 0 0, Value.int 0 0, Value.int 3 0, Value.ref 200, Value.bool true, Value.int 181 0, Value.ref 201, Value.none, Value.ref 202, Value.ref 203, Value.ref 204, Value.int 445 0, Value.int 116 0, .str "/claim/cut.py" 446] }) ::
  (nat_lit 206, fnAt (.str "law_on0337_01" 418) 205 (defAt 35 rfl)) ::
  (nat_lit 207, tpl #[]) ::
  (nat_lit 210, { cls := Value.type "code", data := Data.fields #[.str "_law_some" 448, .str "_law_some" 449, .str "/claim/cut.py" 450, Value.int 118 0, Value.int 2 0, Value.int 0 0, Value.int 0 0, Value.int 3 0, Value.ref 207, Value.bool true, Value.int 181 0, Value.ref 208, Value.none, Value.none, Value.none, Value.ref 209, Value.int 451 0, Value.int 118 0, .str "/claim/cut.py" 452] }) ::
  (nat_lit 211, fnAt (.str "law_on0337_01" 418) 210 (defAt 36 rfl)) ::
  (nat_lit 212, tpl #[]) ::
  (nat_lit 214, tpl #[.str "source" 457, .str "kind" 458]) ::
  (nat_lit 215, tpl #[]) ::
  (nat_lit 217, { cls := Value.type "code", data := Data.fields #[.str "_law_option" 454, .str "_law_option" 455, .str "/claim/cut.py" 456, Value.int 120 0, Value.int 1 0, Value.int 0 0, Value.int 0 0, Value.int 3 0, Value.ref 212, Value.bool true, Value.int 181 0, Value.ref 213, Value.none, Value.ref 214, Value.ref 215, Value.ref 216, Value.int 459 0, Value.int 120 0, .str "/claim/cut.py" 460] }) ::
  (nat_lit 218, fnAt (.str "law_on0337_01" 418) 217 (defAt 37 rfl)) ::
  (nat_lit 219, tpl #[]) ::
  (nat_lit 221, tpl #[.str "some" 465, .str "found" 466, .str "kind" 467, .str "octets" 468]) ::
  (nat_lit 222, tpl #[]) ::
  (nat_lit 224, { cls := Value.type "code", data := Data.fields #[.str "_law_plain" 462, .str "_law_plain" 463, .str "/claim/cut.py" 464, Value.int 123 0, Value.int 1 0, Value.int 0 0, Value.int 0 0, Value.int 3 0, Value.ref 219, Value.bool true, Value.int 181 0, Value.ref 220, Value.none, Value.ref 221, Value.ref 222, Value.ref 223, Value.int 469 0, Value.int 123 0, .str "/claim/cut.py" 470] }) ::
  (nat_lit 225, fnAt (.str "law_on0337_01" 418) 224 (defAt 38 rfl)) ::
  (nat_lit 226, tpl #[]) ::
  (nat_lit 228, tpl #[.str "call" 475]) ::
  (nat_lit 229, tpl #[]) ::
  (nat_lit 231, { cls := Value.type "code", data := Data.fields #[.str "_law_told" 472, .str "_law_told" 473, .str "/claim/cut.py" 474, Value.int 128 0, Value.int 1 0, Value.int 0 0, Value.int 0 0, Value.int 3 0, Value.ref 226, Value.bool true, Value.int 181 0, Value.ref 227, Value.none, Value.ref 228, Value.ref 229, Value.ref 230, Value.int 476 0, Value.int 128 0, .str "/claim/cut.py" 477] }) ::
  (nat_lit 232, fnAt (.str "law_on0337_01" 418) 231 (defAt 39 rfl)) ::
  (nat_lit 233, tpl #[]) ::
  (nat_lit 235, tpl #[.str "octets" 482, .str "place" 483]) ::
  (nat_lit 236, tpl #[]) ::
  (nat_lit 238, { cls := Value.type "code", data := Data.fields #[.str "_law_size" 479, .str "_law_size" 480, .str "/claim/cut.py" 481, Value.int 135 0, Value.int 2 0, Value.int 0 0, Value.int 0 0, Value.int 3 0, Value.ref 233, Value.bool true, Value.int 181 0, Value.ref 234, Value.none, Value.ref 235, Value.ref 236, Value.ref 237, Value.int 484 0, Value.int 135 0, .str "/claim/cut.py" 485] }) ::
  (nat_lit 239, fnAt (.str "law_on0337_01" 418) 238 (defAt 40 rfl)) ::
  (nat_lit 240, tpl #[]) ::
  (nat_lit 242, tpl #[.str "octets" 490, .str "found" 491, .str "place" 492, .str "turn" 493, .str "size" 494]) ::
  (nat_lit 243, tpl #[]) ::
  (nat_lit 245, { cls := Value.type "code", data := Data.fields #[.str "_law_read" 487, .str "_law_read" 488, .str "/claim/cut.py" 489, Value.int 139 0, Value.int 1 0, Value.int 0 0, Value.int 0 0, Value.int 3 0, Value.ref 240, Value.bool true, Value.int 181 0, Value.ref 241, Value.none, Value.ref 242, Value.ref 243, Value.ref 244, Value.int 495 0, Value.int 139 0, .str "/claim/cut.py" 496] }) ::
  (nat_lit 246, fnAt (.str "law_on0337_01" 418) 245 (defAt 41 rfl)) ::
  (nat_lit 247, tpl #[]) ::
  (nat_lit 250, { cls := Value.type "code", data := Data.fields #[.str "_law_rows_right" 498, .str "_law_rows_right" 499, .str "/claim/cut.py" 500, Value.int 150 0, Value.int 1 0, Value.int 0 0, Value.int 0 0, Value.int 3 0, Value.ref 247, Value.bool true, Value.int 181 0, Value.ref 248, Value.none, Value.none, Value.none, Value.ref 249, Value.int 501 0, Value.int 150 0, .str "/claim/cut.py" 502] }) ::
  (nat_lit 251, fnAt (.str "law_on0337_01" 418) 250 (defAt 42 rfl)) ::
  (nat_lit 252, tpl #[]) ::
  (nat_lit 255, { cls := Value.type "code", data := Data.fields #[.str "_law_four" 504, .str "_law_four" 505, .str "/claim/cut.py" 506, Value.int 177 0, Value.int 1 0, Value.int 0 0, Value.int 0 0, Value.int 3 0, Value.ref 252, Value.bool true, Value.int 181 0, Value.ref 253, Value.none, Value.none, Value.none, Value.ref 254, Value.int 507 0, Value.int 177 0, .str "/claim/cut.py" 508] }) ::
  (nat_lit 256, fnAt (.str "law_on0337_01" 418) 255 (defAt 43 rfl)) ::
  (nat_lit 257, tpl #[]) ::
  (nat_lit 260, { cls := Value.type "code", data := Data.fields #[.str "_law_route_right" 510, .str "_law_route_right" 511, .str "/claim/cut.py" 512, Value.int 179 0, Value.int 1 0, Value.int 0 0, Value.int 0 0, Value.int 3 0, Value.ref 257, Value.bool true, Value.int 181 0, Value.ref 258, Value.none, Value.none, Value.none, Value.ref 259, Value.int 513 0, Value.int 179 0, .str "/claim/cut.py" 514] }) ::
  (nat_lit 261, fnAt (.str "law_on0337_01" 418) 260 (defAt 44 rfl)) ::
  (nat_lit 262, tpl #[]) ::
  (nat_lit 264, tpl #[.str "script" 519, .str "due" 520, .str "k" 521, .str "source" 522]) ::
  (nat_lit 265, tpl #[.str "kind" 523, .str "octets" 524]) ::
  (nat_lit 267, { cls := Value.type "code", data := Data.fields #[.str "law" 516, .str "law" 517, .str "/claim/cut.py" 518, Value.int 205 0, Value.int 1 0, Value.int 0 0, Value.int 0 0, Value.int 3 0, Value.ref 262, Value.bool true, Value.int 181 0, Value.ref 263, Value.none, Value.ref 264, Value.ref 265, Value.ref 266, Value.int 525 0, Value.int 205 0, .str "/claim/cut.py" 526] }) ::
  (nat_lit 268, fnAt (.str "law_on0337_01" 418) 267 (defAt 45 rfl)) :: []
abbrev asL : List Addr := [2, 3, 15, 22, 24, 25, 27, 28, 29, 30, 31, 32, 35, 42, 43, 44, 47, 54, 55, 56, 59, 61, 62, 64, 65, 66, 68, 69, 71, 72, 73, 75, 76, 78, 79, 80, 82, 83, 85, 86, 87, 89, 90, 92, 93, 94, 96, 97, 99, 100, 101, 103, 104, 106, 107, 108, 110, 111, 113, 114, 115, 117, 118, 120, 121, 122, 124, 125, 127, 128, 129, 131, 132, 134, 135, 136, 139, 140, 141, 143, 144, 146, 147, 148, 150, 151, 153, 154, 155, 158, 159, 160, 163, 164, 165, 167, 168, 170, 171, 172, 174, 175, 177, 178, 179, 181, 182, 184, 185, 186, 188, 189, 191, 192, 193, 195, 196, 198, 199, 200, 202, 203, 205, 206, 207, 210, 211, 212, 214, 215, 217, 218, 219, 221, 222, 224, 225, 226, 228, 229, 231, 232, 233, 235, 236, 238, 239, 240, 242, 243, 245, 246, 247, 250, 251, 252, 255, 256, 257, 260, 261, 262, 264, 265, 267, 268]
abbrev viewOf {s0 s1 s2 s3 s4 s5 s6 s7 s8 s9 s10 s11 s12 s13 s14 s15 s16 s17 s18 s19 s20 s21 s22 s23 s24 s25 s26 s27 s28 s29 s30 s31 s32 s33 s34 s35 s36 s37 s38 s39 s40 s41 s42 s43 s44 s45 : Stmt} (h : tops = [s0, s1, s2, s3, s4, s5, s6, s7, s8, s9, s10, s11, s12, s13, s14, s15, s16, s17, s18, s19, s20, s21, s22, s23, s24, s25, s26, s27, s28, s29, s30, s31, s32, s33, s34, s35, s36, s37, s38, s39, s40, s41, s42, s43, s44, s45]) : List Stmt := [s1, s2, s3, s5, s6, s7, s8, s9, s11, s12, s13, s14, s15, s16, s17, s18, s19, s20, s21, s22, s23, s24, s25, s26, s27, s28, s29, s30, s31, s33, s34, s35, s36, s37, s38, s39, s40, s41, s42, s43, s44, s45]
/-- the program without its four remarks of a name -/
noncomputable def hd.view_39 : Program := { PySem.Challenge.pw_on0337_01 with main := { PySem.Challenge.pw_on0337_01.main with body := viewOf (rfl : tops = _) } }
theorem reg (P : Params) : (hd.heap_39 P = hd.heap_39 P) ∧ PySem.Challenge.rw_on0337_01 = PySem.Challenge.rw_on0337_01 := by
  k_fill
  exact ⟨rfl, rfl⟩
end Mine
end
section
open PySem PySem.W PySem.Spec PySem.Calls PyProof.Rows
set_option maxHeartbeats 0
namespace Mine
theorem keysK (P : Params) : asL = (hd.heap_39 P).map (·.1) := by kernel_rfl
theorem lefts : LeftO PySem.Challenge.rw_on0337_01.row.prog hd.view_39 [] (fun s => xlAt hd.view_39 [] s && recOk (RowW.records PySem.Challenge.rw_on0337_01.row.toRowW) s) (Hook.obs (kmHook hd.heap_39 asL keysK [258, 248, 263])) (Hook.val (kmHook hd.heap_39 asL keysK [258, 248, 263])) 3528 := by
  intro w
  kernel_rfl
end Mine
end
section
open PySem PySem.W PySem.Spec PySem.Calls PyProof.Rows
namespace Mine
abbrev Prog : Program := PySem.Challenge.rw_on0337_01.row.prog

set_option genSizeOf false in
set_option genSizeOfSpec false in
set_option genInjectivity false in
/-- what a value says, without the tokens -/
inductive PV where
  | none
  | bool (b : Bool)
  | int (i : Int)
  | str (x : Str)
  | byt (b : List UInt8)
  | ref (a : Addr)
  | tup (l : List PV)
  | lst (l : List PV)
  | lam (q : Str) (ps : Arguments) (b : Expr) (sc : Scope) (cl : List (Str × Addr))

def But (as : List Addr) (h h' : Heap) : Prop := ∀ b o, b ∉ as → h.get? b = some o → h'.get? b = some o
theorem But.refl {as : List Addr} {h : Heap} : But as h h := fun _ _ _ e => e
theorem But.trans {as : List Addr} {h₁ h₂ h₃ : Heap} (x : But as h₁ h₂) (y : But as h₂ h₃) : But as h₁ h₃ := fun b o n e => y b o n (x b o n e)
theorem But.all {h h' : Heap} (x : But [] h h') : ∀ b o, h.get? b = some o → h'.get? b = some o := fun b o e => x b o (fun q => nomatch q) e
theorem But.of {h h' : Heap} (x : ∀ b o, h.get? b = some o → h'.get? b = some o) : But [] h h' := fun b o _ e => x b o e
theorem But.any {as : List Addr} {h h' : Heap} (x : But [] h h') : But as h h' := fun b o _ e => x b o (fun q => nomatch q) e
theorem But.push {h : Heap} {o : Obj} : But [] h (h.push o) := fun _ _ _ e => Heap.get?_push_of_some _ e
theorem But.mono {as bs : List Addr} {h h' : Heap} (x : But as h h') (s : ∀ a ∈ as, a ∈ bs) : But bs h h' := fun b o n e => x b o (fun q => n (s b q)) e
theorem But.same {a : Addr} {h h' : Heap} (x : Heap.SameBut a h h') : But [a] h h' := fun b o n e => (x.2 b (fun q => n (q ▸ List.Mem.head _))).trans e

abbrev tupO (vs : List Value) (n : Nat) : Obj := { cls := .type "tuple", data := .seq vs.toArray n }
abbrev lstO (vs : List Value) (n : Nat) : Obj := listOf vs.toArray n

inductive Is (mu : List Addr) (h : Heap) : Value → PV → Prop
  | none : Is mu h Value.none PV.none
  | bool (b : Bool) : Is mu h (Value.bool b) (PV.bool b)
  | int (i : Int) (t : Tok) : Is mu h (Value.int i t) (PV.int i)
  | str (x : Str) (t : Tok) : Is mu h (Value.str x t) (PV.str x)
  | byt (b : List UInt8) (t : Tok) : Is mu h (Value.bytes b.toArray t) (PV.byt b)
  | ref (a : Addr) : Is mu h (Value.ref a) (PV.ref a)
  | tup {a : Addr} {vs : List Value} {n : Nat} {l : List PV} : a ∉ mu → h.get? a = some (tupO vs n) → vs.length = l.length → (∀ (i : Nat) v x, vs[i]? = some v → l[i]? = some x → Is mu h v x) → Is mu h (Value.ref a) (PV.tup l)
  | lst {a : Addr} {vs : List Value} {n : Nat} {l : List PV} : a ∉ mu → h.get? a = some (lstO vs n) → vs.length = l.length → (∀ (i : Nat) v x, vs[i]? = some v → l[i]? = some x → Is mu h v x) → Is mu h (Value.ref a) (PV.lst l)
  | lam {a c : Addr} {pm ctv : Value} {oc : Obj} {vs : Array Value} {t : Tok} {q : Str} {ps : Arguments} {b : Expr} {sc : Scope} {cl : List (Str × Addr)} : a ∉ mu → h.get? a = some (kla_obj "<lambda>" q ps b sc cl pm c ctv) → c ∉ mu → h.get? c = some oc → oc.data = .fields vs → vs[1]? = some (.str q t) → Is mu h (Value.ref a) (PV.lam q ps b sc cl)
def IsL (mu : List Addr) (h : Heap) (vs : List Value) (l : List PV) : Prop := vs.length = l.length ∧ ∀ (i : Nat) v x, vs[i]? = some v → l[i]? = some x → Is mu h v x
section
variable {mu : List Addr} {h : Heap} {v : Value}
theorem Is.none' (i : Is mu h v .none) : v = .none := by cases i; rfl
theorem Is.bool' {b : Bool} (i : Is mu h v (.bool b)) : v = .bool b := by cases i; rfl
theorem Is.int' {b : Int} (i : Is mu h v (.int b)) : ∃ t, v = .int b t := by cases i; exact ⟨_, rfl⟩
theorem Is.str' {b : Str} (i : Is mu h v (.str b)) : ∃ t, v = .str b t := by cases i; exact ⟨_, rfl⟩
theorem Is.byt' {b : List UInt8} (i : Is mu h v (.byt b)) : ∃ t, v = .bytes b.toArray t := by cases i; exact ⟨_, rfl⟩
theorem Is.ref' {b : Addr} (i : Is mu h v (.ref b)) : v = .ref b := by cases i; rfl
theorem Is.tup' {l : List PV} (i : Is mu h v (.tup l)) : ∃ a vs n, v = .ref a ∧ a ∉ mu ∧ h.get? a = some (tupO vs n) ∧ IsL mu h vs l := by cases i with | tup n e r q => exact ⟨_, _, _, rfl, n, e, r, q⟩
theorem Is.lst' {l : List PV} (i : Is mu h v (.lst l)) : ∃ a vs n, v = .ref a ∧ a ∉ mu ∧ h.get? a = some (lstO vs n) ∧ IsL mu h vs l := by cases i with | lst n e r q => exact ⟨_, _, _, rfl, n, e, r, q⟩
theorem Is.lam' {q : Str} {ps : Arguments} {b : Expr} {sc : Scope} {cl : List (Str × Addr)} (i : Is mu h v (.lam q ps b sc cl)) : ∃ a c pm ctv, v = .ref a ∧ a ∉ mu ∧ h.get? a = some (kla_obj "<lambda>" q ps b sc cl pm c ctv) ∧ h.CodeRec (.ref c) q := by cases i with | lam n e m d r y => exact ⟨_, _, _, _, rfl, n, e, _, _, _, _, rfl, d, r, y⟩
theorem IsL.nil : IsL mu h [] [] := ⟨rfl, fun _ _ _ e => by simp at e⟩
theorem IsL.cons {vs : List Value} {x : PV} {l : List PV} (a : Is mu h v x) (r : IsL mu h vs l) : IsL mu h (v :: vs) (x :: l) := ⟨congrArg (· + 1) r.1, fun i => match i with
  | 0 => fun _ _ e f => Option.some.inj e ▸ Option.some.inj f ▸ a
  | i + 1 => r.2 i⟩
theorem IsL.nil' {vs : List Value} (i : IsL mu h vs []) : vs = [] := List.eq_nil_of_length_eq_zero i.1
theorem IsL.cons' {vs : List Value} {x : PV} {l : List PV} (i : IsL mu h vs (x :: l)) : ∃ v ws, vs = v :: ws ∧ Is mu h v x ∧ IsL mu h ws l := by
  cases vs with
  | nil => exact absurd i.1 (Nat.succ_ne_zero _).symm
  | cons v ws => exact ⟨v, ws, rfl, i.2 0 _ _ rfl rfl, Nat.succ.inj i.1, fun k => i.2 (k + 1)⟩
theorem IsL.get {vs : List Value} {l : List PV} (r : IsL mu h vs l) {i : Nat} {x : PV} (e : l[i]? = some x) : ∃ v, vs[i]? = some v ∧ Is mu h v x := by
  have hi : i < vs.length := r.1 ▸ (List.getElem?_eq_some_iff.mp e).1
  exact ⟨vs[i], List.getElem?_eq_getElem hi, r.2 i _ _ (List.getElem?_eq_getElem hi) e⟩
theorem IsL.snoc {vs : List Value} {x : PV} {l : List PV} (r : IsL mu h vs l) (a : Is mu h v x) : IsL mu h (vs ++ [v]) (l ++ [x]) := by
  induction l generalizing vs with
  | nil => rw [r.nil']; exact .cons a .nil
  | cons y l ih => obtain ⟨w, ws, rfl, b, q⟩ := r.cons'; exact .cons b (ih q)
end
theorem Is.up {mu mu' : List Addr} {h h' : Heap} (k : ∀ a o, a ∉ mu → h.get? a = some o → a ∉ mu' ∧ h'.get? a = some o) {v : Value} {x : PV} (i : Is mu h v x) : Is mu' h' v x := by
  induction i with
  | none => exact .none
  | bool b => exact .bool b
  | int i t => exact .int i t
  | str x t => exact .str x t
  | byt b t => exact .byt b t
  | ref a => exact .ref a
  | tup n e r _ ih => exact .tup (k _ _ n e).1 (k _ _ n e).2 r ih
  | lst n e r _ ih => exact .lst (k _ _ n e).1 (k _ _ n e).2 r ih
  | lam n e m d r y => exact .lam (k _ _ n e).1 (k _ _ n e).2 (k _ _ m d).1 (k _ _ m d).2 r y
theorem Is.but {mu : List Addr} {h h' : Heap} (k : But mu h h') {v : Value} {x : PV} (i : Is mu h v x) : Is mu h' v x := i.up fun _ _ n e => ⟨n, k _ _ n e⟩
theorem IsL.but {mu : List Addr} {h h' : Heap} (k : But mu h h') {vs : List Value} {x : List PV} (i : IsL mu h vs x) : IsL mu h' vs x := ⟨i.1, fun j v x a b => (i.2 j v x a b).but k⟩
theorem Is.off {mu mu' : List Addr} {h : Heap} (k : ∀ a ∈ mu', a ∈ mu ∨ h.get? a = Option.none) {v : Value} {x : PV} (i : Is mu h v x) : Is mu' h v x :=
  i.up fun _ _ n e => ⟨fun q => (k _ q).elim n fun z => Option.some_ne_none _ (e.symm.trans z), e⟩
theorem IsL.off {mu mu' : List Addr} {h : Heap} (k : ∀ a ∈ mu', a ∈ mu ∨ h.get? a = Option.none) {vs : List Value} {x : List PV} (i : IsL mu h vs x) : IsL mu' h vs x := ⟨i.1, fun j v x a b => (i.2 j v x a b).off k⟩
theorem Is.ext {mu : List Addr} {h h' : Heap} {v : Value} {x : PV} (i : Is mu h v x) (k : But [] h h') : Is mu h' v x := i.but k.any
theorem IsL.ext {mu : List Addr} {h h' : Heap} {vs : List Value} {l : List PV} (i : IsL mu h vs l) (k : But [] h h') : IsL mu h' vs l := i.but k.any

set_option genSizeOf false in
set_option genSizeOfSpec false in
set_option genInjectivity false in
structure Cx where
  w : World
  A : Around
  env : Env
  fenv : Env
  mu : List Addr
  own : List Addr
  snap : Heap
  fs : List Addr

structure Good (C : Cx) (lv : Nat) : Prop where
  hh : C.A.handled = none
  hd : C.A.depth + 4 * lv ≤ 400
  hu : C.A.units + 40 * lv ≤ 4000
  fk : C.fenv.scope.kind = .function
  ek : C.env.scope.kind = .function
  g : C.env.globals = mainGlobals
  b : C.env.builtins = builtinsNs

inductive Var (C : Cx) (h : Heap) (m : Str → Option Value) (x : Str) (X : PV) : Prop
  | loc {v : Value} : C.env.kindOf x = some .local → m x = some v → Is C.mu h v X → Var C h m x X
  | cell {v : Value} {c : Addr} : C.env.kindOf x = some .cell → C.env.cells.lookup x = some c → h.IsCell c (some v) → Is C.mu h v X → Var C h m x X
  | free {v : Value} {c : Addr} : C.env.kindOf x = some .free → C.env.cells.lookup x = some c → h.IsCell c (some v) → Is C.mu h v X → Var C h m x X

/-- the cells of an environment stand, apart -/
def Cells (C : Cx) (h : Heap) : Prop := ∀ x c, C.env.cells.lookup x = some c → (∃ v, h.IsCell c v) ∧ c ∈ C.mu ∧ ∀ y, C.env.cells.lookup y = some c → y = x

set_option genSizeOf false in
set_option genSizeOfSpec false in
set_option genInjectivity false in
/-- what the frame knows of an object that it may change -/
inductive LO where
  | obj (o : Obj)
  | lst (l : List PV)
  | tab (q : Str)
def LO.Says (mu : List Addr) (h : Heap) : LO → Obj → Prop
  | .obj o, o' => o' = o
  | .lst l, o' => ∃ vs n, o' = lstO vs n ∧ IsL mu h vs l
  | .tab q, o' => ∃ ps, o' = tabObj ps ∧ TriplesOk ps.toList ∧ ∀ pos cv, codeAmong pos ps.toList = some cv → ∃ c oc vs t, cv = .ref c ∧ c ∉ mu ∧ h.get? c = some oc ∧ oc.data = .fields vs ∧ vs[1]? = some (.str q t)
theorem LO.Says.up {mu mu' : List Addr} {h h' : Heap} (k : ∀ a o, a ∉ mu → h.get? a = some o → a ∉ mu' ∧ h'.get? a = some o) {l : LO} {o : Obj} (i : l.Says mu h o) : l.Says mu' h' o := by
  cases l with
  | obj _ => exact i
  | lst l => obtain ⟨vs, n, e, r⟩ := i; exact ⟨vs, n, e, r.1, fun j v x a b => (r.2 j v x a b).up k⟩
  | tab q => obtain ⟨ps, e, t, r⟩ := i; exact ⟨ps, e, t, fun pos cv x => by obtain ⟨c, oc, vs, t, x1, x2, x3, x4⟩ := r pos cv x; exact ⟨c, oc, vs, t, x1, (k _ _ x2 x3).1, (k _ _ x2 x3).2, x4⟩⟩
/-- an object that is no name's place -/
def Item (o : Obj) : Prop := (∀ es n, o.data ≠ .dict es n) ∧ (∀ v, o.data ≠ .cell v)
def Led (mu : List Addr) (h₀ : Heap) (Lf : Addr) (h : Heap) (led : List (Addr × LO)) : Prop := ∀ q ∈ led, ∃ o, h.get? q.1 = some o ∧ q.1 ≠ Lf ∧ h₀.get? q.1 = none ∧ q.2.Says mu h o ∧ Item o
theorem Led.but {mu : List Addr} {h₀ h h' : Heap} {Lf : Addr} {led : List (Addr × LO)} (D : Led mu h₀ Lf h led) (k : But mu h h') (ko : ∀ q ∈ led, h'.get? q.1 = h.get? q.1) : Led mu h₀ Lf h' led := fun q hq => by
  obtain ⟨o, a, b, c, d, f⟩ := D q hq
  exact ⟨o, (ko q hq).trans a, b, c, d.up fun a o n e => ⟨n, k a o n e⟩, f⟩
theorem Led.ext {mu : List Addr} {h₀ h h' : Heap} {Lf : Addr} {led : List (Addr × LO)} (D : Led mu h₀ Lf h led) (k : But [] h h') : Led mu h₀ Lf h' led := D.but k.any fun q hq => by
  obtain ⟨o, a, _⟩ := D q hq
  rw [a]; exact k.all _ _ a
inductive Inv (C : Cx) (lv : Nat) (led : List (Addr × LO)) (bs : List (Str × PV)) (h : Heap) : Prop
  | mk {A₀ : Around} {base h₀ : Heap} {outer : List Env} {p : Program} {loose : List Str} {mean : ExcName → Option Value} {mg mb mf m : Str → Option Value} {Lf : Addr}
    (G : Good C lv) (B : Below A₀ base outer h₀) (X : (hd.heap_39 C.w.params).In base) (T : Top p loose mean mg mb base) (F : Fr h₀ Lf h mf) (hA : C.A.frames = some (C.fenv :: outer)) (hf : C.fenv.frame = some Lf)
    (ns : h.Ns C.env.locals m) (V : ∀ x X, bs.lookup x = some X → Var C h m x X) (Y : Cells C h) (D : Led C.mu h₀ Lf h led)
    (kept : ∀ b o, C.snap.get? b = some o → b ∉ C.fs → h.get? b = some o) (slots : C.snap.UpToSlots h)
    (hmu : ∀ a ∈ C.mu, h.get? a ≠ Option.none) (hms : ∀ a ∈ C.own, C.snap.get? a = Option.none ∧ h₀.get? a = Option.none ∧ a ∈ C.mu) (hld : ∀ q ∈ led, q.1 ∈ C.own) (hll : C.env.locals ∈ C.mu) : Inv C lv led bs h

theorem Var.ext {C : Cx} {h h' : Heap} {m : Str → Option Value} {x : Str} {X : PV} (V : Var C h m x X) (k : But [] h h') : Var C h' m x X := by
  cases V with
  | loc a b c => exact .loc a b (c.ext k)
  | cell a b c e => exact .cell a b (c.keeps k.all) (e.ext k)
  | free a b c e => exact .free a b (c.keeps k.all) (e.ext k)
theorem Cells.ext {C : Cx} {h h' : Heap} (Y : Cells C h) (k : But [] h h') : Cells C h' := fun x c e => by
  obtain ⟨⟨v, a⟩, r⟩ := Y x c e
  exact ⟨⟨v, a.keeps k.all⟩, r⟩
theorem Inv.ext {C : Cx} {lv : Nat} {led : List (Addr × LO)} {bs : List (Str × PV)} {h h' : Heap} (I : Inv C lv led bs h) (k : But [] h h') : Inv C lv led bs h' := by
  obtain ⟨G, B, X, T, F, hA, hf, ns, V, Y, D, kept, slots, hmu, hms, hld, hll⟩ := I
  refine .mk G B X T (F.keeps k.all) hA hf (ns.keeps k.all) (fun x X e => (V x X e).ext k) (Y.ext k) (D.ext k) (fun b o e n => k.all _ _ (kept b o e n)) (slots.trans (.of_keeps k.all)) (fun a ha e => ?_) hms hld hll
  cases q : h.get? a with
  | none => exact hmu a ha q
  | some o => rw [k.all _ _ q] at e; cases e
theorem Inv.good {C : Cx} {lv : Nat} {led : List (Addr × LO)} {bs : List (Str × PV)} {h : Heap} (I : Inv C lv led bs h) : Good C lv := by obtain ⟨G⟩ := I; exact G
theorem Inv.sub {C : Cx} {lv : Nat} {led : List (Addr × LO)} {bs bs' : List (Str × PV)} {h : Heap} (I : Inv C lv led bs h) (k : ∀ x X, bs'.lookup x = some X → bs.lookup x = some X) : Inv C lv led bs' h := by
  obtain ⟨G, B, X, T, F, hA, hf, ns, V, Y, D, kept, slots, hmu, hms, hld, hll⟩ := I
  exact .mk G B X T F hA hf ns (fun x X e => V x X (k x X e)) Y D kept slots hmu hms hld hll
theorem Inv.fresh {C : Cx} {lv : Nat} {led : List (Addr × LO)} {bs : List (Str × PV)} {h : Heap} (I : Inv C lv led bs h) : h.objs.size ∉ C.mu := fun q => by
  obtain ⟨G, B, X, T, F, hA, hf, ns, V, Y, D, kept, slots, hmu, r⟩ := I
  refine hmu _ q ?_
  cases e : h.get? h.objs.size with
  | none => rfl
  | some o => exact absurd (Heap.lt_size e) (Nat.lt_irrefl _)

def Ev (C : Cx) (h : Heap) (e : Expr) (x : PV) : Prop := ∀ (s : Shared) (Q E : Value → Shared → Prop), But [] h s.heap →
  (∀ v h' tk, But [] s.heap h' → Is C.mu h' v x → Q v { s with heap := h', toks := tk }) → wpAny (model Prog C.w) C.A (eval e C.env) Q E s
theorem Ev.up {C : Cx} {h h' : Heap} {e : Expr} {x : PV} (i : Ev C h e x) (k : But [] h h') : Ev C h' e x := fun s Q E b q => i s Q E (k.trans b) q
def Tv (C : Cx) (h : Heap) (e : Expr) (b : Bool) : Prop := ∀ (s : Shared) (Q : Bool → Shared → Prop) (E : Value → Shared → Prop), But [] h s.heap →
  (∀ h' tk, But [] s.heap h' → Q b { s with heap := h', toks := tk }) → wpAny (model Prog C.w) C.A (isTrue e C.env (eval e C.env)) Q E s
theorem Tv.up {C : Cx} {h h' : Heap} {e : Expr} {x : Bool} (i : Tv C h e x) (k : But [] h h') : Tv C h' e x := fun s Q E b q => i s Q E (k.trans b) q
/-- an operation on values -/
def Op (C : Cx) (t : Value → Value → Sem Value) (X Y Z : PV) : Prop := ∀ (s : Shared) (Q E : Value → Shared → Prop) (v w : Value), Is C.mu s.heap v X → Is C.mu s.heap w Y →
  (∀ u h' tk, But [] s.heap h' → Is C.mu h' u Z → Q u { s with heap := h', toks := tk }) → wpAny (model Prog C.w) C.A (t v w) Q E s

section
variable {C : Cx} {h : Heap} {lv : Nat} {led : List (Addr × LO)} {bs : List (Str × PV)}
theorem Ev.var {x : Str} {pos : Pos} {X : PV} (I : Inv C lv led bs h) (e : bs.lookup x = some X) (hd : (x == ("__debug__" : Str)) = false := by decide) (hn : (x == ("__classdict__" : Str)) = false := by decide) : Ev C h (.Name x pos) X := fun s Q E k q => by
  obtain ⟨G, B, _, T, F, hA, hf, ns, V, _⟩ := I.ext k
  cases V x X e with
  | loc a b c => exact wpAny_Name (wpAny_loadName_local G.ek a ns b (q _ _ _ .refl c)) hd
  | cell a b c e => exact wpAny_Name (wpAny_loadName_cell G.ek a b c (q _ _ _ .refl e)) hd
  | free a b c e => exact wpAny_Name (wpAny_loadName_free G.ek a b c (q _ _ _ .refl e) hn) hd
theorem Ev.int {i : Int} {k : Nat} {pos : Pos} : Ev C h (.Constant (.int i) k pos) (.int i) := fun _ _ _ _ q => wpAny_Constant_int (q _ _ _ .refl (.int _ _))
theorem Ev.str {i : Str} {k : Nat} {pos : Pos} : Ev C h (.Constant (.str i) k pos) (.str i) := fun _ _ _ _ q => wpAny_Constant_str (q _ _ _ .refl (.str _ _))
theorem Ev.byt {i : List UInt8} {k : Nat} {pos : Pos} : Ev C h (.Constant (.bytes i) k pos) (.byt i) := fun _ _ _ _ q => Constant_bytes (q _ _ _ .refl (.byt _ _))
theorem Ev.bool {i : Bool} {k : Nat} {pos : Pos} : Ev C h (.Constant (.bool i) k pos) (.bool i) := fun _ _ _ _ q => wpAny_Constant_bool (q _ _ _ .refl (.bool _))
theorem Ev.none {k : Nat} {pos : Pos} : Ev C h (.Constant .none k pos) .none := fun _ _ _ _ q => wpAny_Constant_none (q _ _ _ .refl .none)
theorem Ev.bin {l r : Expr} {op : Operator} {pos : Pos} {X Y Z : PV} (a : Ev C h l X) (b : Ev C h r Y) (o : Op C (binaryOp op) X Y Z) : Ev C h (.BinOp l op r pos) Z := fun s Q E k q =>
  wpAny_BinOp (a s _ E k fun v h₁ _ k₁ i₁ => b _ _ E (k.trans k₁) fun w h₂ _ k₂ i₂ => o _ Q E v w (i₁.ext k₂) i₂ fun u h₃ _ k₃ i₃ => q u h₃ _ ((k₁.trans k₂).trans k₃) i₃)
theorem Ev.cmp {l r : Expr} {op : CmpOp} {pos : Pos} {X Y Z : PV} (a : Ev C h l X) (b : Ev C h r Y) (o : Op C (compareOp op) X Y Z) (hm : behindInMarks op r = false := by with_unfolding_all rfl) : Ev C h (.Compare l [op] [r] pos) Z := fun s Q E k q =>
  wpAny_Compare1 (a s _ E k fun v h₁ _ k₁ i₁ => b _ _ E (k.trans k₁) fun w h₂ _ k₂ i₂ => o _ Q E v w (i₁.ext k₂) i₂ fun u h₃ _ k₃ i₃ => q u h₃ _ ((k₁.trans k₂).trans k₃) i₃) hm
theorem Tv.cmp {l r : Expr} {op : CmpOp} {pos : Pos} {X Y : PV} {c : Bool} (a : Ev C h l X) (b : Ev C h r Y) (o : Op C (compareOp op) X Y (.bool c)) (hm : behindInMarks op r = false := by with_unfolding_all rfl) : Tv C h (.Compare l [op] [r] pos) c := fun s Q E k q =>
  wpAny_isTrue_Compare1 (a s _ E k fun v h₁ _ k₁ i₁ => b _ _ E (k.trans k₁) fun w h₂ _ k₂ i₂ => o _ _ E v w (i₁.ext k₂) i₂ fun u h₃ _ k₃ i₃ => i₃.bool' ▸ wpAny_truthy_bool (q h₃ _ ((k₁.trans k₂).trans k₃))) hm
theorem Tv.not {x : Expr} {pos : Pos} {c : Bool} (a : Tv C h x c) : Tv C h (.UnaryOp .Not x pos) (!c) := fun s _ E k q => wpAny_isTrue_Not (a s _ E k fun h' tk k' => q h' tk k')
theorem Tv.val {x : Expr} {c : Bool} (a : Ev C h x (.bool c)) (he : ∀ whole, isTrue x C.env whole = (do let v ← whole; standAt x.pos; holding [v] (truthy v)) := by intro _; rfl) : Tv C h x c := fun s _ E k q =>
  wpAny_isTrue_value (a s _ E k fun v h' tk k' i => i.bool' ▸ wpAny_truthy_bool (q h' tk k')) (he _)
theorem Ev.ifT {t b o : Expr} {pos : Pos} {X : PV} (c : Tv C h t true) (a : Ev C h b X) : Ev C h (.IfExp t b o pos) X := fun s _ E k q =>
  wpAny_IfExp (c s _ E k fun h' _ k' => a _ _ E (k.trans k') fun v h₂ _ k₂ i₂ => q v h₂ _ (k'.trans k₂) i₂)
theorem Ev.ifF {t b o : Expr} {pos : Pos} {X : PV} (c : Tv C h t false) (a : Ev C h o X) : Ev C h (.IfExp t b o pos) X := fun s _ E k q =>
  wpAny_IfExp (c s _ E k fun h' _ k' => a _ _ E (k.trans k') fun v h₂ _ k₂ i₂ => q v h₂ _ (k'.trans k₂) i₂)
theorem Ev.ifE {t b o : Expr} {pos : Pos} {c : Bool} {X Y : PV} (d : Tv C h t c) (a : c = true → Ev C h b X) (a' : c = false → Ev C h o Y) : Ev C h (.IfExp t b o pos) (if c then X else Y) := by
  cases c
  · exact .ifF d (a' rfl)
  · exact .ifT d (a rfl)
end
end Mine
end
section
open PySem PySem.W PySem.Spec PySem.Calls PyProof.Rows
namespace Mine
theorem noPyl {x y : Int} (h : y.natAbs < 1099511627776) : PySem.Builtin.divisionGoesByPylong x y = false := by
  refine PyProof.noPylong_of_log2 ?_
  by_cases h0 : y.natAbs = 0
  · rw [h0]; decide +kernel
  · have : y.natAbs.log2 < 40 := (Nat.log2_lt h0).mpr h
    omega
theorem fm_lo (a : Int) {n : Int} (h : 0 < n) : 0 ≤ Int.fmod a n := by rw [Int.fmod_eq_emod_of_nonneg _ (Int.le_of_lt h)]; exact Int.emod_nonneg _ (by omega)
theorem fm_hi (a : Int) {n : Int} (h : 0 < n) : Int.fmod a n < n := by rw [Int.fmod_eq_emod_of_nonneg _ (Int.le_of_lt h)]; exact Int.emod_lt_of_pos _ h
theorem fd_lo {a n : Int} (ha : 0 ≤ a) (h : 0 < n) : 0 ≤ Int.fdiv a n := by rw [Int.fdiv_eq_ediv_of_nonneg _ (Int.le_of_lt h)]; exact Int.ediv_nonneg ha (by omega)
def sm (a : Int) : Prop := -18446744073709551616 < a ∧ a < 18446744073709551616

theorem seqI {i : Int} {n : Nat} (h0 : 0 ≤ i) (h : i.toNat < n) : seqIndex? i n = some i.toNat := by
  unfold seqIndex?
  simp only [show ¬ i < 0 by omega, if_false]
  simp
  omega
section
variable {C : Cx}
theorem Op.add {a b : Int} : Op C (binaryOp .Add) (.int a) (.int b) (.int (a + b)) := fun s Q E v w i j q => by obtain ⟨t, rfl⟩ := i.int'; obtain ⟨u, rfl⟩ := j.int'; exact add_int (q _ _ _ .refl (.int _ _))
theorem Op.sub {a b : Int} : Op C (binaryOp .Sub) (.int a) (.int b) (.int (a - b)) := fun s Q E v w i j q => by obtain ⟨t, rfl⟩ := i.int'; obtain ⟨u, rfl⟩ := j.int'; exact sub_int (q _ _ _ .refl (.int _ _))
theorem Op.mulL {a b : Int} (h : sm a) : Op C (binaryOp .Mult) (.int a) (.int b) (.int (a * b)) := fun s Q E v w i j q => by obtain ⟨t, rfl⟩ := i.int'; obtain ⟨u, rfl⟩ := j.int'; exact mul_int (q _ _ _ .refl (.int _ _)) (.of_left (intBits_le_64 h.1 h.2))
theorem Op.mulR {a b : Int} (h : sm b) : Op C (binaryOp .Mult) (.int a) (.int b) (.int (a * b)) := fun s Q E v w i j q => by obtain ⟨t, rfl⟩ := i.int'; obtain ⟨u, rfl⟩ := j.int'; exact mul_int (q _ _ _ .refl (.int _ _)) (.of_right (intBits_le_64 h.1 h.2))
theorem Op.mod {a b : Int} (h : b ≠ 0) : Op C (binaryOp .Mod) (.int a) (.int b) (.int (a.fmod b)) := fun s Q E v w i j q => by obtain ⟨t, rfl⟩ := i.int'; obtain ⟨u, rfl⟩ := j.int'; exact mod_int' h (q _ _ _ .refl (.int _ _))
theorem Op.fdiv {a b : Int} (h : b ≠ 0) (k : b.natAbs < 1099511627776) : Op C (binaryOp .FloorDiv) (.int a) (.int b) (.int (a.fdiv b)) := fun s Q E v w i j q => by obtain ⟨t, rfl⟩ := i.int'; obtain ⟨u, rfl⟩ := j.int'; exact floordiv_int h (q _ _ _ .refl (.int _ _)) (.inl (noPyl k))
theorem Op.shr {a b : Int} (h : 0 ≤ b) : Op C (binaryOp .RShift) (.int a) (.int b) (.int (a.fdiv (2 ^ b.toNat))) := fun s Q E v w i j q => by obtain ⟨t, rfl⟩ := i.int'; obtain ⟨u, rfl⟩ := j.int'; exact rshift_int h (q _ _ _ .refl (.int _ _))
theorem Op.shl {a b : Int} (h : 0 ≤ b) (k : b ≤ 1000000) (l : a.natAbs < 2 ^ 64) : Op C (binaryOp .LShift) (.int a) (.int b) (.int (a * 2 ^ b.toNat)) := fun s Q E v w i j q => by obtain ⟨t, rfl⟩ := i.int'; obtain ⟨u, rfl⟩ := j.int'; exact lshift_int_small h k l (q _ _ _ .refl (.int _ _))
theorem Op.and {a b : Int} : Op C (binaryOp .BitAnd) (.int a) (.int b) (.int (Builtin.bitAnd a b)) := fun s Q E v w i j q => by obtain ⟨t, rfl⟩ := i.int'; obtain ⟨u, rfl⟩ := j.int'; exact and_int (q _ _ _ .refl (.int _ _))
theorem Op.or {a b : Int} : Op C (binaryOp .BitOr) (.int a) (.int b) (.int (Builtin.bitOr a b)) := fun s Q E v w i j q => by obtain ⟨t, rfl⟩ := i.int'; obtain ⟨u, rfl⟩ := j.int'; exact or_int (q _ _ _ .refl (.int _ _))
theorem Op.pow {a b : Int} (h : 0 ≤ b) (k : (Builtin.Int.intBits a : Int) * b ≤ 2 ^ 27) : Op C (binaryOp .Pow) (.int a) (.int b) (.int (a ^ b.toNat)) := fun s Q E v w i j q => by obtain ⟨t, rfl⟩ := i.int'; obtain ⟨u, rfl⟩ := j.int'; exact pow_int h k (q _ _ _ .refl (.int _ _))
theorem Op.addB {a b : List UInt8} (h : a.length + b.length ≤ 16777216) : Op C (binaryOp .Add) (.byt a) (.byt b) (.byt (a ++ b)) := fun s Q E v w i j q => by
  obtain ⟨t, rfl⟩ := i.byt'
  obtain ⟨u, rfl⟩ := j.byt'
  refine KBy.add_bytes (by simpa using h) fun t' k => ?_
  rw [List.append_toArray]
  exact q _ _ _ .refl (.byt _ _)
theorem Op.lt {a b : Int} : Op C (compareOp .Lt) (.int a) (.int b) (.bool (decide (a < b))) := fun s Q E v w i j q => by obtain ⟨t, rfl⟩ := i.int'; obtain ⟨u, rfl⟩ := j.int'; exact PyProof.Rows.lt_int (q _ _ _ .refl (.bool _))
theorem Op.gt {a b : Int} : Op C (compareOp .Gt) (.int a) (.int b) (.bool (decide (b < a))) := fun s Q E v w i j q => by obtain ⟨t, rfl⟩ := i.int'; obtain ⟨u, rfl⟩ := j.int'; exact gt_int (q _ _ _ .refl (.bool _))
theorem Op.le {a b : Int} : Op C (compareOp .LtE) (.int a) (.int b) (.bool (decide (a ≤ b))) := fun s Q E v w i j q => by obtain ⟨t, rfl⟩ := i.int'; obtain ⟨u, rfl⟩ := j.int'; exact le_int (q _ _ _ .refl (.bool _))
theorem Op.ge {a b : Int} : Op C (compareOp .GtE) (.int a) (.int b) (.bool (decide (b ≤ a))) := fun s Q E v w i j q => by obtain ⟨t, rfl⟩ := i.int'; obtain ⟨u, rfl⟩ := j.int'; exact ge_int (q _ _ _ .refl (.bool _))
theorem Op.eqI {a b : Int} : Op C (compareOp .Eq) (.int a) (.int b) (.bool (a == b)) := fun s Q E v w i j q => by obtain ⟨t, rfl⟩ := i.int'; obtain ⟨u, rfl⟩ := j.int'; exact eq_int (q _ _ _ .refl (.bool _))
theorem Op.neI {a b : Int} : Op C (compareOp .NotEq) (.int a) (.int b) (.bool (a != b)) := fun s Q E v w i j q => by obtain ⟨t, rfl⟩ := i.int'; obtain ⟨u, rfl⟩ := j.int'; exact ne_int (q _ _ _ .refl (.bool _))
theorem Op.eqB {a b : Bool} : Op C (compareOp .Eq) (.bool a) (.bool b) (.bool (a == b)) := fun s Q E v w i j q => by rw [i.bool', j.bool']; exact eq_bool (q _ _ _ .refl (.bool _))
theorem Op.neB {a b : Bool} : Op C (compareOp .NotEq) (.bool a) (.bool b) (.bool (a != b)) := fun s Q E v w i j q => by rw [i.bool', j.bool']; exact ne_bool (q _ _ _ .refl (.bool _))
theorem Op.eqY {a b : List UInt8} : Op C (compareOp .Eq) (.byt a) (.byt b) (.bool (a == b)) := fun s Q E v w i j q => by obtain ⟨t, rfl⟩ := i.byt'; obtain ⟨u, rfl⟩ := j.byt'; exact eq_bytes (q _ _ _ .refl (.bool _))
theorem Op.neY {a b : List UInt8} : Op C (compareOp .NotEq) (.byt a) (.byt b) (.bool (a != b)) := fun s Q E v w i j q => by obtain ⟨t, rfl⟩ := i.byt'; obtain ⟨u, rfl⟩ := j.byt'; exact ne_bytes (q _ _ _ .refl (.bool _))
theorem Op.eqS {a b : Str} : Op C (compareOp .Eq) (.str a) (.str b) (.bool (a == b)) := fun s Q E v w i j q => by obtain ⟨t, rfl⟩ := i.str'; obtain ⟨u, rfl⟩ := j.str'; exact eq_str (q _ _ _ .refl (.bool _))
theorem Op.neS {a b : Str} : Op C (compareOp .NotEq) (.str a) (.str b) (.bool (a != b)) := fun s Q E v w i j q => by obtain ⟨t, rfl⟩ := i.str'; obtain ⟨u, rfl⟩ := j.str'; exact ne_str (q _ _ _ .refl (.bool _))

theorem Op.itemB {value slice : Expr} {b : List UInt8} {i : Int} (hb : b.length ≤ 16777216) (h0 : 0 ≤ i) (h1 : i < (b.length : Int))
    (hs : ∀ t ui, subscripted slice false (.bytes b.toArray t) (.int i ui) = operate [.bytes b.toArray t, .int i ui] (getItem (.bytes b.toArray t) (.int i ui)) := by intro _ _; with_unfolding_all rfl)
    (ht : ∀ t r, letTemporaryGo value (.bytes b.toArray t) r = pure () := by intro _ _; with_unfolding_all rfl) : Op C (subscriptTail value slice) (.byt b) (.int i) (.int (b.getD i.toNat 0).toNat) := fun s Q E v w i j q => by
  obtain ⟨t, rfl⟩ := i.byt'
  obtain ⟨u, rfl⟩ := j.int'
  exact KBy.item_N (by omega) h0 h1 (q _ _ _ .refl (.int _ _)) (hs _ _) (ht _)
theorem Op.itemL {value slice : Expr} {l : List PV} {i : Int} {X : PV} (h0 : 0 ≤ i) (hb : i < 2 ^ 63) (h1 : l[i.toNat]? = some X)
    (hs : ∀ a ui, subscripted slice false (.ref a) (.int i ui) = operate [.ref a, .int i ui] (getItem (.ref a) (.int i ui)) := by intro _ _; with_unfolding_all rfl)
    (ht : ∀ t r, letTemporaryGo value (.ref t) r = pure () := by intro _ _; with_unfolding_all rfl) : Op C (subscriptTail value slice) (.lst l) (.int i) X := fun s Q E v w i j q => by
  obtain ⟨a, vs, n, rfl, _, e, r⟩ := i.lst'
  obtain ⟨u, rfl⟩ := j.int'
  obtain ⟨v, h2, h3⟩ := r.get h1
  have hl : s.heap.IsList _ _ := ⟨_, e, rfl, _, rfl⟩
  exact subscriptTail_builtin hl.typeIs slot_list_getitem.lookup (wpAny_getItem_list hl h0 hb (by simpa using h2) (q _ _ _ .refl h3)) (hs _ _) (ht _)
theorem Op.itemT {value slice : Expr} {l : List PV} {i : Int} {X : PV} (h0 : 0 ≤ i) (hb : i < 2 ^ 63) (h1 : l[i.toNat]? = some X)
    (hs : ∀ a ui, subscripted slice false (.ref a) (.int i ui) = operate [.ref a, .int i ui] (getItem (.ref a) (.int i ui)) := by intro _ _; with_unfolding_all rfl)
    (ht : ∀ t r, letTemporaryGo value (.ref t) r = pure () := by intro _ _; with_unfolding_all rfl) : Op C (subscriptTail value slice) (.tup l) (.int i) X := fun s Q E v w i j q => by
  obtain ⟨a, vs, n, rfl, _, e, r⟩ := i.tup'
  obtain ⟨u, rfl⟩ := j.int'
  obtain ⟨v, h2, h3⟩ := r.get h1
  have hl : IsTup s.heap _ _ := ⟨_, e, rfl, _, rfl⟩
  exact item_tupleL hl (Int.le_trans (by decide) h0) hb (j := Int.toNat _) (seqI h0 (List.getElem?_eq_some_iff.mp h2).1) h2 (q _ _ _ .refl h3) (hs _ _) (ht _)
end
section
variable {C : Cx} {h : Heap}
theorem Ev.sub {o i : Expr} {pos : Pos} {X Y Z : PV} (a : Ev C h o X) (b : Ev C h i Y) (t : Op C (subscriptTail o i) X Y Z) : Ev C h (.Subscript o i pos) Z := fun s Q E k q =>
  Subscript_ (a s _ E k fun v h₁ _ k₁ i₁ => b _ _ E (k.trans k₁) fun w h₂ _ k₂ i₂ => t _ Q E v w (i₁.ext k₂) i₂ fun u h₃ _ k₃ i₃ => q u h₃ _ ((k₁.trans k₂).trans k₃) i₃)

def EvO (C : Cx) (h : Heap) (e : Option Expr) (x : Option Int) : Prop := match e, x with
  | none, none => True
  | some e, some i => Ev C h e (.int i)
  | _, _ => False
theorem EvO.run {e : Option Expr} {x : Option Int} (a : EvO C h e x) {s : Shared} {Q E : Value → Shared → Prop} (k : But [] h s.heap) (q : ∀ v h' tk, But [] s.heap h' → IsPart v x → Q v { s with heap := h', toks := tk }) :
    wpAny (model Prog C.w) C.A (valueOrNone (evalOpt e C.env)) Q E s := by
  cases e with
  | none => cases x with
    | none => exact wpAny_pure (q _ _ _ .refl .none)
    | some _ => exact a.elim
  | some e => cases x with
    | none => exact a.elim
    | some i => exact (show Ev C h e (.int i) from a) s Q E k fun v h' tk k' j => by obtain ⟨t, rfl⟩ := j.int'; exact q _ _ _ k' (.int _ _)
def cutL (b : List UInt8) (lo hi : Option Int) : List UInt8 := ((b.drop (lo.elim 0 (clipAt b.length))).take (hi.elim b.length (clipAt b.length) - lo.elim 0 (clipAt b.length)))
theorem Ev.cut {o : Expr} {l u : Option Expr} {p pos : Pos} {b : List UInt8} {lo hi : Option Int} (a : Ev C h o (.byt b)) (c : EvO C h l lo) (d : EvO C h u hi) (hz : b.length ≤ 16777216)
    (ht : ∀ t r, letTemporaryGo o (.bytes b.toArray t) r = pure () := by intro _ _; with_unfolding_all rfl) : Ev C h (.Subscript o (.Slice l u Option.none p) pos) (.byt (cutL b lo hi)) := fun s Q E k q => by
  refine Subscript_ (a s _ E k fun v h₁ tk₁ k₁ i₁ => ?_)
  rw [arm_eval_Slice]
  refine wpAny_bind (c.run (k.trans k₁) fun lv h₂ tk₂ k₂ p₂ => wpAny_bind (wpAny_holding (d.run ((k.trans k₁).trans k₂) fun uv h₃ tk₃ k₃ p₃ => ?_)))
  refine wpAny_bind (wpAny_holding (wpAny_pure ?_))
  unfold newFields
  refine wpAny_newObj_type ?_ (by show _ ≤ _; simp; decide)
  obtain ⟨t, rfl⟩ := i₁.byt'
  refine tail_of_ItemOn ⟨"bytes", _, FB.slot_bytes_getitem.lookup, typeIs_bytes _ _ _, getItem_meets (typeIs_bytes _ _ _) (by decide) FB.slot_bytes_getitem FB.entry_bytes_getitem (FB.args_bytes_getitem_2 _ _) (KBc.meets_slice2 b.toArray t _ p₂ p₃)
    ⟨Heap.IsSliceOf.new _ _ _ _, Nat.le_trans (KBc.size_picked_le _ lo hi) (by rw [sizeLine_eq]; simpa using hz), fun t' k' => ?_⟩⟩ (by with_unfolding_all rfl) (ht t)
  rw [KBc.picked_eq]
  simp only [List.size_toArray]
  exact q _ _ _ (((k₁.trans k₂).trans k₃).trans .push) (.byt _ _)
end
end Mine
end
section
open PySem PySem.W PySem.Spec PySem.Calls PyProof.Rows
namespace Mine
abbrev to (s : Shared) (h : Heap) (tk : Nat) : Shared := { s with heap := h, toks := tk }
abbrev frs (l : List Env) : List Addr := l.filterMap (·.frame)

def Kept (C : Cx) (h : Heap) : Prop := (∀ b o, C.snap.get? b = some o → b ∉ C.fs → h.get? b = some o) ∧ C.snap.UpToSlots h
/-- an exception of class c is under way in the frame -/
def Thr (C : Cx) (h : Heap) (e c : Addr) : Prop := ∃ l a0, C.A.frames = some l ∧ (hideAll C.snap (frs l)).StaysIn h ∧ (hideAll C.snap (frs l)).get? e = none ∧ h.FunFrames (hideAll C.snap (frs l)) l ∧ C.snap.UpToSlots h ∧
  (h.TracedW (hideAll C.snap (frs l)) e (.ref c) a0 ∨ (∃ oe vs, h.get? e = some oe ∧ oe.cls = .ref c ∧ oe.data = .fields vs ∧ vs[1]? = some Value.none ∧ vs[0]? = some a0) ∨ ∃ L, C.fenv.frame = some L ∧ h.TracedAtW (hideAll C.snap (frs l)) e (.ref c) a0 (rawInt L))
/-- an exception of class c has left a frame below -/
def Fly (A : Around) (h₀ h : Heap) (e c : Addr) : Prop := ∃ l a0, A.frames = some l ∧ Heap.FlyingW (hideAll h₀ (frs l)) l e (.ref c) a0 h ∧ h₀.UpToSlots h

set_option genSizeOf false in
set_option genSizeOfSpec false in
set_option genInjectivity false in
inductive Out where
  | ret (x : PV)
  | exc (c : Addr)
  | next (bs : List (Str × PV))
  | new (l : List PV)
/-- the objects that the frame may change are as the ledger says -/
def Holds (mu : List Addr) (h : Heap) (led : List (Addr × LO)) : Prop := ∀ q ∈ led, ∃ o, h.get? q.1 = some o ∧ q.2.Says mu h o
def Post (C : Cx) (lv : Nat) (led : List (Addr × LO)) (s : Shared) (Q : Flow → Shared → Prop) (E : Value → Shared → Prop) : Out → Prop
  | .ret x => ∀ v h tk, Kept C h → Holds C.mu h led → Is C.mu h v x → Q (.ret v) (to s h tk)
  | .exc c => ∀ e h tk, Thr C h e c → E (.ref e) (to s h tk)
  | .next bs => ∀ h tk, Inv C lv led bs h → Q .next (to s h tk)
  | .new l => ∀ a vs n h tk, Kept C h → Holds C.mu h led → C.snap.get? a = none → h.get? a = some (lstO vs n) → IsL C.mu h vs l → Q (.ret (.ref a)) (to s h tk)
def Runs (C : Cx) (lv : Nat) (led : List (Addr × LO)) (body : List Stmt) (o : Out) (h : Heap) : Prop :=
  ∀ (s : Shared) (tk : Nat) (Q : Flow → Shared → Prop) (E : Value → Shared → Prop), Post C lv led s Q E o → wpAny (model Prog C.w) C.A (execs body C.env) Q E (to s h tk)

theorem Inv.keptC {C : Cx} {lv : Nat} {led : List (Addr × LO)} {bs : List (Str × PV)} {h : Heap} (I : Inv C lv led bs h) : Kept C h := by
  obtain ⟨G, B, X, T, F, hA, hf, ns, V, Y, D, kept, slots, r⟩ := I
  exact ⟨kept, slots⟩

theorem Inv.holds {C : Cx} {lv : Nat} {led : List (Addr × LO)} {bs : List (Str × PV)} {h : Heap} (I : Inv C lv led bs h) : Holds C.mu h led := by
  obtain ⟨G, B, X, T, F, hA, hf, ns, V, Y, D, r⟩ := I
  exact fun q hq => by obtain ⟨o, a, _, _, b, _⟩ := D q hq; exact ⟨o, a, b⟩
/-- the names' place is the frame's own -/
def Own (C : Cx) : Prop := C.env.locals ∈ C.own

theorem Inv.setLoc {C : Cx} {lv : Nat} {led : List (Addr × LO)} {bs : List (Str × PV)} {h h' : Heap} {x : Str} {X : PV} {v : Value} (I : Inv C lv led bs h) (o : Own C) (hk : C.env.kindOf x = some .local) (i : Is C.mu h v X)
    {m m' : Str → Option Value} (n0 : h.Ns C.env.locals m) (n1 : h'.Ns C.env.locals m') (hm : m' = fun y => if y = x then some v else m y) (hs : Heap.SameBut C.env.locals h h') : Inv C lv led ((x, X) :: bs) h' := by
  obtain ⟨G, B, X', T, F, hA, hf, ns, V, Y, D, kept, slots, hmu, hms, hld, hll⟩ := I
  rename_i h₀ _ _ _ _ _ _ _ _ Lf
  have own := hms _ o
  have k : But C.mu h h' := (But.same hs).mono fun a ha => List.mem_singleton.mp ha ▸ hll
  obtain ⟨oL, es, ep, hL, hLd, _⟩ := id ns
  have cellK : ∀ {c : Addr} {w : Option Value}, h.IsCell c w → h'.IsCell c w := fun {c w} q => q.sameBut hs fun z => by
    obtain ⟨o1, a1, a2⟩ := q
    rw [z, hL] at a1; cases a1; rw [hLd] at a2; cases a2
  have F' : ∃ mf, Fr h₀ Lf h' mf := by
    by_cases e : Lf = C.env.locals
    · rw [e]; exact ⟨_, (e ▸ F).set n1 hs⟩
    · exact ⟨_, F.ns.sameBut hs e, fun b ob q => (hs.2 b fun z => by rw [z, own.2.1] at q; cases q).trans (F.keep b ob q), F.above⟩
  obtain ⟨mf', F'⟩ := F'
  refine .mk G B X' T F' hA hf n1 (fun y Z q => ?_) (fun y c q => ?_) (D.but k fun q hq => hs.2 _ fun z => by
    obtain ⟨o1, a1, _, _, _, a2⟩ := D q hq
    rw [z, hL] at a1; cases a1; exact a2.1 _ _ hLd) (fun b ob q n => ?_) (fun b ob q n => ?_) (fun a ha q => ?_) hms hld hll
  · rw [List.lookup_cons] at q
    by_cases hy : (y == x) = true
    · rw [hy] at q
      have : y = x := by simpa using hy
      subst this
      cases q
      exact .loc hk (by rw [hm]; simp) (i.but k)
    · have hy' : (y == x) = false := by simpa using hy
      rw [hy'] at q
      have ne : y ≠ x := by simpa using hy
      cases V y Z q with
      | loc a b d => exact .loc a (by rw [hm]; simp only [if_neg ne]; obtain ⟨_, _, _, z1, z2, _, z3⟩ := n0; obtain ⟨_, _, _, y1, y2, _, y3⟩ := ns; rw [z1] at y1; cases y1; rw [z2] at y2; cases y2; rw [← z3, y3]; exact b) (d.but k)
      | cell a b d e => exact .cell a b (cellK d) (e.but k)
      | free a b d e => exact .free a b (cellK d) (e.but k)
  · obtain ⟨⟨w, a1⟩, a2⟩ := Y y c q
    exact ⟨⟨w, cellK a1⟩, a2⟩
  · exact (hs.2 b fun z => by rw [z, own.1] at q; cases q).trans (kept b ob q n)
  · obtain ⟨sl, z⟩ := slots b ob q n
    exact ⟨sl, (hs.2 b fun z => by rw [z, own.1] at q; cases q).trans z⟩
  · by_cases z : a = C.env.locals
    · obtain ⟨_, _, _, y1, _⟩ := n1
      rw [z, y1] at q; cases q
    · rw [hs.2 a z] at q; exact hmu a ha q

theorem Inv.setCell {C : Cx} {lv : Nat} {led : List (Addr × LO)} {bs : List (Str × PV)} {h h' : Heap} {x : Str} {X : PV} {v : Value} {c : Addr} (I : Inv C lv led bs h) (hk : C.env.kindOf x = some .cell) (hc : C.env.cells.lookup x = some c) (i : Is C.mu h v X)
    (hv : h'.IsCell c (some v)) (hs : Heap.SameBut c h h') (co : c ∈ C.own) : Inv C lv led ((x, X) :: bs) h' := by
  obtain ⟨G, B, X', T, F, hA, hf, ns, V, Y, D, kept, slots, hmu, hms, hld, hll⟩ := I
  obtain ⟨⟨w0, oc, c1, c2⟩, cm, cu⟩ := Y x c hc
  have k : But C.mu h h' := (But.same hs).mono fun a ha => List.mem_singleton.mp ha ▸ cm
  have own := hms c co
  have nsK : ∀ {a : Addr} {m : Str → Option Value}, h.Ns a m → h'.Ns a m := fun {a m} q => q.sameBut hs fun z => by
    obtain ⟨o1, _, _, a1, a2, _⟩ := q
    rw [z, c1] at a1; cases a1; rw [c2] at a2; cases a2
  have cellK : ∀ {y : Str} {d : Addr} {w : Option Value}, C.env.cells.lookup y = some d → y ≠ x → h.IsCell d w → h'.IsCell d w := fun {y d w} a n q => q.sameBut hs fun z => n (cu y (z ▸ a))
  refine .mk G B X' T ⟨nsK F.ns, fun b ob q => (hs.2 b fun z => by rw [z, own.2.1] at q; cases q).trans (F.keep b ob q), F.above⟩ hA hf (nsK ns) (fun y Z q => ?_) (fun y d q => ?_) (D.but k fun q hq => hs.2 _ fun z => by
    obtain ⟨o1, a1, _, _, _, a2⟩ := D q hq
    rw [z, c1] at a1; cases a1; exact a2.2 _ c2)
    (fun b ob q n => (hs.2 b fun z => by rw [z, own.1] at q; cases q).trans (kept b ob q n)) (fun b ob q n => ?_) (fun a ha q => ?_) hms hld hll
  · rw [List.lookup_cons] at q
    by_cases hy : (y == x) = true
    · rw [hy] at q
      have : y = x := by simpa using hy
      subst this
      cases q
      exact .cell hk hc hv (i.but k)
    · have hy' : (y == x) = false := by simpa using hy
      rw [hy'] at q
      have ne : y ≠ x := by simpa using hy
      cases V y Z q with
      | loc a b d => exact .loc a b (d.but k)
      | cell a b d e => exact .cell a b (cellK b ne d) (e.but k)
      | free a b d e => exact .free a b (cellK b ne d) (e.but k)
  · obtain ⟨⟨w, a1⟩, a2⟩ := Y y d q
    by_cases ne : y = x
    · subst ne; rw [hc] at q; cases q; exact ⟨⟨_, hv⟩, a2⟩
    · exact ⟨⟨w, cellK q ne a1⟩, a2⟩
  · obtain ⟨sl, z⟩ := slots b ob q n
    exact ⟨sl, (hs.2 b fun z => by rw [z, own.1] at q; cases q).trans z⟩
  · by_cases z : a = c
    · obtain ⟨_, y1, _⟩ := hv
      rw [z, y1] at q; cases q
    · rw [hs.2 a z] at q; exact hmu a ha q
end Mine
end
section
open PySem PySem.W PySem.Spec PySem.Calls PyProof.Rows
namespace Mine
section
variable {C : Cx} {lv lv' : Nat} {led led' : List (Addr × LO)} {bs : List (Str × PV)} {h : Heap} {o : Out} {rest : List Stmt}

theorem Runs.nil (I : Inv C lv led bs h) : Runs C lv led [] (.next bs) h := fun s tk Q E q => wpAny_execs_nil (q h tk I)
theorem Runs.ret {e : Expr} {pos : Pos} {X : PV} (I : Inv C lv led bs h) (a : Ev C h e X) : Runs C lv led (.Return (some e) pos :: rest) (.ret X) h := fun s tk Q E q =>
  wpAny_execs_cons (wpAny_Return_some (a _ _ E .refl fun v h' tk' k i => q v h' tk' (I.ext k).keptC (I.ext k).holds i))
theorem Runs.retNone {pos : Pos} (I : Inv C lv led bs h) : Runs C lv led (.Return none pos :: rest) (.ret .none) h := fun s tk Q E q =>
  wpAny_execs_cons (wpAny_Return_none (q _ _ tk I.keptC I.holds .none))
/-- how a name of the frame takes a value -/
theorem Inv.store {x : Str} {X : PV} {v : Value} {s : Shared} {Q : Unit → Shared → Prop} {E : Value → Shared → Prop} (I : Inv C lv led bs s.heap) (ow : Own C) (hk : C.env.kindOf x = some .local) (i : Is C.mu s.heap v X)
    (q : ∀ h tk, Inv C lv led ((x, X) :: bs) h → Q () (to s h tk)) : wpAny (model Prog C.w) C.A (storeName C.env x v) Q E s := by
  obtain ⟨G, B, X', T, F, hA, hf, ns, _⟩ := id I
  refine wpAny_storeName_local hk ns (fun h' hn hs => q h' _ (I.setLoc ow hk i ns hn rfl hs)) ?_
  rw [G.ek]; rfl
theorem Inv.storeC {x : Str} {X : PV} {v : Value} {c : Addr} {s : Shared} {Q : Unit → Shared → Prop} {E : Value → Shared → Prop} (I : Inv C lv led bs s.heap) (hk : C.env.kindOf x = some .cell) (hc : C.env.cells.lookup x = some c) (co : c ∈ C.own) (i : Is C.mu s.heap v X)
    (q : ∀ h tk, Inv C lv led ((x, X) :: bs) h → Q () (to s h tk)) : wpAny (model Prog C.w) C.A (storeName C.env x v) Q E s := by
  obtain ⟨G, B, X', T, F, hA, hf, ns, V, Y, _⟩ := id I
  obtain ⟨⟨w, a1⟩, _⟩ := Y x c hc
  exact wpAny_storeName_cell G.ek hk hc a1 fun h' hv hs => q h' _ (I.setCell hk hc i hv hs co)
theorem Runs.asg {x : Str} {e : Expr} {p pos : Pos} {X : PV} (I : Inv C lv led bs h) (ow : Own C) (a : Ev C h e X) (hk : C.env.kindOf x = some .local) (next : ∀ h', Inv C lv led ((x, X) :: bs) h' → Runs C lv led' rest o h')
    (hs : swapsWith e (some (.Name x p)) pos.line C.env = pure false := by rfl) : Runs C lv led' (.Assign [.Name x p] e pos :: rest) o h := fun s tk Q E q =>
  wpAny_execs_cons (wpAny_Assign_Name (a _ _ E .refl fun v h' tk' k i => (I.ext k).store (s := to s h' tk') ow hk i fun h'' tk'' J => next h'' J s tk'' Q E q) hs)
theorem Runs.asgC {x : Str} {e : Expr} {p pos : Pos} {X : PV} {c : Addr} (I : Inv C lv led bs h) (a : Ev C h e X) (hk : C.env.kindOf x = some .cell) (hc : C.env.cells.lookup x = some c) (co : c ∈ C.own) (next : ∀ h', Inv C lv led ((x, X) :: bs) h' → Runs C lv led' rest o h')
    (hs : swapsWith e (some (.Name x p)) pos.line C.env = pure false := by rfl) : Runs C lv led' (.Assign [.Name x p] e pos :: rest) o h := fun s tk Q E q =>
  wpAny_execs_cons (wpAny_Assign_Name (a _ _ E .refl fun v h' tk' k i => (I.ext k).storeC (s := to s h' tk') hk hc co i fun h'' tk'' J => next h'' J s tk'' Q E q) hs)

def Out.leaves : Out → Prop
  | .next _ => False
  | _ => True
theorem Post.flow {s : Shared} {Q : Flow → Shared → Prop} {E : Value → Shared → Prop} (hl : o.leaves) (q : Post C lv led' s Q E o) : Post C lv led' s (fun f s' => match f with | .next => wpAny (model Prog C.w) C.A (execs rest C.env) Q E s' | f => Q f s') E o := by
  cases o with
  | ret x => exact q
  | exc c => exact q
  | new l => exact q
  | next bs => exact hl.elim
theorem Runs.iteX {t : Expr} {b e : List Stmt} {pos : Pos} {c : Bool} (I : Inv C lv led bs h) (a : Tv C h t c) (hl : o.leaves) (d : ∀ h', Inv C lv led bs h' → Runs C lv led' (if c then b else e) o h') : Runs C lv led' (.If t b e pos :: rest) o h := fun s tk Q E q =>
  wpAny_execs_cons (wpAny_If (a _ _ E .refl fun h' tk' k => by
    cases c
    · exact d h' (I.ext k) s tk' _ E (Post.flow hl q)
    · exact d h' (I.ext k) s tk' _ E (Post.flow hl q)))
theorem Runs.iteN {t : Expr} {b e : List Stmt} {pos : Pos} {c : Bool} {led₁ : List (Addr × LO)} {bs₁ : List (Str × PV)} (I : Inv C lv led bs h) (a : Tv C h t c) (d : ∀ h', Inv C lv led bs h' → Runs C lv led₁ (if c then b else e) (.next bs₁) h') (next : ∀ h', Inv C lv led₁ bs₁ h' → Runs C lv led' rest o h') : Runs C lv led' (.If t b e pos :: rest) o h := fun s tk Q E q =>
  wpAny_execs_cons (wpAny_If (a _ _ E .refl fun h' tk' k => by
    cases c
    · exact d h' (I.ext k) s tk' _ E fun h'' tk'' J => next h'' J s tk'' Q E q
    · exact d h' (I.ext k) s tk' _ E fun h'' tk'' J => next h'' J s tk'' Q E q))
theorem Runs.ifT {t : Expr} {b e : List Stmt} {pos : Pos} (I : Inv C lv led bs h) (a : Tv C h t true) (hl : o.leaves) (d : ∀ h', Inv C lv led bs h' → Runs C lv led' b o h') : Runs C lv led' (.If t b e pos :: rest) o h := Runs.iteX I a hl d
theorem Runs.ifF {t : Expr} {b : List Stmt} {pos : Pos} (I : Inv C lv led bs h) (a : Tv C h t false) (next : ∀ h', Inv C lv led bs h' → Runs C lv led' rest o h') : Runs C lv led' (.If t b [] pos :: rest) o h := Runs.iteN I a (fun h' J => Runs.nil J) next
end

/-! ### lists of expressions, displays, calls -/
structure EvL (C : Cx) (h : Heap) (es : List Expr) (xs : List PV) : Prop where
  run : ∀ (pos : Pos) (s : Shared) (Q : List Value → Shared → Prop) (E : Value → Shared → Prop), But [] h s.heap →
    (∀ vs h' tk, But [] s.heap h' → IsL C.mu h' vs xs → Q vs (to s h' tk)) → wpAny (model Prog C.w) C.A (spliced (backTo pos (starEach es C.env))) Q E s
section
variable {C : Cx} {lv : Nat} {led : List (Addr × LO)} {bs : List (Str × PV)} {h : Heap}
def notStar : Expr → Bool
  | .Starred _ _ => false
  | _ => true
theorem star_cons {e : Expr} {es : List Expr} {env : Env} (h : notStar e = true) : starEach (e :: es) env = (false, eval e env) :: starEach es env := by
  cases e <;> first | rfl | cases h
theorem star_plain {env : Env} : ∀ {es : List Expr}, es.all notStar = true → ∀ pos, (backTo pos (starEach es env)).any (·.1) = false
  | [], _, _ => rfl
  | e :: es, h, pos => by
    rw [List.all_cons, Bool.and_eq_true] at h
    rw [star_cons h.1]
    exact star_plain h.2 pos
theorem EvL.nil : EvL C h [] [] := ⟨fun pos s Q E k q => args_nil (q _ _ _ .refl .nil)⟩
theorem EvL.cons {e : Expr} {es : List Expr} {x : PV} {xs : List PV} (a : Ev C h e x) (b : EvL C h es xs) (he : notStar e = true := by rfl) : EvL C h (e :: es) (x :: xs) := ⟨fun pos s Q E k q =>
  args_cons (a s _ E k fun v h₁ tk₁ k₁ i₁ => b.run pos (to s h₁ tk₁) _ E (k.trans k₁) fun vs h₂ tk₂ k₂ i₂ => q _ h₂ tk₂ (k₁.trans k₂) (.cons (i₁.ext k₂) i₂)) (star_cons he)⟩
theorem Ev.list {es : List Expr} {xs : List PV} {pos : Pos} (I : Inv C lv led bs h) (a : EvL C h es xs) (hz : xs.length ≤ 16777216) : Ev C h (.List es pos) (.lst xs) := fun s Q E k q => by
  refine List_ (a.run pos s _ E k fun vs h' tk k' i => ?_)
  refine wpAny_newObj_type (s := to s h' tk) (q _ _ _ (k'.trans .push) (.lst (n := 0) (I.ext (k.trans k')).fresh (Heap.get?_push_size _ rfl) i.1 (i.ext .push).2)) ?_
  show vs.toArray.size ≤ sizeLine
  rw [List.size_toArray, i.1, sizeLine_eq]; exact hz
theorem Ev.tuple {es : List Expr} {xs : List PV} {n : Nat} {pos : Pos} (I : Inv C lv led bs h) (a : EvL C h es xs) (hz : xs.length ≤ 16777216) : Ev C h (.Tuple es n pos) (.tup xs) := fun s Q E k q => by
  refine Tuple_ (a.run pos s _ E k fun vs h' tk k' i => ?_)
  refine wpAny_newObj_type (s := to s h' tk) (q _ _ _ (k'.trans .push) (.tup (n := 0) (I.ext (k.trans k')).fresh (Heap.get?_push_size _ rfl) i.1 (i.ext .push).2)) ?_
  show vs.toArray.size ≤ sizeLine
  rw [List.size_toArray, i.1, sizeLine_eq]; exact hz

theorem Inv.K {C : Cx} {lv : Nat} {led : List (Addr × LO)} {bs : List (Str × PV)} {h : Heap} (I : Inv C lv led bs h) : (hd.heap_39 C.w.params).In h := by
  obtain ⟨G, B, X, T, F, _⟩ := I
  exact X.keeps fun b o e => F.keep b o (B.stays b o e)
/-- a global name -/
theorem Ev.glob {x : Str} {pos : Pos} {v : Value} {X : PV} (I : Inv C lv led bs h) (e : nsIn (hd.heap_39 C.w.params) mainGlobals x = some (some v)) (i : ∀ g, Is C.mu g v X) (hx : C.env.kindOf x = some .globalImplicit) (hd : (x == ("__debug__" : Str)) = false := by decide) : Ev C h (.Name x pos) X := fun s Q E k q => by
  have J := I.ext k
  have XK := J.K
  obtain ⟨G, B, X', T, F, _⟩ := J
  have T' := T.g.keeps fun b o e => F.keep b o (B.stays b o e)
  exact Name_function_global G.ek hx (loadGlobal_global (by rw [G.g]; exact T') (mg_of XK T' e) (q _ _ _ .refl (i _))) hd
theorem nameG {x : Str} {pos : Pos} {v : Value} {s : Shared} {Q E : Value → Shared → Prop} (I : Inv C lv led bs s.heap) (e : nsIn (hd.heap_39 C.w.params) mainGlobals x = some (some v)) (hx : C.env.kindOf x = some .globalImplicit) (q : Q v s) (hd : (x == ("__debug__" : Str)) = false := by decide) : wpAny (model Prog C.w) C.A (eval (.Name x pos) C.env) Q E s := by
  have XK := I.K
  obtain ⟨G, B, X', T, F, _⟩ := I
  have T' := T.g.keeps fun b o e => F.keep b o (B.stays b o e)
  exact Name_function_global G.ek hx (loadGlobal_global (by rw [G.g]; exact T') (mg_of XK T' e) q) hd
theorem nameB {x : Str} {pos : Pos} {v : Value} {s : Shared} {Q E : Value → Shared → Prop} (I : Inv C lv led bs s.heap) (e : nsIn (hd.heap_39 C.w.params) mainGlobals x = some none) (hv : bootBuiltins x = some v) (hx : C.env.kindOf x = some .globalImplicit) (q : Q v s) (hn : x ≠ "__name__" := by decide) (hd : (x == ("__debug__" : Str)) = false := by decide) : wpAny (model Prog C.w) C.A (eval (.Name x pos) C.env) Q E s := by
  have XK := I.K
  obtain ⟨G, B, X', T, F, _⟩ := I
  have T' := T.g.keeps fun b o e => F.keep b o (B.stays b o e)
  have T'' := T.b.keeps fun b o e => F.keep b o (B.stays b o e)
  exact Name_function_global G.ek hx (loadGlobal_builtin (by rw [G.g]; exact T') (mg_none_of XK T' e) (by rw [G.b]; exact T'') ((T.builtins x hn).trans hv) q) hd

/-- a def that reads alone: what it hands back -/
def Fn (lv : Nat) (f : Addr) (args : List PV) (x : PV) : Prop := ∀ (C : Cx) (led : List (Addr × LO)) (bs : List (Str × PV)) (s : Shared) (Q E : Value → Shared → Prop) (vs : List Value), Inv C lv led bs s.heap → IsL C.mu s.heap vs args →
  (∀ v h' tk, But [] s.heap h' → Is C.mu h' v x → Q v (to s h' tk)) → wpAny (model Prog C.w) C.A (call (.ref f) vs) Q E s
def FnX (lv : Nat) (f : Addr) (args : List PV) (c : Addr) : Prop := ∀ (C : Cx) (led : List (Addr × LO)) (bs : List (Str × PV)) (s : Shared) (Q E : Value → Shared → Prop) (vs : List Value), Inv C lv led bs s.heap → IsL C.mu s.heap vs args →
  (∀ e h' tk, Fly C.A s.heap h' e c → E (.ref e) (to s h' tk)) → wpAny (model Prog C.w) C.A (call (.ref f) vs) Q E s
/-- the name of a def of the text -/
def GlF (x : Str) (f : Addr) : Prop := (∀ P, nsIn (hd.heap_39 P) mainGlobals x = some (some (.ref f)) ∧ keepIn (hd.heap_39 P) (.ref f) = true) ∧ (x == ("__debug__" : Str)) = false
theorem Ev.call {x : Str} {f : Addr} {p pos : Pos} {e : Expr} {es : List Expr} {xs : List PV} {X : PV} (I : Inv C lv led bs h) (g : GlF x f) (a : EvL C h (e :: es) xs) (c : Fn lv f xs X) (hx : C.env.kindOf x = some .globalImplicit)
    (he : notStar e = true := by rfl) (hp : List.all es notStar = true := by rfl) : Ev C h (.Call (.Name x p) (e :: es) [] pos) X := fun s Q E k q => by
  have J := I.ext k
  refine Call_ (nameG J (g.1 _).1 hx ?_ g.2)
  exact callWith_K (h₀ := s.heap) J.K (g.1 _).2 (a.run pos s _ E k fun vs h' tk k' i => ⟨(J.ext k').K, c C led bs (to s h' tk) Q E vs (J.ext k') i fun v h'' tk' k'' j => q v h'' tk' (k'.trans k'') j⟩) (star_cons he) (star_plain hp pos)
end
end Mine
end
section
open PySem PySem.W PySem.Spec PySem.Calls PyProof.Rows
namespace Mine
theorem bindL_skip {kd : Str → Option NameKind} {x : Str} : ∀ (l : List (Str × Value)) (m : Str → Option Value), (∀ p ∈ l, p.1 ≠ x) → bindL kd l m x = m x
  | [], m, _ => rfl
  | (n, v) :: r, m, h => by
    unfold bindL
    rw [bindL_skip r _ fun p hp => h p (.tail _ hp)]
    split
    · exact if_neg fun e => h _ (.head _) e.symm
    · rfl
theorem bindC_skip {kd : Str → Option NameKind} {x : Str} : ∀ (l : List (Str × Value)) (m : Str → Option Value), (∀ p ∈ l, p.1 ≠ x) → bindC kd l m x = m x
  | [], m, _ => rfl
  | (n, v) :: r, m, h => by
    unfold bindC
    rw [bindC_skip r _ fun p hp => h p (.tail _ hp)]
    split
    · rfl
    · exact if_neg fun e => h _ (.head _) e.symm
theorem bindL_get {kd : Str → Option NameKind} {x : Str} {v : Value} (hk : kd x = some .local) : ∀ (l : List (Str × Value)) (m : Str → Option Value), (l.map (·.1)).Nodup → l.lookup x = some v → bindL kd l m x = some v
  | (n, w) :: r, m, hn, e => by
    rw [List.map_cons, List.nodup_cons] at hn
    rw [List.lookup_cons] at e
    unfold bindL
    by_cases hx : x = n
    · subst hx
      rw [beq_self_eq_true] at e
      cases e
      rw [bindL_skip r _ fun p hp q => hn.1 (List.mem_map.mpr ⟨p, hp, q⟩), if_pos hk]
      exact if_pos rfl
    · rw [beq_eq_false_iff_ne.mpr hx] at e
      exact bindL_get hk r _ hn.2 e
theorem bindC_get {kd : Str → Option NameKind} {x : Str} {v : Value} (hk : kd x ≠ some .local) : ∀ (l : List (Str × Value)) (m : Str → Option Value), (l.map (·.1)).Nodup → l.lookup x = some v → bindC kd l m x = some v
  | (n, w) :: r, m, hn, e => by
    rw [List.map_cons, List.nodup_cons] at hn
    rw [List.lookup_cons] at e
    unfold bindC
    by_cases hx : x = n
    · subst hx
      rw [beq_self_eq_true] at e
      cases e
      rw [bindC_skip r _ fun p hp q => hn.1 (List.mem_map.mpr ⟨p, hp, q⟩), if_neg hk]
      exact if_pos rfl
    · rw [beq_eq_false_iff_ne.mpr hx] at e
      exact bindC_get hk r _ hn.2 e
theorem zipNodup : ∀ {ps : List Str} {vs : List Value}, ps.Nodup → ((ps.zip vs).map (·.1)).Nodup
  | [], _, _ => by simp
  | _ :: _, [], _ => by simp
  | p :: ps, v :: vs, h => by
    rw [List.nodup_cons] at h
    rw [List.zip_cons_cons, List.map_cons, List.nodup_cons]
    refine ⟨fun q => ?_, zipNodup h.2⟩
    obtain ⟨y, hy, e⟩ := List.mem_map.mp q
    exact h.1 ((show y.1 = p from e) ▸ (List.of_mem_zip (a := y.1) (b := y.2) hy).1)
theorem IsL.zip {mu : List Addr} {h : Heap} {x : Str} {X : PV} : ∀ {ps : List Str} {vs : List Value} {xs : List PV}, IsL mu h vs xs → (ps.zip xs).lookup x = some X → ∃ v, (ps.zip vs).lookup x = some v ∧ Is mu h v X
  | [], _, _, _, e => by simp at e
  | _ :: _, _, [], _, e => by simp at e
  | p :: ps, vs, y :: xs, i, e => by
    obtain ⟨v, ws, rfl, a, r⟩ := i.cons'
    rw [List.zip_cons_cons, List.lookup_cons] at e ⊢
    cases hb : x == p with
    | true => rw [hb] at e; cases e; exact ⟨v, rfl, a⟩
    | false => rw [hb] at e; exact r.zip e

def calleeCx (C : Cx) (h : Heap) (ma fs : List Addr) (qual : Str) (scope : Scope) (f : Addr) (cdv : Value) : Cx where
  w := C.w
  A := C.A.deeper (envOfC qual scope h.objs.size f cdv)
  env := envOfC qual scope h.objs.size f cdv
  fenv := envOfC qual scope h.objs.size f cdv
  mu := h.objs.size :: ((cellsFrom (h.objs.size + 1) scope.names []).map (·.2) ++ C.mu)
  own := h.objs.size :: ((cellsFrom (h.objs.size + 1) scope.names []).map (·.2) ++ ma)
  snap := hideAll h ma
  fs := fs
theorem calleeOwn {C : Cx} {h : Heap} {ma fs : List Addr} {qual : Str} {scope : Scope} {f : Addr} {cdv : Value} : Own (calleeCx C h ma fs qual scope f cdv) := .head _

theorem Led.news {mu : List Addr} {h₀ h : Heap} {Lf : Addr} : ∀ {led : List (Addr × LO)}, Led mu h₀ Lf h led → ∃ bo : List (Addr × Obj), bo.map (·.1) = led.map (·.1) ∧ News h₀ Lf h bo
  | [], _ => ⟨[], rfl, .nil⟩
  | q :: r, D => by
    obtain ⟨bo, e, N⟩ := Led.news (led := r) fun p hp => D p (.tail _ hp)
    obtain ⟨o, a, b, c, _⟩ := D q (.head _)
    exact ⟨(q.1, o) :: bo, congrArg (q.1 :: ·) e, List.forall_mem_cons.mpr ⟨⟨a, b, c⟩, N⟩⟩
theorem enter {C : Cx} {lv : Nat} {led bl : List (Addr × LO)} {bs : List (Str × PV)} {s : Shared} {Q E : Value → Shared → Prop} {vs : List Value} {args : List PV} {name qual : Str} {params : Arguments} {body : List Stmt} {scope : Scope} {dV kV doc pm cdv ct oc : Value} {an od : Option Addr} {osl : Array (Option Value)} {f : Addr}
    (ps : List Str) (fs : List Addr) (I : Inv C (lv + 1) led bs s.heap) (hbl : ∀ q ∈ bl, q ∈ led) (iL : IsL C.mu s.heap vs args)
    (ho : ∀ P, (hd.heap_39 P).lookup f = some ⟨oc, od, .func (fnOf name qual params body scope dV kV doc pm an cdv ct), osl⟩) (hcd : ∀ P, codeIn (hd.heap_39 P) cdv qual = true)
    (hb : bindArgs (fnOf name qual params body scope dV kV doc pm an cdv ct) ⟨vs, []⟩ = pure (ps.zip vs)) (hps : ps.Nodup) (hcn : ((cellsFrom 0 scope.names []).map (·.1)).Nodup) (hkp : (ps.all fun y => scope.names.lookup y == some .local || scope.names.lookup y == some .cell) = true)
    (hco : scope.isCoroutine = false) (hgen : scope.isGenerator = false) (hk : scope.kind = .function)
    (h : ∀ h₁ tk, Inv (calleeCx C s.heap (bl.map (·.1)) fs qual scope f cdv) lv bl (ps.zip args) h₁ → wpAny (model Prog C.w) (C.A.deeper (envOfC qual scope s.heap.objs.size f cdv)) (execs body (envOfC qual scope s.heap.objs.size f cdv)) (fun fl s' => Q (match fl with | .ret v => v | _ => .none) s')
      (fun e s' => wpAny (model Prog C.w) (C.A.deeper (envOfC qual scope s.heap.objs.size f cdv)) (leaving (envOfC qual scope s.heap.objs.size f cdv) e) (fun _ s'' => E e s'') (fun e' s'' => E e' s'') s') (to s h₁ tk)) :
    wpAny (model Prog C.w) C.A (call (.ref f) vs) Q E s := by
  have XK := I.K
  obtain ⟨G, B, X, T, F, hA, hf, ns, V, Y, D, kept, slots, hmu, hms, hld, hll⟩ := id I
  have D'' : Led _ _ _ s.heap bl := fun q hq => D q (hbl q hq)
  obtain ⟨bo, hbo, D'⟩ := D''.news
  obtain ⟨FG, BG, st, _⟩ := groundX (R := fun _ _ => True) B F D' hA hf G.fk
  rw [hbo] at BG
  have hzip : ∀ y ∈ ps.zip vs, y.1 ∈ ps := fun y hy => (List.of_mem_zip (a := y.1) (b := y.2) hy).1
  have hkp' : ∀ y ∈ ps, scope.names.lookup y = some .local ∨ scope.names.lookup y = some .cell := fun y hy => by simpa using List.all_eq_true.mp hkp y hy
  have hnd : ((ps.zip vs).map (·.1)).Nodup := zipNodup hps
  refine wpAny_call (codeAny_call_cells (fd := fnX name qual params body scope [] dV kV doc pm an cdv ct) (body := body) (binds := ps.zip vs) (by have := G.hd; simp only [recursionLimit]; omega) (XK _ _ (ho _)) rfl
    (T.nolimit.keeps fun b o e => F.keep b o (B.stays b o e)) (codeRec_of XK (hcd _)) rfl hb rfl (fun y hy => (hkp' _ (hzip y hy)).imp id fun e => ⟨e, cellsFrom_some _ _ _ (.inl e)⟩) (fun s₁ x => ?_) hco hgen hk)
  obtain ⟨h₁, tk, rfl, hk₁⟩ := x.toInCall.done
  have old : ∀ {a}, s.heap.get? a ≠ none → a ≠ s.heap.objs.size := fun {a} ha e => by
    cases q : s.heap.get? a with
    | none => exact ha q
    | some o => exact absurd (Heap.lt_size q) (e ▸ Nat.lt_irrefl _)
  have cellOk : ∀ y c, (cellsFrom (s.heap.objs.size + 1) scope.names []).lookup y = some c → s.heap.objs.size < c := fun y c q => x.above y c (mem_of_lookup q)
  have none_of : ∀ a, s.heap.objs.size ≤ a → s.heap.get? a = none := fun a ha => Heap.get?_none_of_le ha
  have hid : ∀ {a}, s.heap.get? a = none → (hideAll s.heap (bl.map (·.1))).get? a = none := fun {a} ha => by
    cases q : (hideAll s.heap (bl.map (·.1))).get? a with
    | none => rfl
    | some o => rw [of_hideAll _ q] at ha; cases ha
  have names : ((cellsFrom (s.heap.objs.size + 1) scope.names []).map (·.1)).Nodup := cellsFrom_names scope.names 0 (s.heap.objs.size + 1) [] [] rfl ▸ hcn
  have addr : ∀ a ∈ (cellsFrom (s.heap.objs.size + 1) scope.names []).map (·.2), ∃ y, (cellsFrom (s.heap.objs.size + 1) scope.names []).lookup y = some a := fun a ha => by
    obtain ⟨p, hp, rfl⟩ := List.mem_map.mp ha
    exact ⟨p.1, lookup_of_mem_nodup names hp⟩
  have hme : ∀ {a}, a ∈ C.mu → h₁.get? a ≠ none := fun {a} ha => by
    cases q : s.heap.get? a with
    | none => exact fun _ => hmu a ha q
    | some o => rw [hk₁ _ _ q]; exact fun z => nomatch z
  have kk : ∀ a o, a ∉ C.mu → s.heap.get? a = some o → a ∉ (calleeCx C s.heap (bl.map (·.1)) fs qual scope f cdv).mu ∧ h₁.get? a = some o := fun a o n e => by
    refine ⟨fun ha => ?_, hk₁ a o e⟩
    rcases List.mem_cons.mp ha with rfl | ha
    · exact old (by rw [e]; exact fun z => nomatch z) rfl
    · rcases List.mem_append.mp ha with ha | ha
      · obtain ⟨y, hy⟩ := addr a ha
        exact absurd (Heap.lt_size e) (Nat.not_lt.mpr (Nat.le_of_lt (cellOk _ _ hy)))
      · exact n ha
  refine h h₁ tk (.mk (Lf := s.heap.objs.size) (h₀ := hideAll s.heap (bl.map (·.1))) ⟨G.hh, ?_, ?_, hk, hk, rfl, rfl⟩ BG X T ⟨x.toInCall.ns, fun b o e => hk₁ b o (of_hideAll _ e), Nat.le_of_eq (hideAll_size _ _)⟩ (Around.frames_deeper hA) rfl x.toInCall.ns (fun y Z q => ?_) (fun y c q => ?_)
    (fun q hq => by
      obtain ⟨o, a, _, _, d, f⟩ := D'' q hq
      exact ⟨o, hk₁ _ _ a, Nat.ne_of_lt (Heap.lt_size a), hideAll_none _ (List.mem_map_of_mem hq), d.up kk, f⟩) (fun b o q _ => hk₁ b o (of_hideAll _ q)) (fun b o q _ => ⟨o.slots, hk₁ b o (of_hideAll _ q)⟩) (fun a ha => ?_) (fun a ha => ?_) (fun q hq => ?_) (.head _))
  · have := G.hd
    show C.A.depth + 1 + 4 * lv ≤ 400
    omega
  · have := G.hu
    show C.A.units + 3 + 40 * lv ≤ 4000
    omega
  · obtain ⟨v, hv, i⟩ := iL.zip q
    have i' := i.up kk
    have hy : y ∈ ps := hzip (y, v) (mem_of_lookup hv)
    rcases hkp' y hy with hl | hl
    · exact .loc hl (bindL_get hl _ _ hnd hv) i'
    · have hs := cellsFrom_some scope.names (s.heap.objs.size + 1) [] (.inl hl)
      obtain ⟨c, hc⟩ := Option.isSome_iff_exists.mp hs
      have nl : (callEnvC (fnX name qual params body scope [] dV kV doc pm an cdv ct) s.heap.objs.size f).kindOf y ≠ some .local := fun z => by
        have z' : scope.names.lookup y = some .local := z
        rw [hl] at z'; cases z'
      have := x.cell y c hc
      rw [bindC_get nl _ _ hnd hv] at this
      exact .cell hl hc this i'
  · have q' : (cellsFrom (s.heap.objs.size + 1) scope.names []).lookup y = some c := q
    have m1 : c ∈ (cellsFrom (s.heap.objs.size + 1) scope.names []).map (·.2) := List.mem_map.mpr ⟨_, mem_of_lookup q', rfl⟩
    exact ⟨⟨_, x.cell y c q'⟩, .tail _ (List.mem_append_left _ m1), fun z hz => name_of_addr x.apart (mem_of_lookup hz) (mem_of_lookup q')⟩
  · rcases List.mem_cons.mp ha with rfl | ha
    · obtain ⟨_, _, _, z, _⟩ := x.toInCall.ns
      intro q
      have z' : h₁.get? s.heap.objs.size = some _ := z
      rw [z'] at q; cases q
    · rcases List.mem_append.mp ha with ha | ha
      · obtain ⟨y, hy⟩ := addr a ha
        obtain ⟨o, z, _⟩ := x.cell y a hy
        intro q
        have z' : h₁.get? a = some o := z
        rw [z'] at q; cases q
      · exact hme ha
  · rcases List.mem_cons.mp ha with rfl | ha
    · exact ⟨hid (none_of _ (Nat.le_refl _)), hid (none_of _ (Nat.le_refl _)), .head _⟩
    · rcases List.mem_append.mp ha with ha | ha
      · obtain ⟨y, hy⟩ := addr a ha
        have := none_of a (Nat.le_of_lt (cellOk _ _ hy))
        exact ⟨hid this, hid this, .tail _ (List.mem_append_left _ ha)⟩
      · refine ⟨hideAll_none _ ha, hideAll_none _ ha, .tail _ (List.mem_append_right _ ?_)⟩
        obtain ⟨q, hq, rfl⟩ := List.mem_map.mp ha
        exact (hms _ (hld q (hbl q hq))).2.2
  · exact .tail _ (List.mem_append_right _ (List.mem_map_of_mem hq))
end Mine
end
section
open PySem PySem.W PySem.Spec PySem.Calls PyProof.Rows
namespace Mine
section
variable {lv : Nat} {args : List PV} {X : PV} {c : Addr} {name qual : Str} {params : Arguments} {body : List Stmt} {scope : Scope} {dV kV doc pm cdv ct oc : Value} {an od : Option Addr} {osl : Array (Option Value)} {f : Addr}
theorem Fn.of (ps : List Str)
    (ho : ∀ P, (hd.heap_39 P).lookup f = some ⟨oc, od, .func (fnOf name qual params body scope dV kV doc pm an cdv ct), osl⟩) (hcd : ∀ P, codeIn (hd.heap_39 P) cdv qual = true)
    (hb : ∀ vs : List Value, vs.length = args.length → bindArgs (fnOf name qual params body scope dV kV doc pm an cdv ct) ⟨vs, []⟩ = pure (ps.zip vs)) (hps : ps.Nodup) (hcn : ((cellsFrom 0 scope.names []).map (·.1)).Nodup) (hkp : (ps.all fun y => scope.names.lookup y == some .local || scope.names.lookup y == some .cell) = true)
    (hco : scope.isCoroutine = false) (hgen : scope.isGenerator = false) (hk : scope.kind = .function)
    (run : ∀ (C : Cx) (h h₁ : Heap), Inv (calleeCx C h [] [] qual scope f cdv) lv [] (ps.zip args) h₁ → Runs (calleeCx C h [] [] qual scope f cdv) lv [] body (.ret X) h₁) : Fn (lv + 1) f args X := fun C led bs s Q E vs I iL k =>
  enter (bl := []) ps [] I (fun _ hq => nomatch hq) iL ho hcd (hb vs iL.1) hps hcn hkp hco hgen hk fun h₁ tk J => run C s.heap h₁ J s tk _ _ fun v h' tk' kp _ i =>
    k v h' tk' (fun b o _ e => kp.1 b o e fun q => nomatch q) (i.off fun a ha => .inl (.tail _ (List.mem_append_right _ ha)))

theorem funFrames_anti {B B' h : Heap} (sub : B.StaysIn B') : ∀ {l : List Env}, h.FunFrames B' l → h.FunFrames B l
  | [], _ => trivial
  | env :: _, ⟨hk, ⟨L, o, hf, hn, ho, hd⟩, hr⟩ => ⟨hk, ⟨L, o, hf, kts_none sub hn, ho, hd⟩, funFrames_anti sub hr⟩
theorem flyingW_anti {B B' h : Heap} {l : List Env} {e : Addr} {cls a0 : Value} (sub : B.StaysIn B') (x : Heap.FlyingW B' l e cls a0 h) : Heap.FlyingW B l e cls a0 h := by
  obtain ⟨x1, x2, x3, oe, vs, T, oT, ts, y1, y2, y3, y4, y5, y6⟩ := x
  exact ⟨fun b o e => x1 b o (sub b o e), kts_none sub x2, funFrames_anti sub x3, oe, vs, T, oT, ts, y1, y2, y3, y4, kts_none sub y5, y6⟩
theorem hide_sub' {h : Heap} {as bs : List Addr} (s : ∀ b o, h.get? b = some o → b ∈ bs → b ∈ as) : (hideAll h as).StaysIn (hideAll (hideAll h []) bs) := fun b o e => by
  have e' := of_hideAll _ e
  refine hideAll_get _ (hideAll_get _ e' fun q => nomatch q) fun q => ?_
  have := s b o e' q
  rw [hideAll_none _ this] at e; cases e
theorem UpToSlots_hide {h h' : Heap} (u : (hideAll h []).UpToSlots h') : h.UpToSlots h' := fun b o e => u b o (hideAll_get _ e fun q => nomatch q)
/-- an exception leaves the frame of a def -/
theorem leave {C D : Cx} {env : Env} {h h' : Heap} {s : Shared} {e : Addr} {E : Value → Shared → Prop} (hD : D.A = C.A.deeper env) (hs : D.snap = hideAll h []) (hf : env.frame = some h.objs.size) (hE : D.fenv = env) (x : Thr D h' e c) {tk : Nat} (k : ∀ h'', Fly C.A h h'' e c → E (.ref e) (to s h'' tk)) :
    wpAny (model Prog C.w) (C.A.deeper env) (leaving env (.ref e)) (fun _ s'' => E (.ref e) s'') (fun e' s'' => E e' s'') (to s h' tk) := by
  obtain ⟨l', a0, hl, x1, x2, x3, x4, x5⟩ := x
  rw [hs] at x1 x2 x3 x4 x5
  rw [hE] at x5
  rw [hD] at hl
  obtain ⟨l, hA, rfl⟩ : ∃ l, C.A.frames = some l ∧ l' = env :: l := by
    have hl' : C.A.frames.map (env :: ·) = some l' := hl
    cases q : C.A.frames with
    | none => rw [q] at hl'; cases hl'
    | some l => rw [q] at hl'; cases hl'; exact ⟨l, rfl, rfl⟩
  have e1 : frs (env :: l) = h.objs.size :: frs l := by unfold frs; rw [List.filterMap_cons, hf]
  have sub : (hideAll h (frs l)).StaysIn (hideAll (hideAll h []) (frs (env :: l))) := hide_sub' fun b o e q => by
    rw [e1] at q
    rcases List.mem_cons.mp q with rfl | q
    · exact absurd (Heap.lt_size e) (Nat.lt_irrefl _)
    · exact q
  rcases x5 with x5 | ⟨oe, vs, y1, y2, y3, y4, y5⟩ | ⟨L, y1, y2⟩
  · exact wpAny_leaves_onW (s := to s h' tk) hl hf ⟨x1, x2, x3, x5⟩ fun h'' z1 z2 => k h'' ⟨l, a0, hA, flyingW_anti sub z1, (UpToSlots_hide x4).trans z2⟩
  · subst_vars
    refine wpAny_leaving_firstW (s := to s h' tk) hl x3 hf y1 x1 x2 y3 y4 y5 fun h'' ⟨z1, ⟨_, _, z2⟩, z3, z4⟩ => ?_
    rw [y2] at z3
    exact k h'' ⟨l, a0, hA, flyingW_anti sub ⟨z1, x2, z2, z3⟩, (UpToSlots_hide x4).trans z4⟩
  · rw [hf] at y1
    cases y1
    unfold leaving
    refine wpAny_bind (wpAny_noteFrame_againW hf y2 (wpAny_landsW (s := to s h' tk) ⟨x1, x2, x3, y2⟩ fun h'' z u => ?_))
    obtain ⟨z1, z2, ⟨_, _, z3⟩, z4⟩ := z
    exact k h'' ⟨l, a0, hA, flyingW_anti sub ⟨z1, z2, z3, z4⟩, (UpToSlots_hide x4).trans u⟩
theorem FnX.of (ps : List Str)
    (ho : ∀ P, (hd.heap_39 P).lookup f = some ⟨oc, od, .func (fnOf name qual params body scope dV kV doc pm an cdv ct), osl⟩) (hcd : ∀ P, codeIn (hd.heap_39 P) cdv qual = true)
    (hb : ∀ vs : List Value, vs.length = args.length → bindArgs (fnOf name qual params body scope dV kV doc pm an cdv ct) ⟨vs, []⟩ = pure (ps.zip vs)) (hps : ps.Nodup) (hcn : ((cellsFrom 0 scope.names []).map (·.1)).Nodup) (hkp : (ps.all fun y => scope.names.lookup y == some .local || scope.names.lookup y == some .cell) = true)
    (hco : scope.isCoroutine = false) (hgen : scope.isGenerator = false) (hk : scope.kind = .function)
    (run : ∀ (C : Cx) (h h₁ : Heap), Inv (calleeCx C h [] [] qual scope f cdv) lv [] (ps.zip args) h₁ → Runs (calleeCx C h [] [] qual scope f cdv) lv [] body (.exc c) h₁) : FnX (lv + 1) f args c := fun C led bs s Q E vs I iL k =>
  enter (bl := []) ps [] I (fun _ hq => nomatch hq) iL ho hcd (hb vs iL.1) hps hcn hkp hco hgen hk fun h₁ tk J => run C s.heap h₁ J s tk _ _ fun e h' tk' x => leave rfl rfl rfl rfl x fun h'' y => k e h'' tk' y
end
end Mine
end
section
open PySem PySem.W PySem.Spec PySem.Calls PyProof.Rows
namespace Mine
section
variable {C : Cx} {lv : Nat} {led : List (Addr × LO)} {bs : List (Str × PV)} {h : Heap}
theorem Ev.or {e f : Expr} {r : List Expr} {pos : Pos} {a b : Bool} (x : Ev C h e (.bool a)) (y : a = false → Ev C h (.BoolOp .Or (f :: r) pos) (.bool b)) : Ev C h (.BoolOp .Or (e :: f :: r) pos) (.bool (a || b)) := fun s Q E k q =>
  BoolOp_or (x s _ E k fun v h₁ tk₁ k₁ i₁ => i₁.bool' ▸ wpAny_truthy_bool (by
    cases a
    · exact y rfl (to s h₁ tk₁) Q E (k.trans k₁) fun v h₂ tk₂ k₂ i₂ => q v h₂ tk₂ (k₁.trans k₂) i₂
    · exact q _ h₁ tk₁ k₁ (.bool _)))
theorem Ev.and {e f : Expr} {r : List Expr} {pos : Pos} {a b : Bool} (x : Ev C h e (.bool a)) (y : a = true → Ev C h (.BoolOp .And (f :: r) pos) (.bool b)) : Ev C h (.BoolOp .And (e :: f :: r) pos) (.bool (a && b)) := fun s Q E k q =>
  BoolOp_and (x s _ E k fun v h₁ tk₁ k₁ i₁ => i₁.bool' ▸ wpAny_truthy_bool (by
    cases a
    · exact q _ h₁ tk₁ k₁ (.bool _)
    · exact y rfl (to s h₁ tk₁) Q E (k.trans k₁) fun v h₂ tk₂ k₂ i₂ => q v h₂ tk₂ (k₁.trans k₂) i₂))
theorem Ev.one {e : Expr} {op : BoolOp} {pos : Pos} {X : PV} (x : Ev C h e X) : Ev C h (.BoolOp op [e] pos) X := fun s Q E k q => BoolOp_one (x s Q E k q)
theorem Tv.or {e : Expr} {r : List Expr} {pos : Pos} {a b : Bool} (x : Tv C h e a) (y : a = false → Tv C h (.BoolOp .Or r pos) b) : Tv C h (.BoolOp .Or (e :: r) pos) (a || b) := fun s Q E k q =>
  wpAny_isTrue_BoolOp (wpAny_allTrue_Or_cons (x s _ E k fun h₁ tk₁ k₁ => by
    cases a
    · exact (y rfl (to s h₁ tk₁) Q E (k.trans k₁) fun h₂ tk₂ k₂ => q h₂ tk₂ (k₁.trans k₂))
    · exact q h₁ tk₁ k₁))
theorem Tv.and {e : Expr} {r : List Expr} {pos : Pos} {a b : Bool} (x : Tv C h e a) (y : a = true → Tv C h (.BoolOp .And r pos) b) : Tv C h (.BoolOp .And (e :: r) pos) (a && b) := fun s Q E k q =>
  wpAny_isTrue_BoolOp (wpAny_allTrue_And_cons (x s _ E k fun h₁ tk₁ k₁ => by
    cases a
    · exact q h₁ tk₁ k₁
    · exact (y rfl (to s h₁ tk₁) Q E (k.trans k₁) fun h₂ tk₂ k₂ => q h₂ tk₂ (k₁.trans k₂))))
theorem Tv.orN {pos : Pos} : Tv C h (.BoolOp .Or [] pos) false := fun s Q E k q => wpAny_isTrue_BoolOp (wpAny_allTrue_Or_nil (q _ _ .refl))
theorem Tv.andN {pos : Pos} : Tv C h (.BoolOp .And [] pos) true := fun s Q E k q => wpAny_isTrue_BoolOp (wpAny_allTrue_And_nil (q _ _ .refl))
end
def GlI (x : Str) (i : Int) : Prop := (∃ t, ∀ P, nsIn (hd.heap_39 P) mainGlobals x = some (some (.int i t))) ∧ (x == ("__debug__" : Str)) = false
section
variable {C : Cx} {lv : Nat} {led : List (Addr × LO)} {bs : List (Str × PV)} {h : Heap} {o : Out} {rest : List Stmt}
theorem Ev.gI {x : Str} {i : Int} {pos : Pos} (I : Inv C lv led bs h) (e : GlI x i) (hx : C.env.kindOf x = some .globalImplicit) : Ev C h (.Name x pos) (.int i) := by
  obtain ⟨⟨t, e⟩, hd⟩ := e
  exact Ev.glob I (e _) (fun _ => .int _ _) hx hd
end
theorem gEND : GlI "END" 0 := ⟨⟨_, fun P => by k_is⟩, by decide⟩
theorem gNOTHING : GlI "NOTHING" 1 := ⟨⟨_, fun P => by k_is⟩, by decide⟩
theorem gLOOSE : GlI "LOOSE_ROUTE" 131 := ⟨⟨_, fun P => by k_is⟩, by decide⟩
theorem gSTRICT : GlI "STRICT_ROUTE" 137 := ⟨⟨_, fun P => by k_is⟩, by decide⟩
theorem gMOST : GlI "MOST_OPTIONS" 40 := ⟨⟨_, fun P => by k_is⟩, by decide⟩
theorem gCOPY : GlI "COPY_BIT" 128 := ⟨⟨_, fun P => by k_is⟩, by decide⟩
theorem gFIRST : GlI "FIRST_POINTER" 4 := ⟨⟨_, fun P => by k_is⟩, by decide⟩
theorem fIsSingle : GlF "is_single" 100 := ⟨fun P => ⟨by k_is, by k_is⟩, by decide⟩

end Mine
end
section
open PySem PySem.W PySem.Spec PySem.Calls PyProof.Rows
namespace Mine
section
variable {prog : Program} {w : World} {A : Around} {E : Value → Shared → Prop} {s : Shared}
theorem bn_no_bytes : typeLookup (.type "int") "__bytes__" = pure none := by rw [typeLookup_type, builtinLookup_eq_fast]; kernel_rfl
theorem bb_bytes : typeLookup (.type "bytes") "__bytes__" = pure (some (.builtin "bytes.__bytes__")) := by rw [typeLookup_type, builtinLookup_eq_fast]; kernel_rfl
theorem bn_new {n : Int} {u : Tok} {Q : Value → Shared → Prop} (h0 : 0 ≤ n) (h1 : n ≤ 65536) (hQ : ∀ t k, Q (.bytes (List.replicate n.toNat 0).toArray t) { s with toks := k }) :
    codeAny (model prog w) A (.call (.builtin "bytes.__new__") ⟨[.type "bytes", .int n u], []⟩) (wants Q E) s := by
  refine codeAny_of_tree ?_
  show wpAny _ A.in1 (do checkBuiltinCall "bytes.__new__" ⟨[.type "bytes", .int n u], []⟩; again (.builtin "bytes.__new__" ⟨[.type "bytes", .int n u], []⟩)) _ _ s
  refine wpAny_bind (wpAny_of_eq (F.bm_newCall _) (wpAny_pure ⟨plainId_quiet F.bm_plain _, codeAny_builtin F.bm_entry ?_⟩))
  rw [Around.under_plainId F.bm_plain _]
  unfold Builtin.«bytes.__new__»
  refine wpAny_bind (wpAny_of_eq (a := true) rfl ?_)
  refine bm_if_false rfl ?_
  refine wpAny_bind (wpAny_of_eq F.bm_sub ?_)
  refine bm_if_false rfl ?_
  refine wpAny_bind (wpAny_of_eq (F.bm_bind _) ?_)
  refine wpAny_bind (wpAny_of_eq (a := ()) rfl ?_)
  refine wpAny_bind (wpAny_of_eq (a := ()) rfl ?_)
  refine bm_if_false rfl ?_
  refine wpAny_bind (wpAny_specialOf (typeIs_int s n u) bn_no_bytes ?_)
  refine wpAny_bind (wpAny_of_eq (a := false) rfl ?_)
  refine bm_if_false rfl ?_
  refine wpAny_bind (wpAny_specialOf (typeIs_int s n u) F.slot_int_index.lookup ?_)
  refine bm_if_false rfl ?_
  refine wpAny_bind (wpAny_attempt (wpAny_of_eq (rfl : asIndex (.int n u) = pure n) ?_))
  have f1 : Builtin.Bytes.fitsIndex n = true := by simp only [Builtin.Bytes.fitsIndex, Bool.and_eq_true, decide_eq_true_eq]; omega
  have f2 : Builtin.Bytes.tooLong n.toNat = false := KBy.tooLong_not (by omega)
  dsimp only
  rw [f1]
  refine bm_if_false rfl ?_
  rw [if_neg (show ¬ n < 0 by omega), if_neg (show ¬ n > 2 ^ 63 - 34 by omega), f2]
  refine bm_if_false rfl ?_
  refine wpAny_bind (wpAny_rule (wpAny_bind (wpAny_mkBytes ?_ (by simp only [Array.size_replicate, sizeLine_eq]; omega))))
  have e : Array.replicate n.toNat (0 : UInt8) = (List.replicate n.toNat 0).toArray := by simp
  rw [e]
  show wpAny _ _ (if (Value.type "bytes" == Value.type "bytes") = true then _ else _) _ _ _
  refine bm_if_true (by decide) ?_
  first
    | exact wpAny_pure (hQ _ _)
    | exact wpAny_bind (wpAny_pure (wpAny_pure (hQ _ _)))
theorem bb_new {b : Array UInt8} {u : Tok} {Q : Value → Shared → Prop} (hQ : Q (.bytes b u) s) :
    codeAny (model prog w) A (.call (.builtin "bytes.__new__") ⟨[.type "bytes", .bytes b u], []⟩) (wants Q E) s := by
  refine codeAny_of_tree ?_
  show wpAny _ A.in1 (do checkBuiltinCall "bytes.__new__" ⟨[.type "bytes", .bytes b u], []⟩; again (.builtin "bytes.__new__" ⟨[.type "bytes", .bytes b u], []⟩)) _ _ s
  refine wpAny_bind (wpAny_of_eq (F.bm_newCall _) (wpAny_pure ⟨plainId_quiet F.bm_plain _, codeAny_builtin F.bm_entry ?_⟩))
  rw [Around.under_plainId F.bm_plain _]
  unfold Builtin.«bytes.__new__»
  refine wpAny_bind (wpAny_of_eq (a := true) rfl ?_)
  refine bm_if_false rfl ?_
  refine wpAny_bind (wpAny_of_eq F.bm_sub ?_)
  refine bm_if_false rfl ?_
  refine wpAny_bind (wpAny_of_eq (F.bm_bind _) ?_)
  refine wpAny_bind (wpAny_of_eq (a := ()) rfl ?_)
  refine wpAny_bind (wpAny_of_eq (a := ()) rfl ?_)
  refine bm_if_false rfl ?_
  refine wpAny_bind (wpAny_specialOf (W.typeIs_bytes s b u) bb_bytes ?_)
  refine wpAny_bind (wpAny_rule ?_)
  refine wpAny_bind (wpAny_typeOf (W.typeIs_bytes s b u) ?_)
  refine bm_if_true (by decide) ?_
  show wpAny _ _ (if (Value.type "bytes" == Value.type "bytes") = true then _ else _) _ _ _
  refine bm_if_true (by decide) ?_
  first
    | exact wpAny_pure hQ
    | exact wpAny_bind (wpAny_pure (wpAny_pure hQ))
theorem call_bytes_n {n : Int} {u : Tok} {Q : Value → Shared → Prop} (h0 : 0 ≤ n) (h1 : n ≤ 65536) (hQ : ∀ t k, Q (.bytes (List.replicate n.toNat 0).toArray t) { s with toks := k }) : wpAny (model prog w) A (call (.type "bytes") [.int n u]) Q E s := by
  refine callType_codes (Q₁ := fun obj s₁ => s₁.TypeIs obj "bytes" ∧ Q obj s₁) F.bm_called (F.bm_typeCall _) F.entry_object_init
    (bn_new h0 h1 fun t k => ⟨PySem.W.typeIs_bytes _ _ _, hQ t k⟩) fun obj s₁ h₁ => ?_
  exact ⟨h₁.1, F.args_object_init_2 obj _, object_init_meets F.bm_called.init.lookup F.bm_called.made (by decide) prog w A.in1 _ s₁ ⟨h₁.1, rfl, h₁.2⟩⟩
theorem call_bytes_b {b : Array UInt8} {u : Tok} {Q : Value → Shared → Prop} (hQ : Q (.bytes b u) s) : wpAny (model prog w) A (call (.type "bytes") [.bytes b u]) Q E s := by
  refine callType_codes (Q₁ := fun obj s₁ => s₁.TypeIs obj "bytes" ∧ Q obj s₁) F.bm_called (F.bm_typeCall _) F.entry_object_init
    (bb_new ⟨PySem.W.typeIs_bytes _ _ _, hQ⟩) fun obj s₁ h₁ => ?_
  exact ⟨h₁.1, F.args_object_init_2 obj _, object_init_meets F.bm_called.init.lookup F.bm_called.made (by decide) prog w A.in1 _ s₁ ⟨h₁.1, rfl, h₁.2⟩⟩
end
end Mine
end
section
open PySem PySem.W PySem.Spec PySem.Calls PyProof.Rows
namespace Mine
/-! ### calls of builtins -/
def GlB (x : Str) (v : Value) : Prop := (∀ P, nsIn (hd.heap_39 P) mainGlobals x = some none) ∧ bootBuiltins x = some v ∧ x ≠ "__name__" ∧ (x == ("__debug__" : Str)) = false
def Bf (C : Cx) (f : Value) (xs : List PV) (X : PV) : Prop := ∀ (s : Shared) (Q E : Value → Shared → Prop) (vs : List Value), IsL C.mu s.heap vs xs →
  (∀ v h' tk, But [] s.heap h' → Is C.mu h' v X → Q v (to s h' tk)) → wpAny (model Prog C.w) C.A (call f vs) Q E s
section
variable {C : Cx} {lv : Nat} {led : List (Addr × LO)} {bs : List (Str × PV)} {h : Heap}
theorem Ev.callB {x : Str} {f : String} {p pos : Pos} {e : Expr} {es : List Expr} {xs : List PV} {X : PV} (I : Inv C lv led bs h) (g : GlB x (.builtin f)) (a : EvL C h (e :: es) xs) (c : Bf C (.builtin f) xs X) (hx : C.env.kindOf x = some .globalImplicit)
    (he : notStar e = true := by rfl) (hp : List.all es notStar = true := by rfl) : Ev C h (.Call (.Name x p) (e :: es) [] pos) X := fun s Q E k q => by
  have J := I.ext k
  refine Call_ (nameB J (g.1 _) g.2.1 hx ?_ g.2.2.1 g.2.2.2)
  exact PyProof.Rows.callWith_builtin1 (a.run pos s _ E k fun vs h' tk k' i => c (to s h' tk) Q E vs i fun v h'' tk' k'' j => q v h'' tk' (k'.trans k'') j) (star_cons he) (star_plain hp pos)
theorem Ev.callT {x : Str} {f : String} {p pos : Pos} {e : Expr} {es : List Expr} {xs : List PV} {X : PV} (I : Inv C lv led bs h) (g : GlB x (.type f)) (a : EvL C h (e :: es) xs) (c : Bf C (.type f) xs X) (hx : C.env.kindOf x = some .globalImplicit)
    (he : notStar e = true := by rfl) (hp : List.all es notStar = true := by rfl) : Ev C h (.Call (.Name x p) (e :: es) [] pos) X := fun s Q E k q => by
  have J := I.ext k
  refine Call_ (nameB J (g.1 _) g.2.1 hx ?_ g.2.2.1 g.2.2.2)
  exact PyProof.Rows.callWith_type1 (a.run pos s _ E k fun vs h' tk k' i => c (to s h' tk) Q E vs i fun v h'' tk' k'' j => q v h'' tk' (k'.trans k'') j) (star_cons he) (star_plain hp pos)
theorem gLen : GlB "len" (.builtin "len") := ⟨fun P => by k_is, by kernel_rfl, by decide, by decide⟩
theorem gMin : GlB "min" (.builtin "min") := ⟨fun P => by k_is, by kernel_rfl, by decide, by decide⟩
theorem gMax : GlB "max" (.builtin "max") := ⟨fun P => by k_is, by kernel_rfl, by decide, by decide⟩
theorem gBytes : GlB "bytes" (.type "bytes") := ⟨fun P => by k_is, by kernel_rfl, by decide, by decide⟩
theorem gRange : GlB "range" (.type "range") := ⟨fun P => by k_is, by kernel_rfl, by decide, by decide⟩
theorem IsL.one {mu : List Addr} {h : Heap} {vs : List Value} {x : PV} (i : IsL mu h vs [x]) : ∃ v, vs = [v] ∧ Is mu h v x := by obtain ⟨v, ws, rfl, a, b⟩ := i.cons'; rw [b.nil']; exact ⟨v, rfl, a⟩
theorem IsL.two {mu : List Addr} {h : Heap} {vs : List Value} {x y : PV} (i : IsL mu h vs [x, y]) : ∃ v w, vs = [v, w] ∧ Is mu h v x ∧ Is mu h w y := by obtain ⟨v, ws, rfl, a, b⟩ := i.cons'; obtain ⟨w, rfl, c⟩ := b.one; exact ⟨v, w, rfl, a, c⟩
theorem Bf.lenB {b : List UInt8} (hz : b.length ≤ 1099511627776) : Bf C (.builtin "len") [.byt b] (.int b.length) := fun s Q E vs i q => by
  obtain ⟨v, rfl, j⟩ := i.one
  obtain ⟨t, rfl⟩ := j.byt'
  exact len_bytes (by simpa using hz) (q _ _ _ .refl (.int _ _))
theorem Bf.lenL {l : List PV} (hz : l.length ≤ 1099511627776) : Bf C (.builtin "len") [.lst l] (.int l.length) := fun s Q E vs i q => by
  obtain ⟨v, rfl, j⟩ := i.one
  obtain ⟨a, ws, n, rfl, _, e, r⟩ := j.lst'
  refine call_len_list (items := ws.toArray) ⟨_, e, rfl, _, rfl⟩ (by simp only [List.size_toArray, r.1]; omega) ?_
  simp only [List.size_toArray, r.1]
  exact q _ _ _ .refl (.int _ _)
theorem Bf.min2 {a b : Int} (hh : C.A.handled = none) : Bf C (.builtin "min") [.int a, .int b] (.int (min a b)) := fun s Q E vs i q => by
  obtain ⟨v, w, rfl, j, j'⟩ := i.two
  obtain ⟨t, rfl⟩ := j.int'
  obtain ⟨u, rfl⟩ := j'.int'
  refine min_two_ints hh fun h' tk k => ?_
  by_cases z : b < a
  · rw [if_pos z]; exact q _ _ _ (.of k) (by rw [show min a b = b by omega]; exact .int _ _)
  · rw [if_neg z]; exact q _ _ _ (.of k) (by rw [show min a b = a by omega]; exact .int _ _)
theorem Bf.max2 {a b : Int} (hh : C.A.handled = none) : Bf C (.builtin "max") [.int a, .int b] (.int (max a b)) := fun s Q E vs i q => by
  obtain ⟨v, w, rfl, j, j'⟩ := i.two
  obtain ⟨t, rfl⟩ := j.int'
  obtain ⟨u, rfl⟩ := j'.int'
  refine max_two_ints hh fun h' tk k => ?_
  by_cases z : b > a
  · rw [if_pos z]; exact q _ _ _ (.of k) (by rw [show max a b = b by omega]; exact .int _ _)
  · rw [if_neg z]; exact q _ _ _ (.of k) (by rw [show max a b = a by omega]; exact .int _ _)
def toI : PV → Int
  | .int n => n
  | _ => 0
theorem IsL.toInts {mu : List Addr} {h : Heap} {l : List PV} : ∀ {vs : List Value}, (∀ x ∈ l, ∃ n : Int, x = .int n) → IsL mu h vs l → IntsAre vs (l.map toI) := by
  induction l with
  | nil => intro vs _ i; rw [i.nil']; exact .nil
  | cons x l ih =>
    intro vs z i
    obtain ⟨v, ws, rfl, a, b⟩ := i.cons'
    obtain ⟨n, rfl⟩ := z x (List.mem_cons_self ..)
    obtain ⟨t, rfl⟩ := a.int'
    exact .cons _ _ (ih (fun y hy => z y (List.mem_cons_of_mem _ hy)) b)
theorem Bf.bytesL {l : List PV} (hh : C.A.handled = none) (hz : l.length ≤ 16777216) (hi : ∀ x ∈ l, ∃ n : Int, x = .int n ∧ 0 ≤ n ∧ n < 256) : Bf C (.type "bytes") [.lst l] (.byt (l.map fun x => (toI x).toNat.toUInt8)) := fun s Q E vs i q => by
  obtain ⟨v, rfl, j⟩ := i.one
  obtain ⟨a, ws, n, rfl, _, e, r⟩ := j.lst'
  refine call_bytes_ints (vs := ws) (ns := l.map toI) ⟨_, e, rfl, _, rfl⟩ (r.toInts fun x hx => (hi x hx).imp fun _ z => z.1) (fun n hn => ?_) (by rw [r.1, sizeLine_eq]; exact hz) hh fun h' t k kp => ?_
  · obtain ⟨x, hx, rfl⟩ := List.mem_map.mp hn
    obtain ⟨n, rfl, z⟩ := hi x hx
    exact z
  · have : byteArr (l.map toI) = (l.map fun x => (toI x).toNat.toUInt8).toArray := by unfold byteArr; rw [List.map_map]; rfl
    rw [this]
    exact q _ _ _ (.of kp) (.byt _ _)
theorem Bf.bytesN {n : Int} (h0 : 0 ≤ n) (h1 : n ≤ 65536) : Bf C (.type "bytes") [.int n] (.byt (List.replicate n.toNat 0)) := fun s Q E vs i q => by
  obtain ⟨v, rfl, j⟩ := i.one
  obtain ⟨t, rfl⟩ := j.int'
  exact call_bytes_n h0 h1 fun t k => q _ _ _ .refl (.byt _ _)
theorem Bf.bytesB {b : List UInt8} : Bf C (.type "bytes") [.byt b] (.byt b) := fun s Q E vs i q => by
  obtain ⟨v, rfl, j⟩ := i.one
  obtain ⟨t, rfl⟩ := j.byt'
  exact call_bytes_b (q _ _ _ .refl (.byt _ _))
theorem Ev.neg {e : Expr} {pos : Pos} {a : Int} (x : Ev C h e (.int a)) : Ev C h (.UnaryOp .USub e pos) (.int (-a)) := fun s Q E k q =>
  UnaryOp_ (x s _ E k fun v h' tk k' i => by obtain ⟨t, rfl⟩ := i.int'; exact neg_int (q _ _ _ k' (.int _ _)))
/-! ### lists -/
theorem Ev.addL {l r : Expr} {pos : Pos} {x y : List PV} (I : Inv C lv led bs h) (a : Ev C h l (.lst x)) (b : Ev C h r (.lst y)) (hz : x.length + y.length ≤ 16777216) : Ev C h (.BinOp l .Add r pos) (.lst (x ++ y)) := fun s Q E k q =>
  wpAny_BinOp (a s _ E k fun v h₁ t₁ k₁ i₁ => b _ _ E (k.trans k₁) fun w h₂ t₂ k₂ i₂ => by
    obtain ⟨a1, vs, n, rfl, m1, e1, r1⟩ := (i₁.ext k₂).lst'
    obtain ⟨a2, ws, m, rfl, m2, e2, r2⟩ := i₂.lst'
    refine PySem.P.add_list (s := to s h₂ t₂) e1 e2 ?_ (by simp only [List.size_toArray, r1.1, r2.1, sizeLine_eq]; exact hz)
    rw [List.append_toArray]
    refine q _ _ _ ((k₁.trans k₂).trans .push) (.lst (n := 0) (I.ext ((k.trans k₁).trans k₂)).fresh (Heap.get?_push_size _ rfl) ?_ ?_)
    · simp only [List.length_append, r1.1, r2.1]
    · intro i v z e f
      by_cases hi : i < vs.length
      · rw [List.getElem?_append_left hi] at e; rw [List.getElem?_append_left (r1.1 ▸ hi)] at f; exact (r1.2 i v z e f).ext .push
      · rw [List.getElem?_append_right (by omega)] at e; rw [List.getElem?_append_right (r1.1 ▸ by omega)] at f; exact (r2.2 _ v z e (r1.1 ▸ f)).ext .push)
theorem Op.inI {k : Int} {ns : List PV} (hi : ∀ x ∈ ns, ∃ n : Int, x = .int n) : Op C (compareOp .In) (.int k) (.lst ns) (.bool (ns.any fun x => toI x == k)) := fun s Q E v w i j q => by
  obtain ⟨t, rfl⟩ := i.int'
  obtain ⟨a, vs, n, rfl, _, e, r⟩ := j.lst'
  refine in_list_ints (vs := vs) ⟨_, e, rfl, _, rfl⟩ (r.toInts hi) ?_
  rw [List.any_map]
  exact q _ _ _ .refl (.bool _)
theorem Op.isNone : Op C (compareOp .Is) .none .none (.bool true) := fun s Q E v w i j q => by rw [i.none', j.none']; exact is_none_none (q _ _ _ .refl (.bool _))
/-! ### equality -/
def sh : Nat → PV → Prop
  | n + 1, .tup l => ∀ x ∈ l, sh n x
  | n + 1, .lst l => ∀ x ∈ l, sh n x
  | 0, .tup _ => False
  | 0, .lst _ => False
  | _, .ref _ => False
  | _, .lam .. => False
  | _, _ => True
open SeqAt in
structure Same (A : Around) (s : Shared) (v w : Value) : Prop where
  e : EqAt A s v w true
  r : RcAt A s v w true
  n : RcNeAt A s v w false
theorem all_true {n : Nat} : (List.range n).all (fun _ => true) = true := by simp
open SeqAt in
theorem Same.byt {A : Around} {s : Shared} {b : Array UInt8} {t u : Tok} : Same A s (.bytes b t) (.bytes b u) := by
  have hr : RcAt A s (.bytes b t) (.bytes b u) true := fun prog w E Q h => eq_bytes (by rw [beq_self_eq_true]; exact h)
  refine ⟨fun prog w E Q hq => ?_, hr, fun prog w E Q h => ne_bytes (by rw [bne_self_eq_false]; exact h)⟩
  unfold eqBool
  refine wpAny_holding ?_
  refine wpAny_ite_split (fun _ => ?_) (fun _ => ?_)
  · exact wpAny_bind (wpAny_rule (wpAny_pure hq))
  · exact wpAny_bind (hr prog w E _ (wpAny_truthy_bool hq))
open SeqAt in
theorem Same.refs {A : Around} {s : Shared} {a b : Addr} (r : RcAt A s (.ref a) (.ref b) true) (n : RcNeAt A s (.ref a) (.ref b) false) : Same A s (.ref a) (.ref b) :=
  ⟨if h : a = b then h ▸ EqAt.same _ else .of_refs h r, r, n⟩
open SeqAt in
theorem Same.flat {X : PV} {mu : List Addr} {s : Shared} {A : Around} {v w : Value} (i : Is mu s.heap v X) (j : Is mu s.heap w X) (z : sh 0 X) : Same A s v w := by
  cases X with
  | none => rw [i.none', j.none']; exact ⟨.same _, .none_none, .none_none⟩
  | bool b => rw [i.bool', j.bool']; have r := RcAt.bool_bool (A := A) (s := s) b b; have n := RcNeAt.bool_bool (A := A) (s := s) b b; rw [beq_self_eq_true] at r n; exact ⟨.same _, r, n⟩
  | int b => obtain ⟨t, rfl⟩ := i.int'; obtain ⟨u, rfl⟩ := j.int'; have e := EqAt.int_int (A := A) (s := s) b t b u; have r := RcAt.int_int (A := A) (s := s) b t b u; have n := RcNeAt.int_int (A := A) (s := s) b t b u; rw [beq_self_eq_true] at e r n; exact ⟨e, r, n⟩
  | str b => obtain ⟨t, rfl⟩ := i.str'; obtain ⟨u, rfl⟩ := j.str'; have e := EqAt.str_str (A := A) (s := s) b t b u; have r := RcAt.str_str (A := A) (s := s) b t b u; have n := RcNeAt.str_str (A := A) (s := s) b t b u; rw [beq_self_eq_true] at e r n; exact ⟨e, r, n⟩
  | byt b => obtain ⟨t, rfl⟩ := i.byt'; obtain ⟨u, rfl⟩ := j.byt'; exact .byt
  | ref a => exact z.elim
  | tup l => exact z.elim
  | lst l => exact z.elim
  | lam => exact z.elim
open SeqAt in
theorem Is.same (n : Nat) : ∀ {X : PV} {mu : List Addr} {s : Shared} {A : Around} {v w : Value}, sh n X → Is mu s.heap v X → Is mu s.heap w X → A.units + n < cLine → Same A s v w := by
  induction n with
  | zero => intro X mu s A v w z i j _; exact .flat i j z
  | succ n ih =>
    intro X mu s A v w z i j hu
    cases X with
    | none => exact .flat i j trivial
    | bool b => exact .flat i j trivial
    | int b => exact .flat i j trivial
    | str b => exact .flat i j trivial
    | byt b => exact .flat i j trivial
    | ref a => exact z.elim
    | lam => exact z.elim
    | tup l =>
      obtain ⟨a, vs, k, rfl, _, e1, r1⟩ := i.tup'
      obtain ⟨b, ws, k', rfl, _, e2, r2⟩ := j.tup'
      have he : ∀ q (h1 : q < vs.toArray.size) (h2 : q < ws.toArray.size), EqAt A.in1 s vs.toArray[q] ws.toArray[q] ((fun _ => true) q) := fun q h1 h2 => by
        simp only [List.size_toArray] at h1 h2
        have hq : q < l.length := r1.1 ▸ h1
        exact (ih (A := A.in1) (z _ (List.getElem_mem hq)) (r1.2 q _ _ (by simp) (List.getElem?_eq_getElem hq)) (r2.2 q _ _ (by simp) (List.getElem?_eq_getElem hq)) (by show A.units + 1 + n < cLine; omega)).e
      have r := RcAt.tuples (A := A) (s := s) ⟨_, e1, rfl, _, rfl⟩ ⟨_, e2, rfl, _, rfl⟩ (by omega) he
      have n := RcNeAt.tuples (A := A) (s := s) ⟨_, e1, rfl, _, rfl⟩ ⟨_, e2, rfl, _, rfl⟩ (by omega) he
      rw [all_true, List.size_toArray, List.size_toArray, r1.1, r2.1, beq_self_eq_true] at r n
      exact .refs r n
    | lst l =>
      obtain ⟨a, vs, k, rfl, _, e1, r1⟩ := i.lst'
      obtain ⟨b, ws, k', rfl, _, e2, r2⟩ := j.lst'
      have he : ∀ q (h1 : q < vs.toArray.size) (h2 : q < ws.toArray.size), EqAt A.in1 s vs.toArray[q] ws.toArray[q] ((fun _ => true) q) := fun q h1 h2 => by
        simp only [List.size_toArray] at h1 h2
        have hq : q < l.length := r1.1 ▸ h1
        exact (ih (A := A.in1) (z _ (List.getElem_mem hq)) (r1.2 q _ _ (by simp) (List.getElem?_eq_getElem hq)) (r2.2 q _ _ (by simp) (List.getElem?_eq_getElem hq)) (by show A.units + 1 + n < cLine; omega)).e
      have r := RcAt.lists (A := A) (s := s) ⟨_, e1, rfl, _, rfl⟩ ⟨_, e2, rfl, _, rfl⟩ (by simp only [List.size_toArray, r1.1, r2.1]) (by omega) he
      have n := RcNeAt.lists (A := A) (s := s) ⟨_, e1, rfl, _, rfl⟩ ⟨_, e2, rfl, _, rfl⟩ (by simp only [List.size_toArray, r1.1, r2.1]) (by omega) he
      rw [all_true] at r n
      exact .refs r n
theorem Op.eqV {X : PV} {lv n : Nat} (G : Good C lv) (z : sh n X) (hn : n ≤ 100) : Op C (compareOp .Eq) X X (.bool true) := fun s Q E v w i j q =>
  (Is.same n z i j (by have := G.hu; show _ < 9900; omega)).r Prog C.w E Q (q _ _ _ .refl (.bool _))
theorem Op.neV {X : PV} {lv n : Nat} (G : Good C lv) (z : sh n X) (hn : n ≤ 100) : Op C (compareOp .NotEq) X X (.bool false) := fun s Q E v w i j q =>
  (Is.same n z i j (by have := G.hu; show _ < 9900; omega)).n Prog C.w E Q (q _ _ _ .refl (.bool _))
open SeqAt in
/-- a list beside one of another length -/
theorem Op.eqLen {l m : List PV} {lv : Nat} (G : Good C lv) (z : l.length ≠ m.length) : Op C (compareOp .Eq) (.lst l) (.lst m) (.bool false) := fun s Q E v w i j q => by
  obtain ⟨a, vs, k, rfl, _, e1, r1⟩ := i.lst'
  obtain ⟨b, ws, k', rfl, _, e2, r2⟩ := j.lst'
  exact RcAt.lists_lengths (items := vs.toArray) (items2 := ws.toArray) ⟨_, e1, rfl, _, rfl⟩ ⟨_, e2, rfl, _, rfl⟩ (by simp only [List.size_toArray, r1.1, r2.1, bne_iff_ne]; exact z) (by have := G.hu; show _ < 9900; omega) Prog C.w E Q (q _ _ _ .refl (.bool _))
open SeqAt in
theorem Op.neLen {l m : List PV} {lv : Nat} (G : Good C lv) (z : l.length ≠ m.length) : Op C (compareOp .NotEq) (.lst l) (.lst m) (.bool true) := fun s Q E v w i j q => by
  obtain ⟨a, vs, k, rfl, _, e1, r1⟩ := i.lst'
  obtain ⟨b, ws, k', rfl, _, e2, r2⟩ := j.lst'
  exact RcNeAt.lists_lengths (items := vs.toArray) (items2 := ws.toArray) ⟨_, e1, rfl, _, rfl⟩ ⟨_, e2, rfl, _, rfl⟩ (by simp only [List.size_toArray, r1.1, r2.1, bne_iff_ne]; exact z) (by have := G.hu; show _ < 9900; omega) Prog C.w E Q (q _ _ _ .refl (.bool _))
theorem Op.eqNil {l : List PV} {lv : Nat} (G : Good C lv) : Op C (compareOp .Eq) (.lst l) (.lst []) (.bool l.isEmpty) := by
  cases l with
  | nil => exact Op.eqV (n := 1) G (fun x hx => nomatch hx) (by decide)
  | cons x l => exact Op.eqLen G (Nat.succ_ne_zero _)
theorem Op.neNil {l : List PV} {lv : Nat} (G : Good C lv) : Op C (compareOp .NotEq) (.lst l) (.lst []) (.bool (!l.isEmpty)) := by
  cases l with
  | nil => exact Op.neV (n := 1) G (fun x hx => nomatch hx) (by decide)
  | cons x l => exact Op.neLen G (Nat.succ_ne_zero _)
theorem Op.eqIS {a : Int} {b : Str} : Op C (compareOp .Eq) (.int a) (.str b) (.bool false) := fun s Q E v w i j q => by
  obtain ⟨t, rfl⟩ := i.int'; obtain ⟨u, rfl⟩ := j.str'
  exact EqMixed.eq_int_str (q _ _ _ .refl (.bool _))
end
end Mine
end
section
open PySem PySem.W PySem.Spec PySem.Calls PyProof.Rows
namespace Mine
abbrev Cx.add (C : Cx) (e : Addr) : Cx := { C with mu := e :: C.mu, own := e :: C.own }
abbrev Cx.onA (C : Cx) (A : Around) : Cx := { C with A := A }
abbrev Cx.at (C : Cx) (g : Heap) : Cx := { C with snap := g }
theorem itemL {vs : List Value} {n : Nat} : Item (lstO vs n) := ⟨fun _ _ => (fun z => nomatch z), fun _ => (fun z => nomatch z)⟩
theorem getNone {a : Addr} {h h' : Heap} (k : But [] h h') (n : h'.get? a = none) : h.get? a = none := by
  cases q : h.get? a with
  | none => rfl
  | some o => rw [k.all _ _ q] at n; cases n
section
variable {C : Cx} {lv : Nat} {led : List (Addr × LO)} {bs : List (Str × PV)} {h h' : Heap} {e : Addr} {oe : Obj} {lo : LO}
/-- a new object of the frame's own, that it may change -/
theorem Inv.adopt (I : Inv C lv led bs h) (k : But [] h h') (hn : h.get? e = none) (he : h'.get? e = some oe) (hs : lo.Says (e :: C.mu) h' oe) (hi : Item oe) (hfs : ∀ b ∈ C.fs, b ∈ C.mu) : Inv (C.add e) lv ((e, lo) :: led) bs h' := by
  obtain ⟨G, B, X, T, F, hA, hf, ns, V, Y, D, kept, slots, hmu, hms, hld, hll⟩ := I
  rename_i Lf
  have hm : e ∉ C.mu := fun q => hmu e q hn
  have kk : ∀ a o, a ∉ C.mu → h.get? a = some o → a ∉ (C.add e).mu ∧ h'.get? a = some o := fun a o n q => ⟨fun z => (List.mem_cons.mp z).elim (fun z => by rw [z, hn] at q; cases q) n, k.all _ _ q⟩
  have h0 : ∀ {g : Heap}, (∀ o, g.get? e = some o → h.get? e = some o) → g.get? e = none := fun {g} k => by
    cases q : g.get? e with
    | none => rfl
    | some o => have := k o q; rw [hn] at this; cases this
  refine .mk ⟨G.hh, G.hd, G.hu, G.fk, G.ek, G.g, G.b⟩ B X T (F.keeps k.all) hA hf (ns.keeps k.all) (fun x Z q => ?_) (fun x c q => ?_)
    (List.forall_mem_cons.mpr ⟨⟨oe, he, fun z => (by obtain ⟨_, _, _, y, _⟩ := F.ns; rw [← show e = Lf from z, hn] at y; cases y), h0 fun o q => F.keep _ _ q, hs, hi⟩, fun q hq => ?_⟩) (fun b o q n => k.all _ _ (kept b o q n)) (slots.trans (.of_keeps k.all)) (fun a ha => ?_) (fun a ha => ?_) (fun q hq => ?_) (.tail _ hll)
  · cases V x Z q with
    | loc a b c => exact .loc a b (c.up kk)
    | cell a b c d => exact .cell a b (c.keeps k.all) (d.up kk)
    | free a b c d => exact .free a b (c.keeps k.all) (d.up kk)
  · obtain ⟨⟨v, a⟩, b, d⟩ := Y x c q
    exact ⟨⟨v, a.keeps k.all⟩, .tail _ b, d⟩
  · obtain ⟨o, a, b, c, d, f⟩ := D q hq
    exact ⟨o, k.all _ _ a, b, c, d.up kk, f⟩
  · rcases List.mem_cons.mp ha with rfl | ha
    · rw [he]; exact fun z => nomatch z
    · exact fun z => hmu a ha (getNone k z)
  · rcases List.mem_cons.mp ha with rfl | ha
    · exact ⟨h0 fun o q => kept _ o q fun z => hm (hfs _ z), h0 fun o q => F.keep _ _ q, .head _⟩
    · exact ⟨(hms a ha).1, (hms a ha).2.1, .tail _ (hms a ha).2.2⟩
  · rcases List.mem_cons.mp hq with rfl | hq
    · exact .head _
    · exact .tail _ (hld q hq)
/-- an object of the frame's own goes -/
theorem Inv.drop (I : Inv (C.add e) lv ((e, lo) :: led) bs h) (k : ∀ b o, b ≠ e → h.get? b = some o → h'.get? b = some o) (hne : ∀ q ∈ led, q.1 ≠ e) (hom : ∀ a ∈ C.own, a ∈ C.mu) (hem : e ∉ C.mu) : Inv C lv led bs h' := by
  obtain ⟨G, B, X, T, F, hA, hf, ns, V, Y, D, kept, slots, hmu, hms, hld, hll⟩ := I
  rename_i Lf
  obtain ⟨oe, d1, d2, d3, d4, hi⟩ := D _ (.head _)
  have he := hms e (.head _)
  have kk : ∀ a o, a ∉ (C.add e).mu → h.get? a = some o → a ∉ C.mu ∧ h'.get? a = some o := fun a o n q => ⟨fun z => n (.tail _ z), k a o (fun z => n (z ▸ .head _)) q⟩
  have cne : ∀ {c : Addr} {v : Option Value}, h.IsCell c v → c ≠ e := fun {c v} a z => by
    obtain ⟨o, a1, a2⟩ := a
    rw [z, d1] at a1; cases a1; exact hi.2 _ a2
  have cellK : ∀ {c : Addr} {v : Option Value}, h.IsCell c v → h'.IsCell c v := fun {c v} a => by
    obtain ⟨o, a1, a2⟩ := id a
    exact ⟨o, k _ _ (cne a) a1, a2⟩
  have nne : ∀ {c : Addr} {m : Str → Option Value}, h.Ns c m → c ≠ e := fun {c m} a z => by
    obtain ⟨o, es, n, a1, a2, _⟩ := a
    rw [z, d1] at a1; cases a1; exact hi.1 _ _ a2
  have nsK : ∀ {c : Addr} {m : Str → Option Value}, h.Ns c m → h'.Ns c m := fun {c m} a => by
    obtain ⟨o, es, n, a1, a2⟩ := id a
    exact ⟨o, es, n, k _ _ (nne a) a1, a2⟩
  refine .mk ⟨G.hh, G.hd, G.hu, G.fk, G.ek, G.g, G.b⟩ B X T ⟨nsK F.ns, fun b ob q => k _ _ (fun z => by rw [z, d3] at q; cases q) (F.keep b ob q), F.above⟩ hA hf (nsK ns) (fun x Z q => ?_) (fun x c q => ?_) (fun q hq => ?_)
    (fun b ob q n => k _ _ (fun z => by rw [z, he.1] at q; cases q) (kept b ob q n)) (fun b ob q n => ?_) (fun a ha q => ?_) (fun a ha => ?_) (fun q hq => ?_) ((List.mem_cons.mp hll).resolve_left (nne ns))
  · cases V x Z q with
    | loc a b c => exact .loc a b (c.up kk)
    | cell a b c d => exact .cell a b (cellK c) (d.up kk)
    | free a b c d => exact .free a b (cellK c) (d.up kk)
  · obtain ⟨⟨v, a⟩, b, d⟩ := Y x c q
    exact ⟨⟨v, cellK a⟩, (List.mem_cons.mp b).resolve_left (cne a), d⟩
  · obtain ⟨o, a, b, c, d, f⟩ := D q (.tail _ hq)
    exact ⟨o, k _ _ (hne q hq) a, b, c, d.up kk, f⟩
  · obtain ⟨sl, z⟩ := slots b ob q n
    exact ⟨sl, k _ _ (fun y => by rw [y, he.1] at q; cases q) z⟩
  · cases z : h.get? a with
    | none => exact hmu a (.tail _ ha) z
    | some o => rw [k a o (fun y => hem (y ▸ ha)) z] at q; cases q
  · have := hms a (.tail _ ha)
    exact ⟨this.1, this.2.1, hom a ha⟩
  · exact (List.mem_cons.mp (hld q (.tail _ hq))).resolve_left (hne q hq)
theorem Inv.ownMu (I : Inv C lv led bs h) : ∀ a ∈ C.own, a ∈ C.mu := by
  obtain ⟨G, B, X, T, F, hA, hf, ns, V, Y, D, kept, slots, hmu, hms, r⟩ := I
  exact fun a ha => (hms a ha).2.2
theorem Inv.entry (I : Inv C lv led bs h) {q : Addr × LO} (hq : q ∈ led) : ∃ o, h.get? q.1 = some o ∧ q.2.Says C.mu h o ∧ q.1 ∈ C.own ∧ Item o := by
  obtain ⟨G, B, X, T, F, hA, hf, ns, V, Y, D, kept, slots, hmu, hms, hld, r⟩ := I
  obtain ⟨o, a, b, c, d, f⟩ := D q hq
  exact ⟨o, a, d, hld q hq, f⟩
/-- objects of the frame's own change -/
theorem Inv.setAll {led' : List (Addr × LO)} (I : Inv C lv led bs h) (hm : led'.map (·.1) = led.map (·.1)) (hs : ∀ b o, b ∉ led.map (·.1) → h.get? b = some o → h'.get? b = some o) (he : ∀ q ∈ led', ∃ o, h'.get? q.1 = some o ∧ q.2.Says C.mu h' o ∧ Item o) : Inv C lv led' bs h' := by
  obtain ⟨G, B, X', T, F, hA, hf, ns, V, Y, D, kept, slots, hmu, hms, hld, hll⟩ := I
  rename_i h₀ _ _ _ _ _ _ _ _ Lf
  have inl : ∀ {b}, b ∈ led.map (·.1) → b ∈ C.own ∧ ∃ o, h.get? b = some o ∧ b ≠ Lf ∧ h₀.get? b = none ∧ Item o := fun {b} hb => by
    obtain ⟨q, hq, rfl⟩ := List.mem_map.mp hb
    obtain ⟨o, a, b, c, _, f⟩ := D q hq
    exact ⟨hld q hq, o, a, b, c, f⟩
  have kk : ∀ a o, a ∉ C.mu → h.get? a = some o → a ∉ C.mu ∧ h'.get? a = some o := fun a o n q => ⟨n, hs a o (fun z => n (hms a (inl z).1).2.2) q⟩
  have nsK : ∀ {a : Addr} {m : Str → Option Value}, h.Ns a m → h'.Ns a m := fun {a m} q => by
    obtain ⟨o1, es, n, a1, a2, r⟩ := q
    exact ⟨o1, es, n, hs _ _ (fun z => by obtain ⟨_, _, y, _, _, f⟩ := inl z; rw [a1] at y; cases y; exact f.1 _ _ a2) a1, a2, r⟩
  have cellK : ∀ {c : Addr} {w : Option Value}, h.IsCell c w → h'.IsCell c w := fun {c w} q => by
    obtain ⟨o1, a1, a2⟩ := q
    exact ⟨o1, hs _ _ (fun z => by obtain ⟨_, _, y, _, _, f⟩ := inl z; rw [a1] at y; cases y; exact f.2 _ a2) a1, a2⟩
  refine .mk G B X' T ⟨nsK F.ns, fun b ob q => hs _ _ (fun z => by rw [(inl z).2.choose_spec.2.2.1] at q; cases q) (F.keep b ob q), F.above⟩ hA hf (nsK ns) (fun y Z q => ?_) (fun y d q => ?_) (fun p hp => ?_)
    (fun b ob q n => hs _ _ (fun z => by rw [(hms b (inl z).1).1] at q; cases q) (kept b ob q n)) (fun b ob q n => ?_) (fun a ha q => ?_) hms (fun q hq => ?_) hll
  · cases V y Z q with
    | loc a b c => exact .loc a b (c.up kk)
    | cell a b c d => exact .cell a b (cellK c) (d.up kk)
    | free a b c d => exact .free a b (cellK c) (d.up kk)
  · obtain ⟨⟨w, a1⟩, a2⟩ := Y y d q
    exact ⟨⟨w, cellK a1⟩, a2⟩
  · obtain ⟨o, a, d, f⟩ := he p hp
    obtain ⟨_, _, _, y2, y3, _⟩ := inl (hm ▸ List.mem_map_of_mem hp : p.1 ∈ led.map (·.1))
    exact ⟨o, a, y2, y3, d, f⟩
  · obtain ⟨sl, z⟩ := slots b ob q n
    exact ⟨sl, hs _ _ (fun z => by rw [(hms b (inl z).1).1] at q; cases q) z⟩
  · by_cases z : a ∈ led.map (·.1)
    · obtain ⟨p, hp, e⟩ := List.mem_map.mp (hm ▸ z : a ∈ led'.map (·.1))
      obtain ⟨o, y, _⟩ := he p hp
      rw [e, q] at y; cases y
    · cases y : h.get? a with
      | none => exact hmu a ha y
      | some o => rw [hs a o z y] at q; cases q
  · exact (inl (hm ▸ List.mem_map_of_mem hq : q.1 ∈ led.map (·.1))).1
/-- an object of the frame's own changes -/
theorem Inv.setLed {pre post : List (Addr × LO)} {o' : Obj} {lo' : LO} (I : Inv C lv (pre ++ (e, lo) :: post) bs h) (hs : ∀ b o, b ≠ e → h.get? b = some o → h'.get? b = some o) (he : h'.get? e = some o') (hs' : lo'.Says C.mu h' o') (hi' : Item o') (h1 : ∀ q ∈ pre, q.1 ≠ e) (h2 : ∀ q ∈ post, q.1 ≠ e) : Inv C lv (pre ++ (e, lo') :: post) bs h' := by
  have em : e ∈ C.mu := I.ownMu _ (I.entry (List.mem_append_right pre (.head post))).choose_spec.2.2.1
  have old : ∀ p : Addr × LO, p ∈ pre ++ (e, lo) :: post → p.1 ≠ e → ∃ o, h'.get? p.1 = some o ∧ p.2.Says C.mu h' o ∧ Item o := fun p hp n => by
    obtain ⟨o, a, d, _, f⟩ := I.entry hp
    exact ⟨o, hs _ _ n a, d.up fun a o n q => ⟨n, hs a o (fun z => n (z ▸ em)) q⟩, f⟩
  refine I.setAll (by simp) (fun b o n => hs b o fun z => n (z ▸ List.mem_map_of_mem (List.mem_append_right pre (.head post)))) fun p hp => ?_
  rcases List.mem_append.mp hp with hp | hp
  · exact old p (List.mem_append_left _ hp) (h1 p hp)
  · rcases List.mem_cons.mp hp with rfl | hp
    · exact ⟨o', he, hs', hi'⟩
    · exact old p (List.mem_append_right _ (.tail _ hp)) (h2 p hp)
/-- another snapshot -/
theorem Inv.resnap {snap' : Heap} {fs' : List Addr} (I : Inv C lv led bs h) (k1 : ∀ b o, snap'.get? b = some o → b ∉ fs' → h.get? b = some o) (k2 : snap'.UpToSlots h) (k3 : ∀ a ∈ C.own, snap'.get? a = Option.none) : Inv { C with snap := snap', fs := fs' } lv led bs h := by
  obtain ⟨G, B, X', T, F, hA, hf', ns, V, Y, D, kept, slots, hmu, hms, hld, hll⟩ := I
  refine .mk ⟨G.hh, G.hd, G.hu, G.fk, G.ek, G.g, G.b⟩ B X' T F hA hf' ns (fun x Z q => ?_) Y D k1 k2 hmu (fun a ha => ⟨k3 a ha, (hms a ha).2⟩) hld hll
  cases V x Z q with
  | loc a b c => exact .loc a b c
  | cell a b c d => exact .cell a b c d
  | free a b c d => exact .free a b c d
theorem Inv.onA {A : Around} {lv' : Nat} (I : Inv C lv led bs h) (hf : A.frames = C.A.frames) (hh : A.handled = none) (hd : A.depth + 4 * lv' ≤ 400) (hu : A.units + 40 * lv' ≤ 4000) : Inv (C.onA A) lv' led bs h := by
  obtain ⟨G, B, X', T, F, hA, hf', ns, V, Y, D, kept, slots, hmu, hms, hld, hll⟩ := I
  refine .mk ⟨hh, hd, hu, G.fk, G.ek, G.g, G.b⟩ B X' T F (hf.trans hA) hf' ns (fun x Z q => ?_) Y D kept slots hmu hms hld hll
  cases V x Z q with
  | loc a b c => exact .loc a b c
  | cell a b c d => exact .cell a b c d
  | free a b c d => exact .free a b c d
/-- what stands now is kept from now on, but for the frame's own -/
theorem Inv.snapped (I : Inv C lv led bs h) : Inv (C.at (hideAll h C.own)) lv led bs h :=
  I.resnap (fun b o q _ => of_hideAll _ q) (fun b o q _ => ⟨o.slots, of_hideAll _ q⟩) fun a ha => hideAll_none _ ha
end
end Mine
end
section
open PySem PySem.W PySem.Spec PySem.Calls PyProof.Rows Builtin Builtin.ObjectAttr
namespace Mine
abbrev bmX : List Value := [.ref 31, .type "Exception", .type "BaseException", .type "object"]
section
variable {M : Model} {A : Around} {E : Value → Shared → Prop} {h : Heap} {g : Array GenState} {d : Drawn} {t : Nat} {os : OsState}
variable {nm q : Str} {C N : Addr} {bs : List Value} {hdct : Bool} {sn : List Str} {sub : List Value} {ab : Bool} {col : Option Bool} {dd : Option Addr} {k0 k1 k2 k3 k5 : Option Value} {B newId initId : String} {bm bmB : List Value}
theorem check_newX (F : ExcBaseFacts B newId initId bmB) (hB : bm.contains (.type B) = true) {rest : List Value} {Q : Unit → Shared → Prop} (hC : h.get? C = some (excClassObj nm q C N bs bm hdct sn sub ab col dd k0 k1 k2 k3 k5 newId))
    (hq : Q () ⟨h, g, d, t, os⟩) : wpAny M A (checkBuiltinCall newId ⟨.ref C :: rest, []⟩) Q E ⟨h, g, d, t, os⟩ := by
  have hcont : (Value.ref C :: bm).contains (.type B) = true := by rw [List.contains_cons, hB, Bool.or_true]
  have hstar := F.noStar
  simp only [checkBuiltinCall, F.newKind, F.newSplit, F.newRow]
  repeat (first | refine wpAny_loadPart_at hC ?_ | (refine wpAny_isSubtype_exc hC ?_; rw [hcont]) | refine wpAny_staticBase_exc hC ?_ | refine wpAny_madeBy_exc hC ?_ | simp only [bne_self_eq_false, Bool.false_eq_true, if_false] | wp_step)
  exact hq
end
section
variable {prog : Program} {w : World} {A : Around} {R : Result → Shared → Prop} {E : Value → Shared → Prop} {h : Heap} {g : Array GenState} {d : Drawn} {t : Nat} {os : OsState}
variable {nm q : Str} {C N : Addr} {bs : List Value} {hdct : Bool} {sn : List Str} {sub : List Value} {ab : Bool} {col : Option Bool} {dd : Option Addr} {k0 k1 k2 k3 k5 : Option Value} {B newId initId : String} {bm bmB : List Value}
theorem exc_newX (F : ExcBaseFacts B newId initId bmB) (hB : bm.contains (.type B) = true) (hA : bm.contains (.type "AttributeError") = false) (hN : bm.contains (.type "NameError") = false) {rest : List Value} (hC : h.get? C = some (excClassObj nm q C N bs bm hdct sn sub ab col dd k0 k1 k2 k3 k5 newId))
    (hq : R (.ok (.ret (.ref (h.objs.size + 1)))) ⟨(h.push { cls := .type "tuple", data := .seq rest.toArray }).push
      { cls := .ref C, data := .fields #[.ref h.objs.size, .none, .none, .none, .bool false, .none] }, g, d, t, os⟩) (hrest : rest.length ≤ sizeLine) :
    codeAny (model prog w) A (.builtin newId ⟨.ref C :: rest, []⟩) R ⟨h, g, d, t, os⟩ := by
  have hends := F.ends
  have hcB : (Value.ref C :: bm).contains (.type B) = true := by rw [List.contains_cons, hB, Bool.or_true]
  have hcA : (Value.ref C :: bm).contains (.type "AttributeError") = false := by rw [List.contains_cons, hA]; rfl
  have hcN : (Value.ref C :: bm).contains (.type "NameError") = false := by rw [List.contains_cons, hN]; rfl
  refine codeAny_builtinAt F.entry ?_
  unfold Builtin.«BaseException.__new__»
  refine PySem.wpAt_bind ?_
  show PySem.wpAt _ _ _ (stack >>= _) _ _ _
  refine PySem.wpAt_bind (PySem.wpAt_stack fun p below => PySem.wpAt_of_wpAny ?_)
  wp_walk
  refine PySem.wpAt_of_wpAny ?_
  rw [F.owner]
  repeat (first | with_reducible refine wpAny_madeHere_exc F.canon hC ?_ | with_reducible refine wpAny_loadPart_at hC ?_ | (with_reducible refine wpAny_isSubtype_exc hC ?_; first | rw [hcB] | rw [hcA] | rw [hcN]) | wp_step)
  show R _ _
  rw [Heap.size_push]
  exact hq
abbrev excO (C t : Addr) (d : Option Addr) : Obj := { cls := .ref C, dict := d, data := .fields #[.ref t, .none, .none, .none, .bool false, .none] }
theorem type_callX (F : ExcBaseFacts B newId initId bmB) (hB : bm.contains (.type B) = true) (hA : bm.contains (.type "AttributeError") = false) (hN : bm.contains (.type "NameError") = false) {K : Frag} {rest : List Value} {fI : Addr} {Q : Fin → Shared → Prop} (X : K.In h)
    (hC : h.get? C = some (excClassObj nm q C N bs bm hdct sn sub ab col dd k0 k1 k2 k3 k5 newId)) (hi : findIn K (.ref C) "__init__" = some (some (.ref fI))) (hf : typeIn K (.ref fI) = some (.type "function"))
    (hq : ∀ h' e, Heap.MadeExcOf h h' e (.ref C) rest → wpAny (model prog w) A (call (.ref fI) (.ref e :: rest)) (fun r s' => r = .none ∧ Q (.done (.ret (.ref e))) s') E ⟨h', g, d, t, os⟩) (hrest : rest.length ≤ sizeLine) :
    wpAny (model prog w) A (Builtin.«type.__call__» ⟨.ref C :: rest, []⟩) Q E ⟨h, g, d, t, os⟩ := by
  repeat (first | with_reducible refine wpAny_loadPart_at hC ?_ | with_reducible refine wpAny_madeBy_exc hC ?_ | wp_step)
  refine codeAny_call_builtin_code (Code.quiet_builtin _ F.quiet) (check_newX F hB hC ?_)
  refine exc_newX F hB hA hN hC ?_ hrest
  show wpAny _ _ _ _ _ _
  have keep : ∀ b o, h.get? b = some o → ((h.push { cls := .type "tuple", data := .seq rest.toArray }).push { cls := .ref C, data := .fields #[.ref h.objs.size, .none, .none, .none, .bool false, .none] }).get? b = some o :=
    fun b o e => Heap.get?_push_of_some _ (Heap.get?_push_of_some _ e)
  have hC₁ := keep _ _ hC
  have X₁ := X.keeps keep
  have hget : ((h.push { cls := .type "tuple", data := .seq rest.toArray }).push
      { cls := .ref C, data := .fields #[.ref h.objs.size, .none, .none, .none, .bool false, .none] }).get? (h.objs.size + 1) = some
      { cls := .ref C, data := .fields #[.ref h.objs.size, .none, .none, .none, .bool false, .none] } := by heap_get
  have hcC : (Value.ref C :: bm).contains (.ref C) = true := by simp
  unfold isInstance
  repeat (first | with_reducible refine wpAny_loadPart_at hget ?_ | (with_reducible refine wpAny_isSubtype_exc hC₁ ?_; rw [hcC]) | wp_step)
  show wpAny _ _ (typeLookup (.ref C) _) _ _ _
  refine (looks_findIn X₁ hi).at ?_
  refine wpAny_holding (wpAny_bind ((bind_fn X₁ _ hf).at ?_))
  refine wpAny_bind (wpAny_mono (hq _ (h.objs.size + 1) ⟨keep, Heap.get?_none_of_le (Nat.le_succ _), h.objs.size, hget, Heap.get?_none_of_le (Nat.le_refl _), ?_⟩) (fun r s' hr => ?_) fun _ _ x => x)
  · exact Heap.get?_push_of_some _ (Heap.get?_push_at rfl rfl)
  · obtain ⟨rfl, hQ⟩ := hr
    wp_walk
    exact hQ
theorem call_X (F : ExcBaseFacts B newId initId bmB) (hB : bm.contains (.type B) = true) (hA : bm.contains (.type "AttributeError") = false) (hN : bm.contains (.type "NameError") = false) {K : Frag} {rest : List Value} {fI : Addr} {Q : Value → Shared → Prop} (X : K.In h)
    (hC : h.get? C = some (excClassObj nm q C N bs bm hdct sn sub ab col dd k0 k1 k2 k3 k5 newId)) (hi : findIn K (.ref C) "__init__" = some (some (.ref fI))) (hf : typeIn K (.ref fI) = some (.type "function"))
    (hq : ∀ h' e, Heap.MadeExcOf h h' e (.ref C) rest → wpAny (model prog w) (A.under (.builtin "type.__call__" ⟨.ref C :: rest, []⟩)) (call (.ref fI) (.ref e :: rest)) (fun r s' => r = .none ∧ Q (.ref e) s') E ⟨h', g, d, t, os⟩) (hrest : rest.length ≤ sizeLine) :
    wpAny (model prog w) A (call (.ref C) rest) Q E ⟨h, g, d, t, os⟩ := by
  have f1 := tc_lookup
  have f2 := tc_bind (.ref C)
  have hT : (⟨h, g, d, t, os⟩ : Shared).TypeIs (.ref C) "type" := ⟨_, hC, rfl⟩
  refine wpAny_call (codeAny_of_tree ?_)
  show wpAny _ _ (callAny (.ref C) _) _ _ _
  repeat (any_goals (first | assumption | with_reducible refine wpAny_loadPart_at hC ?_ | wp_step))
  refine ⟨rfl, ?_⟩
  refine codeAny_call_builtin_at (Code.quiet_builtin _ (by decide +kernel)) entry_typeCall (wpAny_check_type_call_sub hC (type_callX F hB hA hN X hC hi hf (fun h' e hm => ?_) hrest))
  exact hq h' e hm
end
end Mine
end
section
open PySem PySem.W PySem.Spec PySem.Calls PyProof.Rows Builtin Builtin.ObjectAttr
namespace Mine
theorem refX (self : Value) {C : Addr} : refuseLoop self "__setattr__" (.ref C :: bmX) = pure () := by
  rw [refuseLoop_ref, refuseLoop_ref]; kernel_rfl
section
variable {prog : Program} {w : World} {A : Around} {E : Value → Shared → Prop} {s : Shared} {K : Frag} {x C t : Addr} {cd : ClassData} {name : Str} {v : Value}
theorem set_X {Q : Unit → Shared → Prop} (X : K.In s.heap) (hx : s.heap.get? x = some (excO C t none)) (hc : clsIn K C = some cd) (hm : cd.mro = .ref C :: bmX) (hdc : cd.hasDict = true)
    (hs : findIn K (.ref C) "__setattr__" = some (some (.builtin "object.__setattr__"))) (ht : findIn K (.ref C) name = some none)
    (h : ∀ d h' tk, But [x] s.heap h' → h'.get? x = some (excO C t (some d)) → Q () (to s h' tk)) : wpAny (model prog w) A (setAttr (.ref x) name v) Q E s := by
  have ty : ∀ {M}, Looks M s.heap (typeOf (.ref x)) (.ref C) := (Looks.ld (part := none) hx).andThen .now
  refine wpAny_bind (wpAny_mkText (wpAny_bind (wpAny_bind (wpAny_bind (ty.at ((looks_findIn X hs).at (wpAny_holding ?_)))))))
  rw [PySem.F.store_object.slot.bind]
  refine wpAny_bind (wpAny_pure (wpAny_bind (wpAny_call (codeAny_mono (R := fun r s' => match r with | .ok (.ret _) => Q () s' | .ok _ => False | .error e => E e s') ?_ fun r s' z => ?_))))
  rotate_left
  · rcases r with e | (v | _ | _ | _) <;> first | exact z | exact wpAny_pure (wpAny_pure z)
  have SF := PySem.F.store_object
  have hmr : ∀ {M}, Looks M s.heap (mroOf (.ref C)) cd.mro := (looks_clsIn X hc).andThen .now
  have ne : cd.mro.isEmpty = false := by rw [hm]; rfl
  have sub : Looks (model prog w) s.heap (isInstance (.ref x) (.type "object")) true := ty.andThen (looks_mroIn X (by unfold mroIn; rw [hc, Option.bind_some, if_neg (by rw [ne]; decide), hm]; kernel_rfl))
  refine codeAny_call_builtin SF.slot.plain SF.entry (@check_slot (model prog w) _ _ _ "object.__setattr__" "object" "__setattr__" (.ref x) [.str name _, v] [] _ SF.kind SF.split sub (SF.args (.ref x) (.str name _) v) ?_)
  show wpAny _ _ (Builtin.«object.__setattr__» ⟨[.ref x, .str name s.toks, v], []⟩) _ _ _
  rw [osa_eq, refuse_eq]
  refine wpAny_bind (wpAny_bind (ty.at (wpAny_bind (hmr.at ?_))))
  rw [hm, refX]
  refine wpAny_pure (wpAny_bind (ty.at (wpAny_bind ((looks_findIn X ht).at (wpAny_bind (wpAny_pure ?_))))))
  show wpAny _ _ (storeInOwnDict (.ref x) (.ref C) (.str name _) name v false) _ _ _
  refine wpAny_bind (wpAny_pure (wpAny_bind (wpAny_bind (wpAny_loadPart hx (wpAny_bind ((looks_clsIn X hc).at ?_))))))
  rw [hdc]
  refine wpAny_bind (wpAny_alloc (wpAny_bind (wpAny_update (Heap.get?_push_of_some _ hx) ?_)))
  have hn : s.heap.get? s.heap.objs.size = none := Heap.get?_none_of_le (Nat.le_refl _)
  have hxl := Heap.lt_size hx
  have D : ((s.heap.push { cls := .type "dict", data := .dict #[] }).update x fun o => { o with dict := some s.heap.objs.size }).get? s.heap.objs.size = some { cls := .type "dict", data := .dict #[] } := by
    rw [Heap.get?_update_other _ _ (Nat.ne_of_lt hxl)]; exact Heap.get?_push_at rfl rfl
  refine wpAny_pure (wpAny_bind (wpAny_pure (wpAny_bind ?_)))
  unfold nsSet
  refine wpAny_bind (wpAny_bind (wpAny_askSetting (wpAny_pure (wpAny_bind (wpAny_mkText (wpAny_bind (wpAny_loadPart D ?_)))))))
  dsimp only
  rw [aRefKeyMayBeTheName_at]
  refine bm_if_false (by simp) ?_
  refine wpAny_updatePart D ?_
  have hup : ∀ (f : Obj → Obj), (f { cls := .type "dict", data := .dict #[] }).isFreed = false → (((s.heap.push { cls := .type "dict", data := .dict #[] }).update x fun o => { o with dict := some s.heap.objs.size }).update s.heap.objs.size f).get? s.heap.objs.size = some (f { cls := .type "dict", data := .dict #[] }) := fun f hf => Heap.get?_update_self _ D hf
  refine wpAny_bind (wpAny_lookBehind (hup _ rfl) (pastItsLine_dict (es := _) (by show _ ≤ _; rw [sizeLine_eq]; exact Nat.succ_le_succ (Nat.zero_le _))) ?_)
  refine wpAny_pure (h s.heap.objs.size _ _ (fun b o hb e => ?_) ?_)
  · rw [Heap.get?_update_other _ _ (Nat.ne_of_gt (Heap.lt_size e)), Heap.get?_update_other _ _ (fun z => hb (List.mem_singleton.mpr z.symm))]
    exact Heap.get?_push_of_some _ e
  · rw [Heap.get?_update_other _ _ (Nat.ne_of_gt hxl)]
    exact Heap.get?_update_self _ (Heap.get?_push_of_some _ hx) rfl
end
end Mine
end
section
open PySem PySem.W PySem.Spec PySem.Calls PyProof.Rows
namespace Mine
structure ExK (c : Addr) : Prop where
  obj : ∀ P, ∃ nm q N bs sn sub ab col dd k0 k1 k2 k3 k5, (hd.heap_39 P).lookup c = some (excClassObj nm q c N bs bmX true sn sub ab col dd k0 k1 k2 k3 k5 "Exception.__new__")
  ini : ∀ P, findIn (hd.heap_39 P) (.ref c) "__init__" = some (some (.ref 28))
  sat : ∀ P, findIn (hd.heap_39 P) (.ref c) "__setattr__" = some (some (.builtin "object.__setattr__"))
  msg : ∀ P, findIn (hd.heap_39 P) (.ref c) "message" = some none
theorem exForm : ExK 44 := ⟨fun P => ⟨_, _, _, _, _, _, _, _, _, _, _, _, _, _, by k_is⟩, fun P => by k_is, fun P => by k_is, fun P => by k_is⟩
theorem exSize : ExK 56 := ⟨fun P => ⟨_, _, _, _, _, _, _, _, _, _, _, _, _, _, by k_is⟩, fun P => by k_is, fun P => by k_is, fun P => by k_is⟩
theorem gForm : GlF "FormError" 44 := ⟨fun P => ⟨by k_is, by k_is⟩, by decide⟩
theorem gSize : GlF "SizeError" 56 := ⟨fun P => ⟨by k_is, by k_is⟩, by decide⟩
theorem But.hid {h h' : Heap} {as : List Addr} (k : ∀ b o, (hideAll h as).get? b = some o → b ∉ ([] : List Addr) → h'.get? b = some o) : But as h h' := fun b o n e => k b o (hideAll_get _ e n) (fun q => nomatch q)
theorem len1 {vs : List Value} (h : vs.length = 1) : ∃ a, vs = [a] := by
  cases vs with
  | nil => cases h
  | cons a r => rw [List.eq_nil_of_length_eq_zero (Nat.succ.inj h)]; exact ⟨a, rfl⟩
theorem len2 {vs : List Value} (h : vs.length = 2) : ∃ a b, vs = [a, b] := by
  cases vs with
  | nil => cases h
  | cons a r => obtain ⟨b, rfl⟩ := len1 (Nat.succ.inj h); exact ⟨a, b, rfl⟩
theorem len3 {vs : List Value} (h : vs.length = 3) : ∃ a b c, vs = [a, b, c] := by
  cases vs with
  | nil => cases h
  | cons a r => obtain ⟨b, c, rfl⟩ := len2 (Nat.succ.inj h); exact ⟨a, b, c, rfl⟩
theorem init_X {C : Cx} {lv : Nat} {led : List (Addr × LO)} {bs : List (Str × PV)} {c t e : Addr} {M : PV} {s : Shared} {Q E : Value → Shared → Prop} {vs : List Value} (x : ExK c) (I : Inv C (lv + 1) ((e, .obj (excO c t none)) :: led) bs s.heap) (iL : IsL C.mu s.heap vs [.ref e, M])
    (k : ∀ d h' tk, But [e] s.heap h' → h'.get? e = some (excO c t (some d)) → Q .none (to s h' tk)) : wpAny (model Prog C.w) C.A (call (.ref 28) vs) Q E s := by
  refine' enter (lv := lv) (bl := [(e, .obj (excO c t none))]) ["self", "message"] [] I (fun q hq => List.mem_singleton.mp hq ▸ .head _) iL ?ho ?hcd ?hb (by decide) ?hcn ?hkp ?hco ?hgen ?hk ?run
  case ho => intro P; k_is
  case hcd => intro P; k_is
  case hb => obtain ⟨a, b, rfl⟩ := len2 iL.1; rfl
  case hcn => decide
  case hkp => rfl
  case hco => rfl
  case hgen => rfl
  case hk => rfl
  case run =>
    intro h₁ tk J
    obtain ⟨nm, q, N, bs, sn, sub, ab, col, dd, k0, k1, k2, k3, k5, hC⟩ := x.obj C.w.params
    refine wpAny_execs_cons (plainObj_wpAny_Assign_Attribute ((show Ev _ _ _ _ from Ev.var (X := M) (x := "message") J rfl) (to s h₁ tk) _ _ .refl fun v h₂ tk₂ k₂ i₂ => (show Ev _ _ _ _ from Ev.var (X := .ref e) (x := "self") (J.ext k₂) rfl) (to s h₂ tk₂) _ _ .refl fun u h₃ tk₃ k₃ i₃ => ?_) rfl)
    obtain rfl := i₃.ref'
    have J₃ := (J.ext k₂).ext k₃
    have D : h₃.get? e = some (excO c t none) := by
      obtain ⟨o, a, b, _⟩ := J₃.entry (.head _)
      rw [← show o = _ from b]; exact a
    refine set_X (s := to s h₃ tk₃) (K := hd.heap_39 C.w.params) J₃.K D (show clsIn _ c = some _ by unfold clsIn; rw [hC]) rfl rfl (x.sat _) (x.msg _) fun d h₄ tk₄ k₄ he => wpAny_execs_nil (k d h₄ tk₄ ?_ he)
    exact (But.hid J₃.keptC.1).trans k₄
section
variable {M : Model} {A : Around} {E : Value → Shared → Prop} {env : Env}
variable {nm q : Str} {C N : Addr} {bs bm : List Value} {hdct : Bool} {sn : List Str} {sub : List Value} {ab : Bool} {col : Option Bool} {dd : Option Addr} {k0 k1 k2 k3 k5 : Option Value} {newId : String}
theorem raiseStmt_X {s : Shared} {x : Sem Value} {Q : Flow → Shared → Prop} (hbase : bm.contains (.type "BaseException") = true) (hh : A.handled = none)
    (h : wpAny M A x (fun v s₁ => ∃ e t d, v = .ref e ∧ s₁.heap.get? C = some (excClassObj nm q C N bs bm hdct sn sub ab col dd k0 k1 k2 k3 k5 newId) ∧
      s₁.heap.get? e = some (excO C t (some d)) ∧ E (.ref e) s₁) E s) :
    wpAny M A (raiseStmt env (some x) none) Q E s := by
  have hcB : (Value.ref C :: bm).contains (.type "BaseException") = true := by rw [List.contains_cons, hbase, Bool.or_true]
  unfold raiseStmt
  refine wpAny_bind (wpAny_mono h (fun v s₁ h₁ => ?_) fun _ _ x => x)
  obtain ⟨e, t, d, rfl, hC, he, hE⟩ := h₁
  obtain ⟨hp, g, d, tk, os⟩ := s₁
  repeat (first | with_reducible refine wpAny_loadPart_at he ?_ | with_reducible refine wpAny_loadPart_at hC ?_ | (with_reducible refine wpAny_isSubtype_exc hC ?_; rw [hcB]) | wp_step)
  exact wpAny_raiseNew_none hh hE
end
theorem funFrames_any {base g h : Heap} {as : List Addr} : ∀ {l : List Env}, h.FunFrames base l → (∀ a ∈ frs l, a ∈ as) → h.FunFrames (hideAll g as) l
  | [], _, _ => trivial
  | env :: r, ⟨hk, ⟨L, o, hf, _, ho, hd⟩, hr⟩, hin => ⟨hk, ⟨L, o, hf, hideAll_none _ (hin L (by unfold frs; rw [List.filterMap_cons, hf]; exact .head _)), ho, hd⟩, funFrames_any hr fun a ha => hin a (by unfold frs; rw [List.filterMap_cons, hf]; exact .tail _ ha)⟩
theorem Inv.frames {C : Cx} {lv : Nat} {led : List (Addr × LO)} {bs : List (Str × PV)} {h : Heap} (I : Inv C lv led bs h) : ∃ l base, C.A.frames = some l ∧ h.FunFrames base l ∧ (∀ b ∈ frs l, ∀ o, h.get? b = some o → ∀ vs, o.data ≠ .fields vs) := by
  obtain ⟨G, B, X, T, F, hA, hf, _⟩ := I
  have P := pushX B F hf G.fk
  refine ⟨_, _, hA, P.frames, fun b hb o e vs z => ?_⟩
  obtain ⟨_, o', e', z'⟩ := P.frames.mem hb
  rw [e] at e'; cases e'; exact z' vs z
theorem Inv.thr {C : Cx} {lv : Nat} {led : List (Addr × LO)} {bs : List (Str × PV)} {h h' : Heap} {e c t d : Addr} (I : Inv C lv led bs h) (hfs : C.fs = []) (k : But [e] h h') (hn : h.get? e = none) (he : h'.get? e = some (excO c t (some d))) : Thr C h' e c := by
  obtain ⟨l, base, hA, fr, nf⟩ := I.frames
  have kp := I.keptC
  have k' : But [] h h' := fun b o _ q => k b o (fun z => by rw [List.mem_singleton.mp z, hn] at q; cases q) q
  have sn : C.snap.get? e = none := by
    cases q : C.snap.get? e with
    | none => rfl
    | some o => have := kp.1 e o q (by rw [hfs]; exact fun z => nomatch z); rw [hn] at this; cases this
  refine ⟨l, .ref t, hA, fun b o q => k'.all _ _ (kp.1 b o (of_hideAll _ q) (by rw [hfs]; exact fun z => nomatch z)), ?_, ?_, kp.2.trans (.of_keeps k'.all), .inr (.inl ⟨_, _, he, rfl, rfl, rfl, rfl⟩)⟩
  · cases q : (hideAll C.snap (frs l)).get? e with
    | none => rfl
    | some o => rw [of_hideAll _ q] at sn; cases sn
  · exact funFrames_any (fr.of_keeps fun b o q _ => ⟨o, k'.all _ _ q, rfl⟩) fun a ha => ha
theorem tcW (c : Addr) (x : List Value) : Nat.ble (Code.builtin "type.__call__" ⟨.ref c :: x, []⟩).weight 3 = true := by kernel_rfl
theorem tcU (c : Addr) (x : List Value) : Nat.ble (Code.builtin "type.__call__" ⟨.ref c :: x, []⟩).cUnits 30 = true := by kernel_rfl
theorem Runs.raise {C : Cx} {lv : Nat} {led : List (Addr × LO)} {bs : List (Str × PV)} {h : Heap} {lv' : Nat} {x : Str} {c : Addr} {p1 pos cpos np : Pos} {m : Str} {k : Nat} {rest : List Stmt} (I : Inv C (lv + 2) led bs h) (hfs : C.fs = []) (g : GlF x c) (X : ExK c) (hx : C.env.kindOf x = some .globalImplicit)
    (he : notStar (Expr.Constant (.str m) k p1) = true := by rfl) : Runs C lv' led (.Raise (some (.Call (.Name x np) [.Constant (.str m) k p1] [] cpos)) none pos :: rest) (.exc c) h := fun s tk Q E q => by
  obtain ⟨nm, qn, N, bs', sn, sub, ab, col, dd, k0, k1, k2, k3, k5, hC⟩ := X.obj C.w.params
  refine wpAny_execs_cons ?_
  rw [arm_exec_Raise]
  refine wpAny_bind (wpAny_standAt (raiseStmt_X (C := c) (nm := nm) (q := qn) (N := N) (bs := bs') (bm := bmX) (hdct := true) (sn := sn) (sub := sub) (ab := ab) (col := col) (dd := dd) (k0 := k0) (k1 := k1) (k2 := k2) (k3 := k3) (k5 := k5) (newId := "Exception.__new__") (by kernel_rfl) I.good.hh ?_))
  refine wpAny_bind (Call_ (nameG (s := to s h tk) I (g.1 _).1 hx ?_ g.2))
  refine callWith_K (h₀ := h) I.K (g.1 _).2 (args_cons (Ev.str (to s h tk) _ _ .refl fun v h₁ tk₁ k₁ i₁ => args_nil ⟨(I.ext k₁).K, ?_⟩) (star_cons he)) (star_cons he) (by rfl)
  have I₁ := I.ext k₁
  refine call_X PySem.F.excBase_Exception (by kernel_rfl) (by kernel_rfl) (by kernel_rfl) I₁.K (I₁.K _ _ hC) (X.ini _) (by k_is) (fun h₂ e hm => ?_) (by rw [sizeLine_eq]; exact Nat.succ_le_succ (Nat.zero_le _))
  obtain ⟨t, ht, _, _⟩ := hm.there
  have kb : But [] h₁ h₂ := .of hm.keeps
  have I₂ := (I₁.adopt (lo := .obj _) kb hm.new ht rfl ⟨fun _ _ => (fun z => nomatch z), fun _ => (fun z => nomatch z)⟩ (by rw [hfs]; exact fun b hb => nomatch hb)).onA (A := C.A.under (.builtin "type.__call__" ⟨.ref c :: [v], []⟩)) (lv' := lv + 1) rfl I.good.hh (by have := I.good.hd; have := Nat.le_of_ble_eq_true (tcW c [v]); show C.A.depth + (Code.builtin "type.__call__" ⟨[.ref c, v], []⟩).weight + _ ≤ _; omega) (by have := I.good.hu; have := Nat.le_of_ble_eq_true (tcU c [v]); show C.A.units + (Code.builtin "type.__call__" ⟨[.ref c, v], []⟩).cUnits + _ ≤ _; omega)
  refine init_X (s := to s h₂ _) (vs := [.ref e, v]) X I₂ (.cons (.ref e) (.cons (x := .str m) ?_ .nil)) fun d h₃ tk₃ k₃ he₃ => ⟨rfl, wpAny_bind (wpAny_standAt (wpAny_pure ⟨e, t, d, rfl, ?_, he₃, q e h₃ tk₃ (I₁.thr hfs (kb.any.trans k₃) hm.new he₃)⟩))⟩
  · obtain ⟨u, rfl⟩ := i₁.str'
    exact .str _ _
  · exact (k₃ _ _ (fun z => by rw [← List.mem_singleton.mp z] at ht; rw [kb.all _ _ (I₁.K _ _ hC)] at ht; cases ht) (kb.all _ _ (I₁.K _ _ hC)))
end Mine
end
section
open PySem PySem.W PySem.Spec PySem.Calls PyProof.Rows
namespace Mine
def EvX (C : Cx) (h : Heap) (e : Expr) (c : Addr) : Prop := ∀ (s : Shared) (Q E : Value → Shared → Prop), But [] h s.heap →
  (∀ x h' tk, Thr C h' x c → E (.ref x) (to s h' tk)) → wpAny (model Prog C.w) C.A (eval e C.env) Q E s
section
variable {C : Cx} {lv : Nat} {led : List (Addr × LO)} {bs : List (Str × PV)} {h h' : Heap} {e c : Addr}
theorem Inv.fly (I : Inv C lv led bs h) (hfs : C.fs = []) (x : Fly C.A h h' e c) : Thr C h' e c := by
  obtain ⟨l, a0, hA, f, up⟩ := x
  have kp := I.keptC
  have sub : (hideAll C.snap (frs l)).StaysIn (hideAll h (frs l)) := fun b o q => by
    have q' := of_hideAll _ q
    refine hideAll_get _ (kp.1 b o q' (by rw [hfs]; exact fun z => nomatch z)) fun z => ?_
    rw [hideAll_none _ z] at q; cases q
  obtain ⟨x1, x2, x3, x4⟩ := flyingW_anti sub f
  exact ⟨l, a0, hA, x1, x2, x3, kp.2.trans up, .inl x4⟩
theorem EvX.call {x : Str} {f : Addr} {p pos : Pos} {e : Expr} {es : List Expr} {xs : List PV} (I : Inv C lv led bs h) (hfs : C.fs = []) (g : GlF x f) (a : EvL C h (e :: es) xs) (c' : FnX lv f xs c) (hx : C.env.kindOf x = some .globalImplicit)
    (he : notStar e = true := by rfl) (hp : List.all es notStar = true := by rfl) : EvX C h (.Call (.Name x p) (e :: es) [] pos) c := fun s Q E k q => by
  have J := I.ext k
  refine Call_ (nameG J (g.1 _).1 hx ?_ g.2)
  exact callWith_K (h₀ := s.heap) J.K (g.1 _).2 (a.run pos s _ E k fun vs h' tk k' i => ⟨(J.ext k').K, c' C led bs (to s h' tk) Q E vs (J.ext k') i fun v h'' tk' x => q v h'' tk' ((J.ext k').fly hfs x)⟩) (star_cons he) (star_plain hp pos)
theorem EvX.callB1 {x : Str} {f : String} {p pos : Pos} {e : Expr} {es : List Expr} (I : Inv C lv led bs h) (g : GlB x (.builtin f)) (a : EvX C h e c) (hx : C.env.kindOf x = some .globalImplicit)
    (he : notStar e = true := by rfl) (hp : List.all es notStar = true := by rfl) : EvX C h (.Call (.Name x p) (e :: es) [] pos) c := fun s Q E k q => by
  have J := I.ext k
  refine Call_ (nameB J (g.1 _) g.2.1 hx ?_ g.2.2.1 g.2.2.2)
  exact PyProof.Rows.callWith_builtin1 (args_cons (a s _ E k q) (star_cons he)) (star_cons he) (star_plain hp pos)
theorem Runs.asgX {x : Str} {e : Expr} {p pos : Pos} {rest : List Stmt} (a : EvX C h e c) (hs : swapsWith e (some (.Name x p)) pos.line C.env = pure false := by rfl) : Runs C lv led (.Assign [.Name x p] e pos :: rest) (.exc c) h := fun s tk Q E q =>
  wpAny_execs_cons (wpAny_Assign_Name (a _ _ E .refl q) hs)
theorem Runs.expr {e : Expr} {pos : Pos} {rest : List Stmt} {X : PV} {o : Out} (I : Inv C lv led bs h) (a : Ev C h e X) (next : ∀ h', Inv C lv led bs h' → Runs C lv led rest o h') (hi : interactive C.env = false := by rfl) (hs : swapsWith e none pos.line C.env = pure false := by rfl) : Runs C lv led (.Expr e pos :: rest) o h := fun s tk Q E q =>
  wpAny_execs_cons (wpAny_Expr_any (a _ _ E .refl fun v h' tk' k i => next h' (I.ext k) s tk' Q E q) hi hs)
theorem Ev.cast {e : Expr} {X Y : PV} (a : Ev C h e X) (k : X = Y) : Ev C h e Y := k ▸ a
theorem Tv.cast {e : Expr} {X Y : Bool} (a : Tv C h e X) (k : X = Y) : Tv C h e Y := k ▸ a
end
end Mine
end
section
open PySem PySem.W PySem.Spec PySem.Calls PyProof.Rows
namespace Mine
/-- an expression that may change what the ledger names -/
def EvM (C : Cx) (lv : Nat) (bs : List (Str × PV)) (led : List (Addr × LO)) (e : Expr) (X : PV) (led' : List (Addr × LO)) : Prop := ∀ (s : Shared) (Q E : Value → Shared → Prop), Inv C lv led bs s.heap →
  (∀ v h' tk, Inv C lv led' bs h' → But C.mu s.heap h' → Is C.mu h' v X → Q v (to s h' tk)) → wpAny (model Prog C.w) C.A (eval e C.env) Q E s
def TvM (C : Cx) (lv : Nat) (bs : List (Str × PV)) (led : List (Addr × LO)) (e : Expr) (b : Bool) (led' : List (Addr × LO)) : Prop := ∀ (s : Shared) (Q : Bool → Shared → Prop) (E : Value → Shared → Prop), Inv C lv led bs s.heap →
  (∀ h' tk, Inv C lv led' bs h' → But C.mu s.heap h' → Q b (to s h' tk)) → wpAny (model Prog C.w) C.A (isTrue e C.env (eval e C.env)) Q E s
structure EvLM (C : Cx) (lv : Nat) (bs : List (Str × PV)) (led : List (Addr × LO)) (es : List Expr) (xs : List PV) (led' : List (Addr × LO)) : Prop where
  run : ∀ (pos : Pos) (s : Shared) (Q : List Value → Shared → Prop) (E : Value → Shared → Prop), Inv C lv led bs s.heap →
    (∀ vs h' tk, Inv C lv led' bs h' → But C.mu s.heap h' → IsL C.mu h' vs xs → Q vs (to s h' tk)) → wpAny (model Prog C.w) C.A (spliced (backTo pos (starEach es C.env))) Q E s
/-- a def that changes one list that it is handed -/
def MFn (lv : Nat) (f : Addr) (a : Addr) (L : LO) (args : List PV) (x : PV) (L' : LO) : Prop := ∀ (C : Cx) (pre post : List (Addr × LO)) (bs : List (Str × PV)) (s : Shared) (Q E : Value → Shared → Prop) (vs : List Value), Inv C lv (pre ++ (a, L) :: post) bs s.heap →
  (∀ q ∈ pre, q.1 ≠ a) → (∀ q ∈ post, q.1 ≠ a) → IsL C.mu s.heap vs args →
  (∀ v h' tk, Inv C lv (pre ++ (a, L') :: post) bs h' → But C.mu s.heap h' → Is C.mu h' v x → Q v (to s h' tk)) → wpAny (model Prog C.w) C.A (call (.ref f) vs) Q E s
section
variable {C : Cx} {lv lv' : Nat} {bs : List (Str × PV)} {led led₁ led₂ led' : List (Addr × LO)} {h : Heap} {o : Out} {rest : List Stmt}
theorem EvM.of {e : Expr} {X : PV} (f : ∀ h, Inv C lv led bs h → Ev C h e X) : EvM C lv bs led e X led := fun s Q E I q => f _ I s Q E .refl fun v h' tk k i => q v h' tk (I.ext k) k.any i
theorem TvM.of {e : Expr} {X : Bool} (f : ∀ h, Inv C lv led bs h → Tv C h e X) : TvM C lv bs led e X led := fun s Q E I q => f _ I s Q E .refl fun h' tk k => q h' tk (I.ext k) k.any
theorem EvM.bin {l r : Expr} {op : Operator} {pos : Pos} {X Y Z : PV} (a : EvM C lv bs led l X led₁) (b : EvM C lv bs led₁ r Y led₂) (o : Op C (binaryOp op) X Y Z) : EvM C lv bs led (.BinOp l op r pos) Z led₂ := fun s Q E I q =>
  wpAny_BinOp (a s _ E I fun v h₁ t₁ I₁ k₁ i₁ => b (to s h₁ t₁) _ E I₁ fun w h₂ t₂ I₂ k₂ i₂ => o _ Q E v w (i₁.but k₂) i₂ fun u h₃ t₃ k₃ i₃ => q u h₃ t₃ (I₂.ext k₃) ((k₁.trans k₂).trans k₃.any) i₃)
theorem TvM.cmp {l r : Expr} {op : CmpOp} {pos : Pos} {X Y : PV} {c : Bool} (a : EvM C lv bs led l X led₁) (b : EvM C lv bs led₁ r Y led₂) (o : Op C (compareOp op) X Y (.bool c)) (hm : behindInMarks op r = false := by with_unfolding_all rfl) : TvM C lv bs led (.Compare l [op] [r] pos) c led₂ := fun s Q E I q =>
  wpAny_isTrue_Compare1 (a s _ E I fun v h₁ t₁ I₁ k₁ i₁ => b (to s h₁ t₁) _ E I₁ fun w h₂ t₂ I₂ k₂ i₂ => o _ _ E v w (i₁.but k₂) i₂ fun u h₃ t₃ k₃ i₃ => i₃.bool' ▸ wpAny_truthy_bool (q h₃ t₃ (I₂.ext k₃) ((k₁.trans k₂).trans k₃.any))) hm
theorem TvM.not {x : Expr} {pos : Pos} {c : Bool} (a : TvM C lv bs led x c led₁) : TvM C lv bs led (.UnaryOp .Not x pos) (!c) led₁ := fun s _ E I q => wpAny_isTrue_Not (a s _ E I fun h' tk k' => q h' tk k')
theorem TvM.val {x : Expr} {c : Bool} (a : EvM C lv bs led x (.bool c) led₁) (he : ∀ whole, isTrue x C.env whole = (do let v ← whole; standAt x.pos; holding [v] (truthy v)) := by intro _; rfl) : TvM C lv bs led x c led₁ := fun s _ E I q =>
  wpAny_isTrue_value (a s _ E I fun v h' tk J k i => i.bool' ▸ wpAny_truthy_bool (q h' tk J k)) (he _)
/-- of several tests one that is so -/
theorem TvM.orT {e : Expr} {r : List Expr} {pos : Pos} (x : TvM C lv bs led e true led₁) : TvM C lv bs led (.BoolOp .Or (e :: r) pos) true led₁ := fun s Q E I q => wpAny_isTrue_BoolOp (wpAny_allTrue_Or_cons (x s _ E I fun h₁ t₁ I₁ k₁ => q h₁ t₁ I₁ k₁))
theorem TvM.orF {e : Expr} {r : List Expr} {pos : Pos} {b : Bool} (x : TvM C lv bs led e false led₁) (y : TvM C lv bs led₁ (.BoolOp .Or r pos) b led₂) : TvM C lv bs led (.BoolOp .Or (e :: r) pos) b led₂ := fun s Q E I q =>
  wpAny_isTrue_BoolOp (wpAny_allTrue_Or_cons (x s _ E I fun h₁ t₁ I₁ k₁ => y (to s h₁ t₁) Q E I₁ fun h₂ t₂ I₂ k₂ => q h₂ t₂ I₂ (k₁.trans k₂)))
theorem TvM.orN {pos : Pos} : TvM C lv bs led (.BoolOp .Or [] pos) false led := fun s Q E I q => wpAny_isTrue_BoolOp (wpAny_allTrue_Or_nil (q _ _ I .refl))
theorem TvM.andF {e : Expr} {r : List Expr} {pos : Pos} (x : TvM C lv bs led e false led₁) : TvM C lv bs led (.BoolOp .And (e :: r) pos) false led₁ := fun s Q E I q => wpAny_isTrue_BoolOp (wpAny_allTrue_And_cons (x s _ E I fun h₁ t₁ I₁ k₁ => q h₁ t₁ I₁ k₁))
theorem TvM.andT {e : Expr} {r : List Expr} {pos : Pos} {b : Bool} (x : TvM C lv bs led e true led₁) (y : TvM C lv bs led₁ (.BoolOp .And r pos) b led₂) : TvM C lv bs led (.BoolOp .And (e :: r) pos) b led₂ := fun s Q E I q =>
  wpAny_isTrue_BoolOp (wpAny_allTrue_And_cons (x s _ E I fun h₁ t₁ I₁ k₁ => y (to s h₁ t₁) Q E I₁ fun h₂ t₂ I₂ k₂ => q h₂ t₂ I₂ (k₁.trans k₂)))
theorem TvM.andN {pos : Pos} : TvM C lv bs led (.BoolOp .And [] pos) true led := fun s Q E I q => wpAny_isTrue_BoolOp (wpAny_allTrue_And_nil (q _ _ I .refl))
theorem EvM.sub {e i : Expr} {pos : Pos} {X Y Z : PV} (a : EvM C lv bs led e X led₁) (b : EvM C lv bs led₁ i Y led₂) (t : Op C (subscriptTail e i) X Y Z) : EvM C lv bs led (.Subscript e i pos) Z led₂ := fun s Q E I q =>
  Subscript_ (a s _ E I fun v h₁ t₁ I₁ k₁ i₁ => b (to s h₁ t₁) _ E I₁ fun w h₂ t₂ I₂ k₂ i₂ => t _ Q E v w (i₁.but k₂) i₂ fun u h₃ t₃ k₃ i₃ => q u h₃ t₃ (I₂.ext k₃) ((k₁.trans k₂).trans k₃.any) i₃)
theorem EvM.ifT {t b o : Expr} {pos : Pos} {X : PV} (c : TvM C lv bs led t true led₁) (a : EvM C lv bs led₁ b X led₂) : EvM C lv bs led (.IfExp t b o pos) X led₂ := fun s _ E I q =>
  wpAny_IfExp (c s _ E I fun h' t' I' k' => a (to s h' t') _ E I' fun v h₂ t₂ I₂ k₂ i₂ => q v h₂ t₂ I₂ (k'.trans k₂) i₂)
theorem EvM.ifF {t b o : Expr} {pos : Pos} {X : PV} (c : TvM C lv bs led t false led₁) (a : EvM C lv bs led₁ o X led₂) : EvM C lv bs led (.IfExp t b o pos) X led₂ := fun s _ E I q =>
  wpAny_IfExp (c s _ E I fun h' t' I' k' => a (to s h' t') _ E I' fun v h₂ t₂ I₂ k₂ i₂ => q v h₂ t₂ I₂ (k'.trans k₂) i₂)
theorem EvLM.nil : EvLM C lv bs led [] [] led := ⟨fun pos s Q E I q => args_nil (q _ _ _ I .refl .nil)⟩
theorem EvLM.cons {e : Expr} {es : List Expr} {x : PV} {xs : List PV} (a : EvM C lv bs led e x led₁) (b : EvLM C lv bs led₁ es xs led₂) (he : notStar e = true := by rfl) : EvLM C lv bs led (e :: es) (x :: xs) led₂ := ⟨fun pos s Q E I q =>
  args_cons (a s _ E I fun v h₁ t₁ I₁ k₁ i₁ => b.run pos (to s h₁ t₁) _ E I₁ fun vs h₂ t₂ I₂ k₂ i₂ => q _ h₂ t₂ I₂ (k₁.trans k₂) (.cons (i₁.but k₂) i₂)) (star_cons he)⟩
theorem EvM.list {es : List Expr} {xs : List PV} {pos : Pos} (a : EvLM C lv bs led es xs led₁) (hz : xs.length ≤ 16777216) : EvM C lv bs led (.List es pos) (.lst xs) led₁ := fun s Q E I q => by
  refine List_ (a.run pos s _ E I fun vs h' tk I' k' i => ?_)
  refine wpAny_newObj_type (s := to s h' tk) (q _ _ _ (I'.ext .push) (k'.trans But.push.any) (.lst (n := 0) I'.fresh (Heap.get?_push_size _ rfl) i.1 (i.ext .push).2)) ?_
  show vs.toArray.size ≤ sizeLine
  rw [List.size_toArray, i.1, sizeLine_eq]; exact hz
theorem EvM.tuple {es : List Expr} {xs : List PV} {n : Nat} {pos : Pos} (a : EvLM C lv bs led es xs led₁) (hz : xs.length ≤ 16777216) : EvM C lv bs led (.Tuple es n pos) (.tup xs) led₁ := fun s Q E I q => by
  refine Tuple_ (a.run pos s _ E I fun vs h' tk I' k' i => ?_)
  refine wpAny_newObj_type (s := to s h' tk) (q _ _ _ (I'.ext .push) (k'.trans But.push.any) (.tup (n := 0) I'.fresh (Heap.get?_push_size _ rfl) i.1 (i.ext .push).2)) ?_
  show vs.toArray.size ≤ sizeLine
  rw [List.size_toArray, i.1, sizeLine_eq]; exact hz
theorem EvM.callB {x : Str} {f : String} {p pos : Pos} {e : Expr} {es : List Expr} {xs : List PV} {X : PV} (g : GlB x (.builtin f)) (a : EvLM C lv bs led (e :: es) xs led₁) (c : Bf C (.builtin f) xs X) (hx : C.env.kindOf x = some .globalImplicit)
    (he : notStar e = true := by rfl) (hp : List.all es notStar = true := by rfl) : EvM C lv bs led (.Call (.Name x p) (e :: es) [] pos) X led₁ := fun s Q E I q =>
  Call_ (nameB I (g.1 _) g.2.1 hx (PyProof.Rows.callWith_builtin1 (a.run pos s _ E I fun vs h' tk I' k' i => c (to s h' tk) Q E vs i fun v h'' tk' k'' j => q v h'' tk' (I'.ext k'') (k'.trans k''.any) j) (star_cons he) (star_plain hp pos)) g.2.2.1 g.2.2.2)
theorem EvM.callT {x : Str} {f : String} {p pos : Pos} {e : Expr} {es : List Expr} {xs : List PV} {X : PV} (g : GlB x (.type f)) (a : EvLM C lv bs led (e :: es) xs led₁) (c : Bf C (.type f) xs X) (hx : C.env.kindOf x = some .globalImplicit)
    (he : notStar e = true := by rfl) (hp : List.all es notStar = true := by rfl) : EvM C lv bs led (.Call (.Name x p) (e :: es) [] pos) X led₁ := fun s Q E I q =>
  Call_ (nameB I (g.1 _) g.2.1 hx (PyProof.Rows.callWith_type1 (a.run pos s _ E I fun vs h' tk I' k' i => c (to s h' tk) Q E vs i fun v h'' tk' k'' j => q v h'' tk' (I'.ext k'') (k'.trans k''.any) j) (star_cons he) (star_plain hp pos)) g.2.2.1 g.2.2.2)
theorem EvM.call {x : Str} {f : Addr} {p pos : Pos} {e : Expr} {es : List Expr} {xs : List PV} {X : PV} (g : GlF x f) (a : EvLM C lv bs led (e :: es) xs led₁) (c : Fn lv f xs X) (hx : C.env.kindOf x = some .globalImplicit)
    (he : notStar e = true := by rfl) (hp : List.all es notStar = true := by rfl) : EvM C lv bs led (.Call (.Name x p) (e :: es) [] pos) X led₁ := fun s Q E I q =>
  Call_ (nameG I (g.1 _).1 hx (callWith_K (h₀ := s.heap) I.K (g.1 _).2 (a.run pos s _ E I fun vs h' tk I' k' i => ⟨I'.K, c C led₁ bs (to s h' tk) Q E vs I' i fun v h'' tk' k'' j => q v h'' tk' (I'.ext k'') (k'.trans k''.any) j⟩) (star_cons he) (star_plain hp pos)) g.2)
theorem EvM.callM {x : Str} {f a₀ : Addr} {p pos : Pos} {e : Expr} {es : List Expr} {xs : List PV} {X : PV} {pre post : List (Addr × LO)} {L L' : LO} (g : GlF x f) (a : EvLM C lv bs led (e :: es) xs (pre ++ (a₀, L) :: post)) (c : MFn lv f a₀ L xs X L') (hx : C.env.kindOf x = some .globalImplicit)
    (h1 : ∀ q ∈ pre, q.1 ≠ a₀) (h2 : ∀ q ∈ post, q.1 ≠ a₀)
    (he : notStar e = true := by rfl) (hp : List.all es notStar = true := by rfl) : EvM C lv bs led (.Call (.Name x p) (e :: es) [] pos) X (pre ++ (a₀, L') :: post) := fun s Q E I q =>
  Call_ (nameG I (g.1 _).1 hx (callWith_K (h₀ := s.heap) I.K (g.1 _).2 (a.run pos s _ E I fun vs h' tk I' k' i => ⟨I'.K, c C pre post bs (to s h' tk) Q E vs I' h1 h2 i fun v h'' tk' J k'' j => q v h'' tk' J (k'.trans k'') j⟩) (star_cons he) (star_plain hp pos)) g.2)
theorem EvM.cast {e : Expr} {X Y : PV} (a : EvM C lv bs led e X led₁) (k : X = Y) : EvM C lv bs led e Y led₁ := k ▸ a
theorem TvM.cast {e : Expr} {X Y : Bool} (a : TvM C lv bs led e X led₁) (k : X = Y) : TvM C lv bs led e Y led₁ := k ▸ a
theorem Runs.retM {e : Expr} {pos : Pos} {X : PV} (I : Inv C lv led bs h) (a : EvM C lv bs led e X led₁) : Runs C lv' led₁ (.Return (some e) pos :: rest) (.ret X) h := fun s tk Q E q =>
  wpAny_execs_cons (wpAny_Return_some (a (to s h tk) _ E I fun v h' tk' J k i => q v h' tk' J.keptC J.holds i))
theorem Runs.asgM {x : Str} {e : Expr} {p pos : Pos} {X : PV} (I : Inv C lv led bs h) (ow : Own C) (a : EvM C lv bs led e X led₁) (hk : C.env.kindOf x = some .local) (next : ∀ h', Inv C lv led₁ ((x, X) :: bs) h' → Runs C lv' led' rest o h')
    (hs : swapsWith e (some (.Name x p)) pos.line C.env = pure false := by rfl) : Runs C lv' led' (.Assign [.Name x p] e pos :: rest) o h := fun s tk Q E q =>
  wpAny_execs_cons (wpAny_Assign_Name (a (to s h tk) _ E I fun v h' tk' J k i => J.store (s := to s h' tk') ow hk i fun h'' tk'' J => next h'' J s tk'' Q E q) hs)
theorem Runs.iteXM {t : Expr} {b e : List Stmt} {pos : Pos} {c : Bool} (I : Inv C lv led bs h) (a : TvM C lv bs led t c led₁) (hl : o.leaves) (d : ∀ h', Inv C lv led₁ bs h' → Runs C lv' led' (if c then b else e) o h') : Runs C lv' led' (.If t b e pos :: rest) o h := fun s tk Q E q =>
  wpAny_execs_cons (wpAny_If (a (to s h tk) _ E I fun h' tk' J k => by
    cases c
    · exact d h' J s tk' _ E (Post.flow hl q)
    · exact d h' J s tk' _ E (Post.flow hl q)))
theorem Runs.iteNM {t : Expr} {b e : List Stmt} {pos : Pos} {c : Bool} {bs₁ : List (Str × PV)} (I : Inv C lv led bs h) (a : TvM C lv bs led t c led₁) (d : ∀ h', Inv C lv led₁ bs h' → Runs C lv led₂ (if c then b else e) (.next bs₁) h') (next : ∀ h', Inv C lv led₂ bs₁ h' → Runs C lv' led' rest o h') : Runs C lv' led' (.If t b e pos :: rest) o h := fun s tk Q E q =>
  wpAny_execs_cons (wpAny_If (a (to s h tk) _ E I fun h' tk' J k => by
    cases c
    · exact d h' J s tk' _ E fun h'' tk'' J => next h'' J s tk'' Q E q
    · exact d h' J s tk' _ E fun h'' tk'' J => next h'' J s tk'' Q E q))
end
section
variable {lv : Nat} {a : Addr} {L L' : LO} {args : List PV} {X : PV} {name qual : Str} {params : Arguments} {body : List Stmt} {scope : Scope} {dV kV doc pm cdv ct oc : Value} {an od : Option Addr} {osl : Array (Option Value)} {f : Addr}
theorem MFn.of (ps : List Str)
    (ho : ∀ P, (hd.heap_39 P).lookup f = some ⟨oc, od, .func (fnOf name qual params body scope dV kV doc pm an cdv ct), osl⟩) (hcd : ∀ P, codeIn (hd.heap_39 P) cdv qual = true)
    (hb : ∀ vs : List Value, vs.length = args.length → bindArgs (fnOf name qual params body scope dV kV doc pm an cdv ct) ⟨vs, []⟩ = pure (ps.zip vs)) (hps : ps.Nodup) (hcn : ((cellsFrom 0 scope.names []).map (·.1)).Nodup) (hkp : (ps.all fun y => scope.names.lookup y == some .local || scope.names.lookup y == some .cell) = true)
    (hco : scope.isCoroutine = false) (hgen : scope.isGenerator = false) (hk : scope.kind = .function)
    (run : ∀ (C : Cx) (h h₁ : Heap), Inv (calleeCx C h [a] [] qual scope f cdv) lv [(a, L)] (ps.zip args) h₁ → Runs (calleeCx C h [a] [] qual scope f cdv) lv [(a, L')] body (.ret X) h₁) (hi : ∀ mu h o, L'.Says mu h o → Item o) : MFn (lv + 1) f a L args X L' := fun C pre post bs s Q E vs I h1 h2 iL k =>
  enter (bl := [(a, L)]) ps [] I (fun q hq => List.mem_append_right _ (List.mem_singleton.mp hq ▸ .head _)) iL ho hcd (hb vs iL.1) hps hcn hkp hco hgen hk fun h₁ tk J => run C s.heap h₁ J s tk _ _ fun v h' tk' kp hl i => by
    obtain ⟨o', e1, e2⟩ := hl _ (.head _)
    have ma : ∀ b, b ∈ C.mu → b ∈ (calleeCx C s.heap [a] [] qual scope f cdv).mu := fun b hb => .tail _ (List.mem_append_right _ hb)
    have kk : ∀ b o, b ≠ a → s.heap.get? b = some o → h'.get? b = some o := fun b o n e => kp.1 b o (hideAll_get _ e fun z => n (List.mem_singleton.mp z)) fun q => nomatch q
    have J' := I.setLed (lo' := L') kk e1 (e2.up fun b o n e => ⟨fun z => n (ma b z), e⟩) (hi _ _ _ e2) h1 h2
    exact k v h' tk' J' (fun b o n e => kk b o (fun z => n (z ▸ (by obtain ⟨_, _, _, q, _⟩ := I.entry (List.mem_append_right _ (.head _)); exact I.ownMu _ q))) e) (i.off fun a ha => .inl (ma a ha))
end
end Mine
end
section
open PySem PySem.W PySem.Spec PySem.Calls PyProof.Rows
namespace Mine
section
variable {C : Cx} {lv lv' : Nat} {bs bs₁ : List (Str × PV)} {led led₁ led₂ led' pre post : List (Addr × LO)} {h : Heap} {o : Out} {rest : List Stmt} {a : Addr} {l : List PV}
/-- an item of a list of the ledger -/
theorem EvM.item {e i : Expr} {pos : Pos} {k : Int} {X : PV} (hm : (a, .lst l) ∈ led₂) (x : EvM C lv bs led e (.ref a) led₁) (y : EvM C lv bs led₁ i (.int k) led₂) (h0 : 0 ≤ k) (hb : k < 2 ^ 63) (h1 : l[k.toNat]? = some X)
    (hs : ∀ a ui, subscripted i false (.ref a) (.int k ui) = operate [.ref a, .int k ui] (getItem (.ref a) (.int k ui)) := by intro _ _; with_unfolding_all rfl)
    (ht : ∀ t r, letTemporaryGo e (.ref t) r = pure () := by intro _ _; with_unfolding_all rfl) : EvM C lv bs led (.Subscript e i pos) X led₂ := fun s Q E I q =>
  Subscript_ (x s _ E I fun v h₁ t₁ I₁ k₁ i₁ => y (to s h₁ t₁) _ E I₁ fun w h₂ t₂ I₂ k₂ i₂ => by
    rw [i₁.ref']
    obtain ⟨u, rfl⟩ := i₂.int'
    obtain ⟨o, e1, ⟨vs, n, rfl, r⟩, _⟩ := I₂.entry hm
    obtain ⟨v, h2, h3⟩ := r.get h1
    have hl : h₂.IsList a vs.toArray := ⟨_, e1, rfl, _, rfl⟩
    exact subscriptTail_builtin (s := to s h₂ t₂) hl.typeIs slot_list_getitem.lookup (wpAny_getItem_list hl h0 hb (by simpa using h2) (q _ _ _ I₂ (k₁.trans k₂) h3)) (hs _ _) (ht _))
theorem IsL.set {mu : List Addr} {h : Heap} {vs : List Value} {l : List PV} {v : Value} {X : PV} {k : Nat} (r : IsL mu h vs l) (i : Is mu h v X) : IsL mu h (vs.set k v) (l.set k X) := by
  refine ⟨by rw [List.length_set, List.length_set]; exact r.1, fun j w x e f => ?_⟩
  rw [List.getElem?_set] at e f
  by_cases hj : k = j
  · rw [if_pos hj] at e f
    split at e <;> split at f
    · cases e; cases f; exact i
    · cases f
    · cases e
    · cases e
  · rw [if_neg hj] at e f; exact r.2 j w x e f
theorem set_obj {vs : List Value} {n j : Nat} {v : Value} : ∃ n', Obj.mapSeq (·.setIfInBounds j v) (lstO vs n) = lstO (vs.set j v) n' := ⟨_, by simp [Obj.mapSeq]; rfl⟩
theorem Runs.setItem {e i w : Expr} {p pos : Pos} {k : Int} {X : PV} (I : Inv C lv led bs h) (z : EvM C lv bs led w X led₁) (x : EvM C lv bs led₁ e (.ref a) led₂) (y : EvM C lv bs led₂ i (.int k) (pre ++ (a, .lst l) :: post)) (h0 : 0 ≤ k) (hb : k < 2 ^ 63) (hk : k.toNat < l.length)
    (h1 : ∀ q ∈ pre, q.1 ≠ a) (h2 : ∀ q ∈ post, q.1 ≠ a) (next : ∀ h', Inv C lv (pre ++ (a, .lst (l.set k.toNat X)) :: post) bs h' → Runs C lv' led' rest o h')
    (hs : swapsWith w (some (.Subscript e i p)) pos.line C.env = pure false := by rfl) : Runs C lv' led' (.Assign [.Subscript e i p] w pos :: rest) o h := fun s tk Q E q =>
  wpAny_execs_cons (wpAny_Assign_Subscript (z (to s h tk) _ E I fun v h₁ t₁ I₁ k₁ i₁ => x (to s h₁ t₁) _ E I₁ fun u h₂ t₂ I₂ k₂ i₂ => y (to s h₂ t₂) _ E I₂ fun w h₃ t₃ I₃ k₃ i₃ => by
    rw [i₂.ref']
    obtain ⟨t, rfl⟩ := i₃.int'
    obtain ⟨o', e1, ⟨vs, n, rfl, r⟩, _⟩ := I₃.entry (List.mem_append_right _ (.head _))
    obtain ⟨n', hn⟩ := @set_obj vs n k.toNat v
    have hu : (h₃.update a (Obj.mapSeq (·.setIfInBounds k.toNat v))).get? a = some (lstO (vs.set k.toNat v) n') := by rw [Heap.get?_update_self _ e1 (by rw [hn]; rfl), hn]
    have J := I₃.setLed (lo' := .lst (l.set k.toNat X)) (Heap.SameBut.update (f := Obj.mapSeq (·.setIfInBounds k.toNat v)) ..).extBut hu ⟨_, _, rfl, ?_⟩ itemL h1 h2
    · exact ki_setAt (s := to s h₃ t₃) e1 h0 hb (by simp only [List.size_toArray, r.1]; omega) (next _ J s _ Q E q)
    · have k : But C.mu h₃ (h₃.update a (Obj.mapSeq (·.setIfInBounds k.toNat v))) := (But.same (Heap.SameBut.update ..)).mono fun b hb => by
        obtain ⟨_, _, _, m, _⟩ := I₃.entry (List.mem_append_right _ (.head _))
        exact List.mem_singleton.mp hb ▸ I₃.ownMu _ m
      exact (r.set ((i₁.but k₂).but k₃)).but k) hs)
/-- found.append(..) -/
theorem Runs.append {e w : Expr} {p ap pos : Pos} {X : PV} (I : Inv C lv led bs h) (x : EvM C lv bs led e (.ref a) led₁) (z : EvM C lv bs led₁ w X (pre ++ (a, .lst l) :: post)) (hz : l.length ≤ 16777216)
    (h1 : ∀ q ∈ pre, q.1 ≠ a) (h2 : ∀ q ∈ post, q.1 ≠ a) (hm : ∃ o, (a, .lst o) ∈ led₁) (next : ∀ h', Inv C lv (pre ++ (a, .lst (l ++ [X])) :: post) bs h' → Runs C lv' led' rest o h')
    (hc : ∃ pl, eval (.Call (.Attribute e "append" ap) [w] [] p) C.env = (do
      let ov ← eval e C.env
      standAt ap.atName
      let (f, first) ← holding [ov] (getMethod ov "append" pl)
      callWith p f first (backTo p (starEach [w] C.env)) []) := by exact ⟨_, rfl⟩)
    (he : notStar w = true := by rfl)
    (hi : interactive C.env = false := by rfl) (hs : swapsWith (.Call (.Attribute e "append" ap) [w] [] p) none pos.line C.env = pure false := by rfl) : Runs C lv' led' (.Expr (.Call (.Attribute e "append" ap) [w] [] p) pos :: rest) o h := fun s tk Q E q => by
  obtain ⟨pl, hc⟩ := hc
  obtain ⟨o0, hm⟩ := hm
  refine wpAny_execs_cons (wpAny_Expr_any (MethodCall_ (pl := pl) (x (to s h tk) _ E I fun v h₁ t₁ I₁ k₁ i₁ => ?_) hc) hi hs)
  rw [i₁.ref']
  obtain ⟨o', e1, ⟨vs, n, rfl, r⟩, _⟩ := I₁.entry hm
  refine Calls.getMethod_list_append (s := to s h₁ t₁) e1 rfl rfl (callWith_method1 (args_cons (z (to s h₁ t₁) _ E I₁ fun v h₂ t₂ I₂ k₂ i₂ => args_nil ?_) (star_cons he)) (star_cons he) (by rfl))
  obtain ⟨o', e1, ⟨vs, n, rfl, r⟩, m, _⟩ := I₂.entry (List.mem_append_right _ (.head _))
  refine append_at (s := to s h₂ t₂) e1 (fun h₃ hs' e2 => ?_) (by simp only [List.size_toArray, r.1, sizeLine_eq]; exact hz)
  have k : But C.mu h₂ h₃ := (But.same hs').mono fun b hb => List.mem_singleton.mp hb ▸ I₂.ownMu _ m
  rw [List.push_toArray] at e2
  exact next _ (I₂.setLed (lo' := .lst (l ++ [X])) hs'.extBut e2 ⟨_, _, rfl, (r.but k).snoc (i₂.but k)⟩ itemL h1 h2) s _ Q E q
/-! ### targets -/
def Asgn (C : Cx) (lv : Nat) (led : List (Addr × LO)) (t : Expr) (X : PV) (bs bs₁ : List (Str × PV)) : Prop := ∀ (s : Shared) (Q : Unit → Shared → Prop) (E : Value → Shared → Prop) (v : Value), Inv C lv led bs s.heap → Is C.mu s.heap v X →
  (∀ h' tk, Inv C lv led bs₁ h' → But C.mu s.heap h' → Q () (to s h' tk)) → wpAny (model Prog C.w) C.A (assign t C.env v) Q E s
theorem Asgn.name {x : Str} {p : Pos} {X : PV} (ow : Own C) (hk : C.env.kindOf x = some .local) : Asgn C lv led (.Name x p) X bs ((x, X) :: bs) := fun s Q E v I i q => by
  obtain ⟨G, B, X', T, F, hA, hf, ns, r⟩ := id I
  refine PySem.wpAny_assign_Name (wpAny_storeName_local hk ns (fun h' hn hs => q h' _ (I.setLoc ow hk i ns hn rfl hs) ((But.same hs).mono fun b hb => List.mem_singleton.mp hb ▸ I.ownMu _ ow)) ?_)
  rw [G.ek]; rfl
theorem Asgn.cell {x : Str} {p : Pos} {X : PV} {c : Addr} (hk : C.env.kindOf x = some .cell) (hc : C.env.cells.lookup x = some c) (co : c ∈ C.own) : Asgn C lv led (.Name x p) X bs ((x, X) :: bs) := fun s Q E v I i q => by
  obtain ⟨G, B, X', T, F, hA, hf, ns, V, Y, _⟩ := id I
  obtain ⟨⟨w, a1⟩, m, _⟩ := Y x c hc
  exact PySem.wpAny_assign_Name (wpAny_storeName_cell G.ek hk hc a1 fun h' hv hs => q h' _ (I.setCell hk hc i hv hs co) ((But.same hs).mono fun b hb => List.mem_singleton.mp hb ▸ m))
def AsgnL (C : Cx) (lv : Nat) (led : List (Addr × LO)) (ts : List Expr) (Xs : List PV) (bs bs₁ : List (Str × PV)) : Prop := ∀ (s : Shared) (Q : Unit → Shared → Prop) (E : Value → Shared → Prop) (vs : List Value), Inv C lv led bs s.heap → IsL C.mu s.heap vs Xs →
  (∀ h' tk, Inv C lv led bs₁ h' → But C.mu s.heap h' → Q () (to s h' tk)) → wpAny (model Prog C.w) C.A (assignInOrder ((assignEach ts C.env).map (·.2)) vs) Q E s
theorem AsgnL.nil : AsgnL C lv led [] [] bs bs := fun s Q E vs I i q => by rw [i.nil']; exact assignInOrder_nil (q _ _ I .refl)
theorem AsgnL.cons {t : Expr} {ts : List Expr} {X : PV} {Xs : List PV} {bs₂ : List (Str × PV)} (a : Asgn C lv led t X bs bs₁) (b : AsgnL C lv led ts Xs bs₁ bs₂) (he : assignEach (t :: ts) C.env = (false, assign t C.env) :: assignEach ts C.env := by rfl) : AsgnL C lv led (t :: ts) (X :: Xs) bs bs₂ := fun s Q E vs I i q => by
  obtain ⟨v, ws, rfl, x, r⟩ := i.cons'
  rw [he]
  exact assignInOrder_cons (a s _ E v I x fun h₁ t₁ I₁ k₁ => b (to s h₁ t₁) Q E ws I₁ (r.but k₁) fun h₂ t₂ I₂ k₂ => q h₂ t₂ I₂ (k₁.trans k₂))
theorem ext_fresh {h h' : Heap} (k : Heap.ExtBut h.objs.size h h') : But [] h h' := .of fun b o e => k b o (Nat.ne_of_lt (Heap.lt_size e)) e
theorem Asgn.tup {ts : List Expr} {n : Nat} {p : Pos} {Xs : List PV} (a : AsgnL C lv led ts Xs bs bs₁) (hn : (assignEach ts C.env).length = Xs.length := by rfl) (hst : (assignEach ts C.env).findIdx? (·.1) = none := by rfl) : Asgn C lv led (.Tuple ts n p) (.tup Xs) bs bs₁ := fun s Q E v I i q => by
  obtain ⟨b, vs, m, rfl, _, e, r⟩ := i.tup'
  refine assign_Tuple_tuple (items := vs.toArray) I.good.hh ⟨_, e, rfl, _, rfl⟩ (by rw [hn, List.size_toArray, r.1]) hst fun h' he => ?_
  have k := ext_fresh he
  exact a (to s h' s.toks) Q E vs (I.ext k) (IsL.ext ⟨r.1, r.2⟩ k) fun h₂ t₂ I₂ k₂ => q h₂ t₂ I₂ (k.any.trans k₂)
theorem Runs.asgT {ts : List Expr} {n : Nat} {w : Expr} {p pos : Pos} {X : PV} (I : Inv C lv led bs h) (z : EvM C lv bs led w X led₁) (a : Asgn C lv led₁ (.Tuple ts n p) X bs bs₁) (next : ∀ h', Inv C lv led₁ bs₁ h' → Runs C lv' led' rest o h')
    (hs : swapsWithSole [.Tuple ts n p] w pos.line C.env = pure false := by rfl) (hw : swappedStores [.Tuple ts n p] w C.env = pure none := by rfl) : Runs C lv' led' (.Assign [.Tuple ts n p] w pos :: rest) o h := fun s tk Q E q =>
  wpAny_execs_cons (PyProof.Rows.Assign_Tuple (z (to s h tk) _ E I fun v h₁ t₁ I₁ k₁ i₁ => a (to s h₁ t₁) _ E v I₁ i₁ fun h₂ t₂ I₂ k₂ => next h₂ I₂ s t₂ Q E q) hs hw)
theorem Runs.asgTS {ts : List Expr} {x y : Str} {n : Nat} {w : Expr} {p pos : Pos} {X Y : PV} (I : Inv C lv led bs h) (ow : Own C) (z : EvM C lv bs led w (.tup [X, Y]) led₁) (hx : C.env.kindOf x = some .local) (hy : C.env.kindOf y = some .local) (next : ∀ h', Inv C lv led₁ ((x, X) :: (y, Y) :: bs) h' → Runs C lv' led' rest o h')
    (hs : swapsWithSole [.Tuple ts n p] w pos.line C.env = pure false := by rfl) (hw : swappedStores [.Tuple ts n p] w C.env = pure (some [x, y]) := by rfl) : Runs C lv' led' (.Assign [.Tuple ts n p] w pos :: rest) o h := fun s tk Q E q => by
  refine wpAny_execs_cons (PyProof.Rows.Assign_Tuple_swapped (z (to s h tk) _ E I fun v h₁ t₁ I₁ k₁ i₁ => ?_) hs hw)
  obtain ⟨b, vs, m, rfl, _, e, r⟩ := i₁.tup'
  obtain ⟨v, w, rfl, i, j⟩ := IsL.two ⟨r.1, r.2⟩
  refine PyProof.Rows.unpackItems_tuple (s := to s h₁ t₁) (items := #[v, w]) I.good.hh ⟨_, e, rfl, _, rfl⟩ fun h' he => ?_
  have k := ext_fresh he
  obtain ⟨G, B, X', T, F, hA, hf, ns, _⟩ := id (I₁.ext k)
  have fk : ∀ {b : Bool}, (C.env.scope.kind == .class || (C.env.scope.kind == .module && b)) = false := fun {b} => by rw [G.ek]; rfl
  refine assignInOrder_cons (bindName_ (wpAny_storeName_local hy ns (fun h₂ hn hs => ?_) fk))
  have J := (I₁.ext k).setLoc ow hy (j.ext k) ns hn rfl hs
  have k₂ : But C.mu h' h₂ := (But.same hs).mono fun b hb => List.mem_singleton.mp hb ▸ I.ownMu _ ow
  exact assignInOrder_cons (bindName_ (J.store (s := to s h₂ (t₁ + 1)) ow hx ((i.ext k).but k₂) fun h₃ t₃ J => assignInOrder_nil (next h₃ J s t₃ Q E q)))
end
end Mine
end
section
open PySem PySem.W PySem.Spec PySem.Calls PyProof.Rows
namespace Mine
theorem go_plain {M : Model} {A : Around} {s : Shared} {E : Value → Shared → Prop} {t : Expr} {v : Value} {I : Addr} {o : Obj} {n : String} {Q : Unit → Shared → Prop} (ho : s.heap.get? I = some o) (hc : o.cls = .type n)
    (hn : ["enumerate", "zip", "dict_itemiterator", "dict_reverseitemiterator", "odict_iterator", "itertools.zip_longest", "itertools.pairwise"].contains n = false) (hQ : Q () s) : wpAny M A (letOwnedTupleGo t (.ref I) v) Q E s := by
  have key : ∀ a : Addr, wpAny M A (do
      let o ← load I
      match o.cls, o.data with
      | .type n, .fields vs =>
        if ["enumerate", "zip", "dict_itemiterator", "dict_reverseitemiterator", "odict_iterator", "itertools.zip_longest", "itertools.pairwise"].contains n && vs[0]? == some (rawInt a) then
          rule "for.unpacks-the-owned-tuple"
          updateField I 0 .none
      | _, _ => pure ()) Q E s := fun a => by
    refine wpAny_bind (wpAny_load ho ?_)
    rw [hc]
    cases o.data <;> first | exact wpAny_pure hQ | (refine (show wpAny M A (if _ then _ else _) Q E s from ?_); rw [hn, Bool.false_and, if_neg (by decide)]; exact wpAny_pure hQ)
  unfold letOwnedTupleGo
  split
  · cases v <;> first | exact key _ | exact wpAny_pure hQ
  · cases v <;> first | exact key _ | exact wpAny_pure hQ
  · exact wpAny_pure hQ

/-- what is at I hands out the values of l -/
def ItF (C : Cx) (l : List PV) (g h : Heap) (I : Addr) : Prop := ∃ fp P St, Walks Prog C.w C.A I fp [I] l.length P St ∧ St 0 h ∧ (∀ b ∈ fp, b = I ∨ (b ∉ C.mu ∧ ∃ o, g.get? b = some o)) ∧
  (∀ i v, P i v → ∀ X, l[i]? = some X → Is C.mu g v X) ∧
  ∀ i h', St i h' → ∃ o, h'.get? I = some o ∧ Item o ∧ ∃ n, o.cls = .type n ∧ ["enumerate", "zip", "dict_itemiterator", "dict_reverseitemiterator", "odict_iterator", "itertools.zip_longest", "itertools.pairwise"].contains n = false
structure It (C : Cx) (lv : Nat) (bs : List (Str × PV)) (led : List (Addr × LO)) (e : Expr) (l : List PV) (led' : List (Addr × LO)) : Prop where
  run : ∀ (s : Shared) (Q E : Value → Shared → Prop), Inv C lv led bs s.heap →
  (∀ I h₁ h₂ tk, Inv C lv led' bs h₁ → But C.mu s.heap h₁ → h₁.get? I = none → But [] h₁ h₂ → ItF C l h₁ h₂ I → Q (.ref I) (to s h₂ tk)) → wpAny (model Prog C.w) C.A (eval e C.env) (fun x s₁ => wpAny (model Prog C.w) C.A (pyIter x) Q E s₁) E s
section
variable {C : Cx} {lv lv' : Nat} {bs bs₁ : List (Str × PV)} {led led₁ led₂ led' : List (Addr × LO)} {h : Heap} {o : Out} {rest : List Stmt} {l : List PV}
theorem It.list {e : Expr} (a : EvM C lv bs led e (.lst l) led₁) : It C lv bs led e l led₁ := It.mk fun s Q E I q => a s _ E I fun v h₁ t₁ I₁ k₁ i₁ => by
  obtain ⟨ax, vs, n, rfl, m, e1, r⟩ := i₁.lst'
  have hl : h₁.IsList ax vs.toArray := ⟨_, e1, rfl, _, rfl⟩
  refine wpAny_pyIter_list (s := to s h₁ t₁) hl (q h₁.objs.size h₁ _ t₁ I₁ k₁ (Heap.get?_none_of_le (Nat.le_refl _)) .push ?_)
  have hne : ax ≠ h₁.objs.size := Nat.ne_of_lt (Heap.lt_size e1)
  have e2 : (h₁.push { cls := .type "list_iterator", data := .fields #[.ref ax, .int 0 0] }).get? ax = some (lstO vs n) := Heap.get?_push_of_some _ e1
  have W := Walks.list (prog := Prog) (w := C.w) (A := C.A) I.good.hh h₁.objs.size ax hne vs.toArray
  rw [show vs.toArray.size = l.length by rw [List.size_toArray, r.1]] at W
  refine ⟨_, _, _, W, ⟨⟨_, Heap.get?_push_size _ rfl, rfl, rfl⟩, _, e2, rfl, _, rfl⟩, fun b hb => ?_, fun i v p X f => r.2 i v X (by simpa using p) f, fun i h' st => ?_⟩
  · rcases List.mem_cons.mp hb with rfl | hb
    · exact .inl rfl
    · rw [List.mem_singleton.mp hb]; exact .inr ⟨m, _, e1⟩
  · obtain ⟨⟨o, x1, x2, x3⟩, _⟩ := st
    exact ⟨o, x1, ⟨fun _ _ z => (by rw [x3] at z; cases z), fun _ z => (by rw [x3] at z; cases z)⟩, _, x2, by decide⟩
theorem It.range {e : Expr} {a b c : Int} {n : Nat} (x : ∀ (s : Shared) (Q E : Value → Shared → Prop), Inv C lv led bs s.heap → (∀ r h' tk t u v, Inv C lv led₁ bs h' → But C.mu s.heap h' → IsRange h' r a b c t u v → Q (.ref r) (to s h' tk)) → wpAny (model Prog C.w) C.A (eval e C.env) Q E s)
    (hs : Builtin.Range.small a b c = true) (hn : Builtin.Range.rangeSize a b c = n) : It C lv bs led e ((List.range n).map fun (i : Nat) => .int (a + i * c)) led₁ := It.mk fun s Q E I q => x s _ E I fun r h₁ t₁ t u v I₁ k₁ i₁ => by
  refine wpAny_pyIter_range (s := to s h₁ t₁) i₁ hs (q h₁.objs.size h₁ _ t₁ I₁ k₁ (Heap.get?_none_of_le (Nat.le_refl _)) .push ?_)
  have W := Walks.range (prog := Prog) (w := C.w) (A := C.A) I.good.hh h₁.objs.size a c n
  have hl : ((List.range n).map fun (i : Nat) => PV.int (a + i * c)).length = n := by simp
  refine ⟨_, _, fun i h => IsRangeIter h h₁.objs.size (a + (i : Nat) * c) ((n : Int) - (i : Nat)) c, by rw [hl]; exact W, ?_, fun b hb => .inl (List.mem_singleton.mp hb), fun i v p X f => ?_, fun i h' st => ⟨_, st, ⟨fun _ _ z => (by cases z), fun _ z => (by cases z)⟩, _, rfl, by decide⟩⟩
  · show IsRangeIter _ _ (a + (0 : Nat) * c) ((n : Int) - (0 : Nat)) c
    rw [hn]
    simp only [Int.natCast_zero, Int.zero_mul, Int.add_zero, Int.sub_zero]
    exact Heap.get?_push_size _ rfl
  · obtain ⟨t, rfl⟩ := p
    rw [List.getElem?_map] at f
    obtain ⟨j, e1, rfl⟩ := Option.map_eq_some_iff.mp f
    obtain ⟨hi, e1⟩ := List.getElem?_eq_some_iff.mp e1
    rw [List.getElem_range] at e1
    rw [e1]
    exact .int _ _
theorem Inv.keptBack {h₁ : Heap} (I : Inv C lv led bs h₁) (k : Kept (C.at (hideAll h₁ C.own)) h) : Kept C h := by
  obtain ⟨G, B, X, T, F, hA, hf, ns, V, Y, D, kept, slots, hmu, hms, _⟩ := I
  have no : ∀ {b o}, C.snap.get? b = some o → b ∉ C.own := fun {b o} e z => by rw [(hms b z).1] at e; cases e
  refine ⟨fun b o e n => k.1 b o (hideAll_get _ (kept b o e n) (no e)) n, fun b o e n => ?_⟩
  obtain ⟨sl, z⟩ := slots b o e n
  obtain ⟨sl', y⟩ := k.2 b _ (hideAll_get _ z (no e)) n
  exact ⟨sl', y⟩
theorem Inv.back {h₁ : Heap} {lv₁ : Nat} {led₁ : List (Addr × LO)} {bs₁ : List (Str × PV)} (I : Inv C lv led bs h₁) (J : Inv (C.at (hideAll h₁ C.own)) lv₁ led₁ bs₁ h) : Inv C lv₁ led₁ bs₁ h := by
  have kp := I.keptBack J.keptC
  obtain ⟨_, _, _, _, _, _, _, _, _, _, _, _, _, _, hms₀, _⟩ := I
  obtain ⟨G, B, X, T, F, hA, hf, ns, V, Y, D, kept, slots, hmu, hms, hld, hll⟩ := J
  refine .mk ⟨G.hh, G.hd, G.hu, G.fk, G.ek, G.g, G.b⟩ B X T F hA hf ns (fun x Z q => ?_) Y D kp.1 kp.2 hmu (fun a ha => ⟨(hms₀ a ha).1, (hms a ha).2⟩) hld hll
  cases V x Z q with
  | loc a b c => exact .loc a b c
  | cell a b c d => exact .cell a b c d
  | free a b c d => exact .free a b c d
abbrev Cx.in (C : Cx) (g : Heap) (it : Addr) : Cx := (C.at g).add it
/-- the turns of a for loop over the values of a list -/
def Loop (C : Cx) (g : Heap) (it : Addr) (lv lv' : Nat) (led' : List (Addr × LO)) (t : Expr) (body rest : List Stmt) (o : Out) : List PV → List (Addr × LO) → List (Str × PV) → Prop
  | [], led, bs => (∀ q ∈ led, q.1 ∈ C.mu) ∧ ∀ h, Inv C lv led bs h → Runs C lv' led' rest o h
  | x :: xs, led, bs => (∀ q ∈ led, q.1 ∈ C.mu) ∧ ∃ bs₁, (∀ io, Asgn (C.in g it) lv ((it, .obj io) :: led) t x bs bs₁) ∧
    ((o.leaves ∧ ∀ io h, Inv (C.in g it) lv ((it, .obj io) :: led) bs₁ h → Runs (C.in g it) lv' ((it, .obj io) :: led') body o h) ∨
      ∃ led₂ bs₂, (∀ io h, Inv (C.in g it) lv ((it, .obj io) :: led) bs₁ h → Runs (C.in g it) lv ((it, .obj io) :: led₂) body (.next bs₂) h) ∧ Loop C g it lv lv' led' t body rest o xs led₂ bs₂)
theorem Runs.forL {t iter : Expr} {body : List Stmt} {pos : Pos} (I : Inv C lv led bs h) (a : It C lv bs led iter l led₁) (hfs : ∀ b ∈ C.fs, b ∈ C.mu) (loop : ∀ g it, it ∉ C.mu → (∀ a ∈ C.own, g.get? a = none) → Loop C g it lv lv' led' t body rest o l led₁ bs) (hx : ∀ c, o ≠ .exc c) (hw : ∀ l, o ≠ .new l := by intro _ z; cases z)
    (hs : ∀ x, foldedSetIterable iter C.env x = pure x := by intro _; rfl) : Runs C lv' led' (.For t iter body [] pos :: rest) o h := fun s tk Q E q => by
  refine wpAny_execs_cons (wpAny_For (a.run (to s h tk) _ E I fun it h₁ h₂ t₂ I₁ k₁ hn k₂ F => ?_) hs)
  obtain ⟨fp, P, St, W, st, hfp, hit, hob⟩ := F
  have hem : it ∉ C.mu := fun z => by obtain ⟨_, _, _, _, _, _, _, _, _, _, _, _, _, hmu, _⟩ := I₁; exact hmu it z hn
  obtain ⟨o₀, e₀, i₀, _⟩ := hob 0 h₂ st
  have J := I₁.snapped.adopt (lo := .obj o₀) k₂ hn e₀ rfl i₀ hfs
  have keep : ∀ {led bs h}, Inv (C.in (hideAll h₁ C.own) it) lv led bs h → ∀ a o, a ∉ C.mu → h₁.get? a = some o → h.get? a = some o := fun {led bs h} J a o n e =>
    J.keptC.1 a o (hideAll_get _ e fun z => n (I₁.ownMu a z)) fun z => n (hfs a z)
  refine codeAny_forLoop_any (fun n s' => ∃ h' tk led bs i io, s' = to s h' tk ∧ n = l.length - i ∧ i ≤ l.length ∧ Inv (C.in (hideAll h₁ C.own) it) lv ((it, .obj io) :: led) bs h' ∧ St i h' ∧ Loop C (hideAll h₁ C.own) it lv lv' led' t body rest o (l.drop i) led bs) (fun n s' hI => ?_) l.length
    ⟨h₂, t₂, led₁, bs, 0, o₀, rfl, rfl, Nat.zero_le _, J, st, loop _ it hem fun a ha => hideAll_none _ ha⟩
  obtain ⟨h', tk', led, bs, i, io, rfl, rfl, hi, J, st, L⟩ := hI
  by_cases hlt : i < l.length
  · refine W.item i _ _ _ hlt st fun v h₃ tk₃ p st₃ k₃ => ?_
    obtain ⟨o₃, e₃, i₃, n₃, c₃, d₃⟩ := hob _ _ st₃
    rw [List.drop_eq_getElem_cons hlt] at L
    obtain ⟨hm, bs₁, ha, L⟩ := L
    have J₃ := Inv.setLed (pre := []) (lo' := .obj o₃) J (fun b o n e => k₃ b o (fun z => n (List.mem_singleton.mp z)) e) e₃ rfl i₃ (fun _ z => nomatch z) (fun q hq z => hem (z ▸ hm q hq))
    refine go_plain (s := to s h₃ tk₃) e₃ c₃ d₃ (ha o₃ (to s h₃ tk₃) _ _ v J₃ ((hit i v p _ (List.getElem?_eq_getElem hlt)).up fun a o n e => ⟨fun z => (List.mem_cons.mp z).elim (fun z => by rw [z, hn] at e; cases e) n, keep J₃ a o n e⟩) fun h₄ t₄ J₄ k₄ => ?_)
    rcases L with ⟨hl, r⟩ | ⟨led₂, bs₂, r, L⟩
    · refine r o₃ h₄ J₄ s t₄ _ _ ?_
      cases o with
      | ret X => exact fun v h tk kp hh i => q v h tk (I₁.keptBack kp) (fun p hp => by obtain ⟨o, a, b⟩ := hh p (.tail _ hp); exact ⟨o, a, b.up fun a o n e => ⟨fun z => n (.tail _ z), e⟩⟩) (i.off fun a ha => .inl (.tail _ ha))
      | exc c => exact absurd rfl (hx c)
      | new l => exact absurd rfl (hw l)
      | next bs => exact hl.elim
    · refine r o₃ h₄ J₄ s t₄ _ _ fun h₅ t₅ J₅ => ⟨l.length - (i + 1), by omega, h₅, t₅, led₂, bs₂, i + 1, o₃, rfl, rfl, hlt, J₅, W.frame _ _ _ st₃ fun b hb o e => ?_, L⟩
      rcases hfp b hb with z | ⟨x1, x2, x3⟩
      · obtain ⟨o', y1, y2, _⟩ := J₅.entry (.head _)
        rw [z, e₃] at e; cases e; rw [z, y1]; exact congrArg some y2
      · have y := keep J₃ b x2 x1 x3
        rw [y] at e; cases e; exact keep J₅ b _ x1 x3
  · have hi' : i = l.length := by omega
    subst hi'
    refine W.done _ _ _ st fun h₃ t₃ k₃ => wpAny_execs_nil ?_
    rw [List.drop_length] at L
    obtain ⟨hm, r⟩ := L
    have J₃ : Inv (C.at (hideAll h₁ C.own)) lv led bs h₃ := J.drop (fun b o n e => k₃ b o (fun z => n (List.mem_singleton.mp z)) e) (fun q hq z => hem (z ▸ hm q hq)) I₁.ownMu hem
    exact r h₃ (I₁.back J₃) s t₃ Q E q
end
end Mine
end
section
open PySem PySem.W PySem.Spec PySem.Calls PyProof.Rows
namespace Mine
/-- the names' places of the frames that stand -/
def frsA (A : Around) : List Addr := match A.frames with
  | some l => frs l
  | none => []
theorem frsA_eq {A : Around} {l : List Env} (e : A.frames = some l) : frsA A = frs l := by unfold frsA; rw [e]
/-- the frames may be written, but for what is kept -/
structure Fo (C : Cx) : Prop where
  m : ∀ b ∈ frsA C.A, b ∈ C.mu
  s : ∀ b ∈ frsA C.A, b ∉ C.fs → C.snap.get? b = none
  f : ∀ b ∈ C.fs, b ∈ C.mu
  o : ∀ b ∈ frsA C.A, b ∉ C.fs → b ∈ C.own
section
variable {C : Cx} {lv : Nat} {led : List (Addr × LO)} {bs : List (Str × PV)} {g h h' : Heap}
theorem slots_cell {c : Addr} {v : Option Value} (u : h.UpToSlots h') (x : h.IsCell c v) : h'.IsCell c v := by
  obtain ⟨o, a, d⟩ := x
  obtain ⟨sl, e⟩ := u c o a fun vs z => by rw [d] at z; cases z
  exact ⟨_, e, d⟩
/-- the frames' places change what they bear beside the names -/
theorem Inv.turn (I : Inv C lv led bs h) (fo : Fo C) (k : ∀ b o, h.get? b = some o → b ∉ frsA C.A → h'.get? b = some o) (u : h.UpToSlots h') : Inv C lv led bs h' := by
  obtain ⟨l, base', hA', fr, nf⟩ := I.frames
  obtain ⟨G, B, X', T, F, hA, hf, ns, V, Y, D, kept, slots, hmu, hms, hld, hll⟩ := I
  rename_i A₀ base h₀ outer _ _ _ _ _ _ _ Lf
  have e0 : frsA C.A = frs (C.fenv :: outer) := frsA_eq hA
  have e1 : frs (C.fenv :: outer) = Lf :: frs outer := by unfold frs; rw [List.filterMap_cons, hf]
  have kb : But C.mu h h' := fun b o n e => k b o e fun z => n (fo.m b z)
  obtain ⟨g', T₁, F₁, K₁⟩ := kts_ground (name := "") (scope := C.env.scope) (a := 0) (cd := .none) (B := hideAll h' (frs (C.fenv :: outer))) B F
    (fun b o e n => hideAll_get _ (k b o e (by rw [e0, e1]; exact n)) (by rw [e1]; exact n)) (fun b o e => of_hideAll _ e) u
  have lf : ∀ {b}, h₀.get? b = none → b ≠ Lf → b ∉ frsA C.A := fun {b} n ne z => by
    rw [e0, e1] at z
    rcases List.mem_cons.mp z with z | z
    · exact ne z
    · obtain ⟨_, o, e, _⟩ := B.frames.mem z
      rw [n] at e; cases e
  refine .mk G K₁ X' T F₁ hA hf (u.ns ns) (fun x Z q => ?_) (fun x c q => ?_) (fun q hq => ?_) (fun b o q n => k b o (kept b o q n) fun z => by rw [fo.s b z n] at q; cases q) (slots.trans u) (fun a ha => ?_) (fun a ha => ⟨(hms a ha).1, T₁.none_ _ (hms a ha).2.1, (hms a ha).2.2⟩) hld hll
  · cases V x Z q with
    | loc a b c => exact .loc a b (c.but kb)
    | cell a b c d => exact .cell a b (slots_cell u c) (d.but kb)
    | free a b c d => exact .free a b (slots_cell u c) (d.but kb)
  · obtain ⟨⟨v, a⟩, b, d⟩ := Y x c q
    exact ⟨⟨v, slots_cell u a⟩, b, d⟩
  · obtain ⟨o, a, b, c, d, f⟩ := D q hq
    exact ⟨o, k _ _ a (lf c b), b, T₁.none_ _ c, d.up fun a o n e => ⟨n, kb a o n e⟩, f⟩
  · cases q : h.get? a with
    | none => exact absurd q (hmu a ha)
    | some o =>
      by_cases z : a ∈ frsA C.A
      · obtain ⟨sl, e⟩ := u a o q (nf a (by rw [← frsA_eq hA']; exact z) o q)
        rw [e]; exact fun z => nomatch z
      · rw [k a o q z]; exact fun z => nomatch z
/-- the heap with the frames' places as they are later -/
theorem turn_heap (I : Inv C lv led bs g) (k : ∀ b o, g.get? b = some o → b ∈ frsA C.A → ∃ sl, h'.get? b = some { o with slots := sl }) :
    ∃ g', (∀ b o, g.get? b = some o → b ∉ frsA C.A → g'.get? b = some o) ∧ g.UpToSlots g' ∧ (∀ b, g.get? b = none → g'.get? b = none) ∧ (∀ b o, g'.get? b = some o → b ∉ frsA C.A → g.get? b = some o) ∧ ∀ b o, b ∈ frsA C.A → g'.get? b = some o → h'.get? b = some o := by
  obtain ⟨l, base', hA', fr, nf⟩ := I.frames
  have e0 := frsA_eq hA'
  have he : ∀ b ∈ frsA C.A, ∃ o, g.get? b = some o := fun b hb => by
    rw [e0] at hb; obtain ⟨_, o, e, _⟩ := fr.mem hb; exact ⟨o, e⟩
  refine ⟨ktsHeap h' (frsA C.A) g, fun b o e n => by rw [ktsHeap_ne _ n]; exact e, fun b o e _ => ?_, fun b n => ?_, fun b o e n => by rw [ktsHeap_ne _ n] at e; exact e, fun b o m e => ?_⟩
  · by_cases m : b ∈ frsA C.A
    · obtain ⟨sl, s⟩ := k b o e m
      exact ⟨sl, ktsHeap_some _ m e s⟩
    · exact ⟨o.slots, by rw [ktsHeap_ne _ m]; exact e⟩
  · have m : b ∉ frsA C.A := fun z => by obtain ⟨o, e⟩ := he b z; rw [n] at e; cases e
    rw [ktsHeap_ne _ m]; exact n
  · obtain ⟨o', e'⟩ := he b m
    obtain ⟨sl, s⟩ := k b o' e' m
    rw [ktsHeap_some _ m e' s] at e
    cases e; exact s
end
end Mine
end
section
open PySem PySem.W PySem.Spec PySem.Calls PyProof.Rows
namespace Mine
/-- the place of a comprehension's names -/
abbrev Cx.comp (C : Cx) (scope : Scope) (cl : List (Str × Addr)) (snap : Heap) (L it acc : Addr) (as : List Addr) (fs : List Addr) : Cx where
  w := C.w
  A := C.A
  env := compEnvC scope cl L C.env
  fenv := C.fenv
  mu := it :: acc :: L :: C.mu
  own := it :: acc :: L :: as
  snap := snap
  fs := fs
/-- the turns of a comprehension -/
def Turns (D : Cx) (it acc : Addr) (lv : Nat) (t : Expr) (ifs : List Expr) (elt : Expr) (ok : List (Addr × LO) → Prop) : List PV → List (Addr × LO) → List (Str × PV) → List PV → List PV → List (Addr × LO) → Prop
  | [], led, bs, ys, zs, led' => ok led ∧ zs = ys ∧ led' = led
  | x :: xs, led, bs, ys, zs, led' => ok led ∧ ys.length ≤ 1000 ∧ ∃ bs₁, (∀ io, Asgn D lv ((it, .obj io) :: (acc, .lst ys) :: led) t x bs bs₁) ∧
    ∃ (b : Bool) (led₁ : List (Addr × LO)), ((ifs = [] ∧ b = true ∧ led₁ = led) ∨ ∃ c, ifs = [c] ∧ ∀ io, TvM D lv bs₁ ((it, .obj io) :: (acc, .lst ys) :: led) c b ((it, .obj io) :: (acc, .lst ys) :: led₁)) ∧
      (if b then ∃ y led₂, (∀ io, EvM D lv bs₁ ((it, .obj io) :: (acc, .lst ys) :: led₁) elt y ((it, .obj io) :: (acc, .lst ys) :: led₂)) ∧ Turns D it acc lv t ifs elt ok xs led₂ bs₁ (ys ++ [y]) zs led'
        else Turns D it acc lv t ifs elt ok xs led₁ bs₁ ys zs led')
theorem compLoop_go {prog : Program} {w : World} {A : Around} {R : Result → Shared → Prop} {s : Shared} {elt target iter : Expr} {ifs : List Expr} {scope : Scope} {pos : Pos} {it acc : Value} {env : Env} (I : Nat → Shared → Prop)
    (turn : ∀ n s, I n s → wpAny (model prog w) A (pyNext it) (fun r s₁ => match r with
      | none => R (.ok .next) s₁
      | some v => wpAny (model prog w) A (letOwnedTupleGo target it v) (fun _ s₁' => wpAny (model prog w) A (assign target env v) (fun _ s₂ =>
          wpAny (model prog w) A (forIn ifs true fun c r => if r = true then do let ok ← isTrue c env (eval c env); pure (ForInStep.yield ok) else pure (ForInStep.yield r)) (fun ok s₃ =>
            if ok = true then wpAny (model prog w) A (eval elt env) (fun x s₄ =>
              wpAny (model prog w) A (call (.builtin "list.append") [acc, x]) (fun _ s₅ => ∃ m, m < n ∧ I m s₅) (notedBy (model prog w) A env fun e s' => R (.error e) s') s₄) (notedBy (model prog w) A env fun e s' => R (.error e) s') s₃
            else ∃ m, m < n ∧ I m s₃) (notedBy (model prog w) A env fun e s' => R (.error e) s') s₂) (notedBy (model prog w) A env fun e s' => R (.error e) s') s₁') (notedBy (model prog w) A env fun e s' => R (.error e) s') s₁) (notedBy (model prog w) A env fun e s' => R (.error e) s') s)
    (n : Nat) (h : I n s) :
    codeAny (model prog w) A (.compLoop (.ListComp elt [⟨target, iter, ifs, 0⟩] scope pos) 0 it acc env) R s := by
  refine codeAny_loop rfl I (fun n s hI => ?_) n h
  show wpAny _ A ((compTurn (.ListComp elt [⟨target, iter, ifs, 0⟩] scope pos) 0 it acc env).onRaise (fun x => do noteFrame x env; theTreesLotGoes x)) _ _ s
  refine wpAny_noted ?_
  rw [compTurn_list]
  refine wpAny_bind (wpAny_standAt (wpAny_bind (wpAny_mono (turn n s hI) (fun r s₁ h₁ => ?_) fun _ _ h' => h')))
  cases r with
  | none => exact wpAny_pure h₁
  | some v =>
    refine wpAny_bind (wpAny_mono h₁ (fun _ s₁' h₁' => ?_) fun _ _ h' => h')
    refine wpAny_bind (wpAny_mono h₁' (fun _ s₂ h₂ => wpAny_bind (wpAny_mono h₂ (fun ok s₃ h₃ => ?_) fun _ _ h' => h')) fun _ _ h' => h')
    cases ok with
    | false => exact wpAny_pure ⟨rfl, h₃⟩
    | true =>
      exact wpAny_bind (wpAny_bind (wpAny_mono h₃ (fun x s₄ h₄ => wpAny_bind (wpAny_mono h₄ (fun _ s₅ h₅ => wpAny_pure (wpAny_pure ⟨rfl, h₅⟩)) fun _ _ h' => h')) fun _ _ h' => h'))
section
variable {C : Cx} {lv lv' : Nat} {bs bs₁ bsD : List (Str × PV)} {led led₁ led₂ led' : List (Addr × LO)} {h g h₂ h₃ h₄ : Heap} {o : Out} {rest : List Stmt} {l : List PV} {scope : Scope} {cl : List (Str × Addr)} {it acc L : Addr} {m : Str → Option Value} {oi : Obj} {n : Nat} {fs : List Addr}
theorem Inv.into (I : Inv C lv led bs g) (k : But [] g h) (n1 : g.get? it = none) (n2 : g.get? acc = none) (n3 : g.get? L = none) (e1 : h.get? it = some oi) (hi : Item oi) (e2 : h.get? acc = some (lstO [] n)) (ns : h.Ns L m)
    (hk : scope.kind = .function) (hcl : ∀ x c, cl.lookup x = some c → C.env.cells.lookup x = some c)
    (hv : ∀ x X, bsD.lookup x = some X → bs.lookup x = some X ∧ C.env.kindOf x ≠ some .local ∧ (compEnvC scope cl L C.env).kindOf x = some .cell ∧ (cl.lookup x).isSome = true) :
    Inv (C.comp scope cl (hideAll g (led.map (·.1))) L it acc (led.map (·.1)) fs) lv ((it, .obj oi) :: (acc, .lst []) :: led) bsD h := by
  obtain ⟨G, B, X, T, F, hA, hf, ns₀, V, Y, D, kept, slots, hmu, hms, hld, hll⟩ := I
  rename_i h₀ _ _ _ _ _ _ _ _ Lf
  have kk : ∀ a o, a ∉ C.mu → g.get? a = some o → a ∉ (it :: acc :: L :: C.mu) ∧ h.get? a = some o := fun a o n q => by
    refine ⟨fun z => ?_, k.all _ _ q⟩
    rcases List.mem_cons.mp z with rfl | z
    · rw [n1] at q; cases q
    · rcases List.mem_cons.mp z with rfl | z
      · rw [n2] at q; cases q
      · rcases List.mem_cons.mp z with rfl | z
        · rw [n3] at q; cases q
        · exact n z
  have f0 : ∀ {a}, g.get? a = none → h₀.get? a = none ∧ a ≠ Lf ∧ (hideAll g (led.map (·.1))).get? a = none := fun {a} na => by
    refine ⟨?_, fun z => ?_, ?_⟩
    · cases q : h₀.get? a with
      | none => rfl
      | some o => have := F.keep _ _ q; rw [na] at this; cases this
    · obtain ⟨_, _, _, y, _⟩ := F.ns; rw [← z, na] at y; cases y
    · cases q : (hideAll g (led.map (·.1))).get? a with
      | none => rfl
      | some o => rw [of_hideAll _ q] at na; cases na
  have nsE : ∃ oL, h.get? L = some oL := by obtain ⟨oL, _, _, z, _⟩ := ns; exact ⟨oL, z⟩
  refine .mk ⟨G.hh, G.hd, G.hu, G.fk, hk, G.g, G.b⟩ B X T (F.keeps k.all) hA hf ns (fun x Z q => ?_) (fun x c q => ?_)
    (List.forall_mem_cons.mpr ⟨⟨oi, e1, (f0 n1).2.1, (f0 n1).1, rfl, hi⟩, List.forall_mem_cons.mpr ⟨⟨_, e2, (f0 n2).2.1, (f0 n2).1, ⟨[], n, rfl, .nil⟩, itemL⟩, fun q hq => ?_⟩⟩)
    (fun b o q _ => k.all _ _ (of_hideAll _ q)) (fun b o q _ => ⟨o.slots, k.all _ _ (of_hideAll _ q)⟩) (fun a ha => ?_) (fun a ha => ?_) (fun q hq => ?_) (.tail _ (.tail _ (.head _)))
  · obtain ⟨b1, b2, b3, b4⟩ := hv x Z q
    obtain ⟨c, hc⟩ := Option.isSome_iff_exists.mp b4
    cases V x Z b1 with
    | loc a _ _ => exact absurd a b2
    | cell a b d e => rw [hcl x c hc] at b; cases b; exact .cell b3 hc (d.keeps k.all) (e.up kk)
    | free a b d e => rw [hcl x c hc] at b; cases b; exact .cell b3 hc (d.keeps k.all) (e.up kk)
  · obtain ⟨⟨v, a⟩, b, d⟩ := Y x c (hcl x c q)
    exact ⟨⟨v, a.keeps k.all⟩, .tail _ (.tail _ (.tail _ b)), fun y hy => d y (hcl y c hy)⟩
  · obtain ⟨o, a, b, c, d, f⟩ := D q hq
    exact ⟨o, k.all _ _ a, b, c, d.up kk, f⟩
  · rcases List.mem_cons.mp ha with rfl | ha
    · rw [e1]; exact fun z => nomatch z
    · rcases List.mem_cons.mp ha with rfl | ha
      · rw [e2]; exact fun z => nomatch z
      · rcases List.mem_cons.mp ha with rfl | ha
        · obtain ⟨oL, z⟩ := nsE; rw [z]; exact fun z => nomatch z
        · exact fun z => hmu a ha (getNone k z)
  · rcases List.mem_cons.mp ha with rfl | ha
    · exact ⟨(f0 n1).2.2, (f0 n1).1, .head _⟩
    · rcases List.mem_cons.mp ha with rfl | ha
      · exact ⟨(f0 n2).2.2, (f0 n2).1, .tail _ (.head _)⟩
      · rcases List.mem_cons.mp ha with rfl | ha
        · exact ⟨(f0 n3).2.2, (f0 n3).1, .tail _ (.tail _ (.head _))⟩
        · obtain ⟨q, hq, rfl⟩ := List.mem_map.mp ha
          obtain ⟨_, _, _, z, _⟩ := D q hq
          exact ⟨hideAll_none _ ha, z, .tail _ (.tail _ (.tail _ (hms _ (hld q hq)).2.2))⟩
  · rcases List.mem_cons.mp hq with rfl | hq
    · exact .head _
    · rcases List.mem_cons.mp hq with rfl | hq
      · exact .tail _ (.head _)
      · exact .tail _ (.tail _ (.tail _ (List.mem_map_of_mem hq)))
theorem Inv.outof {ys : List PV} {lvD : Nat} (I : Inv C lv led bs g) (n1 : g.get? it = none) (n2 : g.get? acc = none) (n3 : g.get? L = none) (J : Inv (C.comp scope cl (hideAll g (led.map (·.1))) L it acc (led.map (·.1)) []) lvD ((it, .obj oi) :: (acc, .lst ys) :: led₂) bsD h)
    (hm : led₂.map (·.1) = led.map (·.1)) (k : ∀ b o, b ≠ it → h.get? b = some o → h₄.get? b = some o) (hfs : ∀ b ∈ C.fs, b ∈ C.mu) (hLi : L ≠ it) (hai : acc ≠ it) : Inv (C.add L) lv led₂ bs h₄ ∧ But C.mu g h₄ := by
  have hem : ∀ {a}, g.get? a = none → a ∉ C.mu := fun {a} n z => by obtain ⟨_, _, _, _, _, _, _, _, _, _, _, _, _, hmu, _⟩ := I; exact hmu a z n
  have kp := J.keptC
  obtain ⟨_, _, _, _, _, _, _, _, _, _, DJ, _, _, hmuJ, _⟩ := J
  obtain ⟨G, B, X, T, F, hA, hf, ns, V, Y, D, kept, slots, hmu, hms, hld, hll⟩ := I
  rename_i h₀ _ _ _ _ _ _ _ _ Lf
  have nit : ∀ {b o}, g.get? b = some o → b ≠ it := fun {b o} e z => by rw [z, n1] at e; cases e
  have keep : ∀ b o, b ∉ led.map (·.1) → g.get? b = some o → h₄.get? b = some o := fun b o n e => k b o (nit e) (kp.1 b o (hideAll_get _ e n) fun z => nomatch z)
  have inl : ∀ {b}, b ∈ led.map (·.1) → b ∈ C.own ∧ ∃ o, g.get? b = some o ∧ b ≠ Lf ∧ h₀.get? b = none ∧ Item o := fun {b} hb => by
    obtain ⟨q, hq, rfl⟩ := List.mem_map.mp hb
    obtain ⟨o, a, b, c, _, f⟩ := D q hq
    exact ⟨hld q hq, o, a, b, c, f⟩
  have kk : ∀ a o, a ∉ C.mu → g.get? a = some o → a ∉ (C.add L).mu ∧ h₄.get? a = some o := fun a o n q =>
    ⟨fun z => (List.mem_cons.mp z).elim (fun z => by rw [z, n3] at q; cases q) n, keep a o (fun z => n (hms _ (inl z).1).2.2) q⟩
  have nsK : ∀ {a : Addr} {m : Str → Option Value}, g.Ns a m → h₄.Ns a m := fun {a m} q => by
    obtain ⟨o1, es, n, a1, a2, r⟩ := q
    exact ⟨o1, es, n, keep _ _ (fun z => by obtain ⟨_, _, y, _, _, f⟩ := inl z; rw [a1] at y; cases y; exact f.1 _ _ a2) a1, a2, r⟩
  have cellK : ∀ {c : Addr} {w : Option Value}, g.IsCell c w → h₄.IsCell c w := fun {c w} q => by
    obtain ⟨o1, a1, a2⟩ := q
    exact ⟨o1, keep _ _ (fun z => by obtain ⟨_, _, y, _, _, f⟩ := inl z; rw [a1] at y; cases y; exact f.2 _ a2) a1, a2⟩
  have nsnap : ∀ {a}, g.get? a = none → C.snap.get? a = none := fun {a} na => by
    cases q : C.snap.get? a with
    | none => rfl
    | some o => have := kept a o q fun z => hem na (hfs a z); rw [na] at this; cases this
  refine ⟨.mk ⟨G.hh, G.hd, G.hu, G.fk, G.ek, G.g, G.b⟩ B X T ⟨nsK F.ns, fun b o q => keep b o (fun z => by rw [(inl z).2.choose_spec.2.2.1] at q; cases q) (F.keep b o q), F.above⟩ hA hf (nsK ns) (fun x Z q => ?_) (fun x c q => ?_) (fun q hq => ?_)
    (fun b o q n => keep b o (fun z => by rw [(hms b (inl z).1).1] at q; cases q) (kept b o q n)) (fun b o q n => ?_) (fun a ha => ?_) (fun a ha => ?_) (fun q hq => ?_) (.tail _ hll), fun b o n e => keep b o (fun z => n (hms _ (inl z).1).2.2) e⟩
  · cases V x Z q with
    | loc a b c => exact .loc a b (c.up kk)
    | cell a b c d => exact .cell a b (cellK c) (d.up kk)
    | free a b c d => exact .free a b (cellK c) (d.up kk)
  · obtain ⟨⟨v, a⟩, b, d⟩ := Y x c q
    exact ⟨⟨v, cellK a⟩, .tail _ b, d⟩
  · obtain ⟨o, a, _, _, d, f⟩ := DJ q (.tail _ (.tail _ hq))
    have hq1 : q.1 ∈ led.map (·.1) := hm ▸ List.mem_map_of_mem hq
    obtain ⟨_, _, y1, y2, y3, _⟩ := inl hq1
    exact ⟨o, k _ _ (nit y1) a, y2, y3, d.up fun a o n e => ⟨fun z => n (.tail _ (.tail _ z)), k _ _ (fun z => n (z ▸ .head _)) e⟩, f⟩
  · obtain ⟨sl, z⟩ := slots b o q n
    exact ⟨sl, keep b _ (fun y => by rw [(hms b (inl y).1).1] at q; cases q) z⟩
  · have hne : a ≠ it := fun z => (List.mem_cons.mp ha).elim (fun y => hLi (y ▸ z)) fun y => hem n1 (z ▸ y)
    have := hmuJ a (.tail _ (.tail _ ha))
    cases y : h.get? a with
    | none => exact absurd y this
    | some o => rw [k a o hne y]; exact fun z => nomatch z
  · rcases List.mem_cons.mp ha with rfl | ha
    · refine ⟨nsnap n3, ?_, .head _⟩
      cases q : h₀.get? a with
      | none => rfl
      | some o => have := F.keep _ _ q; rw [n3] at this; cases this
    · exact ⟨(hms a ha).1, (hms a ha).2.1, .tail _ (hms a ha).2.2⟩
  · have hq1 : q.1 ∈ led.map (·.1) := hm ▸ List.mem_map_of_mem hq
    exact .tail _ (inl hq1).1
theorem Inv.outofF {ys : List PV} {lvD : Nat} (I : Inv C lv led bs g) (n1 : g.get? it = none) (n2 : g.get? acc = none) (n3 : g.get? L = none) (hF : fs = [] ∨ fs = frsA C.A ∧ Fo C) (J : Inv (C.comp scope cl (hideAll g (led.map (·.1))) L it acc (led.map (·.1)) fs) lvD ((it, .obj oi) :: (acc, .lst ys) :: led₂) bsD h)
    (hm : led₂.map (·.1) = led.map (·.1)) (k : ∀ b o, b ≠ it → h.get? b = some o → h₄.get? b = some o) (hfs : ∀ b ∈ C.fs, b ∈ C.mu) (hLi : L ≠ it) (hai : acc ≠ it) : Inv (C.add L) lv led₂ bs h₄ ∧ But C.mu g h₄ := by
  rcases hF with rfl | ⟨rfl, fo⟩
  · exact I.outof n1 n2 n3 J hm k hfs hLi hai
  · obtain ⟨l, base', hA', fr, nf⟩ := I.frames
    have nled : ∀ b ∈ frsA C.A, b ∉ led.map (·.1) := fun b hb z => by
      obtain ⟨q, hq, rfl⟩ := List.mem_map.mp z
      obtain ⟨G, B, X, T, F, hA, hf, ns, V, Y, D, kept, slots, hmu, hms, hld, hll⟩ := I
      rename_i Lf
      obtain ⟨o, a, b, c, _⟩ := D q hq
      have e1 : ∀ r, frs (C.fenv :: r) = Lf :: frs r := fun r => by unfold frs; rw [List.filterMap_cons, hf]
      rw [frsA_eq hA, e1] at hb
      rcases List.mem_cons.mp hb with z | z
      · exact b z
      · obtain ⟨_, o, e, _⟩ := B.frames.mem z
        rw [c] at e; cases e
    obtain ⟨g', k1, u1, k2, k3, k4⟩ := turn_heap (h' := h) I fun b o e m => J.keptC.2 b o (hideAll_get _ e (nled b m)) (nf b (by rw [← frsA_eq hA']; exact m) o e)
    have I' := I.turn fo k1 u1
    have J' := J.resnap (snap' := hideAll g' (led.map (·.1))) (fs' := []) (fun b o e _ => by
        have e' := of_hideAll _ e
        by_cases m : b ∈ frsA C.A
        · exact k4 b o m e'
        · exact J.keptC.1 b o (hideAll_get _ (k3 b o e' m) fun z => by rw [hideAll_none _ z] at e; cases e) m)
      (fun b o e n => by
        have e' := of_hideAll _ e
        by_cases m : b ∈ frsA C.A
        · exact ⟨_, k4 b o m e'⟩
        · exact J.keptC.2 b o (hideAll_get _ (k3 b o e' m) fun z => by rw [hideAll_none _ z] at e; cases e) n)
      (fun a ha => by
        have nn : ∀ {b}, g.get? b = none → (hideAll g' (led.map (·.1))).get? b = none := fun {b} n => by
          cases q : (hideAll g' (led.map (·.1))).get? b with
          | none => rfl
          | some o => have := of_hideAll _ q; rw [k2 b n] at this; cases this
        rcases List.mem_cons.mp ha with rfl | ha
        · exact nn n1
        · rcases List.mem_cons.mp ha with rfl | ha
          · exact nn n2
          · rcases List.mem_cons.mp ha with rfl | ha
            · exact nn n3
            · exact hideAll_none _ ha)
    obtain ⟨X1, X2⟩ := I'.outof (k2 _ n1) (k2 _ n2) (k2 _ n3) J' hm k hfs hLi hai
    exact ⟨X1, fun b o n e => X2 b o n (k1 b o e fun z => n (fo.m b z))⟩
end
end Mine
end
section
open PySem PySem.W PySem.Spec PySem.Calls PyProof.Rows
namespace Mine
section
variable {C : Cx} {lv lv' : Nat} {bs bs₁ bsD : List (Str × PV)} {led led₁ led₂ led' : List (Addr × LO)} {h h' g h₂ h₃ h₄ : Heap} {o : Out} {rest : List Stmt} {l : List PV} {scope : Scope} {cl : List (Str × Addr)} {it acc L : Addr} {m : Str → Option Value} {oi : Obj} {n : Nat} {fs : List Addr}
theorem Inv.dropN (I₁ : Inv C lv' led' bs₁ g) (n3 : g.get? L = none) (I : Inv (C.add L) lv led bs h) (k : ∀ b o, b ≠ L → h.get? b = some o → h'.get? b = some o) (hled : ∀ q ∈ led, q.1 ∈ C.mu) : Inv C lv led bs h' := by
  have hem : L ∉ C.mu := fun z => by obtain ⟨_, _, _, _, _, _, _, _, _, _, _, _, _, hmu, _⟩ := I₁; exact hmu L z n3
  obtain ⟨_, _, _, _, F₁, _, hf₁, _, _, Y₁, _, _, _, _, hms₁, _, hll₁⟩ := I₁
  obtain ⟨G, B, X, T, F, hA, hf, ns, V, Y, D, kept, slots, hmu, hms, hld, hll⟩ := I
  rename_i Lf
  have he := hms L (.head _)
  have fL : Lf ≠ L := fun z => by
    have : _ = Lf := Option.some.inj (hf₁.symm.trans hf)
    obtain ⟨_, _, _, y, _⟩ := F₁.ns
    rw [this, z, n3] at y; cases y
  have kk : ∀ a o, a ∉ (C.add L).mu → h.get? a = some o → a ∉ C.mu ∧ h'.get? a = some o := fun a o n q => ⟨fun z => n (.tail _ z), k a o (fun z => n (z ▸ .head _)) q⟩
  have ncell : ∀ {x c}, C.env.cells.lookup x = some c → c ≠ L := fun {x c} q z => hem (z ▸ (Y₁ x c q).2.1)
  have cellK : ∀ {x : Str} {c : Addr} {v : Option Value}, C.env.cells.lookup x = some c → h.IsCell c v → h'.IsCell c v := fun q a => by
    obtain ⟨o, a1, a2⟩ := a
    exact ⟨o, k _ _ (ncell q) a1, a2⟩
  have nsK : ∀ {c : Addr} {m : Str → Option Value}, c ≠ L → h.Ns c m → h'.Ns c m := fun {c m} n a => by
    obtain ⟨o, es, p, a1, a2⟩ := a
    exact ⟨o, es, p, k _ _ n a1, a2⟩
  refine .mk ⟨G.hh, G.hd, G.hu, G.fk, G.ek, G.g, G.b⟩ B X T ⟨nsK fL F.ns, fun b ob q => k _ _ (fun z => by rw [z, he.2.1] at q; cases q) (F.keep b ob q), F.above⟩ hA hf (nsK (fun z => hem (z ▸ hll₁)) ns) (fun x Z q => ?_) (fun x c q => ?_) (fun q hq => ?_)
    (fun b ob q n => k _ _ (fun z => by rw [z, he.1] at q; cases q) (kept b ob q n)) (fun b ob q n => ?_) (fun a ha q => ?_) (fun a ha => ?_) (fun q hq => ?_) hll₁
  · cases V x Z q with
    | loc a b c => exact .loc a b (c.up kk)
    | cell a b c d => exact .cell a b (cellK b c) (d.up kk)
    | free a b c d => exact .free a b (cellK b c) (d.up kk)
  · obtain ⟨⟨v, a⟩, b, d⟩ := Y x c q
    exact ⟨⟨v, cellK q a⟩, (Y₁ x c q).2.1, d⟩
  · obtain ⟨o, a, b, c, d, f⟩ := D q hq
    exact ⟨o, k _ _ (fun z => hem (z ▸ hled q hq)) a, b, c, d.up kk, f⟩
  · obtain ⟨sl, z⟩ := slots b ob q n
    exact ⟨sl, k _ _ (fun y => by rw [y, he.1] at q; cases q) z⟩
  · cases z : h.get? a with
    | none => exact hmu a (.tail _ ha) z
    | some o => rw [k a o (fun y => hem (y ▸ ha)) z] at q; cases q
  · have := hms a (.tail _ ha)
    exact ⟨this.1, this.2.1, (hms₁ a ha).2.2⟩
  · exact (List.mem_cons.mp (hld q hq)).resolve_left fun z => hem (z ▸ hled q hq)
theorem Turns.ok {D : Cx} {t elt : Expr} {ifs : List Expr} {ok : List (Addr × LO) → Prop} {ys zs : List PV} (T : Turns D it acc lv t ifs elt ok l led bs ys zs led') : ok led := by
  cases l <;> exact T.1
theorem comp_core {elt t iter : Expr} {ifs : List Expr} {pos : Pos} {s : Shared} {tk : Nat} {zs : List PV} {E : Value → Shared → Prop} {Q : Value → Shared → Prop} {use : Option (Value → Sem Unit)}
    (I : Inv C lv led₁ bs g) (hn : g.get? it = none) (k₂ : But [] g h₂) (F : ItF C l g h₂ it) (hfs : ∀ b ∈ C.fs, b ∈ C.mu) (hF : fs = [] ∨ fs = frsA C.A ∧ Fo C) (hk : scope.kind = .function) (hcell : ∀ y ∈ scope.names, y.2 ≠ .cell) (hcl : ∀ x c, cl.lookup x = some c → C.env.cells.lookup x = some c)
    (hv : ∀ L x X, bsD.lookup x = some X → bs.lookup x = some X ∧ C.env.kindOf x ≠ some .local ∧ (compEnvC scope cl L C.env).kindOf x = some .cell ∧ (cl.lookup x).isSome = true)
    (turns : ∀ g L it acc, Inv C lv led₁ bs g → it ∉ C.mu → acc ∉ C.mu → Turns (C.comp scope cl (hideAll g (led₁.map (·.1))) L it acc (led₁.map (·.1)) fs) it acc lv t ifs elt (fun led => ∀ q ∈ led, q.1 ∈ C.mu) l led₁ bsD [] zs led₂) (hm : led₂.map (·.1) = led₁.map (·.1))
    (fin : ∀ (L acc : Addr) h' tk, g.get? L = none → Inv (C.add L) lv led₂ bs h' → But C.mu g h' → Is (L :: C.mu) h' (.ref acc) (.lst zs) → (∃ m, h'.Ns L m) → compPost (model Prog C.w) C.A E use Q (.ref acc) L (.ok .next) (to s h' tk)) :
    wpAny (model Prog C.w) C.A (newList []) (fun acc s₃ => wpAny (model Prog C.w) C.A (newFunctionEnv scope C.env.globals cl [] C.env.qual none .none (some C.env)) (fun cenv s₄ =>
      codeAny (model Prog C.w) C.A (.compStart (.ListComp elt [⟨t, iter, ifs, 0⟩] scope pos) 0 (.ref it) acc { cenv with scope := relabel scope C.env }) (compPost (model Prog C.w) C.A E use Q acc cenv.locals) s₄) E s₃) E (to s h₂ tk) := by
  obtain ⟨fp, P, St, W, st, hfp, hit, hob⟩ := F
  have hem : ∀ {a}, g.get? a = none → a ∉ C.mu := fun {a} n z => by obtain ⟨_, _, _, _, _, _, _, _, _, _, _, _, _, hmu, _⟩ := I; exact hmu a z n
  obtain ⟨o₀, e₀, i₀, _⟩ := hob 0 h₂ st
  refine wpAny_newObj_type (wpAny_newFunctionEnv hcell (by intro y hy; simp at hy) (fun h₁ hns₁ hsb₁ => ?_) hk)
  dsimp only at hns₁ hsb₁ ⊢
  generalize hH2 : h₂.push { cls := .type "list", dict := none, data := .seq ([] : List Value).toArray } = H2 at hns₁ hsb₁ ⊢
  have hC : H2.objs.size = h₂.objs.size + 1 := by rw [← hH2, Heap.size_push]
  have hDC : h₂.objs.size ≠ H2.objs.size := by rw [hC]; exact Nat.ne_of_lt (Nat.lt_succ_self _)
  have old : But [] h₂ h₁ := .of fun b o e => hsb₁.extBut b o (by rw [hC]; exact Nat.ne_of_lt (Nat.lt_succ_of_lt (Heap.lt_size e))) (Heap.get?_push_of_some _ (hH2 ▸ Heap.get?_push_of_some _ e))
  have hacc : h₁.get? h₂.objs.size = some (lstO [] 0) := hsb₁.extBut _ _ hDC (Heap.get?_push_of_some _ (hH2 ▸ Heap.get?_push_size _ rfl))
  have n2 : g.get? h₂.objs.size = none := getNone k₂ (Heap.get?_none_of_le (Nat.le_refl _))
  have n3 : g.get? H2.objs.size = none := getNone k₂ (Heap.get?_none_of_le (by rw [hC]; exact Nat.le_succ _))
  have hLi : H2.objs.size ≠ it := fun z => absurd (Heap.lt_size e₀) (by rw [← z, hC]; exact Nat.not_lt.mpr (Nat.le_succ _))
  have hai : h₂.objs.size ≠ it := fun z => by have := Heap.lt_size e₀; rw [← z] at this; exact absurd this (Nat.lt_irrefl _)
  have J := I.into (fs := fs) (bsD := bsD) (scope := scope) (cl := cl) (k₂.trans old) hn n2 n3 (old.all _ _ e₀) i₀ hacc hns₁ hk hcl (hv _)
  have L0 := turns g H2.objs.size it h₂.objs.size I (hem hn) (hem n2)
  have fsm : ∀ {b}, b ∈ fs → b ∈ C.mu := fun {b} z => by
    rcases hF with rfl | ⟨rfl, fo⟩
    · cases z
    · exact fo.m _ z
  have st₁ : St 0 h₁ := W.frame _ _ _ st fun b _ o e => old.all _ _ e
  have keep : ∀ {led bs h}, Inv (C.comp scope cl (hideAll g (led₁.map (·.1))) H2.objs.size it h₂.objs.size (led₁.map (·.1)) fs) lv led bs h → ∀ a o, a ∉ C.mu → g.get? a = some o → h.get? a = some o := fun {led bs h} J a o n e =>
    J.keptC.1 a o (hideAll_get _ e fun z => by
      obtain ⟨q, hq, rfl⟩ := List.mem_map.mp z
      obtain ⟨_, _, _, y, _⟩ := I.entry hq
      exact n (I.ownMu _ y)) fun z => n (fsm z)
  have loop : ∀ tk', codeAny (model Prog C.w) C.A (.compLoop (.ListComp elt [⟨t, iter, ifs, 0⟩] scope pos) 0 (.ref it) (.ref h₂.objs.size) (compEnvC scope cl H2.objs.size C.env)) (compPost (model Prog C.w) C.A E use Q (.ref h₂.objs.size) H2.objs.size) (to s h₁ tk') := fun tk' => by
    refine compLoop_go (fun n s' => ∃ h' tk led bs i io ys, s' = to s h' tk ∧ n = l.length - i ∧ i ≤ l.length ∧ Inv (C.comp scope cl (hideAll g (led₁.map (·.1))) H2.objs.size it h₂.objs.size (led₁.map (·.1)) fs) lv ((it, .obj io) :: (h₂.objs.size, .lst ys) :: led) bs h' ∧ St i h' ∧
      Turns (C.comp scope cl (hideAll g (led₁.map (·.1))) H2.objs.size it h₂.objs.size (led₁.map (·.1)) fs) it h₂.objs.size lv t ifs elt (fun led => ∀ q ∈ led, q.1 ∈ C.mu) (l.drop i) led bs ys zs led₂) (fun n s' hI => ?_) l.length
      ⟨h₁, tk', led₁, bsD, 0, o₀, [], rfl, rfl, Nat.zero_le _, J, st₁, L0⟩
    obtain ⟨h', tk', led, bs', i, io, ys, rfl, rfl, hi, J, st, T⟩ := hI
    by_cases hlt : i < l.length
    · refine W.item i _ _ _ hlt st fun v h₃ tk₃ p st₃ k₃ => ?_
      obtain ⟨o₃, e₃, i₃, n₃, c₃, d₃⟩ := hob _ _ st₃
      rw [List.drop_eq_getElem_cons hlt] at T
      obtain ⟨hok, hys, bs₁, ha, b, led₃, ht, T⟩ := T
      have ne1 : ∀ q ∈ led, q.1 ≠ it := fun q hq z => hem hn (z ▸ hok q hq)
      have ne2 : ∀ q ∈ led, q.1 ≠ h₂.objs.size := fun q hq z => hem n2 (z ▸ hok q hq)
      have J₃ := Inv.setLed (pre := []) (lo' := .obj o₃) J (fun b o n e => k₃ b o (fun z => n (List.mem_singleton.mp z)) e) e₃ rfl i₃ (fun _ z => nomatch z) (List.forall_mem_cons.mpr ⟨hai, ne1⟩)
      refine go_plain (s := to s h₃ tk₃) e₃ c₃ d₃ (ha o₃ (to s h₃ tk₃) _ _ v J₃ ((hit i v p _ (List.getElem?_eq_getElem hlt)).up fun a o n e => ⟨fun z => ?_, keep J₃ a o n e⟩) fun h₄ t₄ J₄ k₄ => ?_)
      · rcases List.mem_cons.mp z with rfl | z
        · rw [hn] at e; cases e
        · rcases List.mem_cons.mp z with rfl | z
          · rw [n2] at e; cases e
          · rcases List.mem_cons.mp z with rfl | z
            · rw [n3] at e; cases e
            · exact n z
      · have tst : ∀ (Q' : Bool → Shared → Prop) (E' : Value → Shared → Prop), (∀ h₅ t₅, Inv (C.comp scope cl (hideAll g (led₁.map (·.1))) H2.objs.size it h₂.objs.size (led₁.map (·.1)) fs) lv ((it, .obj o₃) :: (h₂.objs.size, .lst ys) :: led₃) bs₁ h₅ → Q' b (to s h₅ t₅)) →
            wpAny (model Prog C.w) C.A (forIn ifs true fun c r => if r = true then do let ok ← isTrue c (compEnvC scope cl H2.objs.size C.env) (eval c (compEnvC scope cl H2.objs.size C.env)); pure (ForInStep.yield ok) else pure (ForInStep.yield r)) Q' E' (to s h₄ t₄) := fun Q' E' q => by
          rcases ht with ⟨rfl, rfl, rfl⟩ | ⟨c, rfl, hc⟩
          · exact wpAny_tests_nil (q _ _ J₄)
          · exact wpAny_tests_one (hc o₃ (to s h₄ t₄) _ _ J₄ fun h₅ t₅ J₅ _ => q h₅ t₅ J₅)
        have stk : ∀ {led bs h}, Inv (C.comp scope cl (hideAll g (led₁.map (·.1))) H2.objs.size it h₂.objs.size (led₁.map (·.1)) fs) lv ((it, .obj o₃) :: led) bs h → St (i + 1) h := fun {led bs h} J' => W.frame _ _ _ st₃ fun b hb o e => by
          rcases hfp b hb with z | ⟨x1, x2, x3⟩
          · obtain ⟨o', y1, y2, _⟩ := J'.entry (.head _)
            rw [z, e₃] at e; cases e; rw [z, y1]; exact congrArg some y2
          · have y := keep J₃ b x2 x1 x3
            rw [y] at e; cases e; exact keep J' b _ x1 x3
        refine tst _ _ fun h₅ t₅ J₅ => ?_
        cases b with
        | false => exact ⟨l.length - (i + 1), by omega, h₅, t₅, led₃, bs₁, i + 1, o₃, ys, rfl, rfl, hlt, J₅, stk J₅, T⟩
        | true =>
          obtain ⟨y, led₄, he, T⟩ := T
          refine (he o₃ (to s h₅ t₅) _ _ J₅ fun v h₆ t₆ J₆ k₆ i₆ => ?_ : wpAny _ _ _ _ _ _)
          obtain ⟨oa, a1, ⟨vs, na, rfl, ra⟩, ma, _⟩ := J₆.entry (.tail _ (.head _))
          refine append_at (s := to s h₆ t₆) a1 (fun h₇ hs₇ a2 => ?_) (by simp only [List.size_toArray, ra.1, sizeLine_eq]; omega)
          have k₇ : But (C.comp scope cl (hideAll g (led₁.map (·.1))) H2.objs.size it h₂.objs.size (led₁.map (·.1)) fs).mu h₆ h₇ := (But.same hs₇).mono fun b hb => List.mem_singleton.mp hb ▸ .tail _ (.head _)
          rw [List.push_toArray] at a2
          have hok4 : ∀ q ∈ led₄, q.1 ≠ h₂.objs.size := fun q hq z => hem n2 (z ▸ T.ok q hq)
          have J₇ := Inv.setLed (pre := [(it, .obj o₃)]) (lo' := .lst (ys ++ [y])) J₆ hs₇.extBut a2 ⟨_, _, rfl, (ra.but k₇).snoc (i₆.but k₇)⟩ itemL (fun q hq => by rw [List.mem_singleton.mp hq]; exact Ne.symm hai) hok4
          exact ⟨l.length - (i + 1), by omega, h₇, _, led₄, bs₁, i + 1, o₃, ys ++ [y], rfl, rfl, hlt, J₇, stk J₇, T⟩
    · have hi' : i = l.length := by omega
      subst hi'
      refine W.done _ _ _ st fun h₃ t₃ k₃ => ?_
      rw [List.drop_length] at T
      obtain ⟨hok, rfl, rfl⟩ := T
      have kx : ∀ b o, b ≠ it → h'.get? b = some o → h₃.get? b = some o := fun b o n e => k₃ b o (fun z => n (List.mem_singleton.mp z)) e
      obtain ⟨X1, X2⟩ := I.outofF hn n2 n3 hF J hm kx hfs hLi hai
      obtain ⟨oa, a1, ⟨vs, na, rfl, ra⟩, ma, _⟩ := J.entry (.tail _ (.head _))
      have kk : ∀ a o, a ∉ (C.comp scope cl (hideAll g (led₁.map (·.1))) H2.objs.size it h₂.objs.size (led₁.map (·.1)) fs).mu → h'.get? a = some o → a ∉ H2.objs.size :: C.mu ∧ h₃.get? a = some o := fun a o n e => ⟨fun z => n (.tail _ (.tail _ z)), kx a o (fun z => n (z ▸ .head _)) e⟩
      refine fin _ _ h₃ t₃ n3 X1 X2 (.lst (fun z => (List.mem_cons.mp z).elim hDC (hem n2)) (kx _ _ hai a1) ra.1 fun j v x e f => (ra.2 j v x e f).up kk) ?_
      obtain ⟨_, _, _, _, _, _, _, ns, _⟩ := J
      obtain ⟨o', es, p, y1, y2⟩ := ns
      exact ⟨_, o', es, p, kx _ _ hLi y1, y2⟩
  exact codeAny_compStart_list (loop _) (W.self 0 (to s h₁ _) _ _ st₁ (loop _))
theorem EvM.comp {elt t iter : Expr} {ifs : List Expr} {pos : Pos} {zs : List PV} (a : It C lv bs led iter l led₁) (hclos : closureFor scope C.env = pure cl)
    (turns : ∀ g L it acc, Inv C lv led₁ bs g → it ∉ C.mu → acc ∉ C.mu → Turns (C.comp scope cl (hideAll g (led₁.map (·.1))) L it acc (led₁.map (·.1)) fs) it acc lv t ifs elt (fun led => ∀ q ∈ led, q.1 ∈ C.mu) l led₁ bsD [] zs led₂) (hm : led₂.map (·.1) = led₁.map (·.1))
    (hv : ∀ L x X, bsD.lookup x = some X → bs.lookup x = some X ∧ C.env.kindOf x ≠ some .local ∧ (compEnvC scope cl L C.env).kindOf x = some .cell ∧ (cl.lookup x).isSome = true)
    (hcl : ∀ x c, cl.lookup x = some c → C.env.cells.lookup x = some c) (hfs : ∀ b ∈ C.fs, b ∈ C.mu) (hF : fs = [] ∨ fs = frsA C.A ∧ Fo C) (hk : scope.kind = .function) (hcell : ∀ y ∈ scope.names, y.2 ≠ .cell)
    (hnames : ∀ x ∈ scope.names, x.2 = .local → scope.names.lookup x.1 = some .local) (hs : ∀ x, foldedSetIterable iter C.env x = pure x := by intro _; rfl) : EvM C lv bs led (.ListComp elt [⟨t, iter, ifs, 0⟩] scope pos) (.lst zs) led₂ := fun s Q E I q => by
  rw [eval_ListComp]
  refine wpAny_comprehension_free (use := none) rfl hs hclos hk hnames (a.run s _ E I fun it h₁ h₂ tk I₁ k₁ hn k₂ F => ?_)
  refine comp_core I₁ hn k₂ F hfs hF hk hcell hcl hv turns hm fun L acc h' tk' n3 J k i ns => ?_
  obtain ⟨m, ns⟩ := ns
  refine ⟨m, ns, fun h'' hs' => ?_⟩
  have hok : ∀ q ∈ led₂, q.1 ∈ C.mu := fun q hq => by
    obtain ⟨p, hp, e⟩ := List.mem_map.mp (hm ▸ List.mem_map_of_mem hq : q.1 ∈ led₁.map (·.1))
    obtain ⟨_, _, _, y, _⟩ := I₁.entry hp
    exact e ▸ I₁.ownMu _ y
  have kx : ∀ b o, b ≠ L → h'.get? b = some o → h''.get? b = some o := fun b o n e => hs'.extBut b o n e
  exact q _ h'' tk' (I₁.dropN n3 J kx hok) (fun b o n e => kx b o (fun z => by have := k₁ b o n e; rw [z, n3] at this; cases this) (k b o n (k₁ b o n e)))
    (i.up fun a o n e => ⟨fun z => n (.tail _ z), kx a o (fun z => n (z ▸ .head _)) e⟩)
theorem Runs.asgComp {elt t iter : Expr} {ifs : List Expr} {y : Str} {py pos pos' : Pos} {zs : List PV} (I : Inv C lv led bs h) (ow : Own C) (hy : C.env.kindOf y = some .local) (a : It C lv bs led iter l led₁) (hclos : closureFor scope C.env = pure cl)
    (turns : ∀ g L it acc, Inv C lv led₁ bs g → it ∉ C.mu → acc ∉ C.mu → Turns (C.comp scope cl (hideAll g (led₁.map (·.1))) L it acc (led₁.map (·.1)) fs) it acc lv t ifs elt (fun led => ∀ q ∈ led, q.1 ∈ C.mu) l led₁ bsD [] zs led₂) (hm : led₂.map (·.1) = led₁.map (·.1))
    (hv : ∀ L x X, bsD.lookup x = some X → bs.lookup x = some X ∧ C.env.kindOf x ≠ some .local ∧ (compEnvC scope cl L C.env).kindOf x = some .cell ∧ (cl.lookup x).isSome = true)
    (hcl : ∀ x c, cl.lookup x = some c → C.env.cells.lookup x = some c) (hfs : ∀ b ∈ C.fs, b ∈ C.mu) (hF : fs = [] ∨ fs = frsA C.A ∧ Fo C) (hk : scope.kind = .function) (hcell : ∀ y ∈ scope.names, y.2 ≠ .cell)
    (hnames : ∀ x ∈ scope.names, x.2 = .local → scope.names.lookup x.1 = some .local) (next : ∀ h', Inv C lv led₂ ((y, .lst zs) :: bs) h' → Runs C lv' led' rest o h') (hs : ∀ x, foldedSetIterable iter C.env x = pure x := by intro _; rfl)
    (hsw : swapsWith (.ListComp elt [⟨t, iter, ifs, 0⟩] scope pos) (some (.Name y py)) pos'.line C.env = pure true := by rfl) : Runs C lv' led' (.Assign [.Name y py] (.ListComp elt [⟨t, iter, ifs, 0⟩] scope pos) pos' :: rest) o h := fun s tk Q E q => by
  refine wpAny_execs_cons ?_
  rw [exec_Assign_Name_used _ _ _ _ hsw]
  refine wpAny_bind (wpAny_standAt (wpAny_bind ?_))
  show wpAny _ C.A (do let _ ← comprehension (.ListComp elt [⟨t, iter, ifs, 0⟩] scope pos) scope C.env _ (newList []) false (eval iter C.env) (some (assign (.Name y py) C.env))) _ _ _
  refine wpAny_bind (wpAny_mono (wpAny_comprehension_free (use := some (assign (.Name y py) C.env)) (Q := fun _ s' => wpAny (model Prog C.w) C.A (execs rest C.env) Q E s') rfl hs hclos hk hnames
    (a.run (to s h tk) _ E I fun it h₁ h₂ tk I₁ k₁ hn k₂ F => ?_)) (fun _ s' hq => wpAny_pure (wpAny_pure hq)) fun _ _ e => e)
  refine comp_core I₁ hn k₂ F hfs hF hk hcell hcl hv turns hm fun L acc h' tk' n3 J k i ns => ?_
  obtain ⟨m, ns⟩ := ns
  have hok : ∀ q ∈ led₂, q.1 ∈ C.mu := fun q hq => by
    obtain ⟨p, hp, e⟩ := List.mem_map.mp (hm ▸ List.mem_map_of_mem hq : q.1 ∈ led₁.map (·.1))
    obtain ⟨_, _, _, y, _⟩ := I₁.entry hp
    exact e ▸ I₁.ownMu _ y
  have hem : L ∉ C.mu := fun z => by obtain ⟨_, _, _, _, _, _, _, _, _, _, _, _, _, hmu, _⟩ := I₁; exact hmu L z n3
  obtain ⟨G, _, _, _, _, _, _, nsl, _⟩ := id J
  refine PySem.wpAny_assign_Name (wpAny_storeName_local hy nsl (fun h₅ hn₅ hs₅ => ⟨m, ns.sameBut hs₅ fun z => hem (z ▸ I₁.ownMu _ ow), fun h₆ hs₆ => ?_⟩) (by rw [G.ek]; rfl))
  have J₅ := J.setLoc (.tail _ ow) hy i nsl hn₅ rfl hs₅
  exact next h₆ (I₁.dropN n3 J₅ (fun b o n e => hs₆.extBut b o n e) hok) s _ Q E q
end
end Mine
end
section
open PySem PySem.W PySem.Spec PySem.Calls PyProof.Rows
namespace Mine
theorem compOwn {C : Cx} {scope : Scope} {cl : List (Str × Addr)} {g : Heap} {L it acc : Addr} {as fs : List Addr} : Own (C.comp scope cl g L it acc as fs) := .tail _ (.tail _ (.head _))
theorem nl {k : Option NameKind} (h : k = some .cell) : k ≠ some .local := by rw [h]; decide
theorem rsmall {a b c : Int} (ha : -1000 ≤ a ∧ a ≤ 20000000) (hb : -1000 ≤ b ∧ b ≤ 20000000) (hc : 0 < c ∧ c ≤ 10) : Builtin.Range.small a b c = true := by
  have f : ∀ x : Int, -100000000 ≤ x → x ≤ 100000000 → Builtin.Range.rangeFitsLong x = true := fun x h1 h2 => by
    unfold Builtin.Range.rangeFitsLong
    simp only [Bool.and_eq_true, decide_eq_true_eq]
    omega
  have hs : 0 ≤ Builtin.Range.rangeSize a b c ∧ Builtin.Range.rangeSize a b c ≤ 100000000 := by
    unfold Builtin.Range.rangeSize
    rw [if_pos hc.1]
    split
    · have h1 : 0 ≤ (b - a - 1) / c := Int.ediv_nonneg (by omega) (by omega)
      have h2 : (b - a - 1) / c ≤ b - a - 1 := Int.ediv_le_self _ (by omega)
      omega
    · omega
  unfold Builtin.Range.small
  rw [f a (by omega) (by omega), f b (by omega) (by omega), f c (by omega) (by omega), f _ (by omega) (by omega), if_pos (show c > 0 from hc.1), f (b + (c - 1)) (by omega) (by omega)]
  simp
section
variable {C D : Cx} {lv lv' : Nat} {bs bs₁ bsD : List (Str × PV)} {led led₁ led₂ led' : List (Addr × LO)} {h : Heap} {l : List PV} {it acc : Addr}
theorem It.range1 {x : Str} {p pos : Pos} {e : Expr} {n : Nat} (a : EvM C lv bs led e (.int n) led₁) (hn : n ≤ 20000000) (hx : C.env.kindOf x = some .globalImplicit) (g : GlB x (.type "range"))
    (he : notStar e = true := by rfl) : It C lv bs led (.Call (.Name x p) [e] [] pos) ((List.range n).map fun (i : Nat) => .int i) led₁ := by
  have := It.range (C := C) (lv := lv) (bs := bs) (led := led) (led₁ := led₁) (e := .Call (.Name x p) [e] [] pos) (a := 0) (b := n) (c := 1) (n := n) (fun s Q E I q =>
    Call_ (nameB I (g.1 _) g.2.1 hx (PyProof.Rows.callWith_type1 (args_cons (a s _ E I fun v h' tk I' k' i => args_nil (by
      obtain ⟨t, rfl⟩ := i.int'
      exact call_range_1 (s := to s h' tk) (q _ _ _ _ _ _ (I'.ext .push) (k'.trans But.push.any) (Heap.get?_push_size _ rfl)))) (star_cons he)) (star_cons he) (by rfl)) g.2.2.1 g.2.2.2)) (rsmall (by omega) (by omega) (by decide)) (by unfold Builtin.Range.rangeSize; rw [if_pos (by decide)]; split <;> omega)
  simpa using this
theorem It.range3 {x : Str} {p pos : Pos} {e₁ e₂ e₃ : Expr} {a b c : Int} {n : Nat} (z : EvLM C lv bs led [e₁, e₂, e₃] [.int a, .int b, .int c] led₁) (ha : -1000 ≤ a ∧ a ≤ 20000000) (hb : -1000 ≤ b ∧ b ≤ 20000000) (hc : 0 < c ∧ c ≤ 10) (hn : Builtin.Range.rangeSize a b c = n)
    (hx : C.env.kindOf x = some .globalImplicit) (g : GlB x (.type "range")) (he : notStar e₁ = true := by rfl) (hp : List.all [e₂, e₃] notStar = true := by rfl) :
    It C lv bs led (.Call (.Name x p) [e₁, e₂, e₃] [] pos) ((List.range n).map fun (i : Nat) => .int (a + i * c)) led₁ :=
  It.range (fun s Q E I q => Call_ (nameB I (g.1 _) g.2.1 hx (PyProof.Rows.callWith_type1 (z.run pos s _ E I fun vs h' tk I' k' i => by
      obtain ⟨v, ws, rfl, i1, r⟩ := i.cons'
      obtain ⟨v2, v3, rfl, i2, i3⟩ := r.two
      obtain ⟨t, rfl⟩ := i1.int'
      obtain ⟨t, rfl⟩ := i2.int'
      obtain ⟨t, rfl⟩ := i3.int'
      exact call_range_3 (s := to s h' tk) (by omega) (q _ _ _ _ _ _ (I'.ext .push) (k'.trans But.push.any) (Heap.get?_push_size _ rfl)) (.inl (noPyl (by omega)))) (star_cons he) (star_plain hp pos)) g.2.2.1 g.2.2.2)) (rsmall ha hb hc) hn
/-- a name of a loop, that forgets its older value -/
theorem Asgn.sub {t : Expr} {X : PV} {bs₂ : List (Str × PV)} (a : Asgn C lv led t X bs bs₁) (k : ∀ x X, bs₂.lookup x = some X → bs₁.lookup x = some X) : Asgn C lv led t X bs bs₂ := fun s Q E v I i q => a s Q E v I i fun h' tk J k' => q h' tk (J.sub k) k'
def Under (n : Str) (bsD bs : List (Str × PV)) : Prop := ∀ y Z, y ≠ n → bsD.lookup y = some Z → bs.lookup y = some Z
theorem Under.self {n : Str} : Under n bsD bsD := fun _ _ _ e => e
theorem Under.add {n : Str} {X : PV} : Under n bsD ((n, X) :: bsD) := fun y Z ne e => by rw [List.lookup_cons, beq_eq_false_iff_ne.mpr ne]; exact e
theorem Under.look {n : Str} {X : PV} (u : Under n bsD bs) : ∀ x Z, ((n, X) :: bsD).lookup x = some Z → ((n, X) :: bs).lookup x = some Z := fun x Z e => by
  rw [List.lookup_cons] at e ⊢
  cases h : x == n with
  | true => rw [h] at e; exact e
  | false => rw [h] at e; exact u x Z (beq_eq_false_iff_ne.mp h) e
theorem Turns.name {n : Str} {p : Pos} {ifs : List Expr} {elt : Expr} {ok : List (Addr × LO) → Prop} (f : PV → PV) (t : PV → Bool) (ow : Own D) (hk : D.env.kindOf n = some .local) (hok : ok led)
    (hi : (ifs = [] ∧ ∀ x ∈ l, t x = true) ∨ ∃ c, ifs = [c] ∧ ∀ x ∈ l, ∀ led h, Inv D lv led ((n, x) :: bsD) h → Tv D h c (t x))
    (el : ∀ x ∈ l, t x = true → ∀ led h, Inv D lv led ((n, x) :: bsD) h → Ev D h elt (f x)) : ∀ {bs : List (Str × PV)} {ys : List PV}, Under n bsD bs → ys.length + l.length ≤ 1000 →
    Turns D it acc lv (.Name n p) ifs elt ok l led bs ys (ys ++ (l.filter t).map f) led := by
  induction l with
  | nil => intro bs ys _ _; exact ⟨hok, by simp, rfl⟩
  | cons x l ih =>
    intro bs ys u hz
    rw [List.length_cons] at hz
    have ih' := @ih (hi.imp (fun z => ⟨z.1, fun y hy => z.2 y (.tail _ hy)⟩) fun z => z.imp fun c z => ⟨z.1, fun y hy => z.2 y (.tail _ hy)⟩) (fun y hy => el y (.tail _ hy))
    refine ⟨hok, by omega, (n, x) :: bsD, fun io => (Asgn.name ow hk).sub u.look, t x, led, ?_, ?_⟩
    · rcases hi with ⟨z, y⟩ | ⟨c, z, y⟩
      · exact .inl ⟨z, y x (.head _), rfl⟩
      · exact .inr ⟨c, z, fun io => .of fun h I => y x (.head _) _ h I⟩
    · cases ht : t x with
      | true =>
        rw [List.filter_cons, if_pos ht, List.map_cons]
        have := ih' (bs := (n, x) :: bsD) (ys := ys ++ [f x]) Under.add (by rw [List.length_append]; simp only [List.length_singleton]; omega)
        rw [List.append_assoc] at this
        exact ⟨f x, led, fun io => .of fun h I => el x (.head _) ht _ h I, this⟩
      | false =>
        have e : (x :: l).filter t = l.filter t := List.filter_cons_of_neg (by rw [ht]; exact Bool.false_ne_true)
        rw [e]
        exact ih' (bs := (n, x) :: bsD) (ys := ys) Under.add (by omega)
variable {scope : Scope} {cl : List (Str × Addr)}
theorem hv0 : ∀ L x X, ([] : List (Str × PV)).lookup x = some X → bs.lookup x = some X ∧ C.env.kindOf x ≠ some .local ∧ (compEnvC scope cl L C.env).kindOf x = some .cell ∧ (cl.lookup x).isSome = true := fun _ _ _ e => nomatch e
theorem hvC {y : Str} {Y : PV} (h1 : bs.lookup y = some Y) (h2 : C.env.kindOf y ≠ some .local) (h3 : ∀ L, (compEnvC scope cl L C.env).kindOf y = some .cell) (h4 : (cl.lookup y).isSome = true)
    (r : ∀ L x X, bsD.lookup x = some X → bs.lookup x = some X ∧ C.env.kindOf x ≠ some .local ∧ (compEnvC scope cl L C.env).kindOf x = some .cell ∧ (cl.lookup x).isSome = true) :
    ∀ L x X, ((y, Y) :: bsD).lookup x = some X → bs.lookup x = some X ∧ C.env.kindOf x ≠ some .local ∧ (compEnvC scope cl L C.env).kindOf x = some .cell ∧ (cl.lookup x).isSome = true := fun L x X e => by
  rw [List.lookup_cons] at e
  cases h : x == y with
  | true => rw [h] at e; cases e; rw [show x = y from beq_iff_eq.mp h]; exact ⟨h1, h2, h3 L, h4⟩
  | false => rw [h] at e; exact r L x X e
end
end Mine
end
section
open PySem PySem.W PySem.Spec PySem.Calls PyProof.Rows
namespace Mine
theorem among_snoc {pos p' : Pos} {c cv : Value} : ∀ {l : List Value}, TriplesOk l → codeAmong pos (l ++ [rawInt p'.line, rawInt p'.col, c]) = some cv → codeAmong pos l = some cv ∨ cv = c
  | [], _, e => by
    unfold rawInt at e
    simp only [List.nil_append, codeAmong] at e
    split at e
    · exact .inr (Option.some.inj e).symm
    · cases e
  | .int l1 t1 :: .int l2 t2 :: x :: r, h, e => by
    have h' : TriplesOk r := h
    simp only [List.cons_append, codeAmong] at e ⊢
    split at e
    · rename_i z; rw [if_pos z]; exact .inl e
    · rename_i z; rw [if_neg z]; exact among_snoc h' e
section
variable {C : Cx} {lv lv' : Nat} {bs : List (Str × PV)} {led pre post : List (Addr × LO)} {h : Heap}
/-- a lambda -/
theorem EvM.lam {params : Arguments} {body : Expr} {scope : Scope} {pos : Pos} {P c : Addr} {q : Str} {cl : List (Str × Addr)} (h1 : ∀ q ∈ pre, q.1 ≠ P) (h2 : ∀ q ∈ post, q.1 ≠ P) (hk : ∀ Pm, codeHdIn (hd.heap_39 Pm) c P = true) (hc : C.env.code = .ref c) (hq : C.env.qual ++ "<lambda>" = q)
    (hcl : closureFor scope C.env = pure cl) (hdef : defaultsOf params C.env = ([], [])) : EvM C lv bs (pre ++ (P, .tab q) :: post) (.Lambda params body scope pos) (.lam q params body scope cl) (pre ++ (P, .tab q) :: post) := fun s Q E I qq => by
  have XK := I.K
  have hfr := I.fresh
  obtain ⟨oP, e1, ⟨ps, rfl, ht, hcs⟩, hPo, _⟩ := I.entry (List.mem_append_right pre (.head post))
  have Pm := I.ownMu _ hPo
  obtain ⟨G, B, X, T, F, _⟩ := id I
  have keep : ∀ b o, _ → s.heap.get? b = some o := fun b o e => F.keep b o (B.stays b o e)
  have hgs := T.g.keeps keep
  obtain ⟨bm, ob, b1, b2, b3, b4, b5, b6⟩ := T.bmain
  have hgP : mainGlobals ≠ P := fun z => by
    obtain ⟨o, es, ep, e, hd, _⟩ := hgs
    rw [z, e1] at e; cases e; cases hd
  have hbP : bm ≠ P := fun z => by
    have e := keep _ _ b3
    rw [z, e1] at e; cases e; cases b4
  have hbG : bm ≠ mainGlobals := fun z => by
    obtain ⟨o, es, ep, e, hd, _⟩ := T.g
    rw [z, e] at b3; cases b3; rw [hd] at b6; cases b6
  refine kla_eval hdef ?_
  rw [hq]
  have Cd := codeHd_of_K XK (hk C.w.params)
  have nmu : ∀ {a}, s.heap.objs.size ≤ a → a ∉ C.mu := fun {a} ha z => by
    obtain ⟨_, _, _, _, _, _, _, _, _, _, _, _, _, hmu, _⟩ := I
    exact hmu a z (Heap.get?_none_of_le ha)
  cases hca : codeAmong pos ps.toList with
  | none =>
    refine kla_makeFunction hcl G.g hgs hc Cd e1 ht hca hgP ⟨bm, ob, b1, b2, hbG, hbP, keep _ _ b3, b4, b5, b6⟩ fun c' ctv h' tk hx hge hlt hrec htb => ?_
    obtain ⟨c₂, oc, vs, t, e2, hoc, hd, hv⟩ := hrec
    cases e2
    have hx' : ∀ (z : Obj) b o, b ≠ P → s.heap.get? b = some o → (h'.push z).get? b = some o := fun z b o n e => Heap.get?_push_of_some _ (hx b o n e)
    have J := fun z => I.setLed (lo' := .tab q) (hx' z) (Heap.get?_push_of_some z htb) ⟨_, rfl, by simpa using TriplesOk_snoc _ _ _ _ ht, fun p' cv e => ?_⟩ ⟨fun _ _ => (fun z => nomatch z), fun _ => (fun z => nomatch z)⟩ h1 h2
    · refine qq _ _ tk (J _) (fun b o n e => hx' _ b o (fun z => n (z ▸ Pm)) e) (.lam (nmu ?_) (Heap.get?_push_size _ rfl) (nmu hge) (Heap.get?_push_of_some _ hoc) hd hv)
      exact Nat.le_trans hge (Nat.le_of_lt hlt)
    · rw [show (ps ++ #[rawInt pos.line, rawInt pos.col, .ref c']).toList = ps.toList ++ [rawInt pos.line, rawInt pos.col, .ref c'] by simp] at e
      rcases among_snoc ht e with e | rfl
      · obtain ⟨c, oc, vs, t, x1, x2, x3, x4⟩ := hcs p' cv e
        exact ⟨c, oc, vs, t, x1, x2, hx' _ _ _ (fun z => x2 (z ▸ Pm)) x3, x4⟩
      · exact ⟨c', oc, vs, t, rfl, nmu hge, Heap.get?_push_of_some _ hoc, hd, hv⟩
  | some cv =>
    obtain ⟨c', oc, vs, t, rfl, x2, x3, x4, x5⟩ := hcs pos cv hca
    refine kla_makeFunctionHit hcl G.g hgs hc Cd e1 ht hca ⟨bm, ob, b1, b2, hbG, hbP, keep _ _ b3, b4, b5, b6⟩ fun ctv h' tk hx hsz => ?_
    have k : ∀ z, But [] s.heap (h'.push z) := fun z => .of fun b o e => Heap.get?_push_of_some _ (hx b o e)
    exact qq _ _ tk (I.ext (k _)) (k _).any (.lam (nmu hsz) (Heap.get?_push_size _ rfl) x2 ((k _).all _ _ x3) x4 x5)
end
end Mine
end
section
open PySem PySem.W PySem.Spec PySem.Calls PyProof.Rows
namespace Mine
/-- the cells that a lambda brings, and what they bear -/
structure CellsFor (mu : List Addr) (h : Heap) (scope : Scope) (cl : List (Str × Addr)) (bsL : List (Str × PV)) : Prop where
  Y : ∀ x a, cl.lookup x = some a → (∃ v, h.IsCell a v) ∧ a ∈ mu ∧ ∀ y, cl.lookup y = some a → y = x
  V : ∀ x X, bsL.lookup x = some X → scope.names.lookup x = some .free ∧ ∃ a v, cl.lookup x = some a ∧ h.IsCell a (some v) ∧ Is mu h v X
theorem CellsFor.up {mu mu' : List Addr} {h h' : Heap} {scope : Scope} {cl : List (Str × Addr)} {bsL : List (Str × PV)} (x : CellsFor mu h scope cl bsL) (kc : ∀ c v, h.IsCell c v → h'.IsCell c v) (km : ∀ a ∈ mu, a ∈ mu') (kk : ∀ a o, a ∉ mu → h.get? a = some o → a ∉ mu' ∧ h'.get? a = some o) : CellsFor mu' h' scope cl bsL where
  Y := fun n a e => by obtain ⟨⟨v, c⟩, m, u⟩ := x.Y n a e; exact ⟨⟨v, kc _ _ c⟩, km _ m, u⟩
  V := fun n X e => by obtain ⟨f, a, v, e1, c, i⟩ := x.V n X e; exact ⟨f, a, v, e1, kc _ _ c, i.up kk⟩
theorem CellsFor.ext {mu : List Addr} {h h' : Heap} {scope : Scope} {cl : List (Str × Addr)} {bsL : List (Str × PV)} (x : CellsFor mu h scope cl bsL) (k : But [] h h') : CellsFor mu h' scope cl bsL :=
  x.up (fun _ _ c => c.keeps k.all) (fun _ m => m) fun _ _ n e => ⟨n, k.all _ _ e⟩
structure LamOk (q : Str) (params : Arguments) (body : Expr) (scope : Scope) : Prop where
  b : ∀ pm c ctv cl, bindArgs (kla_fn "<lambda>" q params body scope cl pm (.ref c) ctv) ⟨[], []⟩ = pure []
  co : scope.isCoroutine = false
  gen : scope.isGenerator = false
  k : scope.kind = .function
  cell : ∀ x ∈ scope.names, x.2 ≠ .cell
abbrev lamCx (C : Cx) (h : Heap) (q : Str) (scope : Scope) (f c : Addr) (cl : List (Str × Addr)) : Cx where
  w := C.w
  A := C.A.deeper (envX q scope h.objs.size f (.ref c) cl)
  env := envX q scope h.objs.size f (.ref c) cl
  fenv := envX q scope h.objs.size f (.ref c) cl
  mu := h.objs.size :: C.mu
  own := [h.objs.size]
  snap := hideAll h []
  fs := []
section
variable {C : Cx} {lv : Nat} {led : List (Addr × LO)} {bs bsL : List (Str × PV)} {s : Shared} {Q E : Value → Shared → Prop} {v : Value} {q : Str} {params : Arguments} {body : Expr} {scope : Scope} {cl : List (Str × Addr)}
theorem enterLam (I : Inv C (lv + 1) led bs s.heap) (i : Is C.mu s.heap v (.lam q params body scope cl)) (ok : LamOk q params body scope) (cf : CellsFor C.mu s.heap scope cl bsL)
    (run : ∀ f c h₁ tk, Inv (lamCx C s.heap q scope f c cl) lv [] bsL h₁ → wpAny (model Prog C.w) (C.A.deeper (envX q scope s.heap.objs.size f (.ref c) cl)) (eval body (envX q scope s.heap.objs.size f (.ref c) cl)) Q
      (fun e s' => wpAny (model Prog C.w) (C.A.deeper (envX q scope s.heap.objs.size f (.ref c) cl)) (leaving (envX q scope s.heap.objs.size f (.ref c) cl) e) (fun _ s'' => E e s'') (fun e' s'' => E e' s'') s') (to s h₁ tk)) :
    wpAny (model Prog C.w) C.A (call v []) Q E s := by
  obtain ⟨f, c, pm, ctv, rfl, nf, ef, hcd⟩ := i.lam'
  obtain ⟨G, B, X, T, F, hA, hf, ns, V, Y, D, kept, slots, hmu, hms, hld, hll⟩ := id I
  obtain ⟨FG, BG, st, _⟩ := groundX (R := fun _ _ => True) B F News.nil hA hf G.fk
  refine wpAny_call (kla_callFunE (by have := G.hd; simp only [recursionLimit]; omega) ef rfl ok.co ok.gen rfl hcd ?_)
  rw [ok.b]
  refine wpAny_pure (wpAny_newFunctionEnv ok.cell (fun y hy => nomatch hy) (fun h₁ hns hsb => ⟨(T.nolimit.keeps fun b o e => F.keep b o (B.stays b o e)).fresh _ hsb, ?_⟩) ok.k)
  have hk₁ : ∀ b o, s.heap.get? b = some o → h₁.get? b = some o := fun b o e => hsb.extBut b o (Nat.ne_of_lt (Heap.lt_size e)) (Heap.get?_push_of_some _ e)
  have none_of : s.heap.get? s.heap.objs.size = none := Heap.get?_none_of_le (Nat.le_refl _)
  have hid : (hideAll s.heap []).get? s.heap.objs.size = none := by
    cases q : (hideAll s.heap []).get? s.heap.objs.size with
    | none => rfl
    | some o => rw [of_hideAll _ q] at none_of; cases none_of
  have kk : ∀ a o, a ∉ C.mu → s.heap.get? a = some o → a ∉ s.heap.objs.size :: C.mu ∧ h₁.get? a = some o := fun a o n e =>
    ⟨fun z => (List.mem_cons.mp z).elim (fun z => by rw [z, none_of] at e; cases e) n, hk₁ a o e⟩
  have cf₁ := cf.up (h' := h₁) (mu' := s.heap.objs.size :: C.mu) (fun c v x => x.keeps hk₁) (fun a m => .tail _ m) kk
  refine kla_codeExpr (wpAny_mono (run f c h₁ _ (.mk (Lf := s.heap.objs.size) (h₀ := hideAll s.heap []) ⟨G.hh, ?_, ?_, ok.k, ok.k, rfl, rfl⟩ BG X T ⟨hns, fun b o e => hk₁ b o (of_hideAll _ e), Nat.le_of_eq (hideAll_size _ _)⟩ (Around.frames_deeper hA) rfl hns
    (fun y Z e => ?_) (fun y a e => cf₁.Y y a e) (fun q hq => nomatch hq) (fun b o e _ => hk₁ b o (of_hideAll _ e)) (fun b o e _ => ⟨o.slots, hk₁ b o (of_hideAll _ e)⟩) (fun a ha => ?_) (fun a ha => ?_) (fun q hq => nomatch hq) (.head _))) (fun v s' h => h) fun _ _ h => h)
  · have := G.hd
    show C.A.depth + 1 + 4 * lv ≤ 400
    omega
  · have := G.hu
    show C.A.units + 3 + 40 * lv ≤ 4000
    omega
  · obtain ⟨f, a, v, e1, c, i⟩ := cf₁.V y Z e
    exact .free f e1 c i
  · rcases List.mem_cons.mp ha with rfl | ha
    · obtain ⟨_, _, _, z, _⟩ := hns
      intro q; rw [q] at z; cases z
    · cases z : s.heap.get? a with
      | none => exact absurd z (hmu a ha)
      | some o => rw [hk₁ _ _ z]; exact fun z => nomatch z
  · rw [List.mem_singleton.mp ha]; exact ⟨hid, hid, .head _⟩
/-- what a lambda says, in any frame that knows it -/
def LamEv (lv : Nat) (q : Str) (body : Expr) (scope : Scope) (cl : List (Str × Addr)) (bsL : List (Str × PV)) (X : PV) : Prop := ∀ (C : Cx) (g h : Heap) (f c : Addr), Inv (lamCx C g q scope f c cl) lv [] bsL h → Ev (lamCx C g q scope f c cl) h body X
def LamX (lv : Nat) (q : Str) (body : Expr) (scope : Scope) (cl : List (Str × Addr)) (bsL : List (Str × PV)) (x : Addr) : Prop := ∀ (C : Cx) (g h : Heap) (f c : Addr), Inv (lamCx C g q scope f c cl) lv [] bsL h → EvX (lamCx C g q scope f c cl) h body x
theorem callLam (I : Inv C (lv + 1) led bs s.heap) (i : Is C.mu s.heap v (.lam q params body scope cl)) (ok : LamOk q params body scope) (cf : CellsFor C.mu s.heap scope cl bsL) {X : PV} (r : LamEv lv q body scope cl bsL X)
    (k : ∀ v h' tk, But [] s.heap h' → Is C.mu h' v X → Q v (to s h' tk)) : wpAny (model Prog C.w) C.A (call v []) Q E s :=
  enterLam I i ok cf fun f c h₁ tk J => r C s.heap h₁ f c J (to s h₁ tk) _ _ .refl fun v h' tk' k' i' =>
    k v h' tk' (.of fun b o e => k'.all _ _ (J.keptC.1 b o (hideAll_get _ e fun z => nomatch z) fun z => nomatch z)) (i'.off fun a ha => .inl (.tail _ ha))
theorem callLamX (I : Inv C (lv + 1) led bs s.heap) (i : Is C.mu s.heap v (.lam q params body scope cl)) (ok : LamOk q params body scope) (cf : CellsFor C.mu s.heap scope cl bsL) {x : Addr} (r : LamX lv q body scope cl bsL x)
    (k : ∀ e h' tk, Fly C.A s.heap h' e x → E (.ref e) (to s h' tk)) : wpAny (model Prog C.w) C.A (call v []) Q E s :=
  enterLam I i ok cf fun f c h₁ tk J => r C s.heap h₁ f c J (to s h₁ tk) _ _ .refl fun e h' tk' t => leave (D := lamCx C s.heap q scope f c cl) rfl rfl rfl rfl t fun h'' y => k e h'' _ y
end
end Mine
end
section
open PySem PySem.W PySem.Spec PySem.Calls PyProof.Rows
namespace Mine
theorem fTold : GlF "_law_told" 232 := ⟨fun P => ⟨by k_is, by k_is⟩, by decide⟩
theorem exm44 (P : Params) : exmOne (hd.heap_39 P) (.ref 44) (.ref 44) = some true := by kernel_rfl
theorem exm56 (P : Params) : exmOne (hd.heap_39 P) (.ref 56) (.ref 56) = some true := by kernel_rfl
theorem exm5 (P : Params) : exmOne (hd.heap_39 P) (.ref 56) (.ref 44) = some false := by kernel_rfl
section
variable {prog : Program} {w : World} {A : Around} {E : Value → Shared → Prop} {s : Shared} {env : Env} {K : Frag} {mg : Str → Option Value} {n : Str} {np pos : Pos} {b₀ : Stmt} {suite : List Stmt} {rest : List ExceptHandler} {Q : Flow → Shared → Prop} {e c x : Addr}
theorem clause_name {Q : Bool → Shared → Prop} {b : Bool} (hk : env.scope.kind = .function) (hg : env.globals = mainGlobals) (hn : env.kindOf n = some .globalImplicit) (hd : (n == ("__debug__" : Str)) = false) (X : K.In s.heap) (T : s.heap.Ns mainGlobals mg) (hx : nsIn K mainGlobals n = some (some (.ref c)))
    (LT : Looks (model prog w) s.heap (typeOf (.ref e)) (.ref x)) (he : exmOne K (.ref x) (.ref c) = some b) (q : Q b s) : wpAny (model prog w) A (eval (.Name n np) env) (fun c s₁ => wpAny (model prog w) A (excMatches (.ref e) c) Q E s₁) E s :=
  Name_function_global hk hn (loadGlobal_global (by rw [hg]; exact T) (mg_of X T hx) ((exm_one X LT he).here q)) hd
theorem clause_pass (hk : env.scope.kind = .function) (hg : env.globals = mainGlobals) (hn : env.kindOf n = some .globalImplicit) (hd : (n == ("__debug__" : Str)) = false) (X : K.In s.heap) (T : s.heap.Ns mainGlobals mg) (hx : nsIn K mainGlobals n = some (some (.ref c)))
    (LT : Looks (model prog w) s.heap (typeOf (.ref e)) (.ref x)) (he : exmOne K (.ref x) (.ref c) = some false) (q : wpAny (model prog w) A (handleBy (.ref e) env rest) Q E s) : wpAny (model prog w) A (handleBy (.ref e) env (.ExceptHandler (some (.Name n np)) none (b₀ :: suite) pos :: rest)) Q E s :=
  wpAny_handleBy_cons (codeAny_handlers_test (clause_name hk hg hn hd X T hx LT he q)) (by intro q; cases q)
theorem clause_hit (hk : env.scope.kind = .function) (hg : env.globals = mainGlobals) (hn : env.kindOf n = some .globalImplicit) (hd : (n == ("__debug__" : Str)) = false) (X : K.In s.heap) (T : s.heap.Ns mainGlobals mg) (hx : nsIn K mainGlobals n = some (some (.ref c)))
    (LT : Looks (model prog w) s.heap (typeOf (.ref e)) (.ref x)) (he : exmOne K (.ref x) (.ref c) = some true) {base : Heap} {l : List Env} {a0 : Value} {m : Str} {kk : Nat} {mp rp : Pos} (fl : Heap.FlyingW base l e (.ref x) a0 s.heap)
    (q : ∀ h' tk, Heap.FlyingW base l e (.ref x) a0 h' → s.heap.UpToSlots h' → Q (.ret (.str m tk)) { s with heap := h', toks := tk + 1 }) : wpAny (model prog w) A (handleBy (.ref e) env (.ExceptHandler (some (.Name n np)) none [.Return (some (.Constant (.str m) kk mp)) rp] pos :: rest)) Q E s :=
  wpAny_handleBy_cons (codeAny_handlers_test (clause_name hk hg hn hd X T hx LT he (codeAny_handlers_suite (lands_againW fl fun h₆ fl₆ up₆ => wpAny_execs_cons (wpAny_Return_some (wpAny_Constant_str (q h₆ _ fl₆ up₆))))))) (by intro q; cases q)
end
section
variable {C : Cx} {lv : Nat} {led : List (Addr × LO)} {bs bsL : List (Str × PV)} {s : Shared} {Q E : Value → Shared → Prop} {v : Value} {q : Str} {params : Arguments} {body : Expr} {scope : Scope} {cl : List (Str × Addr)}
theorem told_up {s0 h₁ : Heap} {qn : Str} {sc : Scope} {f : Addr} {cdv : Value} {lv' : Nat} {bs' : List (Str × PV)} (J : Inv (calleeCx C s0 [] [] qn sc f cdv) lv' [] bs' h₁) (hc : ∀ n, cellsFrom n sc.names [] = []) (cf : CellsFor C.mu s0 scope cl bsL) : CellsFor (calleeCx C s0 [] [] qn sc f cdv).mu h₁ scope cl bsL := by
  have hk : ∀ b o, s0.get? b = some o → h₁.get? b = some o := fun b o e => J.keptC.1 b o (hideAll_get _ e fun z => nomatch z) fun z => nomatch z
  have hm : (calleeCx C s0 [] [] qn sc f cdv).mu = s0.objs.size :: C.mu := by show _ :: (List.map _ (cellsFrom _ sc.names []) ++ C.mu) = _; rw [hc]; rfl
  rw [hm]
  exact cf.up (fun c v x => x.keeps hk) (fun a m => .tail _ m) fun a o n e =>
    ⟨fun z => (List.mem_cons.mp z).elim (fun z => by rw [z, Heap.get?_none_of_le (Nat.le_refl _)] at e; cases e) n, hk a o e⟩
theorem told_ret (I : Inv C (lv + 2) led bs s.heap) (i : Is C.mu s.heap v (.lam q params body scope cl)) (ok : LamOk q params body scope) (cf : CellsFor C.mu s.heap scope cl bsL) {X : PV} (r : LamEv lv q body scope cl bsL X)
    (k : ∀ v h' tk, But [] s.heap h' → Is C.mu h' v X → Q v (to s h' tk)) : wpAny (model Prog C.w) C.A (call (.ref 232) [v]) Q E s := by
  refine' enter (lv := lv + 1) (bl := []) ["call"] [] I (fun _ hq => nomatch hq) (.cons i .nil) ?ho ?hcd ?hb (by decide) ?hcn ?hkp ?hco ?hgen ?hk ?run
  case ho => intro P; k_is
  case hcd => intro P; k_is
  case hb => rfl
  case hcn => decide
  case hkp => rfl
  case hco => rfl
  case hgen => rfl
  case hk => rfl
  case run =>
    intro h₁ tk J
    refine wpAny_execs_cons (wpAny_Try_except (wpAny_execs_cons (wpAny_Return_some (Call_ ((show Ev _ _ _ _ from Ev.var (X := .lam q params body scope cl) (x := "call") J rfl) (to s h₁ tk) _ _ .refl fun w h₂ tk₂ k₂ i₂ => ?_)))))
    obtain ⟨f, c, pm, ctv, rfl, nf, ef, hcd⟩ := i₂.lam'
    refine callWith_F0 (s := to s h₂ tk₂) ⟨_, _, _, _, ef⟩ (callLam (s := to s h₂ tk₂) (J.ext k₂) i₂ ok ((told_up J (fun _ => rfl) cf).ext k₂) r fun u h₃ tk₃ k₃ i₃ => ?_)
    have kp := ((J.ext k₂).ext k₃).keptC.1
    exact k u h₃ tk₃ (.of fun b o e => kp b o (hideAll_get _ e fun z => nomatch z) fun z => nomatch z) (i₃.off fun a ha => .inl (.tail _ ha))
theorem told_exc {x : Addr} {word : Str} (hx : x = 44 ∧ word = "form" ∨ x = 56 ∧ word = "size") (I : Inv C (lv + 2) led bs s.heap) (fo : Fo C) (i : Is C.mu s.heap v (.lam q params body scope cl)) (ok : LamOk q params body scope) (cf : CellsFor C.mu s.heap scope cl bsL) (r : LamX lv q body scope cl bsL x)
    (k : ∀ v h' tk, Inv C (lv + 2) led bs h' → But C.mu s.heap h' → Is C.mu h' v (.str word) → Q v (to s h' tk)) : wpAny (model Prog C.w) C.A (call (.ref 232) [v]) Q E s := by
  refine' enter (lv := lv + 1) (bl := []) ["call"] [] I (fun _ hq => nomatch hq) (.cons i .nil) ?ho ?hcd ?hb (by decide) ?hcn ?hkp ?hco ?hgen ?hk ?run
  case ho => intro P; k_is
  case hcd => intro P; k_is
  case hb => rfl
  case hcn => decide
  case hkp => rfl
  case hco => rfl
  case hgen => rfl
  case hk => rfl
  case run =>
    intro h₁ tk J
    refine wpAny_execs_cons (wpAny_Try_except (wpAny_execs_cons (wpAny_Return_some (Call_ ((show Ev _ _ _ _ from Ev.var (X := .lam q params body scope cl) (x := "call") J rfl) (to s h₁ tk) _ _ .refl fun w h₂ tk₂ k₂ i₂ => ?_)))))
    obtain ⟨f, c, pm, ctv, rfl, nf, ef, hcd⟩ := i₂.lam'
    refine callWith_F0 (s := to s h₂ tk₂) ⟨_, _, _, _, ef⟩ (callLamX (s := to s h₂ tk₂) (J.ext k₂) i₂ ok ((told_up J (fun _ => rfl) cf).ext k₂) r fun e h₃ tk₃ fly => ?_)
    have J₂ := J.ext k₂
    have XK := J₂.K
    obtain ⟨G, B, X, T, F, hA, hf, _⟩ := id J₂
    obtain ⟨l, a0, hl, fl, up⟩ := fly
    have P := pushX B F hf G.fk
    obtain rfl := Option.some.inj (hl.symm.trans hA)
    refine wpAny_looks_onW (s := to s h₃ tk₃) hA rfl fl fun h₄ held up₄ => ?_
    refine wpAny_landsW (s := to s h₄ tk₃) held fun h₅ fl₅ up₅ => ?_
    have st : ∀ b o, _ → h₅.get? b = some o := fun b o e => fl₅.1 b o (hideAll_get _ (P.stays b o e) fun z => by
      rw [(P.frames.mem z).1] at e; cases e)
    have X₅ := X.keeps st
    have T₅ := T.g.keeps st
    have LT : ∀ {M}, Looks M h₅ (typeOf (.ref e)) (.ref x) := fun {M} => by obtain ⟨ob, a, c⟩ := fl₅.there; rw [← c]; exact (Looks.ld a).andThen .now
    obtain ⟨lc, qc, rfl⟩ : ∃ lc, C.A.frames = some lc ∧ lc = _ := ⟨_, by
      have hl' : C.A.frames.map (_ :: ·) = some (_ :: _) := hl
      cases q : C.A.frames with
      | none => rw [q] at hl'; cases hl'
      | some lc => rw [q] at hl'; exact congrArg some (List.cons.inj (Option.some.inj hl')).2, rfl⟩
    have hk : ∀ b o, s.heap.get? b = some o → h₂.get? b = some o := fun b o e => J₂.keptC.1 b o (hideAll_get _ e fun z => nomatch z) fun z => nomatch z
    have fin : ∀ h', (∀ b o, (hideAll h₂ (s.heap.objs.size :: frs _)).get? b = some o → h'.get? b = some o) → h₅.UpToSlots h' → ∀ tk, Q (.str word tk) { to s h₅ tk₃ with heap := h', toks := tk + 1 } := fun h' st' up' tk => by
      have kb : ∀ b o, s.heap.get? b = some o → b ∉ frsA C.A → h'.get? b = some o := fun b o e n => st' b o (hideAll_get _ (hk b o e) fun z => by
        rw [frsA_eq qc] at n
        rcases List.mem_cons.mp z with z | z
        · exact absurd (Heap.lt_size e) (z ▸ Nat.lt_irrefl _)
        · exact n z)
      have I' := I.turn fo kb ((Heap.UpToSlots.of_keeps hk).trans (up.trans (up₄.trans (up₅.trans up'))))
      exact k _ h' _ I' (fun b o n e => kb b o e fun z => n (fo.m b z)) (.str _ _)
    rcases hx with ⟨rfl, rfl⟩ | ⟨rfl, rfl⟩
    · exact clause_hit (s := to s h₅ tk₃) rfl rfl rfl (by decide) X₅ T₅ (gForm.1 _).1 LT (exm44 _) fl₅ fun h' tk f u => fin h' f.1 u tk
    · refine clause_pass (s := to s h₅ tk₃) rfl rfl rfl (by decide) X₅ T₅ (gForm.1 _).1 LT (exm5 _) ?_
      exact clause_hit (s := to s h₅ tk₃) rfl rfl rfl (by decide) X₅ T₅ (gSize.1 _).1 LT (exm56 _) fl₅ fun h' tk f u => fin h' f.1 u tk
end
end Mine
end
section
open PySem PySem.W PySem.Spec PySem.Calls PyProof.Rows
namespace Mine
/-- what a lambda takes along -/
def Cap (C : Cx) (bs : List (Str × PV)) (scope : Scope) : List (Str × Addr) → List (Str × PV) → Prop
  | [], [] => True
  | (n, a) :: cl, (m, X) :: bsL => n = m ∧ C.env.cells.lookup n = some a ∧ C.env.kindOf n ≠ some .local ∧ bs.lookup n = some X ∧ scope.names.lookup n = some .free ∧ Cap C bs scope cl bsL
  | _, _ => False
theorem Cap.cl {C : Cx} {bs : List (Str × PV)} {scope : Scope} : ∀ {cl : List (Str × Addr)} {bsL : List (Str × PV)}, Cap C bs scope cl bsL → ∀ x c, cl.lookup x = some c → C.env.cells.lookup x = some c
  | [], [], _, _, _, e => nomatch e
  | (n, a) :: cl, (m, X) :: bsL, h, x, c, e => by
    rw [List.lookup_cons] at e
    cases hb : x == n with
    | true => rw [hb] at e; cases e; rw [beq_iff_eq.mp hb]; exact h.2.1
    | false => rw [hb] at e; exact Cap.cl h.2.2.2.2.2 x c e
  | [], _ :: _, h, _, _, _ => h.elim
  | _ :: _, [], h, _, _, _ => h.elim
theorem Cap.val {C : Cx} {bs : List (Str × PV)} {scope : Scope} : ∀ {cl : List (Str × Addr)} {bsL : List (Str × PV)}, Cap C bs scope cl bsL → ∀ x X, bsL.lookup x = some X → bs.lookup x = some X ∧ C.env.kindOf x ≠ some .local ∧ scope.names.lookup x = some .free ∧ ∃ c, cl.lookup x = some c
  | [], [], _, _, _, e => nomatch e
  | (n, a) :: cl, (m, X) :: bsL, h, x, Z, e => by
    obtain ⟨rfl, h1, h2, h3, h4, h5⟩ := h
    rw [List.lookup_cons] at e ⊢
    cases hb : x == n with
    | true => rw [hb] at e; cases e; rw [beq_iff_eq.mp hb]; exact ⟨h3, h2, h4, a, rfl⟩
    | false => rw [hb] at e; exact Cap.val h5 x Z e
  | [], _ :: _, h, _, _, _ => h.elim
  | _ :: _, [], h, _, _, _ => h.elim
theorem Inv.cellsFor {C : Cx} {lv : Nat} {led : List (Addr × LO)} {bs bsL : List (Str × PV)} {h : Heap} {scope : Scope} {cl : List (Str × Addr)} (I : Inv C lv led bs h) (c : Cap C bs scope cl bsL) : CellsFor C.mu h scope cl bsL := by
  obtain ⟨G, B, X', T, F, hA, hf, ns, V, Y, D, _⟩ := I
  refine ⟨fun x a e => ?_, fun x X e => ?_⟩
  · obtain ⟨y1, y2, y3⟩ := Y x a (c.cl x a e)
    exact ⟨y1, y2, fun y hy => y3 y (c.cl y a hy)⟩
  · obtain ⟨b1, b2, b3, a, ha⟩ := c.val x X e
    refine ⟨b3, a, ?_⟩
    have := c.cl x a ha
    cases V x X b1 with
    | loc k _ _ => exact absurd k b2
    | cell k l d i => rw [this] at l; cases l; exact ⟨_, ha, d, i⟩
    | free k l d i => rw [this] at l; cases l; exact ⟨_, ha, d, i⟩
/-- the table of the code of a frame -/
structure Tab (C : Cx) (P c : Addr) (q : Str) : Prop where
  k : ∀ Pm, codeHdIn (hd.heap_39 Pm) c P = true
  c : C.env.code = .ref c
  q : C.env.qual ++ "<lambda>" = q
section
variable {C : Cx} {lv lv' : Nat} {bs bs₁ bsL : List (Str × PV)} {led led₁ led₂ led' pre post : List (Addr × LO)} {h : Heap} {q : Str} {params : Arguments} {body : Expr} {scope : Scope} {cl : List (Str × Addr)} {P c : Addr} {np pos lpos : Pos} {o : Out} {rest : List Stmt}
theorem EvM.told {X : PV} (t : Tab C P c q) (h1 : ∀ q ∈ pre, q.1 ≠ P) (h2 : ∀ q ∈ post, q.1 ≠ P) (hcl : closureFor scope C.env = pure cl) (hdef : defaultsOf params C.env = ([], [])) (cap : Cap C bs scope cl bsL) (ok : LamOk q params body scope) (r : LamEv lv q body scope cl bsL X)
    (hx : C.env.kindOf "_law_told" = some .globalImplicit) (he : notStar (Expr.Lambda params body scope lpos) = true := by rfl) :
    EvM C (lv + 2) bs (pre ++ (P, .tab q) :: post) (.Call (.Name "_law_told" np) [.Lambda params body scope lpos] [] pos) X (pre ++ (P, .tab q) :: post) := fun s Q E I qq =>
  Call_ (nameG I (fTold.1 _).1 hx (callWith_K (h₀ := s.heap) I.K (fTold.1 _).2 (args_cons (EvM.lam h1 h2 t.k t.c t.q hcl hdef s _ E I fun v h' tk J k i => args_nil ⟨J.K, told_ret (s := to s h' tk) J i ok (J.cellsFor cap) r fun u h'' tk' k' i' => qq u h'' tk' (J.ext k') (k.trans k'.any) i'⟩) (star_cons he)) (star_cons he) (by rfl)) fTold.2)
theorem EvM.toldX {x : Addr} {word : Str} (hxw : x = 44 ∧ word = "form" ∨ x = 56 ∧ word = "size") (fo : Fo C) (t : Tab C P c q) (h1 : ∀ q ∈ pre, q.1 ≠ P) (h2 : ∀ q ∈ post, q.1 ≠ P) (hcl : closureFor scope C.env = pure cl) (hdef : defaultsOf params C.env = ([], [])) (cap : Cap C bs scope cl bsL) (ok : LamOk q params body scope) (r : LamX lv q body scope cl bsL x)
    (hx : C.env.kindOf "_law_told" = some .globalImplicit) (he : notStar (Expr.Lambda params body scope lpos) = true := by rfl) :
    EvM C (lv + 2) bs (pre ++ (P, .tab q) :: post) (.Call (.Name "_law_told" np) [.Lambda params body scope lpos] [] pos) (.str word) (pre ++ (P, .tab q) :: post) := fun s Q E I qq =>
  Call_ (nameG I (fTold.1 _).1 hx (callWith_K (h₀ := s.heap) I.K (fTold.1 _).2 (args_cons (EvM.lam h1 h2 t.k t.c t.q hcl hdef s _ E I fun v h' tk J k i => args_nil ⟨J.K, told_exc (s := to s h' tk) hxw J fo i ok (J.cellsFor cap) r fun u h'' tk' J' k' i' => qq u h'' tk' J' (k.trans k') i'⟩) (star_cons he)) (star_cons he) (by rfl)) fTold.2)
theorem EvM.cmp {l r : Expr} {op : CmpOp} {pos : Pos} {X Y Z : PV} (a : EvM C lv bs led l X led₁) (b : EvM C lv bs led₁ r Y led₂) (o : Op C (compareOp op) X Y Z) (hm : behindInMarks op r = false := by with_unfolding_all rfl) : EvM C lv bs led (.Compare l [op] [r] pos) Z led₂ := fun s Q E I q =>
  wpAny_Compare1 (a s _ E I fun v h₁ t₁ I₁ k₁ i₁ => b (to s h₁ t₁) _ E I₁ fun w h₂ t₂ I₂ k₂ i₂ => o _ Q E v w (i₁.but k₂) i₂ fun u h₃ t₃ k₃ i₃ => q u h₃ t₃ (I₂.ext k₃) ((k₁.trans k₂).trans k₃.any) i₃) hm
theorem EvM.andT {e f : Expr} {r : List Expr} {pos : Pos} {X : PV} (x : EvM C lv bs led e (.bool true) led₁) (y : EvM C lv bs led₁ (.BoolOp .And (f :: r) pos) X led₂) : EvM C lv bs led (.BoolOp .And (e :: f :: r) pos) X led₂ := fun s Q E I q =>
  BoolOp_and (x s _ E I fun v h₁ t₁ I₁ k₁ i₁ => i₁.bool' ▸ wpAny_truthy_bool (y (to s h₁ t₁) Q E I₁ fun v h₂ t₂ I₂ k₂ i₂ => q v h₂ t₂ I₂ (k₁.trans k₂) i₂))
theorem EvM.one {e : Expr} {op : BoolOp} {pos : Pos} {X : PV} (x : EvM C lv bs led e X led₁) : EvM C lv bs led (.BoolOp op [e] pos) X led₁ := fun s Q E I q => BoolOp_one (x s Q E I q)
end
/-- a def that changes one list that it is handed, and makes lambdas -/
def MFnT (lv : Nat) (f a : Addr) (L : LO) (P : Addr) (q : Str) (args : List PV) (x : PV) (L' : LO) : Prop := ∀ (C : Cx) (led : List (Addr × LO)) (bs : List (Str × PV)) (s : Shared) (Q E : Value → Shared → Prop) (vs : List Value), Fo C → Inv C lv ((a, L) :: led) bs s.heap →
  (P, .tab q) ∈ led → (∀ y ∈ led, y.1 ≠ a) → (∀ y ∈ led, y.1 = P → y = (P, .tab q)) → IsL C.mu s.heap vs args →
  (∀ v h' tk, Inv C lv ((a, L') :: led) bs h' → But C.mu s.heap h' → Is C.mu h' v x → Q v (to s h' tk)) → wpAny (model Prog C.w) C.A (call (.ref f) vs) Q E s
theorem calleeFo {C : Cx} {h : Heap} {ma : List Addr} {qual : Str} {scope : Scope} {f : Addr} {cdv : Value} (fo : Fo C) (l : List Env) (hA : C.A.frames = some l) : Fo (calleeCx C h ma (frsA C.A) qual scope f cdv) := by
  have e : frsA (C.A.deeper (envOfC qual scope h.objs.size f cdv)) = h.objs.size :: frsA C.A := by rw [frsA_eq hA, frsA_eq (Around.frames_deeper hA)]; rfl
  refine ⟨fun b hb => ?_, fun b hb n => ?_, fun b hb => .tail _ (List.mem_append_right _ (fo.m b hb)), fun b hb n => ?_⟩
  · rcases List.mem_cons.mp (e ▸ hb : b ∈ _ :: _) with rfl | hb
    · exact .head _
    · exact .tail _ (List.mem_append_right _ (fo.m b hb))
  · rcases List.mem_cons.mp (e ▸ hb : b ∈ _ :: _) with rfl | hb
    · cases q : (hideAll h ma).get? h.objs.size with
      | none => exact q
      | some o => exact absurd (Heap.lt_size (of_hideAll _ q)) (Nat.lt_irrefl _)
    · exact absurd hb n
  · rcases List.mem_cons.mp (e ▸ hb : b ∈ _ :: _) with rfl | hb
    · exact .head _
    · exact absurd hb n
section
variable {lv : Nat} {a P : Addr} {L L' : LO} {q : Str} {args : List PV} {X : PV} {name qual : Str} {params : Arguments} {body : List Stmt} {scope : Scope} {dV kV doc pm cdv ct oc : Value} {an od : Option Addr} {osl : Array (Option Value)} {f : Addr}
theorem MFnT.of (ps : List Str)
    (ho : ∀ P, (hd.heap_39 P).lookup f = some ⟨oc, od, .func (fnOf name qual params body scope dV kV doc pm an cdv ct), osl⟩) (hcd : ∀ P, codeIn (hd.heap_39 P) cdv qual = true)
    (hb : ∀ vs : List Value, vs.length = args.length → bindArgs (fnOf name qual params body scope dV kV doc pm an cdv ct) ⟨vs, []⟩ = pure (ps.zip vs)) (hps : ps.Nodup) (hcn : ((cellsFrom 0 scope.names []).map (·.1)).Nodup) (hkp : (ps.all fun y => scope.names.lookup y == some .local || scope.names.lookup y == some .cell) = true)
    (hco : scope.isCoroutine = false) (hgen : scope.isGenerator = false) (hk : scope.kind = .function)
    (run : ∀ (C : Cx) (h h₁ : Heap), a ≠ P → Fo (calleeCx C h [a, P] (frsA C.A) qual scope f cdv) → Inv (calleeCx C h [a, P] (frsA C.A) qual scope f cdv) lv [(a, L), (P, .tab q)] (ps.zip args) h₁ → Runs (calleeCx C h [a, P] (frsA C.A) qual scope f cdv) lv [(a, L'), (P, .tab q)] body (.ret X) h₁)
    (hi : ∀ mu h o, L'.Says mu h o → Item o) : MFnT (lv + 1) f a L P q args X L' := fun C led bs s Q E vs fo I hP hna hu iL k => by
  have haP : a ≠ P := fun z => hna _ hP z.symm
  obtain ⟨l, base', hA, fr, nf⟩ := I.frames
  refine enter (bl := [(a, L), (P, .tab q)]) ps (frsA C.A) I (fun y hy => ?_) iL ho hcd (hb vs iL.1) hps hcn hkp hco hgen hk fun h₁ tk J => run C s.heap h₁ haP (calleeFo fo l hA) J s tk _ _ fun v h' tk' kp hl i => ?_
  · rcases List.mem_cons.mp hy with rfl | hy
    · exact .head _
    · rw [List.mem_singleton.mp hy]; exact .tail _ hP
  have ma : ∀ b, b ∈ C.mu → b ∈ (calleeCx C s.heap [a, P] (frsA C.A) qual scope f cdv).mu := fun b hb => .tail _ (List.mem_append_right _ hb)
  obtain ⟨oa, _, _, ao, _⟩ := I.entry (.head _)
  obtain ⟨oP, _, _, Po, _⟩ := I.entry (.tail _ hP)
  have am := I.ownMu _ ao
  have Pm := I.ownMu _ Po
  have nled : ∀ b ∈ frsA C.A, ∀ y ∈ (a, L) :: led, y.1 ≠ b := fun b hb y hy z => by
    obtain ⟨G, B, X, T, F, hA, hf, ns, V, Y, D, kept, slots, hmu, hms, hld, hll⟩ := I
    rename_i Lf
    obtain ⟨o, a1, b1, c, _⟩ := D y hy
    have e1 : ∀ r, frs (C.fenv :: r) = Lf :: frs r := fun r => by unfold frs; rw [List.filterMap_cons, hf]
    rw [frsA_eq hA, e1] at hb
    rcases List.mem_cons.mp hb with w | w
    · exact b1 (z.trans w)
    · obtain ⟨_, o, e, _⟩ := B.frames.mem w
      rw [z, e] at c; cases c
  have hid : ∀ b o, b ≠ a → b ≠ P → s.heap.get? b = some o → (hideAll s.heap [a, P]).get? b = some o := fun b o n1 n2 e => hideAll_get _ e fun z => (List.mem_cons.mp z).elim n1 fun z => n2 (List.mem_singleton.mp z)
  have k0 : ∀ b o, b ≠ a → b ≠ P → b ∉ frsA C.A → s.heap.get? b = some o → h'.get? b = some o := fun b o n1 n2 n3 e => kp.1 b o (hid b o n1 n2 e) n3
  obtain ⟨g', k1, u1, k2, k3, k4⟩ := turn_heap (h' := h') I fun b o e m => kp.2 b o (hid b o (fun z => nled b m _ (.head _) z.symm) (fun z => nled b m _ (.tail _ hP) z.symm) e) (nf b (by rw [← frsA_eq hA]; exact m) o e)
  have I' := I.turn fo k1 u1
  have kk : ∀ b o, b ≠ a → b ≠ P → g'.get? b = some o → h'.get? b = some o := fun b o n1 n2 e => by
    by_cases m : b ∈ frsA C.A
    · exact k4 b o m e
    · exact k0 b o n1 n2 m (k3 b o e m)
  have kb : But C.mu s.heap h' := fun b o n e => kk b o (fun z => n (z ▸ am)) (fun z => n (z ▸ Pm)) (k1 b o e fun z => n (fo.m b z))
  refine k v h' tk' (I'.setAll (led' := (a, L') :: led) rfl (fun b o n e => kk b o (fun z => n (z ▸ .head _)) (fun z => n (List.mem_map.mpr ⟨_, .tail _ hP, z.symm⟩)) e) fun y hy => ?_) kb (i.off fun a ha => .inl (ma a ha))
  rcases List.mem_cons.mp hy with rfl | hy
  · obtain ⟨o', e1, e2⟩ := hl _ (.head _)
    exact ⟨o', e1, e2.up fun b o n e => ⟨fun z => n (ma b z), e⟩, hi _ _ _ e2⟩
  · by_cases z : y.1 = P
    · rw [hu y hy z]
      obtain ⟨o', e1, e2⟩ := hl _ (.tail _ (.head _))
      refine ⟨o', e1, e2.up fun b o n e => ⟨fun z => n (ma b z), e⟩, ?_⟩
      obtain ⟨ps, rfl, _⟩ := e2
      exact ⟨fun _ _ => (fun z => nomatch z), fun _ => (fun z => nomatch z)⟩
    · obtain ⟨o, e1, e2, _, e4⟩ := I'.entry (.tail _ hy)
      refine ⟨o, kk _ _ (hna y hy) z e1, e2.up fun b o n e => ⟨n, kk b o (fun z => n (z ▸ am)) (fun z => n (z ▸ Pm)) e⟩, e4⟩
end
end Mine
end
section
open PySem PySem.W PySem.Spec PySem.Calls PyProof.Rows
namespace Mine
theorem keepSlots {h h' : Heap} {T : Addr} {oT : Obj} {ts : Array Value} (hT : h.get? T = some oT) (hd : oT.data = .fields ts) (k : ∀ b, b ≠ T → h'.get? b = h.get? b) : ∀ b o, h.get? b = some o → (∀ vs, o.data ≠ .fields vs) → h'.get? b = some o := fun b o e n =>
  (k b fun z => by rw [z, hT] at e; cases e; exact n _ hd).trans e
theorem setFlight_held {M : Model} {A : Around} {E : Value → Shared → Prop} {s : Shared} {base : Heap} {l : List Env} {e L : Addr} {cls a0 : Value} {Q : Unit → Shared → Prop} (x : Heap.HeldW base l e cls a0 L s.heap)
    (k : ∀ h', Heap.HeldW base l e cls a0 L h' → s.heap.UpToSlots h' → Q () { s with heap := h' }) : wpAny M A (setFlight (.ref e) (some L)) Q E s := by
  obtain ⟨x1, x2, x3, oe, vs, T, oT, ts, he, hc, hd, h1, nT, ne, hT, hdT, h3⟩ := x
  have hsz := (Array.getElem?_eq_some_iff.mp h3).1
  have ot : ∀ b, b ≠ T → (s.heap.update T (Obj.mapFields (·.setIfInBounds 3 ((some L).elim Value.none fun f => rawInt f)))).get? b = s.heap.get? b := fun b n => Heap.get?_update_other _ _ (Ne.symm n)
  have ks := keepSlots hT hdT ot
  refine wpAny_bind (wpAny_field he hd h1 ?_)
  rw [if_pos (show (Value.ref T != Value.none) = true from by simp)]
  refine wpAny_setField hT hdT hsz (k _ ⟨fun b o z => (ot b fun w => by rw [w, nT] at z; cases z).trans (x1 b o z), x2, x3.of_keeps fun b o z n => ⟨o, ks b o z n, rfl⟩, ?_⟩ fun b o z n => ⟨o.slots, ks b o z n⟩)
  exact ⟨oe, vs, T, _, _, (ot e (Ne.symm ne)).trans he, hc, hd, h1, nT, ne, Heap.get?_update_self _ hT (Obj.isFreed_of_fields (Obj.data_mapFields hdT _)), Obj.data_mapFields hdT _, by simp [hsz]⟩
section
variable {C : Cx} {lv lv' : Nat} {bs bs₁ bs₂ : List (Str × PV)} {led led₁ led₂ led' : List (Addr × LO)} {h h' : Heap} {o : Out} {rest : List Stmt} {e c : Addr}
theorem Thr.noted (x : Thr C h e c) {s : Shared} {tk : Nat} {outer : List Env} {L : Addr} {E : Value → Shared → Prop} (hA : C.A.frames = some (C.env :: outer)) (hf : C.env.frame = some L) (hE : C.fenv = C.env) (q : ∀ e h tk, Thr C h e c → E (.ref e) (to s h tk)) :
    notedBy (model Prog C.w) C.A C.env (cameBackBy (model Prog C.w) C.A C.env E) (.ref e) (to s h tk) := by
  obtain ⟨l, a0, hl, x1, x2, x3, x4, x5⟩ := x
  obtain rfl := Option.some.inj (hl.symm.trans hA)
  have fin : ∀ h', Heap.HeldW (hideAll C.snap (frs (C.env :: outer))) (C.env :: outer) e (.ref c) a0 L h' → h.UpToSlots h' → cameBackBy (model Prog C.w) C.A C.env E (.ref e) (to s h' tk) := fun h' x u => by
    obtain ⟨y1, y2, y3, oe, vs, T, oT, ts, he, hc, hd, h1, r⟩ := id x
    unfold cameBackBy
    refine wpAny_bind (wpAny_field he hd h1 ?_)
    rw [if_neg (show ¬ ((Value.ref T == Value.none) = true) from by simp)]
    show wpAny _ _ (setFlight (.ref e) C.env.frame) _ _ _
    rw [hf]
    exact setFlight_held (s := to s h' tk) x fun h'' z u' => q _ h'' tk ⟨_, a0, hl, z.1, z.2.1, z.2.2.1, x4.trans (u.trans u'), .inr (.inr ⟨L, by rw [hE]; exact hf, z.2.2.2⟩)⟩
  rcases x5 with x5 | ⟨oe, vs, y1, y2, y3, y4, y5⟩ | ⟨L', y1, y2⟩
  · exact wpAny_looks_onW (s := to s h tk) hl hf ⟨x1, x2, x3, x5⟩ fun h' y u => fin h' y u
  · unfold notedBy noteFrame
    simp only [hf]
    refine wpAny_bind (wpAny_field y1 y3 y4 ?_)
    rw [if_neg (by decide)]
    refine wpAny_entryW (s := to s h tk) hl x3 hf y1 x1 x2 y3 (Array.getElem?_eq_some_iff.mp y4).1 y5 fun h' y => fin h' ?_ y.2.2.2
    rw [← y2]
    exact ⟨y.1, x2, y.2.1, y.2.2.1⟩
  · rw [hE, hf] at y1
    cases y1
    exact wpAny_noteFrame_againW hf y2 (fin h ⟨x1, x2, x3, y2⟩ (.refl _))
/-- the turns of a while loop -/
def WLoop (C : Cx) (lv lv' : Nat) (led' : List (Addr × LO)) (t : Expr) (body rest : List Stmt) (o : Out) : Nat → List (Addr × LO) → List (Str × PV) → Prop
  | 0, led, bs => ∃ led₁, TvM C lv bs led t false led₁ ∧ ∀ h, Inv C lv led₁ bs h → Runs C lv' led' rest o h
  | n + 1, led, bs => ∃ b led₁, TvM C lv bs led t b led₁ ∧ if b then ((o.leaves ∧ ∀ h, Inv C lv led₁ bs h → Runs C lv' led' body o h) ∨ ∃ led₂ bs₂, (∀ h, Inv C lv led₁ bs h → Runs C lv led₂ body (.next bs₂) h) ∧ WLoop C lv lv' led' t body rest o n led₂ bs₂)
      else ∀ h, Inv C lv led₁ bs h → Runs C lv' led' rest o h
theorem Runs.whileL {t : Expr} {body : List Stmt} {pos : Pos} {n : Nat} (I : Inv C lv led bs h) (hE : C.fenv = C.env) (loop : WLoop C lv lv' led' t body rest o n led bs) : Runs C lv' led' (.While t body [] pos :: rest) o h := fun s tk Q E q => by
  obtain ⟨outer, L, hA, hf⟩ : ∃ outer L, C.A.frames = some (C.env :: outer) ∧ C.env.frame = some L := by
    obtain ⟨_, _, _, _, _, hA, hf, _⟩ := I
    rw [hE] at hA hf; exact ⟨_, _, hA, hf⟩
  refine wpAny_execs_cons (wpAny_While (codeAny_whileLoop (fun n s' => ∃ h' tk led bs, s' = to s h' tk ∧ Inv C lv led bs h' ∧ WLoop C lv lv' led' t body rest o n led bs) (fun n s' hI => ?_) n ⟨h, tk, led, bs, rfl, I, loop⟩))
  obtain ⟨h', tk', led, bs, rfl, J, W⟩ := hI
  cases n with
  | zero => obtain ⟨led₁, a, r⟩ := W; exact a (to s h' tk') _ _ J fun h₂ t₂ J₂ _ => wpAny_execs_nil (r h₂ J₂ s t₂ Q E q)
  | succ n =>
    obtain ⟨b, led₁, a, W⟩ := W
    cases b with
    | false => exact a (to s h' tk') _ _ J fun h₂ t₂ J₂ _ => wpAny_execs_nil (W h₂ J₂ s t₂ Q E q)
    | true =>
      refine a (to s h' tk') _ _ J fun h₂ t₂ J₂ _ => ?_
      rcases W with ⟨hl, r⟩ | ⟨led₂, bs₂, r, W⟩
      · refine r h₂ J₂ s t₂ _ _ ?_
        cases o with
        | ret X => exact q
        | new l => exact q
        | next bs => exact hl.elim
        | exc c => exact fun e h tk x => x.noted hA hf hE q
      · exact r h₂ J₂ s t₂ _ _ fun h₃ t₃ J₃ => ⟨n, Nat.lt_succ_self _, h₃, t₃, led₂, bs₂, rfl, J₃, W⟩
end
/-- a def that hands back a list of its own making -/
def FnL (lv : Nat) (f : Addr) (args : List PV) (l : List PV) : Prop := ∀ (C : Cx) (led : List (Addr × LO)) (bs : List (Str × PV)) (s : Shared) (Q E : Value → Shared → Prop) (vs : List Value), Inv C lv led bs s.heap → IsL C.mu s.heap vs args →
  (∀ a ws n h' tk, But [] s.heap h' → s.heap.get? a = none → h'.get? a = some (lstO ws n) → IsL C.mu h' ws l → Q (.ref a) (to s h' tk)) → wpAny (model Prog C.w) C.A (call (.ref f) vs) Q E s
section
variable {lv : Nat} {args l : List PV} {name qual : Str} {params : Arguments} {body : List Stmt} {scope : Scope} {dV kV doc pm cdv ct oc : Value} {an od : Option Addr} {osl : Array (Option Value)} {f : Addr}
theorem FnL.of (ps : List Str)
    (ho : ∀ P, (hd.heap_39 P).lookup f = some ⟨oc, od, .func (fnOf name qual params body scope dV kV doc pm an cdv ct), osl⟩) (hcd : ∀ P, codeIn (hd.heap_39 P) cdv qual = true)
    (hb : ∀ vs : List Value, vs.length = args.length → bindArgs (fnOf name qual params body scope dV kV doc pm an cdv ct) ⟨vs, []⟩ = pure (ps.zip vs)) (hps : ps.Nodup) (hcn : ((cellsFrom 0 scope.names []).map (·.1)).Nodup) (hkp : (ps.all fun y => scope.names.lookup y == some .local || scope.names.lookup y == some .cell) = true)
    (hco : scope.isCoroutine = false) (hgen : scope.isGenerator = false) (hk : scope.kind = .function)
    (run : ∀ (C : Cx) (h h₁ : Heap), Inv (calleeCx C h [] [] qual scope f cdv) lv [] (ps.zip args) h₁ → Runs (calleeCx C h [] [] qual scope f cdv) lv [] body (.new l) h₁) : FnL (lv + 1) f args l := fun C led bs s Q E vs I iL k =>
  enter (bl := []) ps [] I (fun _ hq => nomatch hq) iL ho hcd (hb vs iL.1) hps hcn hkp hco hgen hk fun h₁ tk J => run C s.heap h₁ J s tk _ _ fun a ws n h' tk' kp _ na ea i =>
    k a ws n h' tk' (fun b o _ e => kp.1 b o (hideAll_get _ e fun z => nomatch z) fun q => nomatch q)
      (by
        cases q : s.heap.get? a with
        | none => rfl
        | some o => have := (show (hideAll s.heap []).get? a = some o from hideAll_get _ q fun z => nomatch z).symm.trans na; cases this) ea (i.off fun a ha => .inl (.tail _ (List.mem_append_right _ ha)))
end
section
variable {C : Cx} {lv lv' : Nat} {bs : List (Str × PV)} {led led' : List (Addr × LO)} {h : Heap} {o : Out} {rest : List Stmt} {l : List PV} {lo' : LO}
theorem Runs.retNew {es : List Expr} {lp pos : Pos} (I : Inv C lv led bs h) (hfs : C.fs = []) (a : EvL C h es l) (hz : l.length ≤ 16777216) : Runs C lv' led (.Return (some (.List es lp)) pos :: rest) (.new l) h := fun s tk Q E q =>
  wpAny_execs_cons (wpAny_Return_some (List_ (a.run lp (to s h tk) _ E .refl fun vs h' t' k' i => by
    have I' := (I.ext k').ext (h' := h'.push { cls := .type "list", data := .seq vs.toArray }) .push
    refine wpAny_newObj_type (s := to s h' t') (q h'.objs.size vs 0 _ _ I'.keptC I'.holds ?_ (Heap.get?_push_size _ rfl) (i.ext .push)) ?_
    · cases z : C.snap.get? h'.objs.size with
      | none => rfl
      | some o => exact absurd (Heap.lt_size ((I.ext k').keptC.1 _ o z (by rw [hfs]; exact fun w => nomatch w))) (Nat.lt_irrefl _)
    · show vs.toArray.size ≤ sizeLine
      rw [List.size_toArray, i.1, sizeLine_eq]; exact hz)))
/-- what a frame with one more object of its own hands on -/
theorem Post.back {a : Addr} {o' : Out} {s : Shared} {Q : Flow → Shared → Prop} {E : Value → Shared → Prop} (hem : a ∉ C.mu) (om : ∀ a ∈ C.own, a ∈ C.mu) (hm : ∀ q ∈ led', q.1 ∈ C.mu) (hb : o' = o ∨ ∃ l, lo' = .lst l ∧ o' = .ret (.ref a) ∧ o = .ret (.lst l)) (q : Post C lv' led' s Q E o) : Post (C.add a) lv' ((a, lo') :: led') s Q E o' := by
  have hold : ∀ {h}, Holds (C.add a).mu h ((a, lo') :: led') → Holds C.mu h led' := fun hh p hp => by obtain ⟨o, x, y⟩ := hh p (.tail _ hp); exact ⟨o, x, y.up fun a o n e => ⟨fun z => n (.tail _ z), e⟩⟩
  rcases hb with rfl | ⟨l, rfl, rfl, rfl⟩
  · cases o' with
    | ret X => exact fun v h tk kp hh i => q v h tk kp (hold hh) (i.off fun a ha => .inl (.tail _ ha))
    | exc c => exact q
    | next bs => exact fun h tk J => q h tk (J.drop (fun _ _ _ e => e) (fun q hq z => hem (z ▸ hm q hq)) om hem)
    | new l => exact fun a vs n h tk kp hh na ea i => q a vs n h tk kp (hold hh) na ea (i.off fun a ha => .inl (.tail _ ha))
  · exact fun v h tk kp hh i => q v h tk kp (hold hh) (by
      rw [i.ref']
      obtain ⟨o, e, vs, n, rfl, r⟩ := hh _ (.head _)
      have r' := r.off (mu' := C.mu) fun a ha => .inl (.tail _ ha)
      exact .lst hem e r'.1 r'.2)
/-- a name takes a list of a def's making, that the frame may change from now on -/
theorem Runs.asgNew {x y : Str} {f : Addr} {e : Expr} {es : List Expr} {xs : List PV} {np cp p pos : Pos} (I : Inv C lv led bs h) (ow : Own C) (hk : C.env.kindOf x = some .local) (hfs : ∀ b ∈ C.fs, b ∈ C.mu) (g : GlF y f) (a : EvL C h (e :: es) xs) (c : FnL lv f xs l) (hx : C.env.kindOf y = some .globalImplicit)
    (hm : ∀ q ∈ led', q.1 ∈ C.mu) (hi : ∀ x ∈ l, ∃ n : Int, x = .int n) (next : ∀ a h', a ∉ C.mu → Inv (C.add a) lv ((a, .lst l) :: led) ((x, .ref a) :: bs) h' → ∃ lo', Runs (C.add a) lv' ((a, lo') :: led') rest o h')
    (he : notStar e = true := by rfl) (hp : List.all es notStar = true := by rfl) (hs : swapsWith (.Call (.Name y np) (e :: es) [] cp) (some (.Name x p)) pos.line C.env = pure false := by rfl) :
    Runs C lv' led' (.Assign [.Name x p] (.Call (.Name y np) (e :: es) [] cp) pos :: rest) o h := fun s tk Q E q => by
  refine wpAny_execs_cons (wpAny_Assign_Name (Call_ (nameG (s := to s h tk) I (g.1 _).1 hx (callWith_K (h₀ := h) I.K (g.1 _).2 (a.run cp (to s h tk) _ E .refl fun vs h' t' k' i => ⟨(I.ext k').K, c C led bs (to s h' t') _ E vs (I.ext k') i fun b ws n h₂ t₂ k₂ nb eb ib => ?_⟩) (star_cons he) (star_plain hp cp)) g.2)) hs)
  have I' := I.ext k'
  have hem : b ∉ C.mu := fun z => by obtain ⟨_, _, _, _, _, _, _, _, _, _, _, _, _, hmu, _⟩ := I'; exact hmu b z nb
  have J := I'.adopt (lo := .lst l) k₂ nb eb ⟨ws, n, rfl, ib.1, fun i v x a b => by obtain ⟨m, rfl⟩ := hi x (List.mem_of_getElem? b); obtain ⟨t, rfl⟩ := (ib.2 i v _ a b).int'; exact .int _ _⟩ itemL hfs
  refine J.store (s := to s h₂ t₂) (.tail _ ow) hk (.ref b) fun h₃ t₃ J₃ => ?_
  obtain ⟨lo', r⟩ := next b h₃ hem J₃
  exact r s t₃ Q E (Post.back hem I.ownMu hm (.inl rfl) q)
theorem Inv.adoptNil (I : Inv C lv led bs h) (hfs : ∀ b ∈ C.fs, b ∈ C.mu) : h.objs.size ∉ C.mu ∧ Inv (C.add h.objs.size) lv ((h.objs.size, .lst []) :: led) bs (h.push { cls := .type "list", data := .seq #[] }) :=
  ⟨I.fresh, I.adopt .push (Heap.get?_none_of_le (Nat.le_refl _)) (Heap.get?_push_size _ rfl) ⟨[], 0, rfl, .nil⟩ itemL hfs⟩
/-- a name takes a new list -/
theorem Runs.asgList {x : Str} {p lp pos : Pos} (I : Inv C lv led bs h) (ow : Own C) (hk : C.env.kindOf x = some .local) (hfs : ∀ b ∈ C.fs, b ∈ C.mu) (hm : ∀ q ∈ led', q.1 ∈ C.mu)
    (next : ∀ a h', a ∉ C.mu → Inv (C.add a) lv ((a, .lst []) :: led) ((x, .ref a) :: bs) h' → ∃ o' lo', (o' = o ∨ ∃ l, lo' = .lst l ∧ o' = .ret (.ref a) ∧ o = .ret (.lst l)) ∧ Runs (C.add a) lv' ((a, lo') :: led') rest o' h')
    (hs : swapsWith (.List [] lp) (some (.Name x p)) pos.line C.env = pure false := by rfl) : Runs C lv' led' (.Assign [.Name x p] (.List [] lp) pos :: rest) o h := fun s tk Q E q => by
  refine wpAny_execs_cons (wpAny_Assign_Name (List_ (args_nil (wpAny_newObj_type (s := to s h tk) ?_ (by show _ ≤ sizeLine; rw [sizeLine_eq]; exact Nat.zero_le _)))) hs)
  obtain ⟨hem, J⟩ := I.adoptNil hfs
  refine J.store (s := to s _ tk) (.tail _ ow) hk (.ref _) fun h₃ t₃ J₃ => ?_
  obtain ⟨o', lo', hb, r⟩ := next _ h₃ hem J₃
  exact r s t₃ Q E (Post.back hem I.ownMu hm hb q)
/-- two names take a new list and a number -/
theorem Runs.asgList2 {x y : Str} {i : Int} {k n n' : Nat} {p p' tp lp cp vp pos : Pos} (I : Inv C lv led bs h) (ow : Own C) (hx : C.env.kindOf x = some .local) (hy : C.env.kindOf y = some .local) (hfs : ∀ b ∈ C.fs, b ∈ C.mu) (hm : ∀ q ∈ led', q.1 ∈ C.mu)
    (next : ∀ a h', a ∉ C.mu → Inv (C.add a) lv ((a, .lst []) :: led) ((x, .ref a) :: (y, .int i) :: bs) h' → ∃ o' lo', (o' = o ∨ ∃ l, lo' = .lst l ∧ o' = .ret (.ref a) ∧ o = .ret (.lst l)) ∧ Runs (C.add a) lv' ((a, lo') :: led') rest o' h')
    (hs : swapsWithSole [.Tuple [.Name x p, .Name y p'] n tp] (.Tuple [.List [] lp, .Constant (.int i) k cp] n' vp) pos.line C.env = pure false := by rfl) (hw : swappedStores [.Tuple [.Name x p, .Name y p'] n tp] (.Tuple [.List [] lp, .Constant (.int i) k cp] n' vp) C.env = pure (some [x, y]) := by rfl)
    (he : starEach [.List [] lp, .Constant (.int i) k cp] C.env = (false, eval (.List [] lp) C.env) :: starEach [.Constant (.int i) k cp] C.env := by rfl) (he' : starEach [Expr.Constant (.int i) k cp] C.env = (false, eval (.Constant (.int i) k cp) C.env) :: starEach [] C.env := by rfl) :
    Runs C lv' led' (.Assign [.Tuple [.Name x p, .Name y p'] n tp] (.Tuple [.List [] lp, .Constant (.int i) k cp] n' vp) pos :: rest) o h := fun s tk Q E q => by
  refine wpAny_execs_cons (PyProof.Rows.Assign_Tuple_swapped (Tuple_ (args_cons (List_ (args_nil (wpAny_newObj_type (s := to s h tk) ?_ (by show _ ≤ sizeLine; rw [sizeLine_eq]; exact Nat.zero_le _)))) he)) hs hw)
  obtain ⟨hem, J⟩ := I.adoptNil hfs
  refine args_cons (wpAny_Constant_int (args_nil (wpAny_newObj_type (s := to s _ _) ?_ (by show _ ≤ sizeLine; rw [sizeLine_eq]; exact Nat.le_of_ble_eq_true rfl)))) he'
  have J := J.ext (h' := _) (.push (o := { cls := .type "tuple", data := .seq #[.ref h.objs.size, .int i tk] }))
  refine PyProof.Rows.unpackItems_tuple (s := to s _ _) (items := #[.ref h.objs.size, .int i tk]) I.good.hh ⟨_, Heap.get?_push_size _ rfl, rfl, _, rfl⟩ fun h' he => ?_
  have k := ext_fresh he
  obtain ⟨G, B, X', T, F, hA, hf, ns, _⟩ := id (J.ext k)
  have fk : ∀ {b : Bool}, (C.env.scope.kind == .class || (C.env.scope.kind == .module && b)) = false := fun {b} => by rw [show C.env.scope.kind = _ from G.ek]; rfl
  refine assignInOrder_cons (bindName_ (wpAny_storeName_local hy ns (fun h₂ hn hs => ?_) fk))
  have J := (J.ext k).setLoc (.tail _ ow) hy (.int i tk) ns hn rfl hs
  refine assignInOrder_cons (bindName_ (J.store (s := to s h₂ _) (.tail _ ow) hx (.ref _) fun h₃ t₃ J₃ => assignInOrder_nil ?_))
  obtain ⟨o', lo', hb, r⟩ := next _ h₃ hem J₃
  exact r s t₃ Q E (Post.back hem I.ownMu hm hb q)
end
end Mine
end
section
open PySem PySem.W PySem.Spec PySem.Calls PyProof.Rows
namespace Mine
theorem sub0 {bs : List (Str × PV)} : ∀ x X, ([] : List (Str × PV)).lookup x = some X → bs.lookup x = some X := fun _ _ e => nomatch e
theorem subC {bs bs' : List (Str × PV)} {n : Str} {Y : PV} (h : bs.lookup n = some Y) (r : ∀ x X, bs'.lookup x = some X → bs.lookup x = some X) : ∀ x X, ((n, Y) :: bs').lookup x = some X → bs.lookup x = some X := fun x X e => by
  rw [List.lookup_cons] at e
  cases hb : x == n with
  | true => rw [hb] at e; cases e; rw [beq_iff_eq.mp hb]; exact h
  | false => rw [hb] at e; exact r x X e
theorem inOwn {C : Cx} {g : Heap} {it : Addr} (o : Own C) : Own (C.in g it) := .tail _ o
section
variable {C D : Cx} {g : Heap} {it acc : Addr} {lv lv' : Nat} {led' post : List (Addr × LO)} {t : Expr} {body rest : List Stmt} {o : Out}
/-- turns that go on, then others -/
theorem Loop.app {α : Type} (f : α → PV) (l : List α) {tail : List PV} (Lg : List α → List (Addr × LO)) (B : List α → List (Str × PV)) (hm : ∀ p, ∀ q ∈ Lg p, q.1 ∈ C.mu)
    (step : ∀ p x r, l = p ++ x :: r → ∃ bs₁, (∀ io, Asgn (C.in g it) lv ((it, .obj io) :: Lg p) t (f x) (B p) bs₁) ∧ ∀ io h, Inv (C.in g it) lv ((it, .obj io) :: Lg p) bs₁ h → Runs (C.in g it) lv ((it, .obj io) :: Lg (p ++ [x])) body (.next (B (p ++ [x]))) h)
    (tl : Loop C g it lv lv' led' t body rest o tail (Lg l) (B l)) : Loop C g it lv lv' led' t body rest o (l.map f ++ tail) (Lg []) (B []) := by
  have H : ∀ r p, l = p ++ r → Loop C g it lv lv' led' t body rest o (r.map f ++ tail) (Lg p) (B p) := by
    intro r
    induction r with
    | nil => intro p e; rw [List.append_nil] at e; rw [← e]; exact tl
    | cons x r ih =>
      intro p e
      obtain ⟨bs₁, a, b⟩ := step p x r e
      exact ⟨hm p, bs₁, a, .inr ⟨_, _, b, ih (p ++ [x]) (by rw [e, List.append_assoc]; rfl)⟩⟩
  exact H l [] rfl
theorem Loop.all {α : Type} (f : α → PV) (l : List α) (Lg : List α → List (Addr × LO)) (B : List α → List (Str × PV)) (hm : ∀ p, ∀ q ∈ Lg p, q.1 ∈ C.mu)
    (step : ∀ p x r, l = p ++ x :: r → ∃ bs₁, (∀ io, Asgn (C.in g it) lv ((it, .obj io) :: Lg p) t (f x) (B p) bs₁) ∧ ∀ io h, Inv (C.in g it) lv ((it, .obj io) :: Lg p) bs₁ h → Runs (C.in g it) lv ((it, .obj io) :: Lg (p ++ [x])) body (.next (B (p ++ [x]))) h)
    (fin : ∀ h, Inv C lv (Lg l) (B l) h → Runs C lv' led' rest o h) : Loop C g it lv lv' led' t body rest o (l.map f) (Lg []) (B []) := by
  have := Loop.app (tail := []) f l Lg B hm step ⟨hm l, fin⟩
  rwa [List.append_nil] at this
/-- turns counted down, with a state -/
theorem Loop.fuel {σ : Type} (P : Nat → σ → Prop) (Lg : σ → List (Addr × LO)) (B : σ → List (Str × PV)) (hm : ∀ s, ∀ q ∈ Lg s, q.1 ∈ C.mu)
    (step : ∀ n s (i : Int), P (n + 1) s → ∃ bs₁, (∀ io, Asgn (C.in g it) lv ((it, .obj io) :: Lg s) t (.int i) (B s) bs₁) ∧
      ((o.leaves ∧ ∀ io h, Inv (C.in g it) lv ((it, .obj io) :: Lg s) bs₁ h → Runs (C.in g it) lv' ((it, .obj io) :: led') body o h) ∨
        ∃ s', P n s' ∧ ∀ io h, Inv (C.in g it) lv ((it, .obj io) :: Lg s) bs₁ h → Runs (C.in g it) lv ((it, .obj io) :: Lg s') body (.next (B s')) h))
    (fin : ∀ s, P 0 s → ∀ h, Inv C lv (Lg s) (B s) h → Runs C lv' led' rest o h) : ∀ (r : List Nat) (s : σ), P r.length s → Loop C g it lv lv' led' t body rest o (r.map fun (i : Nat) => .int i) (Lg s) (B s)
  | [], s, p => ⟨hm s, fin s p⟩
  | x :: r, s, p => by
    obtain ⟨bs₁, a, b⟩ := step r.length s x p
    refine ⟨hm s, bs₁, a, b.imp id fun ⟨s', p', q⟩ => ⟨_, _, q, Loop.fuel P Lg B hm step fin r s' p'⟩⟩
theorem WLoop.fuel {σ : Type} (P : Nat → σ → Prop) (Lg : σ → List (Addr × LO)) (B : σ → List (Str × PV))
    (step : ∀ n s, P n s → (TvM C lv (B s) (Lg s) t false (Lg s) ∧ ∀ h, Inv C lv (Lg s) (B s) h → Runs C lv' led' rest o h) ∨
      ∃ m, n = m + 1 ∧ TvM C lv (B s) (Lg s) t true (Lg s) ∧ ((o.leaves ∧ ∀ h, Inv C lv (Lg s) (B s) h → Runs C lv' led' body o h) ∨ ∃ s', P m s' ∧ ∀ h, Inv C lv (Lg s) (B s) h → Runs C lv (Lg s') body (.next (B s')) h)) :
    ∀ (n : Nat) (s : σ), P n s → WLoop C lv lv' led' t body rest o n (Lg s) (B s)
  | 0, s, p => by
    rcases step 0 s p with ⟨a, b⟩ | ⟨m, e, _⟩
    · exact ⟨_, a, b⟩
    · exact absurd e (Nat.succ_ne_zero m).symm
  | n + 1, s, p => by
    rcases step (n + 1) s p with ⟨a, b⟩ | ⟨m, e, a, b⟩
    · exact ⟨false, _, a, b⟩
    · cases e
      exact ⟨true, _, a, b.imp id fun ⟨s', p', q⟩ => ⟨_, _, q, WLoop.fuel P Lg B step n s' p'⟩⟩
/-- what is drawn one after the other -/
def runT {S : Type} (f : PV → S → PV × S) : List PV → S → List PV × S
  | [], p => ([], p)
  | x :: xs, p => ((f x p).1 :: (runT f xs (f x p).2).1, (runT f xs (f x p).2).2)
theorem runT_len {S : Type} (f : PV → S → PV × S) : ∀ (l : List PV) (p : S), (runT f l p).1.length = l.length
  | [], _ => rfl
  | _ :: l, _ => congrArg (· + 1) (runT_len f l _)
theorem runT_all {S : Type} (f : PV → S → PV × S) {G : PV → Prop} {O : S → Prop} : ∀ (l : List PV) (p : S), O p → (∀ x ∈ l, ∀ p, O p → G (f x p).1 ∧ O (f x p).2) → (∀ z ∈ (runT f l p).1, G z) ∧ O (runT f l p).2
  | [], p, h, _ => ⟨fun _ q => (nomatch q), h⟩
  | x :: l, p, h, k => by
    obtain ⟨a, b⟩ := k x (.head _) p h
    obtain ⟨c, d⟩ := runT_all f l _ b fun y hy => k y (.tail _ hy)
    exact ⟨fun z hz => (List.mem_cons.mp hz).elim (fun e => e ▸ a) (c z), d⟩
theorem Turns.draw {S : Type} {bsD : List (Str × PV)} {n : Str} {p : Pos} {elt : Expr} {ok : List (Addr × LO) → Prop} (f : PV → S → PV × S) (Lg : S → List (Addr × LO)) (O : S → Prop) (ow : Own D) (hk : D.env.kindOf n = some .local) (hok : ∀ p, ok (Lg p)) {l : List PV} (hs : ∀ x ∈ l, ∀ p, O p → O (f x p).2)
    (el : ∀ x ∈ l, ∀ p, O p → ∀ io ys, EvM D lv ((n, x) :: bsD) ((it, .obj io) :: (acc, .lst ys) :: Lg p) elt (f x p).1 ((it, .obj io) :: (acc, .lst ys) :: Lg (f x p).2)) : ∀ {q : S} {bs : List (Str × PV)} {ys : List PV}, O q → Under n bsD bs → ys.length + l.length ≤ 1000 →
    Turns D it acc lv (.Name n p) [] elt ok l (Lg q) bs ys (ys ++ (runT f l q).1) (Lg (runT f l q).2) := by
  induction l with
  | nil => intro q bs ys _ _ _; exact ⟨hok q, by simp [runT], rfl⟩
  | cons x l ih =>
    intro q bs ys hq u hz
    rw [List.length_cons] at hz
    have := @ih (fun y hy => hs y (.tail _ hy)) (fun y hy => el y (.tail _ hy)) (f x q).2 ((n, x) :: bsD) (ys ++ [(f x q).1]) (hs x (.head _) q hq) Under.add (by rw [List.length_append]; simp only [List.length_singleton]; omega)
    rw [List.append_assoc] at this
    exact ⟨hok q, by omega, (n, x) :: bsD, fun io => (Asgn.name ow hk).sub u.look, true, Lg q, .inl ⟨rfl, rfl, rfl⟩, (f x q).1, Lg (f x q).2, fun io => el x (.head _) q hq io ys, this⟩
/-- pairs taken apart, with a test -/
theorem Turns.pair {α : Type} {n m : Str} {p p' tp : Pos} {k : Nat} {ifs : List Expr} {elt : Expr} {ok : List (Addr × LO) → Prop} {led : List (Addr × LO)} (a b : α → PV) (f : α → PV) (t : α → Bool) (ow : Own D) (hn : D.env.kindOf n = some .local) (hm : D.env.kindOf m = some .local) (hok : ok led) {l : List α}
    (hi : (ifs = [] ∧ ∀ x ∈ l, t x = true) ∨ ∃ c, ifs = [c] ∧ ∀ x ∈ l, ∀ led h, Inv D lv led [(m, b x), (n, a x)] h → Tv D h c (t x))
    (el : ∀ x ∈ l, t x = true → ∀ led h, Inv D lv led [(m, b x), (n, a x)] h → Ev D h elt (f x)) : ∀ {bs : List (Str × PV)} {ys : List PV}, ys.length + l.length ≤ 1000 →
    Turns D it acc lv (.Tuple [.Name n p, .Name m p'] k tp) ifs elt ok (l.map fun x => .tup [a x, b x]) led bs ys (ys ++ (l.filter t).map f) led := by
  induction l with
  | nil => intro bs ys _; exact ⟨hok, by simp, rfl⟩
  | cons x l ih =>
    intro bs ys hz
    rw [List.length_cons] at hz
    have ih' := @ih (hi.imp (fun z => ⟨z.1, fun y hy => z.2 y (.tail _ hy)⟩) fun z => z.imp fun c z => ⟨z.1, fun y hy => z.2 y (.tail _ hy)⟩) (fun y hy => el y (.tail _ hy))
    have two : ∀ Z W, ((m, b x) :: (n, a x) :: bs).lookup Z = some W ∨ True := fun _ _ => .inr trivial
    have look : ∀ Z W, ([(m, b x), (n, a x)] : List (Str × PV)).lookup Z = some W → ((m, b x) :: (n, a x) :: bs).lookup Z = some W := fun Z W e => by
      rw [List.lookup_cons] at e ⊢
      cases h : Z == m with
      | true => rw [h] at e; exact e
      | false =>
        rw [h] at e
        rw [List.lookup_cons] at e ⊢
        cases h' : Z == n with
        | true => rw [h'] at e; exact e
        | false => rw [h'] at e; exact nomatch e
    refine ⟨hok, by omega, [(m, b x), (n, a x)], fun io => (Asgn.tup (.cons (.name ow hn) (.cons (.name ow hm) .nil))).sub look, t x, led, ?_, ?_⟩
    · rcases hi with ⟨z, y⟩ | ⟨c, z, y⟩
      · exact .inl ⟨z, y x (.head _), rfl⟩
      · exact .inr ⟨c, z, fun io => .of fun h I => y x (.head _) _ h I⟩
    · cases ht : t x with
      | true =>
        rw [List.filter_cons, if_pos ht, List.map_cons]
        have := ih' (bs := [(m, b x), (n, a x)]) (ys := ys ++ [f x]) (by rw [List.length_append]; simp only [List.length_singleton]; omega)
        rw [List.append_assoc] at this
        exact ⟨f x, led, fun io => .of fun h I => el x (.head _) ht _ h I, this⟩
      | false =>
        rw [show (x :: l).filter t = l.filter t from List.filter_cons_of_neg (by rw [ht]; exact Bool.false_ne_true)]
        exact ih' (by omega)
end
end Mine
end
section
open PySem PySem.W PySem.Spec PySem.Calls PyProof.Rows
namespace Mine
theorem FoIn {C : Cx} {g : Heap} {it : Addr} (fo : Fo C) (hg : ∀ a ∈ C.own, g.get? a = none) : Fo (C.in g it) where
  m := fun b hb => .tail _ (fo.m b hb)
  s := fun b hb n => hg b (fo.o b hb n)
  f := fun b hb => .tail _ (fo.f b hb)
  o := fun b hb n => .tail _ (fo.o b hb n)
theorem FoComp {C : Cx} {scope : Scope} {cl : List (Str × Addr)} {g : Heap} {L it acc : Addr} {as : List Addr} (fo : Fo C) : Fo (C.comp scope cl g L it acc as (frsA C.A)) where
  m := fun b hb => .tail _ (.tail _ (.tail _ (fo.m b hb)))
  s := fun b hb n => absurd hb n
  f := fun b hb => .tail _ (.tail _ (.tail _ (fo.m b hb)))
  o := fun b hb n => absurd hb n
theorem calleeCell {C : Cx} {h : Heap} {ma fs : List Addr} {qual : Str} {scope : Scope} {f : Addr} {cdv : Value} {x : Str} {c : Addr} (e : (calleeCx C h ma fs qual scope f cdv).env.cells.lookup x = some c) : c ∈ (calleeCx C h ma fs qual scope f cdv).own :=
  .tail _ (List.mem_append_left _ (List.mem_map.mpr ⟨_, mem_of_lookup e, rfl⟩))
section
variable {C : Cx} {lv lv' : Nat} {bs bs₁ : List (Str × PV)} {led led₁ led' : List (Addr × LO)} {h : Heap} {o : Out} {rest : List Stmt}
theorem Inv.memMu (I : Inv C lv led bs h) {q : Addr × LO} (hq : q ∈ led) : q.1 ∈ C.mu := I.ownMu _ (I.entry hq).choose_spec.2.2.1
theorem Runs.asgCM {x : Str} {e : Expr} {p pos : Pos} {X : PV} {c : Addr} (I : Inv C lv led bs h) (a : EvM C lv bs led e X led₁) (hk : C.env.kindOf x = some .cell) (hc : C.env.cells.lookup x = some c) (co : c ∈ C.own) (next : ∀ h', Inv C lv led₁ ((x, X) :: bs) h' → Runs C lv' led' rest o h')
    (hs : swapsWith e (some (.Name x p)) pos.line C.env = pure false := by rfl) : Runs C lv' led' (.Assign [.Name x p] e pos :: rest) o h := fun s tk Q E q =>
  wpAny_execs_cons (wpAny_Assign_Name (a (to s h tk) _ E I fun v h' tk' J k i => J.storeC (s := to s h' tk') hk hc co i fun h'' tk'' J => next h'' J s tk'' Q E q) hs)
theorem Runs.ifFM {t : Expr} {b : List Stmt} {pos : Pos} (I : Inv C lv led bs h) (a : TvM C lv bs led t false led₁) (next : ∀ h', Inv C lv led₁ bs h' → Runs C lv' led' rest o h') : Runs C lv' led' (.If t b [] pos :: rest) o h := Runs.iteNM I a (fun h' J => .nil J) next
theorem TvM.andP {e : Expr} {r : List Expr} {pos : Pos} {a b : Bool} (x : TvM C lv bs led e a led₁) (y : ∀ h, Inv C lv led₁ bs h → a = true → Tv C h (.BoolOp .And r pos) b) : TvM C lv bs led (.BoolOp .And (e :: r) pos) (a && b) led₁ := by
  cases a with
  | false => exact .andF x
  | true => exact .andT x (.of fun h I => y h I rfl)
theorem cl0 {α β : Type} [BEq α] {m : List (α × β)} : ∀ x c, ([] : List (α × β)).lookup x = some c → m.lookup x = some c := fun _ _ e => nomatch e
theorem clC {m cl : List (Str × Addr)} {n : Str} {a : Addr} (h : m.lookup n = some a) (r : ∀ x c, cl.lookup x = some c → m.lookup x = some c) : ∀ x c, ((n, a) :: cl).lookup x = some c → m.lookup x = some c := fun x c e => by
  rw [List.lookup_cons] at e
  cases hb : x == n with
  | true => rw [hb] at e; cases e; rw [beq_iff_eq.mp hb]; exact h
  | false => rw [hb] at e; exact r x c e
end
end Mine
end
section
open PySem PySem.W PySem.Spec PySem.Calls PyProof.Rows Builtin Builtin.Bytes
namespace Mine
theorem slot_join : Slot "bytes" "join" "bytes.join" :=
  .of (owner := "bytes") (n := "join") (by rw [typeLookup_type, builtinLookup_eq_fast]; kernel_rfl) (by decide +kernel) (by decide +kernel) (by decide +kernel)
    (by first | exact .inl (by decide +kernel) | exact .inr (by decide +kernel)) (by rw [isSubtype_type]; kernel_rfl)
theorem type_join : typeOf (.builtin "bytes.join") = pure (.type "method_descriptor") := by show builtinType _ = _; rw [builtinType_eq_fast]; kernel_rfl
theorem entry_join : entryFor table "bytes.join" = some Builtin.«bytes.join» := entryFor_of_tree (by kernel_rfl)
theorem args_join (a b : Value) : argsOk "bytes.join" ⟨[a, b], []⟩ := by
  unfold argsOk; rw [signature?_of (id := "bytes.join") (n := ['n', 'i', 'o', 'j']) (o := ['s', 'e', 't', 'y', 'b']) (by kernel_rfl) (by first | exact PySem.W.FB.owner_bytes | exact FB.owner_bytes)]; kernel_rfl
theorem take_eq {id : String} {b : Array UInt8} {t : Tok} : takeBufferQuiet? id (.bytes b t) 0 = pure (some (b, none)) := by
  unfold takeBufferQuiet? takeBuffer?
  rw [KBy.special_eq KBy.look_buffer, KBy.own_buffer]
  have : ∀ f, buffer? id (.bytes b t) f = pure (some b) := fun f => by
    unfold buffer?
    rw [KBy.special_eq KBy.look_buffer, KBy.own_buffer, KBy.own_release]
    kernel_rfl
  simp only [this]
  kernel_rfl
section
variable {M : Model} {A : Around} {E : Value → Shared → Prop} {s : Shared}
theorem seq_at {a : Addr} {vs : Array Value} {n : Nat} {Q : Option (Array Value) → Shared → Prop} (h : s.heap.get? a = some (listOf vs n)) (q : Q (some vs) s) : wpAny M A (seqItems? (.ref a)) Q E s := by
  unfold seqItems?
  exact wpAny_bind (wpAny_load h (wpAny_pure q))
theorem join_items {a : Addr} {vs : Array Value} {n : Nat} {Q : Value → Shared → Prop} (h : s.heap.get? a = some (listOf vs n)) (q : Q (.ref a) s) : wpAny M A (joinItems (.ref a)) Q E s := by
  unfold joinItems
  refine wpAny_bind (wpAny_typeOf (T := "list") ⟨_, h, rfl⟩ ?_)
  exact bm_if_true rfl (wpAny_pure q)
theorem letGo_all {Q : Unit → Shared → Prop} : ∀ (l : List Value) {keep : List Value}, Q () s → wpAny M A (letGo l keep) Q E s
  | [], _, q => wpAny_pure q
  | _ :: r, keep, q => wpAny_bind (wpAny_holding (wpAny_point (letGo_all r q)))
theorem joinLetGo_all {Q : Unit → Shared → Prop} : ∀ (l : List (Value × Option Value)) {keep : List Value}, (∀ p ∈ l, p.2 = none) → Q () s → wpAny M A (joinLetGo l keep) Q E s
  | [], _, _, q => wpAny_pure q
  | (x, w) :: r, keep, h, q => by
    have : w = none := h _ (.head _)
    subst this
    unfold joinLetGo
    exact wpAny_bind (letGo_all _ (joinLetGo_all r (fun p hp => h p (.tail _ hp)) q))
end
theorem range_list (n : Nat) : List.range' ([:n] : Std.Legacy.Range).start ([:n] : Std.Legacy.Range).size ([:n] : Std.Legacy.Range).step = List.range' 0 n := by simp [Std.Legacy.Range.size]
theorem join_meets0 (t : Tok) (a : Addr) (n : Nat) : Meets («bytes.join» ⟨[.bytes #[] t, .ref a], []⟩) (fun _ R s => s.heap.get? a = some (listOf #[] n) ∧ (#[] : Array UInt8).size ≤ 16777216 ∧ ∀ t' k, R (.ok (.ret (.bytes (#[]) t'))) { s with toks := k }) := by
  refine .of_wp fun prog w A R s ⟨h1, h2, h3⟩ => ?_
  unfold «bytes.join» joinM
  refine wpAny_bind (wpAny_of_eq (a := (.bytes #[] t, .ref a)) rfl ?_)
  refine bm_if_true rfl (wpAny_bind (join_items h1 (wpAny_bind (seq_at h1 ?_))))
  refine bm_if_true rfl ?_
  refine wpAny_bind ?_
  rw [Std.Legacy.Range.forIn_eq_forIn_range', range_list]
  refine wpAny_pure ?_
  refine wpAny_bind (wpAny_of_eq (a := #[]) rfl ?_)
  refine bm_if_false (KBy.tooLong_not (by simp at h2 ⊢)) ?_
  have e : joined #[] [] = #[] := by simp [joined]
  refine wpAny_bind (wpAny_mkBytes ?_ (by show (joined #[] []).size ≤ _; rw [e, sizeLine_eq]; exact h2))
  refine wpAny_bind (wpAny_holding (wpAny_point (wpAny_bind (joinLetGo_all _ (by simp) (wpAny_pure ⟨_, rfl, ?_⟩)))))
  have := h3 s.toks (s.toks + 1)
  rw [← e] at this
  exact this
theorem join_meets2 (t : Tok) (a : Addr) (n : Nat) (b0 b1 : Array UInt8) (t0 t1 : Tok) : Meets («bytes.join» ⟨[.bytes #[] t, .ref a], []⟩) (fun _ R s => s.heap.get? a = some (listOf #[.bytes b0 t0, .bytes b1 t1] n) ∧ (b0 ++ b1 : Array UInt8).size ≤ 16777216 ∧ ∀ t' k, R (.ok (.ret (.bytes (b0 ++ b1) t'))) { s with toks := k }) := by
  refine .of_wp fun prog w A R s ⟨h1, h2, h3⟩ => ?_
  unfold «bytes.join» joinM
  refine wpAny_bind (wpAny_of_eq (a := (.bytes #[] t, .ref a)) rfl ?_)
  refine bm_if_true rfl (wpAny_bind (join_items h1 (wpAny_bind (seq_at h1 ?_))))
  refine bm_if_true rfl ?_
  refine wpAny_bind ?_
  rw [Std.Legacy.Range.forIn_eq_forIn_range', range_list]
  show wpAny _ _ (forIn [0, 1] _ _) _ _ _
  rw [List.forIn_cons]
  refine wpAny_bind (wpAny_bind (seq_at h1 ?_))
  refine bm_if_false rfl (wpAny_bind (wpAny_holding (wpAny_of_eq take_eq (wpAny_bind (seq_at h1 (bm_if_false rfl (wpAny_pure ?_)))))))
  show wpAny _ _ (forIn [1] _ _) _ _ _
  rw [List.forIn_cons]
  refine wpAny_bind (wpAny_bind (seq_at h1 ?_))
  refine bm_if_false rfl (wpAny_bind (wpAny_holding (wpAny_of_eq take_eq (wpAny_bind (seq_at h1 (bm_if_false rfl (wpAny_pure ?_)))))))
  refine wpAny_pure ?_
  refine wpAny_bind (wpAny_of_eq (a := #[]) rfl ?_)
  refine bm_if_false (KBy.tooLong_not (by simp at h2 ⊢; omega)) ?_
  have e : joined #[] [b0, b1] = b0 ++ b1 := by simp [joined]
  refine wpAny_bind (wpAny_mkBytes ?_ (by show (joined #[] [b0, b1]).size ≤ _; rw [e, sizeLine_eq]; exact h2))
  refine wpAny_bind (wpAny_holding (wpAny_point (wpAny_bind (joinLetGo_all _ (by simp) (wpAny_pure ⟨_, rfl, ?_⟩)))))
  have := h3 s.toks (s.toks + 1)
  rw [← e] at this
  exact this
theorem join_meets3 (t : Tok) (a : Addr) (n : Nat) (b0 b1 b2 : Array UInt8) (t0 t1 t2 : Tok) : Meets («bytes.join» ⟨[.bytes #[] t, .ref a], []⟩) (fun _ R s => s.heap.get? a = some (listOf #[.bytes b0 t0, .bytes b1 t1, .bytes b2 t2] n) ∧ (b0 ++ b1 ++ b2 : Array UInt8).size ≤ 16777216 ∧ ∀ t' k, R (.ok (.ret (.bytes (b0 ++ b1 ++ b2) t'))) { s with toks := k }) := by
  refine .of_wp fun prog w A R s ⟨h1, h2, h3⟩ => ?_
  unfold «bytes.join» joinM
  refine wpAny_bind (wpAny_of_eq (a := (.bytes #[] t, .ref a)) rfl ?_)
  refine bm_if_true rfl (wpAny_bind (join_items h1 (wpAny_bind (seq_at h1 ?_))))
  refine bm_if_true rfl ?_
  refine wpAny_bind ?_
  rw [Std.Legacy.Range.forIn_eq_forIn_range', range_list]
  show wpAny _ _ (forIn [0, 1, 2] _ _) _ _ _
  rw [List.forIn_cons]
  refine wpAny_bind (wpAny_bind (seq_at h1 ?_))
  refine bm_if_false rfl (wpAny_bind (wpAny_holding (wpAny_of_eq take_eq (wpAny_bind (seq_at h1 (bm_if_false rfl (wpAny_pure ?_)))))))
  show wpAny _ _ (forIn [1, 2] _ _) _ _ _
  rw [List.forIn_cons]
  refine wpAny_bind (wpAny_bind (seq_at h1 ?_))
  refine bm_if_false rfl (wpAny_bind (wpAny_holding (wpAny_of_eq take_eq (wpAny_bind (seq_at h1 (bm_if_false rfl (wpAny_pure ?_)))))))
  show wpAny _ _ (forIn [2] _ _) _ _ _
  rw [List.forIn_cons]
  refine wpAny_bind (wpAny_bind (seq_at h1 ?_))
  refine bm_if_false rfl (wpAny_bind (wpAny_holding (wpAny_of_eq take_eq (wpAny_bind (seq_at h1 (bm_if_false rfl (wpAny_pure ?_)))))))
  refine wpAny_pure ?_
  refine wpAny_bind (wpAny_of_eq (a := #[]) rfl ?_)
  refine bm_if_false (KBy.tooLong_not (by simp at h2 ⊢; omega)) ?_
  have e : joined #[] [b0, b1, b2] = b0 ++ b1 ++ b2 := by simp [joined]
  refine wpAny_bind (wpAny_mkBytes ?_ (by show (joined #[] [b0, b1, b2]).size ≤ _; rw [e, sizeLine_eq]; exact h2))
  refine wpAny_bind (wpAny_holding (wpAny_point (wpAny_bind (joinLetGo_all _ (by simp) (wpAny_pure ⟨_, rfl, ?_⟩)))))
  have := h3 s.toks (s.toks + 1)
  rw [← e] at this
  exact this
theorem join_meets1 (t : Tok) (a : Addr) (n : Nat) (b0 : Array UInt8) (t0 : Tok) : Meets («bytes.join» ⟨[.bytes #[] t, .ref a], []⟩) (fun _ R s => s.heap.get? a = some (listOf #[.bytes b0 t0] n) ∧ R (.ok (.ret (.bytes b0 t0))) s) := by
  refine .of_wp fun prog w A R s ⟨h1, h3⟩ => ?_
  unfold «bytes.join» joinM
  refine wpAny_bind (wpAny_of_eq (a := (.bytes #[] t, .ref a)) rfl ?_)
  refine bm_if_true rfl (wpAny_bind (join_items h1 (wpAny_bind (seq_at h1 ?_))))
  refine bm_if_true rfl ?_
  refine wpAny_bind (wpAny_typeOf (W.typeIs_bytes s b0 t0) ?_)
  refine bm_if_true rfl ?_
  exact wpAny_bind (wpAny_rule (wpAny_pure ⟨_, rfl, h3⟩))
end Mine
end
section
open PySem PySem.W PySem.Spec PySem.Calls PyProof.Rows Builtin
namespace Mine
theorem byts_of {mu : List Addr} {h : Heap} : ∀ {bl : List (List UInt8)} {vs : List Value}, IsL mu h vs (bl.map PV.byt) → ∃ ts : List Tok, ts.length = bl.length ∧ vs = (bl.zip ts).map fun p => .bytes p.1.toArray p.2
  | [], vs, i => ⟨[], rfl, i.nil'⟩
  | b :: bl, vs, i => by
    obtain ⟨v, ws, rfl, a, r⟩ := i.cons'
    obtain ⟨t, rfl⟩ := a.byt'
    obtain ⟨ts, e, rfl⟩ := byts_of r
    exact ⟨t :: ts, congrArg (· + 1) e, rfl⟩
section
variable {prog : Program} {w : World} {A : Around} {E : Value → Shared → Prop} {s : Shared}
theorem call_join {a : Addr} {n : Nat} {t : Tok} {bl : List (List UInt8)} {ts : List Tok} {Q : Value → Shared → Prop} (e : ts.length = bl.length) (h : s.heap.get? a = some (lstO ((bl.zip ts).map fun p => .bytes p.1.toArray p.2) n)) (hn : bl.length ≤ 3) (hz : bl.flatten.length ≤ 16777216)
    (q : ∀ t' k, Q (.bytes bl.flatten.toArray t') { s with toks := k }) : wpAny (model prog w) A (call (.builtin "bytes.join") [.bytes #[] t, .ref a]) Q E s := by
  match bl, ts, e with
  | [], [], _ => exact call_meets slot_join (typeIs_bytes _ _ _) entry_join (args_join _ _) (join_meets0 t a n) ⟨h, by simp, fun t' k => q t' k⟩
  | [b0], [t0], _ => exact call_meets slot_join (typeIs_bytes _ _ _) entry_join (args_join _ _) (join_meets1 t a n b0.toArray t0) ⟨h, by have := q t0 s.toks; simpa using this⟩
  | [b0, b1], [t0, t1], _ => exact call_meets slot_join (typeIs_bytes _ _ _) entry_join (args_join _ _) (join_meets2 t a n b0.toArray b1.toArray t0 t1) ⟨h, by simpa using hz, fun t' k => by have := q t' k; simpa using this⟩
  | [b0, b1, b2], [t0, t1, t2], _ => exact call_meets slot_join (typeIs_bytes _ _ _) entry_join (args_join _ _) (join_meets3 t a n b0.toArray b1.toArray b2.toArray t0 t1 t2) ⟨h, by simp at hz ⊢; omega, fun t' k => by have := q t' k; simpa using this⟩
  | _ :: _ :: _ :: _ :: _, _, _ => simp at hn
theorem mul_at {l : Addr} {items : Array Value} {k : Nat} {x : Int} {u : Tok} {Q : Value → Shared → Prop} (hl : s.heap.get? l = some (listOf items k)) (h0 : 0 ≤ x) (h1 : x ≤ 1000) (hsz : items.size * x.toNat ≤ 2 ^ 24)
    (q : Q (.ref s.heap.objs.size) { s with heap := s.heap.push { cls := .type "list", data := .seq (List.foldl (fun x1 x2 => x1 ++ x2) #[] (List.replicate (if items.isEmpty = true then 0 else x.toNat) items)) } }) :
    wpAny (model prog w) A (binaryOp .Mult (.ref l) (.int x u)) Q E s :=
  wpAny_binaryOp_repeat_ref (T := "list") (U := "int") (by decide) ⟨_, hl, rfl⟩ (fun s' => typeIs_int s' x u) noFill_list_mul F.fills_int_mul F.slot_int_rmul repeat_list F.slot_int_index.lookup
    (call_meets F.slot_int_rmul (typeIs_int s x u) F.entry_int_rmul (F.args_int_rmul_2 _ _) (int___rmul___int_list x u l items k)
      ⟨hl, rfl, ⟨_, hl, rfl⟩, call_meets F.slot_list_mul ⟨_, hl, rfl⟩ F.entry_list_mul (F.args_list_mul_2 _ _)
        (AutoListH.list___mul___list_int_3 l items k x u (by simp [Builtin.List.listFitsIndex]; omega) (by omega) (by simp [Builtin.List.listTooLong, sizeLine]; omega)) ⟨hl, q⟩⟩)
end
theorem fold_rep (v : Value) : ∀ (n : Nat) (acc : Array Value), List.foldl (fun x1 x2 => x1 ++ x2) acc (List.replicate n #[v]) = acc ++ (List.replicate n v).toArray
  | 0, acc => by simp
  | n + 1, acc => by
    have e : (#[v] : Array Value) ++ (List.replicate n v).toArray = (List.replicate (n + 1) v).toArray := by
      apply Array.toList_inj.mp; simp [List.replicate_succ]
    rw [List.replicate_succ, List.foldl_cons, fold_rep v n, Array.append_assoc, e]
section
variable {C : Cx} {lv : Nat} {bs : List (Str × PV)} {led led₁ led₂ : List (Addr × LO)}
theorem EvM.mul1 {l r : Expr} {pos : Pos} {X : PV} {n : Nat} (a : EvM C lv bs led l (.lst [X]) led₁) (b : EvM C lv bs led₁ r (.int n) led₂) (hn : n ≤ 1000) : EvM C lv bs led (.BinOp l .Mult r pos) (.lst (List.replicate n X)) led₂ := fun s Q E I q =>
  wpAny_BinOp (a s _ E I fun v h₁ t₁ I₁ k₁ i₁ => b (to s h₁ t₁) _ E I₁ fun w h₂ t₂ I₂ k₂ i₂ => by
    obtain ⟨a1, vs, m, rfl, m1, e1, r1⟩ := (i₁.but k₂).lst'
    obtain ⟨v, rfl, iv⟩ := r1.one
    obtain ⟨t, rfl⟩ := i₂.int'
    refine mul_at (s := to s h₂ t₂) e1 (by omega) (by omega) (by show 1 * _ ≤ _; omega) ?_
    rw [show (if (#[v] : Array Value).isEmpty = true then 0 else (n : Int).toNat) = n from rfl, fold_rep, Array.empty_append]
    refine q _ _ _ (I₂.ext .push) ((k₁.trans k₂).trans But.push.any) (.lst (n := 0) I₂.fresh (Heap.get?_push_size _ rfl) (by simp) fun i w x e f => ?_)
    rw [List.getElem?_replicate] at e f
    split at e
    · rename_i hi; rw [if_pos hi] at f; cases e; cases f; exact iv.ext .push
    · cases e)
theorem EvM.join {w : Expr} {k : Nat} {cp ap p : Pos} {bl : List (List UInt8)} (z : EvM C lv bs led w (.lst (bl.map PV.byt)) led₁) (hn : bl.length ≤ 3) (hz : bl.flatten.length ≤ 16777216)
    (hc : ∃ pl, eval (.Call (.Attribute (.Constant (.bytes []) k cp) "join" ap) [w] [] p) C.env = (do
      let ov ← eval (.Constant (.bytes []) k cp) C.env
      standAt ap.atName
      let (f, first) ← holding [ov] (getMethod ov "join" pl)
      callWith p f first (backTo p (starEach [w] C.env)) []) := by exact ⟨_, rfl⟩) (he : notStar w = true := by rfl) : EvM C lv bs led (.Call (.Attribute (.Constant (.bytes []) k cp) "join" ap) [w] [] p) (.byt bl.flatten) led₁ := fun s Q E I q => by
  obtain ⟨pl, hc⟩ := hc
  refine MethodCall_ (pl := pl) ((show Ev C s.heap _ _ from Ev.byt) s _ E .refl fun v h₁ t₁ k₁ i₁ => ?_) hc
  obtain ⟨t, rfl⟩ := i₁.byt'
  refine KBd.method_of (s := to s h₁ t₁) (.bytes [].toArray t) (typeIs_bytes _ _ _) slot_join type_join KBd.noRef (callWith_method1 (args_cons (z (to s h₁ t₁) _ E (I.ext k₁) fun v h₂ t₂ I₂ k₂ i₂ => args_nil ?_) (star_cons he)) (star_cons he) (by rfl))
  obtain ⟨a, vs, n, rfl, m, e, r⟩ := i₂.lst'
  obtain ⟨ts, et, rfl⟩ := byts_of r
  exact call_join (s := to s h₂ t₂) et e hn hz fun t' k => q _ h₂ k I₂ (k₁.any.trans k₂) (.byt _ _)
end
end Mine
end
section
open PySem PySem.W PySem.Spec PySem.Calls PyProof.Rows
namespace Mine
def flatV : PV → Prop
  | .int _ => True
  | .byt _ => True
  | _ => False
theorem Is.flatV {mu mu' : List Addr} {h h' : Heap} {v : Value} {X : PV} (f : flatV X) (i : Is mu h v X) : Is mu' h' v X := by
  cases X with
  | int n => obtain ⟨t, rfl⟩ := i.int'; exact .int _ _
  | byt b => obtain ⟨t, rfl⟩ := i.byt'; exact .byt _ _
  | _ => exact f.elim
section
variable {C : Cx} {lv lv' : Nat} {bs bs₁ bsL : List (Str × PV)} {led led₁ led₂ led' : List (Addr × LO)} {h g : Heap} {o : Out} {rest : List Stmt} {scope sc : Scope} {cl : List (Str × Addr)} {q : Str} {params : Arguments} {body : Expr}
/-- the cells of a frame stand within its comprehensions -/
theorem cellsIn {L it acc : Addr} {cl' : List (Str × Addr)} {bs' : List (Str × PV)} {led' : List (Addr × LO)} {lv' : Nat} {fs : List Addr} (J : Inv C lv led bs g) (c : Cap C bs scope cl bsL) (fl : ∀ x X, bsL.lookup x = some X → flatV X) (I : Inv (C.comp sc cl' (hideAll g (led.map (·.1))) L it acc (led.map (·.1)) fs) lv' led' bs' h) :
    CellsFor (it :: acc :: L :: C.mu) h scope cl bsL := by
  have cf := J.cellsFor c
  have kc : ∀ a v, g.IsCell a v → h.IsCell a v := fun a v ⟨ob, e, d⟩ => by
    have nl : a ∉ led.map (·.1) := fun z => by
      obtain ⟨y, hy, e'⟩ := List.mem_map.mp z
      obtain ⟨ob', e1, _, _, it'⟩ := J.entry hy
      rw [e', e] at e1; cases e1; exact it'.2 _ d
    obtain ⟨sl, e2⟩ := I.keptC.2 a ob (hideAll_get _ e nl) fun vs z => by rw [d] at z; cases z
    exact ⟨_, e2, d⟩
  refine ⟨fun x a e => ?_, fun x X e => ?_⟩
  · obtain ⟨⟨v, y1⟩, y2, y3⟩ := cf.Y x a e
    exact ⟨⟨v, kc _ _ y1⟩, .tail _ (.tail _ (.tail _ y2)), y3⟩
  · obtain ⟨f, a, v, e1, c1, i⟩ := cf.V x X e
    exact ⟨f, a, v, e1, kc _ _ c1, i.flatV (fl x X e)⟩
/-- a lambda that a name bears is asked, and raises -/
theorem EvM.toldVar {x : Addr} {word y : Str} {np vp pos : Pos} (hxw : x = 44 ∧ word = "form" ∨ x = 56 ∧ word = "size") (fo : Fo C) (hy : bs.lookup y = some (.lam q params body scope cl)) (cf : ∀ h, Inv C (lv + 2) led bs h → CellsFor C.mu h scope cl bsL) (ok : LamOk q params body scope) (r : LamX lv q body scope cl bsL x)
    (hx : C.env.kindOf "_law_told" = some .globalImplicit) (hd : (y == ("__debug__" : Str)) = false := by decide) (hn : (y == ("__classdict__" : Str)) = false := by decide) :
    EvM C (lv + 2) bs led (.Call (.Name "_law_told" np) [.Name y vp] [] pos) (.str word) led := fun s Q E I qq =>
  Call_ (nameG I (fTold.1 _).1 hx (callWith_K (h₀ := s.heap) I.K (fTold.1 _).2 (args_cons ((show Ev C s.heap _ _ from Ev.var I hy hd hn) s _ E .refl fun v h' tk k i => args_nil ⟨(I.ext k).K, told_exc (s := to s h' tk) hxw (I.ext k) fo i ok (cf _ (I.ext k)) r fun u h'' tk' J' k' i' => qq u h'' tk' J' (k.any.trans k') i'⟩) (star_cons rfl)) (star_cons rfl) (by rfl)) fTold.2)
theorem Turns.noneM {D : Cx} {it acc : Addr} {n : Str} {p : Pos} {c elt : Expr} {ok : List (Addr × LO) → Prop} {l : List PV} {ys : List PV} {bsD : List (Str × PV)} (ow : Own D) (hk : D.env.kindOf n = some .local) (hok : ok led) (hz : ys.length ≤ 1000)
    (hi : ∀ x ∈ l, ∀ io, TvM D lv ((n, x) :: bsD) ((it, .obj io) :: (acc, .lst ys) :: led) c false ((it, .obj io) :: (acc, .lst ys) :: led)) : ∀ {bs : List (Str × PV)}, Under n bsD bs → Turns D it acc lv (.Name n p) [c] elt ok l led bs ys ys led := by
  induction l with
  | nil => intro bs _; exact ⟨hok, rfl, rfl⟩
  | cons x l ih =>
    intro bs u
    exact ⟨hok, hz, (n, x) :: bsD, fun io => (Asgn.name ow hk).sub u.look, false, led, .inr ⟨c, rfl, fun io => hi x (.head _) io⟩, ih (fun y hy => hi y (.tail _ hy)) Under.add⟩
theorem EvM.addL {l r : Expr} {pos : Pos} {x y : List PV} (a : EvM C lv bs led l (.lst x) led₁) (b : EvM C lv bs led₁ r (.lst y) led₂) (hz : x.length + y.length ≤ 16777216) : EvM C lv bs led (.BinOp l .Add r pos) (.lst (x ++ y)) led₂ := fun s Q E I q =>
  wpAny_BinOp (a s _ E I fun v h₁ t₁ I₁ k₁ i₁ => b (to s h₁ t₁) _ E I₁ fun w h₂ t₂ I₂ k₂ i₂ => by
    refine (show wpAny _ _ (binaryOp .Add v w) _ _ _ from ?_)
    obtain ⟨a1, vs, n, rfl, m1, e1, r1⟩ := (i₁.but k₂).lst'
    obtain ⟨a2, ws, m, rfl, m2, e2, r2⟩ := i₂.lst'
    refine PySem.P.add_list (s := to s h₂ t₂) e1 e2 ?_ (by simp only [List.size_toArray, r1.1, r2.1, sizeLine_eq]; exact hz)
    rw [List.append_toArray]
    refine q _ _ _ (I₂.ext .push) ((k₁.trans k₂).trans But.push.any) (.lst (n := 0) I₂.fresh (Heap.get?_push_size _ rfl) ?_ ?_)
    · simp only [List.length_append, r1.1, r2.1]
    · intro i v z e f
      by_cases hi : i < vs.length
      · rw [List.getElem?_append_left hi] at e; rw [List.getElem?_append_left (r1.1 ▸ hi)] at f; exact (r1.2 i v z e f).ext .push
      · rw [List.getElem?_append_right (by omega)] at e; rw [List.getElem?_append_right (r1.1 ▸ by omega)] at f; exact (r2.2 _ v z e (r1.1 ▸ f)).ext .push)
end
end Mine
end
section
open PySem PySem.W PySem.Spec PySem.Calls PyProof.Rows
namespace Mine
theorem Fn.ofN {lv : Nat} {args : List PV} {name qual : Str} {params : Arguments} {body : List Stmt} {scope : Scope} {dV kV doc pm cdv ct oc : Value} {an od : Option Addr} {osl : Array (Option Value)} {f : Addr} (ps : List Str)
    (ho : ∀ P, (hd.heap_39 P).lookup f = some ⟨oc, od, .func (fnOf name qual params body scope dV kV doc pm an cdv ct), osl⟩) (hcd : ∀ P, codeIn (hd.heap_39 P) cdv qual = true)
    (hb : ∀ vs : List Value, vs.length = args.length → bindArgs (fnOf name qual params body scope dV kV doc pm an cdv ct) ⟨vs, []⟩ = pure (ps.zip vs)) (hps : ps.Nodup) (hcn : ((cellsFrom 0 scope.names []).map (·.1)).Nodup) (hkp : (ps.all fun y => scope.names.lookup y == some .local || scope.names.lookup y == some .cell) = true)
    (hco : scope.isCoroutine = false) (hgen : scope.isGenerator = false) (hk : scope.kind = .function)
    (run : ∀ (C : Cx) (h h₁ : Heap), Inv (calleeCx C h [] [] qual scope f cdv) lv [] (ps.zip args) h₁ → ∃ bs', Runs (calleeCx C h [] [] qual scope f cdv) lv [] body (.next bs') h₁) : Fn (lv + 1) f args .none := fun C led bs s Q E vs I iL k =>
  enter (bl := []) ps [] I (fun _ hq => nomatch hq) iL ho hcd (hb vs iL.1) hps hcn hkp hco hgen hk fun h₁ tk J => (run C s.heap h₁ J).elim fun _ r => r s tk _ _ fun h' tk' J' =>
    k .none h' tk' (fun b o _ e => J'.keptC.1 b o e fun q => nomatch q) .none
abbrev b8 (n : Int) : UInt8 := n.toNat.toUInt8
abbrev u (b : List UInt8) (i : Nat) : Int := ((b.getD i 0).toNat : Int)
theorem u_lo (b : List UInt8) (i : Nat) : 0 ≤ u b i := Int.natCast_nonneg _
theorem u_hi (b : List UInt8) (i : Nat) : u b i < 256 := Int.ofNat_lt.mpr (b.getD i 0).toNat_lt
def four (n : Int) : List UInt8 := [b8 (n / 16777216 % 256), b8 (n / 65536 % 256), b8 (n / 256 % 256), b8 (n % 256)]
def w16 (b : List UInt8) (i : Nat) : Int := u b i * 256 + u b (i + 1)
def w32 (b : List UInt8) (i : Nat) : Int := ((u b i * 256 + u b (i + 1)) * 256 + u b (i + 2)) * 256 + u b (i + 3)
theorem w16_lo (b : List UInt8) (i : Nat) : 0 ≤ w16 b i := by have := u_lo b i; have := u_lo b (i + 1); unfold w16; omega
theorem w16_hi (b : List UInt8) (i : Nat) : w16 b i < 65536 := by have := u_hi b i; have := u_hi b (i + 1); unfold w16; omega
theorem fdv (a : Int) {n : Int} (h : 0 ≤ n) : a.fdiv n = a / n := Int.fdiv_eq_ediv_of_nonneg _ h
theorem fmd (a : Int) {n : Int} (h : 0 ≤ n) : a.fmod n = a % n := Int.fmod_eq_emod_of_nonneg _ h
theorem orS {x y : Int} (k : Nat) (h0 : 0 ≤ x) (h1 : 0 ≤ y) (h2 : y < (2 ^ k : Nat)) : Builtin.bitOr (x * 2 ^ k) y = x * 2 ^ k + y := by
  obtain ⟨a, rfl⟩ := Int.eq_ofNat_of_zero_le h0
  obtain ⟨b, rfl⟩ := Int.eq_ofNat_of_zero_le h1
  have hb : b < 2 ^ k := Int.ofNat_lt.mp h2
  have e : (a : Int) * 2 ^ k = ((2 ^ k * a : Nat) : Int) := by push_cast; exact Int.mul_comm _ _
  have o := PyProof.Rows.nat_or_add_and (2 ^ k * a) b
  rw [← Nat.two_pow_add_eq_or_of_lt hb] at o
  rw [e, PyProof.Rows.bitOr_and, PyProof.Rows.bitAnd_pp (Int.natCast_nonneg _) (Int.natCast_nonneg _), Int.toNat_natCast, Int.toNat_natCast]
  omega
theorem fPut16 : GlF "put16" 65 := ⟨fun P => ⟨by k_is, by k_is⟩, by decide⟩
theorem fPut32 : GlF "put32" 72 := ⟨fun P => ⟨by k_is, by k_is⟩, by decide⟩
theorem fNeed : GlF "need" 79 := ⟨fun P => ⟨by k_is, by k_is⟩, by decide⟩
theorem fGet16 : GlF "get16" 86 := ⟨fun P => ⟨by k_is, by k_is⟩, by decide⟩
theorem fGet32 : GlF "get32" 93 := ⟨fun P => ⟨by k_is, by k_is⟩, by decide⟩
theorem byte2 {x y : Int} : ∀ z ∈ [PV.int (x % 256), PV.int (y % 256)], ∃ n : Int, z = .int n ∧ 0 ≤ n ∧ n < 256 := fun z hz => by
  rcases List.mem_cons.mp hz with rfl | hz
  · exact ⟨_, rfl, Int.emod_nonneg _ (by decide), Int.emod_lt_of_pos _ (by decide)⟩
  · rw [List.mem_singleton.mp hz]; exact ⟨_, rfl, Int.emod_nonneg _ (by decide), Int.emod_lt_of_pos _ (by decide)⟩



theorem put16_fn {lv : Nat} (n : Int) : Fn (lv+1) 65 [.int n] (.byt [b8 (n / 256 % 256), b8 (n % 256)]) := by
  refine Fn.of (lv := lv) ["n"] (fun P => by k_is) (fun P => by k_is) (fun vs hv => by obtain ⟨a, rfl⟩ := len1 hv; rfl) (by decide) (by decide) rfl rfl rfl rfl (fun C h h₁ I => ?_)
  exact .ret I ((show Ev _ _ _ _ from (.callT I gBytes (.cons (.list I (.cons (.bin (.bin (.var I rfl) .int (.shr (by decide))) .int .and) (.cons (.bin (.var I rfl) .int .and) .nil)) (Nat.le_of_ble_eq_true rfl)) .nil) (.bytesL I.good.hh (Nat.le_of_ble_eq_true rfl) (by rw [bitAnd_m8, bitAnd_m8]; exact byte2)) rfl)).cast (by rw [bitAnd_m8, bitAnd_m8, fdv _ (by decide)]; rfl))
theorem put32_fn {lv : Nat} (n : Int) : Fn (lv+2) 72 [.int n] (.byt (four n)) := by
  refine Fn.of (lv := (lv+1)) ["n"] (fun P => by k_is) (fun P => by k_is) (fun vs hv => by obtain ⟨a, rfl⟩ := len1 hv; rfl) (by decide) (by decide) rfl rfl rfl rfl (fun C h h₁ I => ?_)
  exact .ret I ((show Ev _ _ _ _ from (.bin (.call I fPut16 (.cons (.bin (.var I rfl) .int (.shr (by decide))) .nil) (put16_fn _) rfl) (.call I fPut16 (.cons (.var I rfl) .nil) (put16_fn _) rfl) (.addB (Nat.le_of_ble_eq_true rfl)))).cast (by
    rw [fdv _ (by decide)]
    show PV.byt [b8 (n / 65536 / 256 % 256), _, _, _] = _
    rw [show n / 65536 / 256 = n / 16777216 by omega]; rfl))
theorem need_fn {lv : Nat} (b : List UInt8) (a n : Int) (h0 : 0 ≤ a) (h1 : a + n ≤ b.length) (hz : b.length ≤ 16777216) : Fn (lv+1) 79 [.byt b, .int a, .int n] .none := by
  refine Fn.ofN (lv := lv) ["octets", "at", "size"] (fun P => by k_is) (fun P => by k_is) (fun vs hv => by obtain ⟨a, b, c, rfl⟩ := len3 hv; rfl) (by decide) (by decide) rfl rfl rfl rfl (fun C h h₁ I => ?_)
  exact ⟨_, .ifF I (Tv.cast (.or (.cmp (.var I rfl) .int .lt) fun hs => (.or (.cmp (.bin (.var I rfl) (.var I rfl) .add) (.callB I gLen (.cons (.var I rfl) .nil) (.lenB (Nat.le_trans hz (by decide))) rfl) .gt) fun hs => .orN)) (by simp; omega)) fun h₂ J => .nil J⟩

theorem get16_fn {lv : Nat} (b : List UInt8) (i : Int) (a : Nat) (hi : i = a) (h1 : a + 2 ≤ b.length) (hz : b.length ≤ 16777216) : Fn (lv+2) 86 [.byt b, .int i] (.int (w16 b a)) := by
  subst hi
  refine Fn.of (lv := (lv+1)) ["octets", "at"] (fun P => by k_is) (fun P => by k_is) (fun vs hv => by obtain ⟨a, b, rfl⟩ := len2 hv; rfl) (by decide) (by decide) rfl rfl rfl rfl (fun C h h₁ I => ?_)
  refine .expr I (.call I fNeed (.cons (.var I rfl) (.cons (.var I rfl) (.cons .int .nil))) (need_fn _ _ _ (by omega) (by omega) hz) rfl) fun h₂ I => ?_
  have h3 := u_lo b a
  have h4 := u_hi b a
  have h5 := u_hi b (a + 1)
  exact .ret I ((show Ev _ _ _ _ from (.bin (.bin (.sub (.var I rfl) (.var I rfl) (.itemB hz (by omega) (by omega))) .int (.shl (by decide) (by decide) (by show (u b a).natAbs < _; omega))) (.sub (.var I rfl) (.bin (.var I rfl) .int .add) (.itemB hz (by omega) (by omega))) .or)).cast
    (by show PV.int (Builtin.bitOr (u b a * 2 ^ 8) (u b (a + 1))) = _; rw [orS 8 h3 (u_lo _ _) (by omega)]; rfl))
theorem get32_fn {lv : Nat} (b : List UInt8) (i : Int) (a : Nat) (hi : i = a) (h1 : a + 4 ≤ b.length) (hz : b.length ≤ 16777216) : Fn (lv+3) 93 [.byt b, .int i] (.int (w32 b a)) := by
  subst hi
  refine Fn.of (lv := (lv+2)) ["octets", "at"] (fun P => by k_is) (fun P => by k_is) (fun vs hv => by obtain ⟨a, b, rfl⟩ := len2 hv; rfl) (by decide) (by decide) rfl rfl rfl rfl (fun C h h₁ I => ?_)
  refine .expr I (.call I fNeed (.cons (.var I rfl) (.cons (.var I rfl) (.cons .int .nil))) (need_fn _ _ _ (by omega) (by omega) hz) rfl) fun h₂ I => ?_
  have h3 := w16_lo b a
  have h4 := w16_hi b a
  have h5 := w16_hi b (a + 2)
  exact .ret I ((show Ev _ _ _ _ from (.bin (.bin (.call I fGet16 (.cons (.var I rfl) (.cons (.var I rfl) .nil)) (get16_fn _ _ a rfl (by omega) hz) rfl) .int (.shl (by decide) (by decide) (by omega))) (.call I fGet16 (.cons (.var I rfl) (.cons (.bin (.var I rfl) .int .add) .nil)) (get16_fn _ _ (a + 2) (by omega) (by omega) hz) rfl) .or)).cast
    (by show PV.int (Builtin.bitOr (w16 b a * 2 ^ 16) (w16 b (a + 2))) = _; rw [orS 16 h3 (w16_lo _ _) (by omega)]; unfold w16 w32; congr 1; show (u b a * 256 + u b (a + 1)) * 65536 + (u b (a + 2) * 256 + u b (a + 3)) = _; omega))

theorem is_single_fn {lv : Nat} (k : Int) : Fn (lv+1) 100 [.int k] (.bool (k == 0 || k == 1)) := by
  refine Fn.of (lv := lv) ["kind"] (fun P => by k_is) (fun P => by k_is) (fun vs hv => by obtain ⟨a, rfl⟩ := len1 hv; rfl) (by decide) (by decide) rfl rfl rfl rfl (fun C h h₁ I => ?_)
  exact .ret I (.or (.cmp (.var I rfl) (.gI I gEND rfl) .eqI) fun hs => (.one (.cmp (.var I rfl) (.gI I gNOTHING rfl) .eqI)))
theorem is_copied_fn {lv : Nat} (k : Int) : Fn (lv+1) 135 [.int k] (.bool (decide (128 ≤ k))) := by
  refine Fn.of (lv := lv) ["kind"] (fun P => by k_is) (fun P => by k_is) (fun vs hv => by obtain ⟨a, rfl⟩ := len1 hv; rfl) (by decide) (by decide) rfl rfl rfl rfl (fun C h h₁ I => ?_)
  exact .ret I (.cmp (.var I rfl) (.gI I gCOPY rfl) .ge)
theorem is_strict_fn {lv : Nat} (k : Int) : Fn (lv+1) 171 [.int k] (.bool (k == 137)) := by
  refine Fn.of (lv := lv) ["kind"] (fun P => by k_is) (fun P => by k_is) (fun vs hv => by obtain ⟨a, rfl⟩ := len1 hv; rfl) (by decide) (by decide) rfl rfl rfl rfl (fun C h h₁ I => ?_)
  exact .ret I (.cmp (.var I rfl) (.gI I gSTRICT rfl) .eqI)
end Mine
end
section
open PySem PySem.W PySem.Spec PySem.Calls PyProof.Rows
namespace Mine
theorem EvO.some {C : Cx} {h : Heap} {e : Expr} {i : Int} (a : Ev C h e (.int i)) : EvO C h (some e) (some i) := a
theorem EvO.none {C : Cx} {h : Heap} : EvO C h none none := trivial
theorem clipN (n i : Nat) : clipAt n (i : Int) = min i n := by
  unfold clipAt
  simp only [show ¬ ((i : Int) < 0) by omega, if_false]
  omega
theorem cutNN (b : List UInt8) (i j : Nat) : cutL b (some (i : Int)) (some (j : Int)) = (b.drop i).take (j - i) := by
  unfold cutL
  simp only [Option.elim, clipN]
  apply List.ext_getElem?
  intro k
  simp only [List.getElem?_take, List.getElem?_drop]
  by_cases h : i ≤ b.length
  · rw [Nat.min_eq_left h]
    by_cases h2 : j ≤ b.length
    · rw [Nat.min_eq_left h2]
    · rw [Nat.min_eq_right (by omega)]
      by_cases h3 : k < b.length - i
      · rw [if_pos h3, if_pos (by omega)]
      · rw [if_neg h3, List.getElem?_eq_none (by omega)]; split <;> rfl
  · rw [Nat.min_eq_right (show b.length ≤ i by omega), if_neg (by omega), List.getElem?_eq_none (by omega)]; split <;> rfl
theorem cutNE (b : List UInt8) (i : Nat) : cutL b (some (i : Int)) none = b.drop i := by
  unfold cutL
  simp only [Option.elim, clipN]
  by_cases h : i ≤ b.length
  · rw [Nat.min_eq_left h, List.take_of_length_le (by simp)]
  · rw [Nat.min_eq_right (by omega), List.drop_of_length_le (by omega), List.drop_of_length_le (by omega), List.take_nil]
theorem cutEN (b : List UInt8) (j : Nat) : cutL b none (some (j : Int)) = b.take j := by
  unfold cutL
  simp only [Option.elim, clipN, List.drop_zero, Nat.sub_zero]
  by_cases h : j ≤ b.length
  · rw [Nat.min_eq_left h]
  · rw [Nat.min_eq_right (by omega), List.take_of_length_le (by omega), List.take_of_length_le (by omega)]
theorem cut_le (b : List UInt8) (lo hi : Option Int) : (cutL b lo hi).length ≤ b.length := by
  unfold cutL
  rw [List.length_take, List.length_drop]
  omega
theorem nz {b : List UInt8} (h : (b == []) = false) : 0 < b.length := by
  cases b with
  | nil => cases h
  | cons _ _ => exact Nat.succ_pos _
theorem nz' {b : List UInt8} (h : 0 < b.length) : (b == []) = false := by
  cases b with
  | nil => cases h
  | cons _ _ => rfl
theorem fSizeAt : GlF "size_at" 114 := ⟨fun P => ⟨by k_is, by k_is⟩, by decide⟩
theorem fOptionOctets : GlF "option_octets" 128 := ⟨fun P => ⟨by k_is, by k_is⟩, by decide⟩
theorem fPointerPlace : GlF "pointer_place" 147 := ⟨fun P => ⟨by k_is, by k_is⟩, by decide⟩
theorem fRecordRoute : GlF "record_route" 154 := ⟨fun P => ⟨by k_is, by k_is⟩, by decide⟩
abbrev LE (n : Nat) : n ≤ 16777216 → n ≤ 1099511627776 := fun h => Nat.le_trans h (by decide)






theorem size_at_fn {lv : Nat} (b : List UInt8) (a : Nat) (h1 : a + 1 < b.length) (h2 : 2 ≤ u b (a + 1)) (h3 : a + u b (a + 1) ≤ b.length) (hz : b.length ≤ 16777216) : Fn (lv+1) 114 [.byt b, .int a] (.int (u b (a + 1))) := by
  refine Fn.of (lv := lv) ["octets", "at"] (fun P => by k_is) (fun P => by k_is) (fun vs hv => by obtain ⟨a, b, rfl⟩ := len2 hv; rfl) (by decide) (by decide) rfl rfl rfl rfl (fun C h h₁ I => ?_)
  refine .ifF I (Tv.cast (.cmp (.bin (.var I rfl) .int .add) (.callB I gLen (.cons (.var I rfl) .nil) (.lenB (LE _ hz)) rfl) .ge) (by simp; omega)) fun h₂ I => ?_
  refine .asg (X := .int (u b (a + 1))) I calleeOwn (.sub (.var I rfl) (.bin (.var I rfl) .int .add) (.itemB hz (by omega) (by omega))) rfl fun h₂ I => ?_
  refine .ifF I (Tv.cast (.or (.cmp (.var I rfl) .int .lt) fun hs => (.or (.cmp (.bin (.var I rfl) (.var I rfl) .add) (.callB I gLen (.cons (.var I rfl) .nil) (.lenB (LE _ hz)) rfl) .gt) fun hs => .orN)) (by simp; omega)) fun h₂ I => ?_
  exact .ret I (.var I rfl)
theorem size_at_fx {lv : Nat} (b : List UInt8) (a : Nat) (h1 : a + 1 < b.length → u b (a + 1) < 2 ∨ (b.length : Int) < a + u b (a + 1)) (hz : b.length ≤ 16777216) : FnX (lv+3) 114 [.byt b, .int a] 44 := by
  refine FnX.of (lv := (lv+2)) ["octets", "at"] (fun P => by k_is) (fun P => by k_is) (fun vs hv => by obtain ⟨a, b, rfl⟩ := len2 hv; rfl) (by decide) (by decide) rfl rfl rfl rfl (fun C h h₁ I => ?_)
  by_cases h0 : a + 1 < b.length
  · refine .ifF I (Tv.cast (.cmp (.bin (.var I rfl) .int .add) (.callB I gLen (.cons (.var I rfl) .nil) (.lenB (LE _ hz)) rfl) .ge) (by simp; omega)) fun h₂ I => ?_
    refine .asg (X := .int (u b (a + 1))) I calleeOwn (.sub (.var I rfl) (.bin (.var I rfl) .int .add) (.itemB hz (by omega) (by omega))) rfl fun h₂ I => ?_
    have := h1 h0
    exact .ifT I (Tv.cast (.or (.cmp (.var I rfl) .int .lt) fun hs => (.or (.cmp (.bin (.var I rfl) (.var I rfl) .add) (.callB I gLen (.cons (.var I rfl) .nil) (.lenB (LE _ hz)) rfl) .gt) fun hs => .orN)) (by simp; omega)) trivial fun h₂ I => .raise I rfl gForm exForm rfl
  · exact .ifT I (Tv.cast (.cmp (.bin (.var I rfl) .int .add) (.callB I gLen (.cons (.var I rfl) .nil) (.lenB (LE _ hz)) rfl) .ge) (by simp; omega)) trivial fun h₂ I => .raise I rfl gForm exForm rfl
theorem pointer_place_fn {lv : Nat} (b : List UInt8) (h0 : 4 ≤ u b 0) (hl : 0 < b.length) (hz : b.length ≤ 16777216) : Fn (lv+1) 147 [.byt b] (.int (u b 0 - 4 + 1)) := by
  refine Fn.of (lv := lv) ["octets"] (fun P => by k_is) (fun P => by k_is) (fun vs hv => by obtain ⟨a, rfl⟩ := len1 hv; rfl) (by decide) (by decide) rfl rfl rfl rfl (fun C h h₁ I => ?_)
  refine .ifF I (Tv.cast (.or (.cmp (.var I rfl) .byt .eqY) fun hs => (.or (.cmp (.sub (.var I rfl) .int (.itemB hz (by decide) (by omega))) (.gI I gFIRST rfl) .lt) fun hs => .orN)) (by show ((b == []) || (decide (u b 0 < 4) || false)) = false; rw [decide_eq_false (by omega), nz' hl]; rfl)) fun h₂ I => ?_
  exact .ret I (.bin (.bin (.sub (.var I rfl) .int (.itemB hz (by decide) (by omega))) (.gI I gFIRST rfl) .sub) .int .add)
theorem pointer_place_fx {lv : Nat} (b : List UInt8) (h0 : b = [] ∨ u b 0 < 4) (hz : b.length ≤ 16777216) : FnX (lv+3) 147 [.byt b] 44 := by
  refine FnX.of (lv := (lv+2)) ["octets"] (fun P => by k_is) (fun P => by k_is) (fun vs hv => by obtain ⟨a, rfl⟩ := len1 hv; rfl) (by decide) (by decide) rfl rfl rfl rfl (fun C h h₁ I => ?_)
  exact .ifT I (Tv.cast (.or (.cmp (.var I rfl) .byt .eqY) fun hs => (.or (.cmp (.sub (.var I rfl) .int (.itemB hz (by decide) (by have := nz hs; omega))) (.gI I gFIRST rfl) .lt) fun hs => .orN)) (h0.elim (fun z => by rw [z]; rfl) fun z => by show ((b == []) || (decide (u b 0 < 4) || false)) = true; rw [decide_eq_true z]; simp)) trivial fun h₂ I => .raise I rfl gForm exForm rfl
theorem record_route_same {lv : Nat} (b : List UInt8) (n : Int) (h0 : 4 ≤ u b 0) (hl : 0 < b.length) (hr : (b.length : Int) < u b 0 + 1) (hz : b.length ≤ 16777216) : Fn (lv+2) 154 [.byt b, .int n] (.byt b) := by
  refine Fn.of (lv := (lv+1)) ["octets", "address"] (fun P => by k_is) (fun P => by k_is) (fun vs hv => by obtain ⟨a, b, rfl⟩ := len2 hv; rfl) (by decide) (by decide) rfl rfl rfl rfl (fun C h h₁ I => ?_)
  refine .asg I calleeOwn (.call I fPointerPlace (.cons (.var I rfl) .nil) (pointer_place_fn _ h0 hl hz) rfl) rfl fun h₂ I => ?_
  refine .ifT I (Tv.cast (.cmp (.bin (.var I rfl) .int .add) (.callB I gLen (.cons (.var I rfl) .nil) (.lenB (LE _ hz)) rfl) .gt) (decide_eq_true (by omega))) trivial fun h₂ I => ?_
  exact .ret I (.var I rfl)
def recd (b : List UInt8) (n : Int) (p : Nat) : List UInt8 := b8 (u b 0 + 4) :: ((b.drop 1).take (p - 1) ++ (four n ++ b.drop (p + 4)))
theorem record_route_more {lv : Nat} (b : List UInt8) (n : Int) (p : Nat) (h0 : u b 0 = p + 3) (hp : 1 ≤ p) (hb : p < 200) (hr : p + 4 ≤ b.length) (hz : b.length ≤ 1000) : Fn (lv+3) 154 [.byt b, .int n] (.byt (recd b n p)) := by
  refine Fn.of (lv := (lv+2)) ["octets", "address"] (fun P => by k_is) (fun P => by k_is) (fun vs hv => by obtain ⟨a, b, rfl⟩ := len2 hv; rfl) (by decide) (by decide) rfl rfl rfl rfl (fun C h h₁ I => ?_)
  refine .asg (X := .int p) I calleeOwn (.cast (.call I fPointerPlace (.cons (.var I rfl) .nil) (pointer_place_fn _ (by omega) (by omega) (by omega)) rfl) (by rw [h0]; congr 1; omega)) rfl fun h₂ I => ?_
  refine .ifF I (Tv.cast (.cmp (.bin (.var I rfl) .int .add) (.callB I gLen (.cons (.var I rfl) .nil) (.lenB (by omega)) rfl) .gt) (decide_eq_false (by omega))) fun h₂ I => ?_
  refine .ret I (.cast (.bin (.bin (.bin (.callT I gBytes (.cons (.list I (.cons (.bin (.sub (.var I rfl) .int (.itemB (by omega) (by decide) (by omega))) .int .add) .nil) (Nat.le_of_ble_eq_true rfl)) .nil) (.bytesL I.good.hh (Nat.le_of_ble_eq_true rfl) ?_) rfl) (.cut (.var I rfl) (.some .int) (.some (.var I rfl)) (by omega)) (.addB ?_)) (.call I fPut32 (.cons (.var I rfl) .nil) (put32_fn _) rfl) (.addB ?_)) (.cut (.var I rfl) (.some (.bin (.var I rfl) .int .add)) .none (by omega)) (.addB ?_)) ?_)
  · intro x hx
    rw [List.mem_singleton.mp hx]
    exact ⟨_, rfl, by have := u_lo b 0; show 0 ≤ u b 0 + 4; omega, by show u b 0 + 4 < 256; omega⟩
  · show 1 + _ ≤ _
    have := cut_le b (some 1) (some p)
    omega
  · rw [List.length_append]
    show 1 + _ + 4 ≤ _
    have := cut_le b (some 1) (some p)
    omega
  · rw [List.length_append, List.length_append]
    show 1 + _ + 4 + _ ≤ _
    have := cut_le b (some 1) (some p)
    have := cut_le b (some (p + 4)) none
    omega
  · have e1 : cutL b (some 1) (some (p : Int)) = _ := cutNN b 1 p
    have e2 : cutL b (some ((p : Int) + 4)) none = _ := cutNE b (p + 4)
    rw [e1, e2, List.append_assoc, List.append_assoc]
    rfl
theorem record_route_fx {lv : Nat} (b : List UInt8) (n : Int) (h0 : b = [] ∨ u b 0 < 4) (hz : b.length ≤ 16777216) : FnX (lv+4) 154 [.byt b, .int n] 44 := by
  refine FnX.of (lv := (lv+3)) ["octets", "address"] (fun P => by k_is) (fun P => by k_is) (fun vs hv => by obtain ⟨a, b, rfl⟩ := len2 hv; rfl) (by decide) (by decide) rfl rfl rfl rfl (fun C h h₁ I => ?_)
  exact .asgX (.call I rfl fPointerPlace (.cons (.var I rfl) .nil) (pointer_place_fx b h0 hz) rfl)
theorem next_on_way_none {lv : Nat} (b : List UInt8) (n : Int) (h0 : 4 ≤ u b 0) (hl : 0 < b.length) (hr : (b.length : Int) < u b 0 + 1) (hz : b.length ≤ 16777216) : Fn (lv+2) 185 [.byt b, .int n] .none := by
  refine Fn.of (lv := (lv+1)) ["octets", "here"] (fun P => by k_is) (fun P => by k_is) (fun vs hv => by obtain ⟨a, b, rfl⟩ := len2 hv; rfl) (by decide) (by decide) rfl rfl rfl rfl (fun C h h₁ I => ?_)
  refine .asg I calleeOwn (.call I fPointerPlace (.cons (.var I rfl) .nil) (pointer_place_fn _ h0 hl hz) rfl) rfl fun h₂ I => ?_
  refine .ifT I (Tv.cast (.cmp (.bin (.var I rfl) .int .add) (.callB I gLen (.cons (.var I rfl) .nil) (.lenB (LE _ hz)) rfl) .gt) (decide_eq_true (by omega))) trivial fun h₂ I => ?_
  exact .ret I .none
theorem next_on_way_some {lv : Nat} (b : List UInt8) (n : Int) (p : Nat) (h0 : u b 0 = p + 3) (hp : 1 ≤ p) (hb : p < 200) (hr : p + 4 ≤ b.length) (hz : b.length ≤ 1000) : Fn (lv+4) 185 [.byt b, .int n] (.tup [.int (w32 b p), .byt (recd b n p)]) := by
  refine Fn.of (lv := (lv+3)) ["octets", "here"] (fun P => by k_is) (fun P => by k_is) (fun vs hv => by obtain ⟨a, b, rfl⟩ := len2 hv; rfl) (by decide) (by decide) rfl rfl rfl rfl (fun C h h₁ I => ?_)
  refine .asg (X := .int p) I calleeOwn (.cast (.call I fPointerPlace (.cons (.var I rfl) .nil) (pointer_place_fn _ (by omega) (by omega) (by omega)) rfl) (by rw [h0]; congr 1; omega)) rfl fun h₂ I => ?_
  refine .ifF I (Tv.cast (.cmp (.bin (.var I rfl) .int .add) (.callB I gLen (.cons (.var I rfl) .nil) (.lenB (by omega)) rfl) .gt) (decide_eq_false (by omega))) fun h₂ I => ?_
  exact .ret I (.tuple I (.cons (.call I fGet32 (.cons (.var I rfl) (.cons (.var I rfl) .nil)) (get32_fn _ _ p rfl hr (by omega)) rfl) (.cons (.call I fRecordRoute (.cons (.var I rfl) (.cons (.var I rfl) .nil)) (record_route_more _ _ p h0 hp hb hr hz) rfl) .nil)) (Nat.le_of_ble_eq_true rfl))
theorem next_on_way_fx {lv : Nat} (b : List UInt8) (n : Int) (h0 : b = [] ∨ u b 0 < 4) (hz : b.length ≤ 16777216) : FnX (lv+4) 185 [.byt b, .int n] 44 := by
  refine FnX.of (lv := (lv+3)) ["octets", "here"] (fun P => by k_is) (fun P => by k_is) (fun vs hv => by obtain ⟨a, b, rfl⟩ := len2 hv; rfl) (by decide) (by decide) rfl rfl rfl rfl (fun C h h₁ I => ?_)
  exact .asgX (.call I rfl fPointerPlace (.cons (.var I rfl) .nil) (pointer_place_fx b h0 hz) rfl)
theorem single01 {k : Int} (h : 2 ≤ k) : (k == 0 || k == 1) = false := by
  rw [beq_eq_false_iff_ne.mpr (show k ≠ 0 by omega), beq_eq_false_iff_ne.mpr (show k ≠ 1 by omega)]; rfl
theorem option_octets_one {lv : Nat} : Fn (lv+2) 128 [.int 1, .byt []] (.byt [1]) := by
  refine Fn.of (lv := (lv+1)) ["kind", "octets"] (fun P => by k_is) (fun P => by k_is) (fun vs hv => by obtain ⟨a, b, rfl⟩ := len2 hv; rfl) (by decide) (by decide) rfl rfl rfl rfl (fun C h h₁ I => ?_)
  refine .ifF I (Tv.cast (.or (.cmp (.var I rfl) .int .lt) fun hs => (.or (.cmp (.var I rfl) .int .gt) fun hs => .orN)) rfl) fun h₂ I => ?_
  refine .ifT I (.val (.call I fIsSingle (.cons (.var I rfl) .nil) (is_single_fn _) rfl)) trivial fun h₂ I => ?_
  refine .ifF I (.cmp (.var I rfl) .byt .neY) fun h₂ I => ?_
  exact .ret I (.callT I gBytes (.cons (.list I (.cons (.var I rfl) .nil) (Nat.le_of_ble_eq_true rfl)) .nil) (.bytesL I.good.hh (Nat.le_of_ble_eq_true rfl) (fun x hx => by rw [List.mem_singleton.mp hx]; exact ⟨1, rfl, by decide, by decide⟩)) rfl)
theorem option_octets_more {lv : Nat} (k : Int) (b : List UInt8) (h0 : 2 ≤ k) (h1 : k ≤ 255) (hb : b.length ≤ 38) : Fn (lv+2) 128 [.int k, .byt b] (.byt (b8 k :: b8 (b.length + 2) :: b)) := by
  refine Fn.of (lv := (lv+1)) ["kind", "octets"] (fun P => by k_is) (fun P => by k_is) (fun vs hv => by obtain ⟨a, b, rfl⟩ := len2 hv; rfl) (by decide) (by decide) rfl rfl rfl rfl (fun C h h₁ I => ?_)
  refine .ifF I (Tv.cast (.or (.cmp (.var I rfl) .int .lt) fun hs => (.or (.cmp (.var I rfl) .int .gt) fun hs => .orN)) (by simp; omega)) fun h₂ I => ?_
  refine .ifF I (.val (.cast (.call I fIsSingle (.cons (.var I rfl) .nil) (is_single_fn _) rfl) (congrArg PV.bool (single01 h0)))) fun h₂ I => ?_
  refine .ifF I (Tv.cast (.cmp (.bin (.callB I gLen (.cons (.var I rfl) .nil) (.lenB (by omega)) rfl) .int .add) (.gI I gMOST rfl) .gt) (decide_eq_false (by omega))) fun h₂ I => ?_
  refine .ret I (.bin (.callT I gBytes (.cons (.list I (.cons (.var I rfl) (.cons (.bin (.callB I gLen (.cons (.var I rfl) .nil) (.lenB (by omega)) rfl) .int .add) .nil)) (Nat.le_of_ble_eq_true rfl)) .nil) (.bytesL I.good.hh (Nat.le_of_ble_eq_true rfl) ?_) rfl) (.var I rfl) (.addB (show 2 + _ ≤ _ by omega)))
  intro x hx
  rcases List.mem_cons.mp hx with rfl | hx
  · exact ⟨_, rfl, by omega, by omega⟩
  · rw [List.mem_singleton.mp hx]; exact ⟨_, rfl, by omega, by omega⟩
theorem option_octets_kind {lv : Nat} (k : Int) (b : List UInt8) (h0 : k < 1 ∨ 255 < k) : FnX (lv+3) 128 [.int k, .byt b] 44 := by
  refine FnX.of (lv := (lv+2)) ["kind", "octets"] (fun P => by k_is) (fun P => by k_is) (fun vs hv => by obtain ⟨a, b, rfl⟩ := len2 hv; rfl) (by decide) (by decide) rfl rfl rfl rfl (fun C h h₁ I => ?_)
  exact .ifT I (Tv.cast (.or (.cmp (.var I rfl) .int .lt) fun hs => (.or (.cmp (.var I rfl) .int .gt) fun hs => .orN)) (by simp; omega)) trivial fun h₂ I => .raise I rfl gForm exForm rfl
theorem option_octets_body {lv : Nat} (b : List UInt8) (hb : b ≠ []) : FnX (lv+3) 128 [.int 1, .byt b] 44 := by
  refine FnX.of (lv := (lv+2)) ["kind", "octets"] (fun P => by k_is) (fun P => by k_is) (fun vs hv => by obtain ⟨a, b, rfl⟩ := len2 hv; rfl) (by decide) (by decide) rfl rfl rfl rfl (fun C h h₁ I => ?_)
  refine .ifF I (Tv.cast (.or (.cmp (.var I rfl) .int .lt) fun hs => (.or (.cmp (.var I rfl) .int .gt) fun hs => .orN)) rfl) fun h₂ I => ?_
  refine .ifT I (.val (.call I fIsSingle (.cons (.var I rfl) .nil) (is_single_fn _) rfl)) trivial fun h₂ I => ?_
  exact .ifT I (Tv.cast (.cmp (.var I rfl) .byt .neY) (by rw [bne, beq_eq_false_iff_ne.mpr hb]; rfl)) trivial fun h₂ I => .raise I rfl gForm exForm rfl
theorem option_octets_size {lv : Nat} (k : Int) (b : List UInt8) (h0 : 2 ≤ k) (h1 : k ≤ 255) (hb : 38 < b.length) (hz : b.length ≤ 16777216) : FnX (lv+3) 128 [.int k, .byt b] 56 := by
  refine FnX.of (lv := (lv+2)) ["kind", "octets"] (fun P => by k_is) (fun P => by k_is) (fun vs hv => by obtain ⟨a, b, rfl⟩ := len2 hv; rfl) (by decide) (by decide) rfl rfl rfl rfl (fun C h h₁ I => ?_)
  refine .ifF I (Tv.cast (.or (.cmp (.var I rfl) .int .lt) fun hs => (.or (.cmp (.var I rfl) .int .gt) fun hs => .orN)) (by simp; omega)) fun h₂ I => ?_
  refine .ifF I (.val (.cast (.call I fIsSingle (.cons (.var I rfl) .nil) (is_single_fn _) rfl) (congrArg PV.bool (single01 h0)))) fun h₂ I => ?_
  exact .ifT I (Tv.cast (.cmp (.bin (.callB I gLen (.cons (.var I rfl) .nil) (.lenB (LE _ hz)) rfl) .int .add) (.gI I gMOST rfl) .gt) (decide_eq_true (by omega))) trivial fun h₂ I => .raise I rfl gSize exSize rfl
end Mine
end
section
open PySem PySem.W PySem.Spec PySem.Calls PyProof.Rows
namespace Mine
/-- the list that the law draws from -/
abbrev src (p : Int × Int) : LO := .lst [.int p.1, .int p.2]
def drawQ (q : Int) : Int := (q * 39373 + 7) % 2147483647
def takeV (p : Int × Int) (top : Int) : Int := if 0 < p.1 then p.1 % top else drawQ p.2 * drawQ p.2 % 2147483629 / 32 % top
def takeS (p : Int × Int) (top : Int) : Int × Int := if 0 < p.1 then (p.1 / top, p.2) else (p.1, drawQ p.2)
structure Ok (p : Int × Int) : Prop where
  a : 0 ≤ p.1
  b : 0 ≤ p.2
  c : p.2 < 2147483647
theorem take_lo (p : Int × Int) {top : Int} (h : 0 < top) : 0 ≤ takeV p top := by
  unfold takeV; split
  · exact Int.emod_nonneg _ (by omega)
  · exact Int.emod_nonneg _ (by omega)
theorem take_hi (p : Int × Int) {top : Int} (h : 0 < top) : takeV p top < top := by
  unfold takeV; split
  · exact Int.emod_lt_of_pos _ h
  · exact Int.emod_lt_of_pos _ h
theorem take_ok {p : Int × Int} (o : Ok p) {top : Int} (h : 0 < top) : Ok (takeS p top) := by
  unfold takeS; split
  · exact ⟨Int.ediv_nonneg o.a (by omega), o.b, o.c⟩
  · exact ⟨o.a, Int.emod_nonneg _ (by decide), Int.emod_lt_of_pos _ (by decide)⟩
theorem fTake : GlF "_law_take" 199 := ⟨fun P => ⟨by k_is, by k_is⟩, by decide⟩

theorem take_fn {lv : Nat} (a : Addr) (p : Int × Int) (top : Int) (o : Ok p) (h0 : 0 < top) (h1 : top < 1099511627776) : MFn (lv+1) 199 a (src p) [.ref a, .int top] (.int (takeV p top)) (src (takeS p top)) := by
  refine MFn.of (lv := lv) ["source", "top"] (fun P => by k_is) (fun P => by k_is) (fun vs hv => by obtain ⟨a, b, rfl⟩ := len2 hv; rfl) (by decide) (by decide) rfl rfl rfl rfl (fun C h h₁ I => ?_) (fun _ _ _ q => by obtain ⟨_, _, rfl, _⟩ := q; exact itemL)
  by_cases hp : 0 < p.1
  · refine .iteXM (c := true) I (.cast (.cmp (.item (.head _) (.of fun h I => (.var I rfl)) (.of fun h I => .int) (by decide) (by decide) rfl) (.of fun h I => .int) .gt) (decide_eq_true hp)) trivial fun h₂ I => ?_
    refine .asgM I calleeOwn (.bin (.item (.head _) (.of fun h I => (.var I rfl)) (.of fun h I => .int) (by decide) (by decide) rfl) (.of fun h I => (.var I rfl)) (.mod (by omega))) rfl fun h₂ I => ?_
    refine .setItem (pre := []) (post := []) I (.bin (.item (.head _) (.of fun h I => (.var I rfl)) (.of fun h I => .int) (by decide) (by decide) rfl) (.of fun h I => (.var I rfl)) (.fdiv (by omega) (by omega))) (.of fun h I => (.var I rfl)) (.of fun h I => .int) (by decide) (by decide) (Nat.le_of_ble_eq_true rfl) (fun _ q => nomatch q) (fun _ q => nomatch q) fun h₂ I => ?_
    have e1 : takeV p top = p.1.fmod top := by unfold takeV; rw [if_pos hp, fmd _ (by omega)]
    have e2 : takeS p top = (p.1.fdiv top, p.2) := by unfold takeS; rw [if_pos hp, fdv _ (by omega)]
    rw [e1, e2]
    exact .ret I (.var I rfl)
  · refine .iteNM (c := false) I (.cast (.cmp (.item (.head _) (.of fun h I => (.var I rfl)) (.of fun h I => .int) (by decide) (by decide) rfl) (.of fun h I => .int) .gt) (decide_eq_false hp)) (fun h₂ I => .nil I) fun h₂ I => ?_
    refine .setItem (pre := []) (post := []) I (.bin (.bin (.bin (.item (.head _) (.of fun h I => (.var I rfl)) (.of fun h I => .int) (by decide) (by decide) rfl) (.of fun h I => .int) (.mulR ⟨by decide, by decide⟩)) (.of fun h I => .int) .add) (.of fun h I => .int) (.mod (by decide))) (.of fun h I => (.var I rfl)) (.of fun h I => .int) (by decide) (by decide) (Nat.le_of_ble_eq_true rfl) (fun _ q => nomatch q) (fun _ q => nomatch q) fun h₂ I => ?_
    have e : (p.2 * 39373 + 7).fmod 2147483647 = drawQ p.2 := fmd _ (by decide)
    have e2 : takeS p top = (p.1, drawQ p.2) := by unfold takeS; rw [if_neg hp]
    have l1 : 0 ≤ drawQ p.2 := Int.emod_nonneg _ (by decide)
    have l2 : drawQ p.2 < 2147483647 := Int.emod_lt_of_pos _ (by decide)
    rw [e2]
    rw [e] at I
    exact .retM I (.cast (.bin (.bin (.bin (.bin (.item (.head _) (.of fun h I => (.var I rfl)) (.of fun h I => .int) (by decide) (by decide) rfl) (.item (.head _) (.of fun h I => (.var I rfl)) (.of fun h I => .int) (by decide) (by decide) rfl) (.mulR ⟨by omega, by omega⟩)) (.of fun h I => .int) (.mod (by decide))) (.of fun h I => .int) (.fdiv (by decide) (by decide))) (.of fun h I => (.var I rfl)) (.mod (by omega)))
      (by unfold takeV; rw [if_neg hp, fmd _ (by omega), fdv _ (by decide), fmd _ (by decide)]))
end Mine
end
section
open PySem PySem.W PySem.Spec PySem.Calls PyProof.Rows
namespace Mine



/-- how many steps of four lie between -/
def rn (a b : Nat) : Nat := (b - a + 3) / 4
theorem rn_size {a : Nat} {b : Int} (h : 1 ≤ a) : Builtin.Range.rangeSize (a : Int) b 4 = rn a b.toNat := by
  unfold Builtin.Range.rangeSize rn
  rw [if_pos (by decide)]
  split <;> omega
theorem rn_len {a b : Nat} : rn a b ≤ b + 1 := by unfold rn; omega
theorem all_map {α β : Type} (l : List α) (g : α → PV) (f : PV → β) : (((l.map g).filter fun _ => true).map f) = l.map fun i => f (g i) := by
  rw [List.filter_eq_self.mpr fun _ _ => rfl, List.map_map]; rfl
theorem rn_lt {a b i : Nat} (h : i < rn a b) : a + 4 * i < b := by unfold rn at h; omega
def routeL (b : List UInt8) (p e : Nat) : List PV := (List.range (rn p e)).map fun i => .int (w32 b (p + 4 * i))
theorem source_route_fn {lv : Nat} (b : List UInt8) (p : Nat) (h0 : u b 0 = p + 3) (hp : 1 ≤ p) (hb : p < 200) (hl : 0 < b.length) (hz : b.length ≤ 900) : Fn (lv+4) 164 [.byt b] (.lst (routeL b p (b.length - 3))) := by
  refine Fn.of (lv := (lv+3)) ["octets"] (fun P => by k_is) (fun P => by k_is) (fun vs hv => by obtain ⟨a, rfl⟩ := len1 hv; rfl) (by decide) (by decide) rfl rfl rfl rfl (fun C h h₁ I => ?_)
  refine .asg (X := .int p) I calleeOwn (.cast (.call I fPointerPlace (.cons (.var I rfl) .nil) (pointer_place_fn _ (by omega) (by omega) (by omega)) rfl) (by rw [h0]; congr 1; omega)) rfl fun h₂ I => ?_
  refine .retM I (.cast (.comp (bsD := [("octets", .byt b)]) (It.range3 (a := p) (b := b.length - 3) (c := 4) (.cons (.of fun h I => (.var I rfl)) (.cons (.of fun h I => (.bin (.callB I gLen (.cons (.var I rfl) .nil) (.lenB (by omega)) rfl) .int .sub)) (.cons (.of fun h I => .int) .nil))) (by omega) (by omega) (by decide) (n := rn p (b.length - 3)) (by rw [rn_size hp]; congr 2; omega) rfl gRange) rfl
    (fun g L it acc _ _ _ => Turns.name (fun x => .int (w32 b (toI x).toNat)) (fun _ => true) compOwn rfl (fun _ q => nomatch q) (.inl ⟨rfl, fun _ _ => rfl⟩) ?_ Under.self (by have := @rn_len p (b.length - 3); simp only [List.length_map, List.length_range, List.length_nil]; omega)) rfl (hvC rfl (nl rfl) (fun _ => rfl) rfl hv0) (fun _ _ e => e) (fun _ q => nomatch q) (.inl rfl) rfl (by decide) (by decide)) ?_)
  · intro x hx _ led h I
    obtain ⟨i, hi, rfl⟩ := List.mem_map.mp hx
    have := rn_lt (List.mem_range.mp hi)
    exact (.call I fGet32 (.cons (.var I rfl) (.cons (.var I rfl) .nil)) (get32_fn _ _ _ (by simp only [toI]; omega) (by simp only [toI]; omega) (by omega)) rfl)
  · rw [all_map]
    exact congrArg PV.lst (List.map_congr_left fun i _ => by show PV.int (w32 b ((p : Int) + i * 4).toNat) = _; congr 2; omega)
theorem source_route_fx {lv : Nat} (b : List UInt8) (h0 : b = [] ∨ u b 0 < 4) (hz : b.length ≤ 16777216) : FnX (lv+4) 164 [.byt b] 44 := by
  refine FnX.of (lv := (lv+3)) ["octets"] (fun P => by k_is) (fun P => by k_is) (fun vs hv => by obtain ⟨a, rfl⟩ := len1 hv; rfl) (by decide) (by decide) rfl rfl rfl rfl (fun C h h₁ I => ?_)
  exact .asgX (.call I rfl fPointerPlace (.cons (.var I rfl) .nil) (pointer_place_fx b h0 hz) rfl)
theorem recorded_fn {lv : Nat} (b : List UInt8) (p : Nat) (h0 : u b 0 = p + 3) (hp : 1 ≤ p) (hb : p < 200) (hl : 0 < b.length) (hz : b.length ≤ 900) : Fn (lv+4) 159 [.byt b] (.lst (routeL b 1 (min p b.length - 3))) := by
  refine Fn.of (lv := (lv+3)) ["octets"] (fun P => by k_is) (fun P => by k_is) (fun vs hv => by obtain ⟨a, rfl⟩ := len1 hv; rfl) (by decide) (by decide) rfl rfl rfl rfl (fun C h h₁ I => ?_)
  refine .asg (X := .int (min (p : Int) b.length)) I calleeOwn (.cast (.callB I gMin (.cons (.call I fPointerPlace (.cons (.var I rfl) .nil) (pointer_place_fn _ (by omega) (by omega) (by omega)) rfl) (.cons (.callB I gLen (.cons (.var I rfl) .nil) (.lenB (by omega)) rfl) .nil)) (.min2 I.good.hh) rfl) (by rw [h0]; congr 2; omega)) rfl fun h₂ I => ?_
  refine .retM I (.cast (.comp (bsD := [("octets", .byt b)]) (It.range3 (a := (1 : Nat)) (b := min (p : Int) b.length - 3) (c := 4) (.cons (.of fun h I => .int) (.cons (.of fun h I => (.bin (.var I rfl) .int .sub)) (.cons (.of fun h I => .int) .nil))) (by omega) (by omega) (by decide) (n := rn 1 (min p b.length - 3)) (by rw [rn_size (Nat.le_refl 1)]; congr 2; omega) rfl gRange) rfl
    (fun g L it acc _ _ _ => Turns.name (fun x => .int (w32 b (toI x).toNat)) (fun _ => true) compOwn rfl (fun _ q => nomatch q) (.inl ⟨rfl, fun _ _ => rfl⟩) ?_ Under.self (by have := @rn_len 1 (min p b.length - 3); simp only [List.length_map, List.length_range, List.length_nil]; omega)) rfl (hvC rfl (nl rfl) (fun _ => rfl) rfl hv0) (fun _ _ e => e) (fun _ q => nomatch q) (.inl rfl) rfl (by decide) (by decide)) ?_)
  · intro x hx _ led h I
    obtain ⟨i, hi, rfl⟩ := List.mem_map.mp hx
    have := rn_lt (List.mem_range.mp hi)
    exact (.call I fGet32 (.cons (.var I rfl) (.cons (.var I rfl) .nil)) (get32_fn _ _ _ (by simp only [toI]; omega) (by simp only [toI]; omega) (by omega)) rfl)
  · rw [all_map]
    exact congrArg PV.lst (List.map_congr_left fun i _ => by show PV.int (w32 b (((1 : Nat) : Int) + i * 4).toNat) = _; congr 2; omega)
theorem recorded_fx {lv : Nat} (b : List UInt8) (h0 : b = [] ∨ u b 0 < 4) (hz : b.length ≤ 16777216) : FnX (lv+4) 159 [.byt b] 44 := by
  refine FnX.of (lv := (lv+3)) ["octets"] (fun P => by k_is) (fun P => by k_is) (fun vs hv => by obtain ⟨a, rfl⟩ := len1 hv; rfl) (by decide) (by decide) rfl rfl rfl rfl (fun C h h₁ I => ?_)
  exact .asgX (.callB1 I gMin (.call I rfl fPointerPlace (.cons (.var I rfl) .nil) (pointer_place_fx b h0 hz) rfl) rfl)
def fourB (n k : Int) : Int := (n / 256 ^ (3 - k).toNat) % 256
theorem powOk {k : Nat} (hk : k < 4) : ((256 : Int) ^ (3 - (k : Int)).toNat ≠ 0 ∧ 0 ≤ (256 : Int) ^ (3 - (k : Int)).toNat ∧ ((256 : Int) ^ (3 - (k : Int)).toNat).natAbs < 1099511627776) ∧ (Builtin.Int.intBits 256 : Int) * (3 - (k : Int)) ≤ 2 ^ 27 := by
  have : k = 0 ∨ k = 1 ∨ k = 2 ∨ k = 3 := by omega
  rcases this with rfl | rfl | rfl | rfl <;> decide +kernel
theorem byteB (n k : Int) : 0 ≤ fourB n k ∧ fourB n k < 256 := ⟨Int.emod_nonneg _ (by decide), Int.emod_lt_of_pos _ (by decide)⟩
theorem law_four_fn {lv : Nat} (n : Int) : Fn (lv+1) 256 [.int n] (.byt (four n)) := by
  refine Fn.of (lv := lv) ["number"] (fun P => by k_is) (fun P => by k_is) (fun vs hv => by obtain ⟨a, rfl⟩ := len1 hv; rfl) (by decide) (by decide) rfl rfl rfl rfl (fun C h h₁ I => ?_)
  refine .retM I (.cast (.callT gBytes (.cons (.comp (bsD := [("number", .int n)]) (It.range1 (n := 4) (.of fun h I => .int) (by decide) rfl gRange) rfl
    (fun g L it acc _ _ _ => Turns.name (fun x => .int (fourB n (toI x))) (fun _ => true) compOwn rfl (fun _ q => nomatch q) (.inl ⟨rfl, fun _ _ => rfl⟩) ?_ Under.self (Nat.le_of_ble_eq_true rfl)) rfl (hvC rfl (nl rfl) (fun _ => rfl) rfl hv0) (fun _ _ e => e) (fun _ q => nomatch q) (.inl rfl) rfl (by decide) (by decide)) .nil) (.bytesL I.good.hh (Nat.le_of_ble_eq_true rfl) ?_) rfl) ?_)
  · intro x hx _ led h I
    obtain ⟨k, hk, rfl⟩ : ∃ k : Nat, k < 4 ∧ x = .int k := by
      obtain ⟨i, hi, rfl⟩ := List.mem_map.mp hx
      exact ⟨i, List.mem_range.mp hi, rfl⟩
    have hp := powOk hk
    exact .cast (.bin (.bin (.var I rfl) (.bin .int (.bin .int (.var I rfl) .sub) (.pow (by omega) hp.2)) (.fdiv hp.1.1 hp.1.2.2)) .int (.mod (by decide))) (by rw [fdv _ hp.1.2.1, fmd _ (by decide)]; rfl)
  · rw [all_map]
    intro x hx
    obtain ⟨i, hi, rfl⟩ := List.mem_map.mp hx
    exact ⟨_, rfl, byteB _ _⟩
  · rw [all_map, List.nil_append, List.map_map]
    show PV.byt [b8 (fourB n 0), b8 (fourB n 1), b8 (fourB n 2), b8 (fourB n 3)] = _
    simp [fourB, four]
end Mine
end
section
open PySem PySem.W PySem.Spec PySem.Calls PyProof.Rows
namespace Mine
abbrev Opt := Int × List UInt8
abbrev optV (o : Opt) : PV := .tup [.int o.1, .byt o.2]
def OptOk (o : Opt) : Prop := o.1 = 1 ∧ o.2 = [] ∨ 2 ≤ o.1 ∧ o.1 ≤ 255 ∧ o.2.length ≤ 7
def optB (o : Opt) : List UInt8 := if o.1 = 1 then [1] else b8 o.1 :: b8 (o.2.length + 2) :: o.2
def plainOf (l : List Opt) : List UInt8 := l.flatMap optB
theorem plain_nil : plainOf [] = [] := rfl
theorem plain_cons (o : Opt) (l : List Opt) : plainOf (o :: l) = optB o ++ plainOf l := rfl
theorem plain_snoc (l : List Opt) (o : Opt) : plainOf (l ++ [o]) = plainOf l ++ optB o := by simp [plainOf]
theorem optB_one {o : Opt} (h : o.1 = 1) : optB o = [1] := if_pos h
theorem optB_more {o : Opt} (h : o.1 ≠ 1) : optB o = b8 o.1 :: b8 (o.2.length + 2) :: o.2 := if_neg h
theorem OptOk.more {o : Opt} (k : OptOk o) (h : o.1 ≠ 1) : 2 ≤ o.1 ∧ o.1 ≤ 255 ∧ o.2.length ≤ 7 := k.resolve_left fun z => h z.1
theorem OptOk.one {o : Opt} (k : OptOk o) (h : o.1 = 1) : o.2 = [] := by
  rcases k with k | k
  · exact k.2
  · omega
theorem optB_len {o : Opt} (k : OptOk o) : (optB o).length ≤ 9 := by
  by_cases h : o.1 = 1
  · rw [optB_one h]; decide
  · rw [optB_more h]; have := (k.more h).2.2; simp only [List.length_cons]; omega
theorem plain_len : ∀ {l : List Opt}, (∀ o ∈ l, OptOk o) → (plainOf l).length ≤ 9 * l.length
  | [], _ => Nat.le_refl _
  | o :: l, h => by
    rw [plain_cons, List.length_append, List.length_cons]
    have := optB_len (h o (.head _))
    have := plain_len fun x hx => h x (.tail _ hx)
    omega

theorem fPlain : GlF "_law_plain" 225 := ⟨fun P => ⟨by k_is, by k_is⟩, by decide⟩
theorem fLSize : GlF "_law_size" 239 := ⟨fun P => ⟨by k_is, by k_is⟩, by decide⟩
theorem or3F {a b c : Prop} [Decidable a] [Decidable b] [Decidable c] (x : ¬a) (y : ¬b) (z : ¬c) : (decide a || (decide b || (decide c || false))) = false := by rw [decide_eq_false x, decide_eq_false y, decide_eq_false z]; rfl
theorem or3T {a b c : Prop} [Decidable a] [Decidable b] [Decidable c] (x : b ∨ c) : (decide a || (decide b || (decide c || false))) = true := by
  rcases x with x | x
  · rw [decide_eq_true x]; simp
  · rw [decide_eq_true x]; simp
theorem law_size_ok {lv : Nat} (b : List UInt8) (a : Nat) (h1 : a + 1 < b.length) (h2 : 2 ≤ u b (a + 1)) (h3 : a + u b (a + 1) ≤ b.length) (hz : b.length ≤ 16777216) : Fn (lv+1) 239 [.byt b, .int a] (.int (u b (a + 1))) := by
  refine Fn.of (lv := lv) ["octets", "place"] (fun P => by k_is) (fun P => by k_is) (fun vs hv => by obtain ⟨a, b, rfl⟩ := len2 hv; rfl) (by decide) (by decide) rfl rfl rfl rfl (fun C h h₁ I => ?_)
  refine .ifF I (Tv.cast (.or (.cmp (.bin (.var I rfl) .int .add) (.callB I gLen (.cons (.var I rfl) .nil) (.lenB (LE _ hz)) rfl) .ge) fun hs => (.or (.cmp (.sub (.var I rfl) (.bin (.var I rfl) .int .add) (.itemB hz (by omega) (by omega))) .int .lt) fun hs => (.or (.cmp (.bin (.var I rfl) (.sub (.var I rfl) (.bin (.var I rfl) .int .add) (.itemB hz (by omega) (by omega))) .add) (.callB I gLen (.cons (.var I rfl) .nil) (.lenB (LE _ hz)) rfl) .gt) fun hs => .orN))) (or3F (by omega) (show ¬ u b (a + 1) < 2 by omega) (show ¬ (b.length : Int) < a + u b (a + 1) by omega))) fun h₂ I => ?_
  exact .ret I (.sub (.var I rfl) (.bin (.var I rfl) .int .add) (.itemB hz (by omega) (by omega)))
theorem law_size_bad {lv : Nat} (b : List UInt8) (a : Nat) (h1 : a + 1 < b.length → u b (a + 1) < 2 ∨ (b.length : Int) < a + u b (a + 1)) (hz : b.length ≤ 16777216) : Fn (lv+1) 239 [.byt b, .int a] (.str "form") := by
  refine Fn.of (lv := lv) ["octets", "place"] (fun P => by k_is) (fun P => by k_is) (fun vs hv => by obtain ⟨a, b, rfl⟩ := len2 hv; rfl) (by decide) (by decide) rfl rfl rfl rfl (fun C h h₁ I => ?_)
  by_cases h0 : a + 1 < b.length
  · have := h1 h0
    refine .ifT I (Tv.cast (.or (.cmp (.bin (.var I rfl) .int .add) (.callB I gLen (.cons (.var I rfl) .nil) (.lenB (LE _ hz)) rfl) .ge) fun hs => (.or (.cmp (.sub (.var I rfl) (.bin (.var I rfl) .int .add) (.itemB hz (by omega) (by omega))) .int .lt) fun hs => (.or (.cmp (.bin (.var I rfl) (.sub (.var I rfl) (.bin (.var I rfl) .int .add) (.itemB hz (by omega) (by omega))) .add) (.callB I gLen (.cons (.var I rfl) .nil) (.lenB (LE _ hz)) rfl) .gt) fun hs => .orN))) (or3T (show u b (a + 1) < 2 ∨ (b.length : Int) < a + u b (a + 1) from h1 h0))) trivial fun h₂ I => ?_
    exact .ret I .str
  · refine .ifT I (b := _) (Tv.cast (Tv.or (.cmp (.bin (.var I rfl) .int .add) (.callB I gLen (.cons (.var I rfl) .nil) (.lenB (LE _ hz)) rfl) .ge) (b := false) fun z => absurd z (by simp; omega)) (by simp; omega)) trivial fun h₂ I => ?_
    exact .ret I .str
theorem law_plain_fn {lv : Nat} (l : List Opt) (hl : ∀ o ∈ l, OptOk o) (hn : l.length ≤ 100) : Fn (lv+1) 225 [.lst (l.map optV)] (.byt (plainOf l)) := by
  refine Fn.of (lv := lv) ["some"] (fun P => by k_is) (fun P => by k_is) (fun vs hv => by obtain ⟨a, rfl⟩ := len1 hv; rfl) (by decide) (by decide) rfl rfl rfl rfl (fun C h h₁ I => ?_)
  refine .asg I calleeOwn .byt rfl fun h₂ I => ?_
  refine .forL I (It.list (.of fun h I => (.var I rfl))) (fun _ q => nomatch q) (fun g it _ _ => ?_) (fun _ z => nomatch z)
  refine Loop.all optV l (fun _ => []) (fun p => [("found", .byt (plainOf p)), ("some", .lst (l.map optV))]) (fun _ _ q => nomatch q) (fun p o r e => ⟨_, fun io => .tup (.cons (.name (inOwn calleeOwn) rfl) (.cons (.name (inOwn calleeOwn) rfl) .nil)), fun io h I => ?_⟩) fun h I => .ret I (.var I rfl)
  have k := hl o (e ▸ List.mem_append_right _ (.head _))
  have kl := optB_len k
  have hp := plain_len fun x hx => hl x (e ▸ List.mem_append_left _ hx)
  have hpl : p.length ≤ l.length := by rw [e, List.length_append]; omega
  rw [plain_snoc]
  by_cases h1 : o.1 = 1
  · refine .asg (X := .byt (plainOf p ++ optB o)) I (inOwn calleeOwn) (.cast (.bin (.var I rfl) (.ifT (Tv.cast (.cmp (.var I rfl) .int .eqI) (by rw [h1]; rfl)) (.callT I gBytes (.cons (.list I (.cons .int .nil) (Nat.le_of_ble_eq_true rfl)) .nil) (.bytesL I.good.hh (Nat.le_of_ble_eq_true rfl) (fun x hx => by rw [List.mem_singleton.mp hx]; exact ⟨1, rfl, by decide, by decide⟩)) rfl)) (.addB (show (plainOf p).length + 1 ≤ 16777216 by omega))) (by rw [optB_one h1]; rfl)) rfl fun h₂ I => ?_
    exact .nil (I.sub (subC rfl (subC rfl sub0)))
  · have m := k.more h1
    refine .asg (X := .byt (plainOf p ++ optB o)) I (inOwn calleeOwn) (.cast (.bin (.var I rfl) (.ifF (Tv.cast (.cmp (.var I rfl) .int .eqI) (beq_eq_false_iff_ne.mpr h1)) (.bin (.callT I gBytes (.cons (.list I (.cons (.var I rfl) (.cons (.bin (.callB I gLen (.cons (.var I rfl) .nil) (.lenB (by omega)) rfl) .int .add) .nil)) (Nat.le_of_ble_eq_true rfl)) .nil) (.bytesL I.good.hh (Nat.le_of_ble_eq_true rfl) ?_) rfl) (.var I rfl) (.addB (show 2 + o.2.length ≤ 16777216 by omega)))) (.addB (show (plainOf p).length + (o.2.length + 1 + 1) ≤ 16777216 by omega))) (by rw [optB_more h1]; rfl)) rfl fun h₂ I => ?_
    · intro x hx
      rcases List.mem_cons.mp hx with rfl | hx
      · exact ⟨_, rfl, by omega, by omega⟩
      · rw [List.mem_singleton.mp hx]; exact ⟨_, rfl, by omega, by omega⟩
    · exact .nil (I.sub (subC rfl (subC rfl sub0)))
end Mine
end
section
open PySem PySem.W PySem.Spec PySem.Calls PyProof.Rows
namespace Mine

theorem fIsCopied : GlF "is_copied" 135 := ⟨fun P => ⟨by k_is, by k_is⟩, by decide⟩
theorem option_octets_fn {lv : Nat} (o : Opt) (k : OptOk o) : Fn (lv+2) 128 [.int o.1, .byt o.2] (.byt (optB o)) := by
  by_cases h : o.1 = 1
  · rw [optB_one h, h, k.one h]; exact option_octets_one
  · rw [optB_more h]; have := k.more h; exact option_octets_more o.1 o.2 this.1 this.2.1 (by omega)


def padN (n : Nat) : Nat := (4 - n % 4) % 4
theorem write_options_fn {lv : Nat} (l : List Opt) (hl : ∀ o ∈ l, OptOk o) (hn : l.length ≤ 4) : Fn (lv+3) 121 [.lst (l.map optV)] (.byt (plainOf l ++ List.replicate (padN (plainOf l).length) 0)) := by
  refine Fn.of (lv := (lv+2)) ["options"] (fun P => by k_is) (fun P => by k_is) (fun vs hv => by obtain ⟨a, rfl⟩ := len1 hv; rfl) (by decide) (by decide) rfl rfl rfl rfl (fun C h h₁ I => ?_)
  refine .asg I calleeOwn .byt rfl fun h₂ I => ?_
  have pl := plain_len hl
  refine .forL I (It.list (.of fun h I => (.var I rfl))) (fun _ q => nomatch q) (fun g it _ _ => ?_) (fun _ z => nomatch z)
  refine Loop.all optV l (fun _ => []) (fun p => [("found", .byt (plainOf p)), ("options", .lst (l.map optV))]) (fun _ _ q => nomatch q) (fun p o r e => ⟨_, fun io => .tup (.cons (.name (inOwn calleeOwn) rfl) (.cons (.name (inOwn calleeOwn) rfl) .nil)), fun io h I => ?_⟩) fun h I => ?_
  · have k := hl o (e ▸ List.mem_append_right _ (.head _))
    have kl := optB_len k
    have hp := plain_len fun x hx => hl x (e ▸ List.mem_append_left _ hx)
    have hpl : p.length ≤ l.length := by rw [e, List.length_append]; omega
    rw [plain_snoc]
    refine .asg (X := .byt (plainOf p ++ optB o)) I (inOwn calleeOwn) (.bin (.var I rfl) (.call I fOptionOctets (.cons (.var I rfl) (.cons (.var I rfl) .nil)) (option_octets_fn _ k) rfl) (.addB (by omega))) rfl fun h₂ I => ?_
    exact .nil (I.sub (subC rfl (subC rfl sub0)))
  · have e1 : ((4 - ((plainOf l).length : Int).fmod 4).fmod 4).toNat = padN (plainOf l).length := by rw [fmd _ (by decide), fmd _ (by decide)]; unfold padN; omega
    have e2 : 0 ≤ (4 - ((plainOf l).length : Int).fmod 4).fmod 4 ∧ (4 - ((plainOf l).length : Int).fmod 4).fmod 4 < 4 := by rw [fmd _ (by decide), fmd _ (by decide)]; omega
    have hz : padN (plainOf l).length < 4 := by unfold padN; omega
    have e3 : (plainOf l).length + padN (plainOf l).length ≤ 40 := by unfold padN; omega
    refine .asg (X := .byt (plainOf l ++ List.replicate (padN (plainOf l).length) 0)) I calleeOwn (.cast (.bin (.var I rfl) (.callT I gBytes (.cons (.bin (.bin .int (.bin (.callB I gLen (.cons (.var I rfl) .nil) (.lenB (by omega)) rfl) .int (.mod (by decide))) .sub) .int (.mod (by decide))) .nil) (.bytesN e2.1 (by omega)) rfl) (.addB (by rw [e1, List.length_replicate]; omega))) (by rw [e1])) rfl fun h₂ I => ?_
    have e4 : (plainOf l ++ List.replicate (padN (plainOf l).length) (0 : UInt8)).length ≤ 40 := by rw [List.length_append, List.length_replicate]; exact e3
    refine .ifF I (Tv.cast (.cmp (.callB I gLen (.cons (.var I rfl) .nil) (.lenB (by omega)) rfl) (.gI I gMOST rfl) .gt) (decide_eq_false (by omega))) fun h₂ I => ?_
    exact .ret I (.var I rfl)
theorem copied_fn {lv : Nat} (l : List Opt) (hn : l.length ≤ 100) : Fn (lv+2) 140 [.lst (l.map optV)] (.lst ((l.filter fun o => decide (128 ≤ o.1)).map optV)) := by
  refine Fn.of (lv := (lv+1)) ["options"] (fun P => by k_is) (fun P => by k_is) (fun vs hv => by obtain ⟨a, rfl⟩ := len1 hv; rfl) (by decide) (by decide) rfl rfl rfl rfl (fun C h h₁ I => ?_)
  refine .retM I (.comp (bsD := []) (It.list (.of fun h I => (.var I rfl))) rfl (fun g L it acc _ _ _ => Turns.pair (fun o : Opt => .int o.1) (fun o : Opt => .byt o.2) optV (fun o => decide (128 ≤ o.1)) compOwn rfl rfl (fun _ q => nomatch q) (.inr ⟨_, rfl, fun o _ led h I => .val (.call I fIsCopied (.cons (.var I rfl) .nil) (is_copied_fn _) rfl)⟩) (fun o _ _ led h I => (.tuple I (.cons (.var I rfl) (.cons (.var I rfl) .nil)) (Nat.le_of_ble_eq_true rfl))) (by simp only [List.length_nil]; omega)) rfl hv0 (fun _ _ e => e) (fun _ q => nomatch q) (.inl rfl) rfl (by decide) (by decide))
/-- the first way -/
def wayV (l : List Opt) : PV := match l.find? fun o => o.1 == 131 || o.1 == 137 with
  | some o => optV o
  | none => .none
theorem tells_way_fn {lv : Nat} (l : List Opt) : Fn (lv+1) 178 [.lst (l.map optV)] (wayV l) := by
  refine Fn.of (lv := lv) ["options"] (fun P => by k_is) (fun P => by k_is) (fun vs hv => by obtain ⟨a, rfl⟩ := len1 hv; rfl) (by decide) (by decide) rfl rfl rfl rfl (fun C h h₁ I => ?_)
  unfold wayV
  cases hf : l.find? fun o => o.1 == 131 || o.1 == 137 with
  | none =>
    have hx := List.find?_eq_none.mp hf
    refine .forL I (It.list (.of fun h I => (.var I rfl))) (fun _ q => nomatch q) (fun g it _ _ => ?_) (fun _ z => nomatch z)
    refine Loop.all optV l (fun _ => []) (fun p => [("options", .lst (l.map optV))]) (fun _ _ q => nomatch q) (fun p o r e => ⟨_, fun io => .tup (.cons (.name (inOwn calleeOwn) rfl) (.cons (.name (inOwn calleeOwn) rfl) .nil)), fun io h I => ?_⟩) fun h I => .ret I .none
    exact .ifF I (Tv.cast (.or (.cmp (.var I rfl) (.gI I gLOOSE rfl) .eqI) fun hs => (.or (.cmp (.var I rfl) (.gI I gSTRICT rfl) .eqI) fun hs => .orN)) (by have := hx o (e ▸ List.mem_append_right _ (.head _)); simpa using this)) fun h I => .nil (I.sub (subC rfl sub0))
  | some o =>
    obtain ⟨ho, as, r, rfl, hx⟩ := List.find?_eq_some_iff_append.mp hf
    refine .forL I (It.list (.of fun h I => (.var I rfl))) (fun _ q => nomatch q) (fun g it _ _ => ?_) (fun _ z => nomatch z)
    rw [List.map_append, List.map_cons]
    refine Loop.app optV as (fun _ => []) (fun p => [("options", .lst (as.map optV ++ optV o :: r.map optV))]) (fun _ _ q => nomatch q) (fun p o r e => ⟨_, fun io => .tup (.cons (.name (inOwn calleeOwn) rfl) (.cons (.name (inOwn calleeOwn) rfl) .nil)), fun io h I => ?_⟩)
      ⟨fun _ q => (nomatch q), _, fun io => .tup (.cons (.name (inOwn calleeOwn) rfl) (.cons (.name (inOwn calleeOwn) rfl) .nil)), .inl ⟨trivial, fun io h I => ?_⟩⟩
    · exact .ifF I (Tv.cast (.or (.cmp (.var I rfl) (.gI I gLOOSE rfl) .eqI) fun hs => (.or (.cmp (.var I rfl) (.gI I gSTRICT rfl) .eqI) fun hs => .orN)) (by have := hx o (e ▸ List.mem_append_right _ (.head _)); simpa using this)) fun h I => .nil (I.sub (subC rfl sub0))
    · exact .ifT I (Tv.cast (.or (.cmp (.var I rfl) (.gI I gLOOSE rfl) .eqI) fun hs => (.or (.cmp (.var I rfl) (.gI I gSTRICT rfl) .eqI) fun hs => .orN)) (by simpa using ho)) trivial fun h I => .ret I (.tuple I (.cons (.var I rfl) (.cons (.var I rfl) .nil)) (Nat.le_of_ble_eq_true rfl))
end Mine
end
section
open PySem PySem.W PySem.Spec PySem.Calls PyProof.Rows
namespace Mine
def consR (o : Opt) (r : List Opt × Bool) : List Opt × Bool := (o :: r.1, r.2)
/-- the octets read, and whether they could be read to the end -/
def rd : Nat → List UInt8 → Nat → List Opt × Bool
  | 0, _, _ => ([], true)
  | n + 1, b, a => if b.length ≤ a ∨ u b a = 0 then ([], true) else if u b a = 1 then consR (1, []) (rd n b (a + 1))
      else if a + 1 < b.length ∧ 2 ≤ u b (a + 1) ∧ a + u b (a + 1) ≤ b.length then consR (u b a, (b.drop (a + 2)).take ((u b (a + 1)).toNat - 2)) (rd n b (a + (u b (a + 1)).toNat)) else ([], false)
def rdV (r : List Opt × Bool) : PV := if r.2 then .lst (r.1.map optV) else .str "form"
theorem rd_end {n : Nat} {b : List UInt8} {a : Nat} (h : b.length ≤ a ∨ u b a = 0) : rd (n + 1) b a = ([], true) := if_pos h
theorem rd_one {n : Nat} {b : List UInt8} {a : Nat} (h : ¬ (b.length ≤ a ∨ u b a = 0)) (h1 : u b a = 1) : rd (n + 1) b a = consR (1, []) (rd n b (a + 1)) := (if_neg h).trans (if_pos h1)
theorem rd_more {n : Nat} {b : List UInt8} {a : Nat} (h : ¬ (b.length ≤ a ∨ u b a = 0)) (h1 : ¬ u b a = 1) (h2 : a + 1 < b.length ∧ 2 ≤ u b (a + 1) ∧ a + u b (a + 1) ≤ b.length) : rd (n + 1) b a = consR (u b a, (b.drop (a + 2)).take ((u b (a + 1)).toNat - 2)) (rd n b (a + (u b (a + 1)).toNat)) := ((if_neg h).trans (if_neg h1)).trans (if_pos h2)
theorem rd_bad {n : Nat} {b : List UInt8} {a : Nat} (h : ¬ (b.length ≤ a ∨ u b a = 0)) (h1 : ¬ u b a = 1) (h2 : ¬ (a + 1 < b.length ∧ 2 ≤ u b (a + 1) ∧ a + u b (a + 1) ≤ b.length)) : rd (n + 1) b a = ([], false) := ((if_neg h).trans (if_neg h1)).trans (if_neg h2)
def outR (a : Addr) (r : List Opt × Bool) (o : Out) : Out := if r.2 then .ret (.ref a) else o
theorem snocR {acc : List Opt} {o : Opt} {r R : List Opt × Bool} (e : (acc ++ (consR o r).1, (consR o r).2) = R) : ((acc ++ [o]) ++ r.1, r.2) = R := by rw [← e, List.append_assoc]; rfl
theorem map_snoc (acc : List Opt) (o : Opt) : (acc ++ [o]).map optV = acc.map optV ++ [optV o] := by simp
theorem ev0 {a b : Int} : (a == b) = decide (a = b) := by by_cases h : a = b <;> simp [h]
theorem tstR (b : List UInt8) (p : Nat) : (decide ((b.length : Int) ≤ (p : Int)) || ((u b p == 0) || false)) = decide (b.length ≤ p ∨ u b p = 0) := by
  rw [ev0, Bool.or_false, ← Bool.decide_or]
  congr 1
  simp


theorem law_read_fn {lv : Nat} (b : List UInt8) (hz : b.length ≤ 900) : Fn (lv+2) 246 [.byt b] (rdV (rd b.length b 0)) := by
  refine Fn.of (lv := (lv+1)) ["octets"] (fun P => by k_is) (fun P => by k_is) (fun vs hv => by obtain ⟨a, rfl⟩ := len1 hv; rfl) (by decide) (by decide) rfl rfl rfl rfl (fun C h h₁ I => ?_)
  refine .asgList2 I calleeOwn rfl rfl (fun _ q => nomatch q) (fun _ q => nomatch q) fun a h₂ hem I => ?_
  obtain ⟨R, hR⟩ : ∃ R, R = rd b.length b 0 := ⟨_, rfl⟩
  refine ⟨outR a R (.ret (.str "form")), .lst (R.1.map optV), ?_, ?_⟩
  · rw [← hR]; unfold outR rdV
    cases R.2
    · exact .inl rfl
    · exact .inr ⟨_, rfl, rfl, rfl⟩
  refine .forL I (It.range1 (n := b.length) (.of fun h I => (.callB I gLen (.cons (.var I rfl) .nil) (.lenB (by omega)) rfl)) (by omega) rfl gRange) (fun _ q => nomatch q) (fun g it hit _ => ?_) (fun c z => by unfold outR at z; split at z <;> cases z) (fun c z => by unfold outR at z; split at z <;> cases z)
  have z16 : b.length ≤ 16777216 := by omega
  have hne : it ≠ a := fun z => hit (z ▸ .head _)
  refine Loop.fuel (fun n (s : Nat × List Opt) => (s.2 ++ (rd n b s.1).1, (rd n b s.1).2) = R ∧ s.1 ≤ 1000 ∧ s.2.length + n ≤ 1000) (fun s => [(a, .lst (s.2.map optV))]) (fun s => [("found", .ref a), ("place", .int s.1), ("octets", .byt b)]) (fun s q hq => List.mem_singleton.mp hq ▸ .head _) (fun n s i p => ?_) (fun s p h I => ?_) (List.range b.length) (0, []) ⟨by rw [List.length_range, ← hR]; rfl, by decide, by simp; omega⟩
  · obtain ⟨pl, acc⟩ := s
    obtain ⟨e, p1, p2⟩ := p
    have p1 : pl ≤ 1000 := p1
    have p2 : acc.length + (n + 1) ≤ 1000 := p2
    refine ⟨_, fun io => .name (inOwn (.tail _ calleeOwn)) rfl, ?_⟩
    by_cases h0 : b.length ≤ pl ∨ u b pl = 0
    · have hRa : R = (acc, true) := by rw [← e, rd_end h0]; simp
      rw [hRa]
      exact .inl ⟨trivial, fun io h I => .ifT I (Tv.cast (.or (.cmp (.var I rfl) (.callB I gLen (.cons (.var I rfl) .nil) (.lenB (LE _ z16)) rfl) .ge) fun hs => (.or (.cmp (.sub (.var I rfl) (.var I rfl) (.itemB z16 (by omega) (by have := of_decide_eq_false hs; omega))) .int .eqI) fun hs => .orN)) ((tstR b pl).trans (decide_eq_true h0))) trivial fun h I => .ret I (.var I rfl)⟩
    · have hlt : pl < b.length := by omega
      have aL : ((acc.map optV).length ≤ 16777216) := by rw [List.length_map]; omega
      by_cases h1 : u b pl = 1
      · refine .inr ⟨(pl + 1, acc ++ [(1, [])]), ⟨snocR (by rw [← rd_one h0 h1]; exact e), by show pl + 1 ≤ 1000; omega, by show (acc ++ [_]).length + n ≤ 1000; rw [List.length_append, List.length_singleton]; omega⟩, fun io h I => ?_⟩
        refine .ifF I (Tv.cast (.or (.cmp (.var I rfl) (.callB I gLen (.cons (.var I rfl) .nil) (.lenB (LE _ z16)) rfl) .ge) fun hs => (.or (.cmp (.sub (.var I rfl) (.var I rfl) (.itemB z16 (by omega) (by omega))) .int .eqI) fun hs => .orN)) ((tstR b pl).trans (decide_eq_false h0))) fun h I => ?_
        refine .asg (X := .int 1) I (inOwn (.tail _ calleeOwn)) (.ifT (Tv.cast (.cmp (.sub (.var I rfl) (.var I rfl) (.itemB z16 (by omega) (by omega))) .int .eqI) (beq_iff_eq.mpr h1)) .int) rfl fun h I => ?_
        refine .ifF I (Tv.cast (.cmp (.var I rfl) .str .eqIS) rfl) fun h I => ?_
        refine .append (X := optV (1, [])) (pre := [(it, .obj io)]) (post := []) I (.of fun h I => (.var I rfl)) (.cast (.of fun h I => (.tuple I (.cons (.sub (.var I rfl) (.var I rfl) (.itemB z16 (by omega) (by omega))) (.cons (.cut (.var I rfl) (.some (.bin (.var I rfl) .int .add)) (.some (.bin (.var I rfl) (.var I rfl) .add)) z16) .nil)) (Nat.le_of_ble_eq_true rfl))) (by
          show PV.tup [.int (u b pl), .byt (cutL b (some ((pl : Int) + 2)) (some ((pl : Int) + 1)))] = _
          rw [h1, show cutL b (some ((pl : Int) + 2)) (some ((pl : Int) + 1)) = _ from cutNN b (pl + 2) (pl + 1), show pl + 1 - (pl + 2) = 0 by omega]; rfl)) aL (fun q hq => List.mem_singleton.mp hq ▸ hne) (fun _ q => nomatch q) ⟨_, .tail _ (.head _)⟩ fun h I => ?_
        refine .asg (X := .int (pl + 1 : Nat)) I (inOwn (.tail _ calleeOwn)) (.bin (.var I rfl) (.var I rfl) .add) rfl fun h I => ?_
        rw [show ([(a, LO.lst ((acc ++ [((1 : Int), ([] : List UInt8))]).map optV))] : List (Addr × LO)) = [(a, .lst (acc.map optV ++ [optV (1, [])]))] by rw [map_snoc]]
        exact .nil (I.sub (subC rfl (subC rfl (subC rfl sub0))))
      · by_cases h2 : pl + 1 < b.length ∧ 2 ≤ u b (pl + 1) ∧ pl + u b (pl + 1) ≤ b.length
        · obtain ⟨m, hm⟩ : ∃ m : Nat, u b (pl + 1) = m := ⟨_, rfl⟩
          have hmN : (u b (pl + 1)).toNat = m := by rw [hm]; rfl
          have hr := rd_more (n := n) h0 h1 h2
          rw [hmN] at hr
          rw [hr] at e
          obtain ⟨q1, q2, q3⟩ := h2
          refine .inr ⟨(pl + m, acc ++ [(u b pl, (b.drop (pl + 2)).take (m - 2))]), ⟨snocR e, by show pl + m ≤ 1000; omega, by show (acc ++ [_]).length + n ≤ 1000; rw [List.length_append, List.length_singleton]; omega⟩, fun io h I => ?_⟩
          refine .ifF I (Tv.cast (.or (.cmp (.var I rfl) (.callB I gLen (.cons (.var I rfl) .nil) (.lenB (LE _ z16)) rfl) .ge) fun hs => (.or (.cmp (.sub (.var I rfl) (.var I rfl) (.itemB z16 (by omega) (by omega))) .int .eqI) fun hs => .orN)) ((tstR b pl).trans (decide_eq_false h0))) fun h I => ?_
          refine .asg (X := .int m) I (inOwn (.tail _ calleeOwn)) (.cast (.ifF (Tv.cast (.cmp (.sub (.var I rfl) (.var I rfl) (.itemB z16 (by omega) (by omega))) .int .eqI) (beq_eq_false_iff_ne.mpr h1)) (.call I fLSize (.cons (.var I rfl) (.cons (.var I rfl) .nil)) (law_size_ok _ _ q1 q2 q3 z16) rfl)) (congrArg PV.int hm)) rfl fun h I => ?_
          refine .ifF I (Tv.cast (.cmp (.var I rfl) .str .eqIS) rfl) fun h I => ?_
          refine .append (X := optV (u b pl, (b.drop (pl + 2)).take (m - 2))) (pre := [(it, .obj io)]) (post := []) I (.of fun h I => (.var I rfl)) (.cast (.of fun h I => (.tuple I (.cons (.sub (.var I rfl) (.var I rfl) (.itemB z16 (by omega) (by omega))) (.cons (.cut (.var I rfl) (.some (.bin (.var I rfl) .int .add)) (.some (.bin (.var I rfl) (.var I rfl) .add)) z16) .nil)) (Nat.le_of_ble_eq_true rfl))) (by
            show PV.tup [.int (u b pl), .byt (cutL b (some ((pl : Int) + 2)) (some ((pl : Int) + m)))] = _
            rw [show cutL b (some ((pl : Int) + 2)) (some ((pl : Int) + m)) = _ from cutNN b (pl + 2) (pl + m), show pl + m - (pl + 2) = m - 2 by omega])) aL (fun q hq => List.mem_singleton.mp hq ▸ hne) (fun _ q => nomatch q) ⟨_, .tail _ (.head _)⟩ fun h I => ?_
          refine .asg (X := .int (pl + m : Nat)) I (inOwn (.tail _ calleeOwn)) (.bin (.var I rfl) (.var I rfl) .add) rfl fun h I => ?_
          rw [show ([(a, LO.lst ((acc ++ [(u b pl, (b.drop (pl + 2)).take (m - 2))]).map optV))] : List (Addr × LO)) = [(a, .lst (acc.map optV ++ [optV (u b pl, (b.drop (pl + 2)).take (m - 2))]))] by rw [map_snoc]]
          exact .nil (I.sub (subC rfl (subC rfl (subC rfl sub0))))
        · have hRa : R = (acc, false) := by rw [← e, rd_bad h0 h1 h2]; simp
          rw [hRa]
          have h2' : pl + 1 < b.length → u b (pl + 1) < 2 ∨ (b.length : Int) < pl + u b (pl + 1) := by omega
          refine .inl ⟨trivial, fun io h I => ?_⟩
          refine .ifF I (Tv.cast (.or (.cmp (.var I rfl) (.callB I gLen (.cons (.var I rfl) .nil) (.lenB (LE _ z16)) rfl) .ge) fun hs => (.or (.cmp (.sub (.var I rfl) (.var I rfl) (.itemB z16 (by omega) (by omega))) .int .eqI) fun hs => .orN)) ((tstR b pl).trans (decide_eq_false h0))) fun h I => ?_


          refine .asg (X := .str "form") I (inOwn (.tail _ calleeOwn)) (.ifF (Tv.cast (.cmp (.sub (.var I rfl) (.var I rfl) (.itemB z16 (by omega) (by omega))) .int .eqI) (beq_eq_false_iff_ne.mpr h1)) (.call I fLSize (.cons (.var I rfl) (.cons (.var I rfl) .nil)) (law_size_bad _ _ h2' z16) rfl)) rfl fun h I => ?_
          exact .ifT I (.cmp (.var I rfl) .str .eqS) trivial fun h I => .ret I .str
  · obtain ⟨pl, acc⟩ := s
    obtain ⟨e, _⟩ := p
    have hRa : R = (acc, true) := by rw [← e]; simp [rd]
    rw [hRa]
    exact .ret I (.var I rfl)
end Mine
end
section
open PySem PySem.W PySem.Spec PySem.Calls PyProof.Rows
namespace Mine



theorem tstW (b : List UInt8) (p : Nat) : (decide ((p : Int) < (b.length : Int)) && ((u b p != 0) && true)) = decide (¬ (b.length ≤ p ∨ u b p = 0)) := by
  rw [Bool.and_true, bne, ev0, ← decide_not, ← Bool.decide_and]
  congr 1
  simp
/-- the while loop's state -/
abbrev RdP (b : List UInt8) (R : List Opt × Bool) (n : Nat) (s : Nat × List Opt) : Prop := (s.2 ++ (rd n b s.1).1, (rd n b s.1).2) = R ∧ b.length ≤ s.1 + n ∧ s.2.length + n ≤ 1000
/-- how a def ends -/
def FnO (lv : Nat) (f : Addr) (args : List PV) : Out → Prop
  | .ret X => Fn lv f args X
  | .exc c => FnX lv f args c
  | _ => True
theorem FnO.of {lv : Nat} {args : List PV} {o : Out} {name qual : Str} {params : Arguments} {body : List Stmt} {scope : Scope} {dV kV doc pm cdv ct oc : Value} {an od : Option Addr} {osl : Array (Option Value)} {f : Addr} (ps : List Str)
    (ho : ∀ P, (hd.heap_39 P).lookup f = some ⟨oc, od, .func (fnOf name qual params body scope dV kV doc pm an cdv ct), osl⟩) (hcd : ∀ P, codeIn (hd.heap_39 P) cdv qual = true)
    (hb : ∀ vs : List Value, vs.length = args.length → bindArgs (fnOf name qual params body scope dV kV doc pm an cdv ct) ⟨vs, []⟩ = pure (ps.zip vs)) (hps : ps.Nodup) (hcn : ((cellsFrom 0 scope.names []).map (·.1)).Nodup) (hkp : (ps.all fun y => scope.names.lookup y == some .local || scope.names.lookup y == some .cell) = true)
    (hco : scope.isCoroutine = false) (hgen : scope.isGenerator = false) (hk : scope.kind = .function)
    (run : ∀ (C : Cx) (h h₁ : Heap), Inv (calleeCx C h [] [] qual scope f cdv) lv [] (ps.zip args) h₁ → Runs (calleeCx C h [] [] qual scope f cdv) lv [] body o h₁) : FnO (lv + 1) f args o := by
  cases o with
  | ret X => exact Fn.of ps ho hcd hb hps hcn hkp hco hgen hk run
  | exc c => exact FnX.of ps ho hcd hb hps hcn hkp hco hgen hk run
  | next _ => trivial
  | new _ => trivial
def rdO (r : List Opt × Bool) : Out := if r.2 then .ret (.lst (r.1.map optV)) else .exc 44
theorem read_options_fn {lv : Nat} (b : List UInt8) (hz : b.length ≤ 900) : FnO (lv+5) 107 [.byt b] (rdO (rd b.length b 0)) := by
  refine FnO.of (lv := (lv+4)) ["octets"] (fun P => by k_is) (fun P => by k_is) (fun vs hv => by obtain ⟨a, rfl⟩ := len1 hv; rfl) (by decide) (by decide) rfl rfl rfl rfl (fun C h h₁ I => ?_)
  obtain ⟨R, hR0⟩ : ∃ R, R = rd b.length b 0 := ⟨_, rfl⟩
  rw [← hR0]
  have z16 : b.length ≤ 16777216 := by omega
  refine .asgList I calleeOwn rfl (fun _ q => nomatch q) (fun _ q => nomatch q) fun a h₂ hem I => ⟨outR a R (.exc 44), .lst (R.1.map optV), by
    unfold outR rdO
    cases R.2
    · exact .inl rfl
    · exact .inr ⟨_, rfl, rfl, rfl⟩, ?_⟩
  refine .asg (X := .int (0 : Nat)) I (.tail _ calleeOwn) .int rfl fun h I => ?_
  refine .whileL (n := b.length) (I.sub (bs' := [("at", .int (0 : Nat)), ("found", .ref a), ("octets", .byt b)]) (subC rfl (subC rfl (subC rfl sub0)))) rfl ?_
  refine WLoop.fuel (RdP b R) (fun s => [(a, .lst (s.2.map optV))]) (fun s => [("at", .int s.1), ("found", .ref a), ("octets", .byt b)]) (fun n s p => ?_) b.length (0, []) ⟨by rw [hR0]; rfl, by simp, by simp; omega⟩
  obtain ⟨pl, acc⟩ := s
  obtain ⟨e, p1, p2⟩ := p
  have p1 : b.length ≤ pl + n := p1
  have p2 : acc.length + n ≤ 1000 := p2
  by_cases h0 : b.length ≤ pl ∨ u b pl = 0
  · refine .inl ⟨.cast (.of fun h I => (.and (.cmp (.var I rfl) (.callB I gLen (.cons (.var I rfl) .nil) (.lenB (LE _ z16)) rfl) .lt) fun hs => (.and (.cmp (.sub (.var I rfl) (.var I rfl) (.itemB z16 (by omega) (by have := of_decide_eq_true hs; omega))) (.gI I gEND rfl) .neI) fun hs => .andN))) ((tstW b pl).trans (decide_eq_false (fun z => z h0))), fun h I => ?_⟩
    have : R = (acc, true) := by
      rw [← e]
      cases n with
      | zero => simp [rd]
      | succ n => rw [rd_end h0]; simp
    rw [this]
    exact .ret I (.var I rfl)
  · cases n with
    | zero => omega
    | succ n =>
      have hlt : pl < b.length := by omega
      have aL : ((acc.map optV).length ≤ 16777216) := by rw [List.length_map]; omega
      by_cases h3 : ¬ u b pl = 1 ∧ ¬ (pl + 1 < b.length ∧ 2 ≤ u b (pl + 1) ∧ pl + u b (pl + 1) ≤ b.length)
      · obtain ⟨h1, h2⟩ := h3
        have hRa : R = (acc, false) := by rw [← e, rd_bad h0 h1 h2]; simp
        have h2' : pl + 1 < b.length → u b (pl + 1) < 2 ∨ (b.length : Int) < pl + u b (pl + 1) := by omega
        have := u_lo b pl
        rw [hRa]
        refine .inr ⟨n, rfl, .cast (.of fun h I => (.and (.cmp (.var I rfl) (.callB I gLen (.cons (.var I rfl) .nil) (.lenB (LE _ z16)) rfl) .lt) fun hs => (.and (.cmp (.sub (.var I rfl) (.var I rfl) (.itemB z16 (by omega) (by omega))) (.gI I gEND rfl) .neI) fun hs => .andN))) ((tstW b pl).trans (decide_eq_true h0)), .inl ⟨trivial, fun h I => ?_⟩⟩
        refine .asg (X := .int (u b pl)) I (.tail _ calleeOwn) (.sub (.var I rfl) (.var I rfl) (.itemB z16 (by omega) (by omega))) rfl fun h I => ?_
        exact .iteX (c := false) I (.val (.cast (.call I fIsSingle (.cons (.var I rfl) .nil) (is_single_fn _) rfl) (congrArg PV.bool (single01 (by omega))))) trivial fun h I => .asgX (.call I rfl fSizeAt (.cons (.var I rfl) (.cons (.var I rfl) .nil)) (size_at_fx b pl h2' z16) rfl)
      refine .inr ⟨n, rfl, .cast (.of fun h I => (.and (.cmp (.var I rfl) (.callB I gLen (.cons (.var I rfl) .nil) (.lenB (LE _ z16)) rfl) .lt) fun hs => (.and (.cmp (.sub (.var I rfl) (.var I rfl) (.itemB z16 (by omega) (by omega))) (.gI I gEND rfl) .neI) fun hs => .andN))) ((tstW b pl).trans (decide_eq_true h0)), .inr ?_⟩
      by_cases h1 : u b pl = 1
      · refine ⟨(pl + 1, acc ++ [(1, [])]), ⟨snocR (by rw [← rd_one h0 h1]; exact e), by show b.length ≤ pl + 1 + n; omega, by show (acc ++ [_]).length + n ≤ 1000; rw [List.length_append, List.length_singleton]; omega⟩, fun h I => ?_⟩
        refine .asg (X := .int 1) I (.tail _ calleeOwn) (.cast (.sub (.var I rfl) (.var I rfl) (.itemB z16 (by omega) (by omega))) (congrArg PV.int h1)) rfl fun h I => ?_
        refine .iteN (c := true) I (.val (.call I fIsSingle (.cons (.var I rfl) .nil) (is_single_fn _) rfl)) (fun h I => ?_) fun h I => .nil I
        refine .append (X := optV (1, [])) (pre := []) (post := []) I (.of fun h I => (.var I rfl)) (.of fun h I => (.tuple I (.cons (.var I rfl) (.cons .byt .nil)) (Nat.le_of_ble_eq_true rfl))) aL (fun _ q => nomatch q) (fun _ q => nomatch q) ⟨_, .head _⟩ fun h I => ?_
        refine .asg (X := .int (pl + 1 : Nat)) I (.tail _ calleeOwn) (.bin (.var I rfl) .int .add) rfl fun h I => ?_
        rw [show ([(a, LO.lst ((acc ++ [((1 : Int), ([] : List UInt8))]).map optV))] : List (Addr × LO)) = [(a, .lst (acc.map optV ++ [optV (1, [])]))] by rw [map_snoc]]
        exact .nil (I.sub (subC rfl (subC rfl (subC rfl sub0))))
      · have h2 : pl + 1 < b.length ∧ 2 ≤ u b (pl + 1) ∧ pl + u b (pl + 1) ≤ b.length := Decidable.byContradiction fun z => h3 ⟨h1, z⟩
        · obtain ⟨m, hm⟩ : ∃ m : Nat, u b (pl + 1) = m := ⟨_, rfl⟩
          have hmN : (u b (pl + 1)).toNat = m := by rw [hm]; rfl
          have hr := rd_more (n := n) h0 h1 h2
          rw [hmN] at hr
          rw [hr] at e
          obtain ⟨q1, q2, q3⟩ := h2
          have := u_lo b pl
          refine ⟨(pl + m, acc ++ [(u b pl, (b.drop (pl + 2)).take (m - 2))]), ⟨snocR e, by show b.length ≤ pl + m + n; omega, by show (acc ++ [_]).length + n ≤ 1000; rw [List.length_append, List.length_singleton]; omega⟩, fun h I => ?_⟩
          refine .asg (X := .int (u b pl)) I (.tail _ calleeOwn) (.sub (.var I rfl) (.var I rfl) (.itemB z16 (by omega) (by omega))) rfl fun h I => ?_
          refine .iteN (c := false) I (.val (.cast (.call I fIsSingle (.cons (.var I rfl) .nil) (is_single_fn _) rfl) (congrArg PV.bool (single01 (by omega))))) (fun h I => ?_) fun h I => .nil I
          refine .asg (X := .int m) I (.tail _ calleeOwn) (.cast (.call I fSizeAt (.cons (.var I rfl) (.cons (.var I rfl) .nil)) (size_at_fn _ _ q1 q2 q3 z16) rfl) (congrArg PV.int hm)) rfl fun h I => ?_
          refine .append (X := optV (u b pl, (b.drop (pl + 2)).take (m - 2))) (pre := []) (post := []) I (.of fun h I => (.var I rfl)) (.cast (.of fun h I => (.tuple I (.cons (.var I rfl) (.cons (.callT I gBytes (.cons (.cut (.var I rfl) (.some (.bin (.var I rfl) .int .add)) (.some (.bin (.var I rfl) (.var I rfl) .add)) z16) .nil) .bytesB rfl) .nil)) (Nat.le_of_ble_eq_true rfl))) (by
            show PV.tup [.int (u b pl), .byt (cutL b (some ((pl : Int) + 2)) (some ((pl : Int) + m)))] = _
            rw [show cutL b (some ((pl : Int) + 2)) (some ((pl : Int) + m)) = _ from cutNN b (pl + 2) (pl + m), show pl + m - (pl + 2) = m - 2 by omega])) aL (fun _ q => nomatch q) (fun _ q => nomatch q) ⟨_, .head _⟩ fun h I => ?_
          refine .asg (X := .int (pl + m : Nat)) I (.tail _ calleeOwn) (.bin (.var I rfl) (.var I rfl) .add) rfl fun h I => ?_
          rw [show ([(a, LO.lst ((acc ++ [(u b pl, (b.drop (pl + 2)).take (m - 2))]).map optV))] : List (Addr × LO)) = [(a, .lst (acc.map optV ++ [optV (u b pl, (b.drop (pl + 2)).take (m - 2))]))] by rw [map_snoc]]
          exact .nil (I.sub (subC rfl (subC rfl (subC rfl sub0))))
end Mine
end
section
open PySem PySem.W PySem.Spec PySem.Calls PyProof.Rows
namespace Mine


theorem fOne : GlF "_law_one" 206 := ⟨fun P => ⟨by k_is, by k_is⟩, by decide⟩
theorem fSome : GlF "_law_some" 211 := ⟨fun P => ⟨by k_is, by k_is⟩, by decide⟩
theorem fOption : GlF "_law_option" 218 := ⟨fun P => ⟨by k_is, by k_is⟩, by decide⟩
theorem fPool : GlF "_law_pool" 192 := ⟨fun P => ⟨by k_is, by k_is⟩, by decide⟩
/-- one of a menu -/
abbrev pick (ns : List Int) (p : Int × Int) : Int := ns.getD (takeV p ns.length).toNat 0
theorem pick_mem (ns : List Int) (p : Int × Int) (h : 0 < ns.length) : pick ns p ∈ ns := by
  have h1 := take_lo p (top := ns.length) (by omega)
  have h2 := take_hi p (top := ns.length) (by omega)
  unfold pick
  rw [List.getD_eq_getElem?_getD, List.getElem?_eq_getElem (by omega)]
  exact List.getElem_mem _
theorem pick_at (ns : List Int) (p : Int × Int) (h : 0 < ns.length) : (ns.map PV.int)[(takeV p ns.length).toNat]? = some (.int (pick ns p)) := by
  have h1 := take_lo p (top := ns.length) (by omega)
  have h2 := take_hi p (top := ns.length) (by omega)
  unfold pick
  rw [List.getElem?_map, List.getD_eq_getElem?_getD, List.getElem?_eq_getElem (by omega)]; rfl
theorem law_one_any {lv : Nat} (a : Addr) (p : Int × Int) (l : List PV) (X : PV) (o : Ok p) (h0 : 0 < l.length) (h1 : l.length ≤ 1000) (hX : l[(takeV p l.length).toNat]? = some X) : MFn (lv+2) 206 a (src p) [.ref a, .lst l] X (src (takeS p l.length)) := by
  refine MFn.of (lv := (lv+1)) ["source", "things"] (fun P => by k_is) (fun P => by k_is) (fun vs hv => by obtain ⟨a, b, rfl⟩ := len2 hv; rfl) (by decide) (by decide) rfl rfl rfl rfl (fun C h h₁ I => ?_) (fun _ _ _ q => by obtain ⟨_, _, rfl, _⟩ := q; exact itemL)
  have h2 := take_lo p (top := l.length) (by omega)
  have h3 := take_hi p (top := l.length) (by omega)
  exact .retM I (.sub (.of fun h I => (.var I rfl)) (.callM (pre := []) (post := []) fTake (.cons (.of fun h I => (.var I rfl)) (.cons (.of fun h I => (.callB I gLen (.cons (.var I rfl) .nil) (.lenL (by omega)) rfl)) .nil)) (take_fn _ _ _ o (by omega) (by omega)) rfl (fun _ q => nomatch q) (fun _ q => nomatch q)) (.itemL h2 (by omega) hX))
theorem law_one_fn {lv : Nat} (a : Addr) (p : Int × Int) (ns : List Int) (o : Ok p) (h0 : 0 < ns.length) (h1 : ns.length ≤ 1000) : MFn (lv+2) 206 a (src p) [.ref a, .lst (ns.map .int)] (.int (pick ns p)) (src (takeS p ns.length)) := by
  have := law_one_any (lv := lv) a p (ns.map .int) (.int (pick ns p)) o (by rw [List.length_map]; exact h0) (by rw [List.length_map]; exact h1) (by rw [List.length_map]; exact pick_at ns p h0)
  rwa [List.length_map] at this

def stepSome : PV → Int × Int → PV × (Int × Int) := fun _ p => (.int (pick [0, 1, 7, 255] p), takeS p 4)
theorem law_some_fn {lv : Nat} (a : Addr) (p : Int × Int) (o : Ok p) (m : Int) (h0 : 0 ≤ m) (h1 : m ≤ 100) : ∃ (b : List UInt8) (p' : Int × Int), (b.length : Int) ≤ m ∧ Ok p' ∧ MFn (lv+4) 211 a (src p) [.ref a, .int m] (.byt b) (src p') := by
  have h2 := take_lo p (top := m + 1) (by omega)
  have h3 := take_hi p (top := m + 1) (by omega)
  have o1 := take_ok o (top := m + 1) (by omega)
  obtain ⟨n, hn⟩ := Int.eq_ofNat_of_zero_le h2
  have all := runT_all stepSome (G := fun x => ∃ n : Int, x = .int n ∧ 0 ≤ n ∧ n < 256) (O := Ok) ((List.range n).map fun (i : Nat) => .int i) (takeS p (m + 1)) o1 fun x _ p hp => ⟨⟨_, rfl, by
      have := pick_mem [0, 1, 7, 255] p (by decide)
      simp only [List.mem_cons, List.not_mem_nil, or_false] at this; omega⟩, take_ok hp (by decide)⟩
  have hlen := runT_len stepSome ((List.range n).map fun (i : Nat) => .int i) (takeS p (m + 1))
  rw [List.length_map, List.length_range] at hlen
  refine ⟨(runT stepSome ((List.range n).map fun (i : Nat) => .int i) (takeS p (m + 1))).1.map fun x => (toI x).toNat.toUInt8, _, by rw [List.length_map, hlen]; omega, all.2, ?_⟩
  refine MFn.of (lv := (lv+3)) ["source", "most"] (fun P => by k_is) (fun P => by k_is) (fun vs hv => by obtain ⟨a, b, rfl⟩ := len2 hv; rfl) (by decide) (by decide) rfl rfl rfl rfl (fun C h h₁ I => ?_) (fun _ _ _ q => by obtain ⟨_, _, rfl, _⟩ := q; exact itemL)
  refine .retM I (.callT gBytes (.cons (.comp (bsD := [("source", .ref a)]) (It.range1 (n := n) (.cast (.callM (pre := []) (post := []) fTake (.cons (.of fun h I => (.var I rfl)) (.cons (.of fun h I => (.bin (.var I rfl) .int .add)) .nil)) (take_fn _ _ _ o (by omega) (by omega)) rfl (fun _ q => nomatch q) (fun _ q => nomatch q)) (congrArg PV.int hn)) (by omega) rfl gRange) rfl
    (fun g L it acc J hi ha => Turns.draw stepSome (fun p => [(a, src p)]) Ok compOwn rfl (fun p q hq => List.mem_singleton.mp hq ▸ J.ownMu _ (J.entry (.head _)).choose_spec.2.2.1) (fun x _ p hp => take_ok hp (by decide)) (fun x hx p hp io ys => ?_) o1 Under.self (by simp; omega)) rfl (hvC rfl (nl rfl) (fun _ => rfl) rfl hv0) (fun _ _ e => e) (fun _ q => nomatch q) (.inl rfl) rfl (by decide) (by decide)) .nil) (.bytesL I.good.hh (by rw [List.nil_append, hlen]; omega) (by rw [List.nil_append]; exact all.1)) rfl)
  have am := J.ownMu _ (J.entry (.head _)).choose_spec.2.2.1
  have n1 : it ≠ a := fun z => hi (z ▸ am)
  have n2 : acc ≠ a := fun z => ha (z ▸ am)
  exact (.callM (pre := [(it, .obj io), (acc, .lst ys)]) (post := []) fOne (.cons (.of fun h I => (.var I rfl)) (.cons (.of fun h I => (.list I (.cons .int (.cons .int (.cons .int (.cons .int .nil)))) (Nat.le_of_ble_eq_true rfl))) .nil)) (law_one_fn _ _ [0, 1, 7, 255] hp (by decide) (by decide)) rfl (fun q hq => by rcases List.mem_cons.mp hq with rfl | hq; exact n1; rw [List.mem_singleton.mp hq]; exact n2) (fun _ q => nomatch q))
abbrev menuK : List Int := [1, 7, 68, 131, 137, 148, 127, 128, 255, 2]
theorem menu_ok : ∀ k ∈ menuK, k ≠ 1 → 2 ≤ k ∧ k ≤ 255 := by decide
set_option maxHeartbeats 2000000 in
theorem law_option_fn {lv : Nat} (a : Addr) (p : Int × Int) (o : Ok p) : ∃ (x : Opt) (p' : Int × Int), OptOk x ∧ Ok p' ∧ MFn (lv+5) 218 a (src p) [.ref a] (optV x) (src p') := by
  have hk := pick_mem menuK p (by decide)
  have o1 : Ok (takeS p 10) := take_ok o (by decide)
  by_cases hP : pick menuK p = 1
  · refine ⟨(1, []), takeS p 10, .inl ⟨rfl, rfl⟩, o1, ?_⟩
    refine MFn.of (lv := (lv+4)) ["source"] (fun P => by k_is) (fun P => by k_is) (fun vs hv => by obtain ⟨a, rfl⟩ := len1 hv; rfl) (by decide) (by decide) rfl rfl rfl rfl (fun C h h₁ I => ?_) (fun _ _ _ q => by obtain ⟨_, _, rfl, _⟩ := q; exact itemL)
    refine .asgM (X := .int 1) I calleeOwn (.cast (.callM (pre := []) (post := []) fOne (.cons (.of fun h I => (.var I rfl)) (.cons (.of fun h I => (.list I (.cons .int (.cons .int (.cons .int (.cons .int (.cons .int (.cons .int (.cons .int (.cons .int (.cons .int (.cons .int .nil)))))))))) (Nat.le_of_ble_eq_true rfl))) .nil)) (law_one_fn _ _ menuK o (by decide) (by decide)) rfl (fun _ q => nomatch q) (fun _ q => nomatch q)) (congrArg PV.int hP)) rfl fun h₂ I => ?_
    exact .retM I (.of fun h I => (.tuple I (.cons (.var I rfl) (.cons (.ifT (Tv.cast (.cmp (.var I rfl) .int .eqI) rfl) .byt) .nil)) (Nat.le_of_ble_eq_true rfl)))
  · obtain ⟨b, p', hb, o2, c⟩ := law_some_fn (lv := lv) a (takeS p 10) o1 7 (by decide) (by decide)
    have hm := menu_ok _ hk hP
    obtain ⟨k, hkk⟩ : ∃ k, pick menuK p = k := ⟨_, rfl⟩
    rw [hkk] at hm hP
    refine ⟨(k, b), p', .inr ⟨hm.1, hm.2, show b.length ≤ 7 by omega⟩, o2, ?_⟩
    refine MFn.of (lv := (lv+4)) ["source"] (fun P => by k_is) (fun P => by k_is) (fun vs hv => by obtain ⟨a, rfl⟩ := len1 hv; rfl) (by decide) (by decide) rfl rfl rfl rfl (fun C h h₁ I => ?_) (fun _ _ _ q => by obtain ⟨_, _, rfl, _⟩ := q; exact itemL)
    refine .asgM (X := .int k) I calleeOwn (.cast (.callM (pre := []) (post := []) fOne (.cons (.of fun h I => (.var I rfl)) (.cons (.of fun h I => (.list I (.cons .int (.cons .int (.cons .int (.cons .int (.cons .int (.cons .int (.cons .int (.cons .int (.cons .int (.cons .int .nil)))))))))) (Nat.le_of_ble_eq_true rfl))) .nil)) (law_one_fn _ _ menuK o (by decide) (by decide)) rfl (fun _ q => nomatch q) (fun _ q => nomatch q)) (congrArg PV.int hkk)) rfl fun h₂ I => ?_

    exact .retM I (.tuple (.cons (.of fun h I => (.var I rfl)) (.cons (.ifF (TvM.cast (.of fun h I => (.cmp (.var I rfl) .int .eqI)) (beq_eq_false_iff_ne.mpr hP)) (.callM (pre := []) (post := []) fSome (.cons (.of fun h I => (.var I rfl)) (.cons (.of fun h I => .int) .nil)) (c) rfl (fun _ q => nomatch q) (fun _ q => nomatch q))) .nil)) (Nat.le_of_ble_eq_true rfl))
abbrev poolP (c k : Int) : Int × Int := (if 1000000000000000000 ≤ max c (-1 - c) then max c (-1 - c) else 0, (max c (-1 - c) % 2147483629 + 7919 * k * k + 31 * k + 17) * 48271 % 2147483647)
theorem pool_ok (c k : Int) : Ok (poolP c k) :=
  ⟨by show 0 ≤ (poolP c k).1; unfold poolP; dsimp only; split <;> omega, Int.emod_nonneg _ (by decide), Int.emod_lt_of_pos _ (by decide)⟩
theorem law_pool_fn {lv : Nat} (ns : List Int) (k : Nat) (hk : k ≤ 1) (hz : ns.length ≤ 1000) : ∃ p, Ok p ∧ FnL (lv+1) 192 [.lst (ns.map .int), .int k] [.int p.1, .int p.2] := by
  obtain ⟨cell, hc⟩ : ∃ c, c = ns.getD k 0 := ⟨_, rfl⟩
  refine ⟨poolP cell k, pool_ok _ _, ?_⟩
  refine FnL.of (lv := lv) ["script", "k"] (fun P => by k_is) (fun P => by k_is) (fun vs hv => by obtain ⟨a, b, rfl⟩ := len2 hv; rfl) (by decide) (by decide) rfl rfl rfl rfl (fun C h h₁ I => ?_)
  have hl : (ns.map PV.int).length = ns.length := List.length_map ..
  have e1 : (ns.map PV.int)[((k : Int)).toNat]? = if k < ns.length then some (.int cell) else none := by
    rw [Int.toNat_natCast, List.getElem?_map, hc, List.getD_eq_getElem?_getD]
    split
    · rename_i h; rw [List.getElem?_eq_getElem h]; rfl
    · rename_i h; rw [List.getElem?_eq_none (by omega)]; rfl
  refine .asg (X := .int cell) I calleeOwn ?_ rfl fun h₂ I => ?_
  · by_cases h : k < ns.length
    · exact (.ifT (Tv.cast (.cmp (.var I rfl) (.callB I gLen (.cons (.var I rfl) .nil) (.lenL (by rw [hl]; omega)) rfl) .lt) (decide_eq_true (by rw [hl]; omega))) (.sub (.var I rfl) (.var I rfl) (.itemL (by omega) (by omega) (by rw [e1, if_pos h]))))
    · have : cell = 0 := by rw [hc, List.getD_eq_getElem?_getD, List.getElem?_eq_none (by omega)]; rfl
      rw [this]
      exact (.ifF (Tv.cast (.cmp (.var I rfl) (.callB I gLen (.cons (.var I rfl) .nil) (.lenL (by rw [hl]; omega)) rfl) .lt) (decide_eq_false (by rw [hl]; omega))) .int)
  refine .asg (X := .int (max cell (-1 - cell))) I calleeOwn (.callB I gMax (.cons (.var I rfl) (.cons (.bin (.neg .int) (.var I rfl) .sub) .nil)) (.max2 I.good.hh) rfl) rfl fun h₂ I => ?_
  refine .asg (X := .int (poolP cell k).2) I calleeOwn (.cast (.bin (.bin (.bin (.bin (.bin (.bin (.var I rfl) .int (.mod (by decide))) (.bin (.bin .int (.var I rfl) (.mulR ⟨by omega, by omega⟩)) (.var I rfl) (.mulR ⟨by omega, by omega⟩)) .add) (.bin .int (.var I rfl) (.mulR ⟨by omega, by omega⟩)) .add) .int .add) .int (.mulR ⟨by decide, by decide⟩)) .int (.mod (by decide))) (by rw [fmd _ (by decide), fmd _ (by decide)])) rfl fun h₂ I => ?_
  refine .retNew I rfl (.cons ?_ (.cons (.var I rfl) .nil)) (Nat.le_of_ble_eq_true rfl)
  show Ev _ _ _ (.int (poolP cell k).1)
  unfold poolP
  dsimp only
  by_cases h : 1000000000000000000 ≤ max cell (-1 - cell)
  · rw [if_pos h]
    exact (.ifT (Tv.cast (.cmp (.var I rfl) (.bin .int .int (.pow (by decide) (by decide +kernel))) .ge) (decide_eq_true (by show (10 : Int) ^ 18 ≤ _; omega))) (.var I rfl))
  · rw [if_neg h]
    exact (.ifF (Tv.cast (.cmp (.var I rfl) (.bin .int .int (.pow (by decide) (by decide +kernel))) .ge) (decide_eq_false (by show ¬ (10 : Int) ^ 18 ≤ _; omega))) .int)
end Mine
end
section
open PySem PySem.W PySem.Spec PySem.Calls PyProof.Rows
namespace Mine
theorem u_app (p q : List UInt8) (i : Nat) : u (p ++ q) (p.length + i) = u q i := by
  unfold u
  rw [List.getD_eq_getElem?_getD, List.getD_eq_getElem?_getD, List.getElem?_append_right (by omega), Nat.add_sub_cancel_left]
theorem u_b8 {n : Int} {r : List UInt8} (h0 : 0 ≤ n) (h1 : n < 256) : u (b8 n :: r) 0 = n := by
  obtain ⟨m, rfl⟩ := Int.eq_ofNat_of_zero_le h0
  show ((m.toUInt8).toNat : Int) = m
  have : m < 256 := by omega
  simp [Nat.mod_eq_of_lt this]
/-- what was put together is read again -/
theorem rd_plain : ∀ (l : List Opt) (pre : List UInt8) (n : Nat), (∀ o ∈ l, OptOk o) → l.length ≤ n → rd n (pre ++ plainOf l) pre.length = (l, true)
  | [], pre, 0, _, _ => rfl
  | [], pre, n + 1, _, _ => rd_end (.inl (by rw [plain_nil, List.append_nil]; exact Nat.le_refl _))
  | o :: l, pre, 0, _, h => absurd h (Nat.not_succ_le_zero _)
  | o :: l, pre, n + 1, ho, h => by
    have k := ho o (.head _)
    have ih := rd_plain l (pre ++ optB o) n (fun x hx => ho x (.tail _ hx)) (Nat.le_of_succ_le_succ h)
    rw [plain_cons, ← List.append_assoc]
    have e0 : u (pre ++ optB o ++ plainOf l) pre.length = u (optB o ++ plainOf l) 0 := by rw [List.append_assoc]; exact u_app pre _ 0
    have e1 : u (pre ++ optB o ++ plainOf l) (pre.length + 1) = u (optB o ++ plainOf l) 1 := by rw [List.append_assoc]; exact u_app pre _ 1
    have len : (pre ++ optB o ++ plainOf l).length = pre.length + (optB o).length + (plainOf l).length := by rw [List.length_append, List.length_append]
    by_cases h1 : o.1 = 1
    · rw [optB_one h1] at *
      have e2 : u ([1] ++ plainOf l) 0 = 1 := rfl
      rw [e2] at e0
      rw [rd_one (by rw [e0, len]; simp only [List.length_singleton]; omega) e0]
      rw [List.length_append, List.length_singleton] at ih
      rw [ih]
      obtain ⟨a, b⟩ := o
      have := k.one h1
      simp only at h1 this
      rw [h1, this]; rfl
    · have m := k.more h1
      have hB := optB_more h1
      have e2 : u (optB o ++ plainOf l) 0 = o.1 := by rw [hB]; exact u_b8 (by omega) (by omega)
      have e3 : u (optB o ++ plainOf l) 1 = o.2.length + 2 := by rw [hB]; exact u_b8 (r := o.2 ++ plainOf l) (n := (o.2.length : Int) + 2) (by omega) (by omega)
      have hl : (optB o).length = o.2.length + 2 := by rw [hB]; rfl
      rw [e2] at e0
      rw [e3] at e1
      have eN : (u (pre ++ optB o ++ plainOf l) (pre.length + 1)).toNat = o.2.length + 2 := by rw [e1]; omega
      rw [rd_more (by rw [e0, len]; omega) (by rw [e0]; exact h1) (by rw [e1, len, hl]; omega), eN, e0]
      rw [List.length_append, hl] at ih
      rw [ih]
      have : ((pre ++ optB o ++ plainOf l).drop (pre.length + 2)).take (o.2.length + 2 - 2) = o.2 := by
        rw [List.append_assoc, ← List.drop_drop, List.drop_left, hB]
        show ((o.2 ++ plainOf l)).take _ = _
        rw [Nat.add_sub_cancel, List.take_left]
      rw [this]; rfl
theorem plain_ge : ∀ (l : List Opt), l.length ≤ (plainOf l).length
  | [] => Nat.le_refl _
  | o :: l => by
    have := plain_ge l
    rw [plain_cons, List.length_append, List.length_cons]
    have : 1 ≤ (optB o).length := by unfold optB; split <;> simp
    omega
theorem rd_all {l : List Opt} (h : ∀ o ∈ l, OptOk o) : rd (plainOf l).length (plainOf l) 0 = (l, true) := rd_plain l [] _ h (plain_ge l)
end Mine
end
section
open PySem PySem.W PySem.Spec PySem.Calls PyProof.Rows
set_option maxHeartbeats 4000000
namespace Mine
theorem fWrite : GlF "write_options" 121 := ⟨fun P => ⟨by k_is, by k_is⟩, by decide⟩
theorem fCopied : GlF "copied" 140 := ⟨fun P => ⟨by k_is, by k_is⟩, by decide⟩
theorem fStrict : GlF "is_strict" 171 := ⟨fun P => ⟨by k_is, by k_is⟩, by decide⟩
theorem fWay : GlF "tells_way" 178 := ⟨fun P => ⟨by k_is, by k_is⟩, by decide⟩
theorem fRead : GlF "_law_read" 246 := ⟨fun P => ⟨by k_is, by k_is⟩, by decide⟩
theorem fReadO : GlF "read_options" 107 := ⟨fun P => ⟨by k_is, by k_is⟩, by decide⟩
theorem choice {R : Int × Int → Opt → Int × Int → Prop} (h : ∀ p, Ok p → ∃ x p', R p x p') : ∃ f : Int × Int → Opt × (Int × Int), ∀ p, Ok p → R p (f p).1 (f p).2 := by
  classical
  refine ⟨fun p => if o : Ok p then ((h p o).choose, (h p o).choose_spec.choose) else ((0, []), p), fun p o => ?_⟩
  simp only [dif_pos o]
  exact (h p o).choose_spec.choose_spec
theorem opts_of : ∀ {zs : List PV}, (∀ z ∈ zs, ∃ o, OptOk o ∧ z = optV o) → ∃ l : List Opt, zs = l.map optV ∧ ∀ o ∈ l, OptOk o
  | [], _ => ⟨[], rfl, fun _ q => nomatch q⟩
  | z :: zs, h => by
    obtain ⟨o, k, rfl⟩ := h z (.head _)
    obtain ⟨l, rfl, r⟩ := opts_of fun x hx => h x (.tail _ hx)
    exact ⟨o :: l, rfl, fun x hx => (List.mem_cons.mp hx).elim (fun e => e ▸ k) (r x)⟩
abbrev qRows : Str := "_law_rows_right.<locals>.<lambda>"
abbrev menuB : List Int := [0, 1, 2, 3, 9, 255]








theorem pad_eq (n : Nat) : ((0 - (n : Int)).fmod 4).toNat = padN n := by rw [fmd _ (by decide)]; unfold padN; omega
theorem pad_ok (n : Nat) : 0 ≤ (0 - (n : Int)).fmod 4 ∧ (0 - (n : Int)).fmod 4 < 4 := by rw [fmd _ (by decide)]; omega
theorem memTwo {mu : List Addr} {a P : Addr} {L L' : LO} (x : a ∈ mu) (y : P ∈ mu) : ∀ q ∈ [(a, L), (P, L')], q.1 ∈ mu := fun q hq => (List.mem_cons.mp hq).elim (fun e => e ▸ x) fun hq => List.mem_singleton.mp hq ▸ y
def kindP : PV → Int
  | .tup (.int k :: _) => k
  | _ => 0
def wayT (x : PV) : Bool := [PV.int 131, PV.int 137].any fun y => toI y == kindP x
def copT (x : PV) : Bool := decide (127 < kindP x)
theorem way_eq (o : Opt) : (o.1 == 131 || o.1 == 137) = wayT (optV o) := by
  show _ = ((131 : Int) == o.1 || ((137 : Int) == o.1 || false))
  rw [Bool.or_false, show (o.1 == 131) = ((131 : Int) == o.1) from BEq.comm, show (o.1 == 137) = ((137 : Int) == o.1) from BEq.comm]
theorem filt (l : List Opt) (t : PV → Bool) : ([] : List PV) ++ ((l.map optV).filter t).map id = (l.filter fun o => t (optV o)).map optV := by
  rw [List.nil_append, List.map_id, List.filter_map]; rfl
theorem cop_eq (l : List Opt) : (l.filter fun o => copT (optV o)) = l.filter fun o => decide (128 ≤ o.1) := by
  congr 1
def headV : List Opt → PV
  | [] => .none
  | o :: _ => optV o
theorem way_of {l W : List Opt} (hW : W = l.filter fun o => wayT (optV o)) : wayV l = headV W := by
  unfold wayV
  rw [show (fun o : Opt => o.1 == 131 || o.1 == 137) = fun o => wayT (optV o) from funext way_eq, ← List.head?_filter, ← hW]
  cases W <;> rfl
theorem sh_head (W : List Opt) : sh 1 (headV W) := by
  cases W with
  | nil => trivial
  | cons o r =>
    intro y hy
    rcases List.mem_cons.mp hy with rfl | hy
    · trivial
    · rw [List.mem_singleton.mp hy]; trivial
theorem sh_opts (l : List Opt) : sh 2 (.lst (l.map optV)) := fun x hx => by
  obtain ⟨o, _, rfl⟩ := List.mem_map.mp hx
  intro y hy
  rcases List.mem_cons.mp hy with rfl | hy
  · trivial
  · rw [List.mem_singleton.mp hy]; trivial
theorem sh_opt (o : Opt) : sh 1 (optV o) := fun y hy => by
  rcases List.mem_cons.mp hy with rfl | hy
  · trivial
  · rw [List.mem_singleton.mp hy]; trivial
theorem row1 (o : Opt) : ((optB o != plainOf [o]) || ((decide (128 ≤ o.1) != decide (127 < o.1)) || false)) = false := by
  rw [show plainOf [o] = optB o by simp [plainOf], bne_self_eq_false, show decide (128 ≤ o.1) = decide (127 < o.1) by congr 1, bne_self_eq_false]; rfl
theorem row2 {k : Int} (h : k ≠ 0) : (((k == 0 || k == 1) != (k == 1)) || (((k == 137) != (k == 137)) || false)) = false := by
  rw [beq_eq_false_iff_ne.mpr h, Bool.false_or, bne_self_eq_false, bne_self_eq_false]; rfl
theorem OptOk.nz {o : Opt} (k : OptOk o) : o.1 ≠ 0 := by rcases k with k | k <;> omega
theorem menuB_ok : ∀ k ∈ menuB, 0 ≤ k ∧ k < 256 := by decide
theorem inCell {C : Cx} {g : Heap} {it c : Addr} (h : c ∈ C.own) : c ∈ (C.in g it).own := .tail _ h
def bentV (B : List UInt8) (k : Nat) (x : UInt8) : List UInt8 := B.take k ++ [x] ++ B.drop (k + 1)
theorem rows_fn {lv : Nat} (a : Addr) (p : Int × Int) (o : Ok p) : ∃ p', Ok p' ∧ MFnT (lv+8) 251 a (src p) 248 qRows [.ref a] (.bool true) (src p') := by
  obtain ⟨f, hf⟩ := choice fun p o => law_option_fn (lv := lv+2) a p o
  obtain ⟨n, hn⟩ := Int.eq_ofNat_of_zero_le (take_lo p (top := 5) (by decide))
  have hn4 : n ≤ 4 := by have := take_hi p (top := 5) (by decide); omega
  have all := runT_all (fun _ p => (optV (f p).1, (f p).2)) (G := fun z => ∃ o, OptOk o ∧ z = optV o) (O := Ok) ((List.range n).map fun (i : Nat) => .int i) (takeS p 5) (take_ok o (by decide)) fun x _ p hp => ⟨⟨_, (hf p hp).1, rfl⟩, (hf p hp).2.1⟩
  have hlen := runT_len (fun _ p => (optV (f p).1, (f p).2)) ((List.range n).map fun (i : Nat) => .int i) (takeS p 5)
  obtain ⟨l, hl, hlo⟩ := opts_of all.1
  obtain ⟨p1, hp1⟩ : ∃ p1, (runT (fun _ p => (optV (f p).1, (f p).2)) ((List.range n).map fun (i : Nat) => .int i) (takeS p 5)).2 = p1 := ⟨_, rfl⟩
  have o1 : Ok p1 := hp1 ▸ all.2
  have hl4 : l.length ≤ 4 := by rw [hl, List.length_map, List.length_map, List.length_range] at hlen; omega
  obtain ⟨B, hB⟩ : ∃ B, B = plainOf l := ⟨_, rfl⟩
  have hBl : B.length ≤ 36 := by have := plain_len hlo; rw [hB]; omega
  obtain ⟨p2, hp2⟩ : ∃ p2, takeS p1 ((B.length : Int) + 1) = p2 := ⟨_, rfl⟩
  have o2 : Ok p2 := hp2 ▸ take_ok o1 (by omega)
  have o3 : Ok (takeS p2 2) := take_ok o2 (by decide)
  obtain ⟨n2, hn2⟩ := Int.eq_ofNat_of_zero_le (take_lo p1 (top := (B.length : Int) + 1) (by omega))
  obtain ⟨c, hc⟩ : ∃ c, ((takeV p2 2 == 0) && ((B != []) && true)) = c := ⟨_, rfl⟩
  obtain ⟨c2, hc2⟩ : ∃ c2, (takeV (takeS p2 2) 2 == 0) = c2 := ⟨_, rfl⟩
  obtain ⟨p', hp'⟩ : ∃ p', p' = if c then takeS (takeS p2 2) 6 else takeS (takeS p2 2) 2 := ⟨_, rfl⟩
  have o' : Ok p' := by rw [hp']; cases c <;> exact take_ok o3 (by decide)
  obtain ⟨B', hB'⟩ : ∃ B', B' = if c then bentV B (n2 % B.length) (b8 (pick menuB (takeS p2 2))) else if c2 then B.take n2 else B := ⟨_, rfl⟩
  have hBl' : B'.length ≤ 80 := by
    rw [hB']
    cases c
    · cases c2
      · show B.length ≤ 80; omega
      · show (B.take n2).length ≤ 80; rw [List.length_take]; omega
    · show (bentV _ _ _).length ≤ 80; unfold bentV; rw [List.length_append, List.length_append, List.length_take, List.length_drop, List.length_singleton]; omega
  refine ⟨p', o', ?_⟩
  refine MFnT.of (lv := lv+7) ["source"] (fun P => by k_is) (fun P => by k_is) (fun vs hv => by obtain ⟨a, rfl⟩ := len1 hv; rfl) (by decide) (by decide) rfl rfl rfl rfl (fun C h h₁ hne fo I => ?_) (fun _ _ _ q => by obtain ⟨_, _, rfl, _⟩ := q; exact itemL)
  have am := I.memMu (.head _)
  have Pm := I.memMu (.tail _ (.head _))
  refine .asgCM (X := .lst (l.map optV)) I (.cast (.comp (bsD := [("source", .ref a)]) (It.range1 (n := n) (.cast (.callM (pre := []) (post := [(248, .tab qRows)]) fTake (.cons (.of fun h I => (.var I rfl)) (.cons (.of fun h I => .int) .nil)) (take_fn _ _ _ o (by decide) (by decide)) rfl (fun _ q => nomatch q) (fun q hq => List.mem_singleton.mp hq ▸ hne.symm)) (congrArg PV.int hn)) (by omega) rfl gRange) rfl
    (fun g L it acc J hi ha => Turns.draw (fun _ p => (optV (f p).1, (f p).2)) (fun p => [(a, src p), (248, .tab qRows)]) Ok compOwn rfl (fun p => memTwo am Pm) (fun x _ p hp => (hf p hp).2.1) (fun x hx p hp io ys =>
      .callM (pre := [(it, .obj io), (acc, .lst ys)]) (post := [(248, .tab qRows)]) fOption (.cons (.of fun h I => .var I rfl) .nil) (hf p hp).2.2 rfl (fun q hq => (List.mem_cons.mp hq).elim (fun e => e ▸ fun z => hi (z ▸ am)) fun hq => List.mem_singleton.mp hq ▸ fun z => ha (z ▸ am)) (fun q hq => List.mem_singleton.mp hq ▸ hne.symm))
      (take_ok o (by decide)) Under.self (by simp; omega)) rfl (hvC rfl (nl rfl) (fun _ => rfl) rfl hv0) (clC rfl cl0) fo.f (.inl rfl) rfl (by decide) (by decide)) (congrArg PV.lst ((List.nil_append _).trans hl))) rfl rfl (calleeCell (x := "some") rfl) fun h I => ?_
  rw [hp1] at I
  refine .asgC (X := .byt B) I (.cast (.call I fPlain (.cons (.var I rfl) .nil) (law_plain_fn _ hlo (by omega)) rfl) (by rw [hB])) rfl rfl (calleeCell (x := "plain") rfl) fun h I => ?_
  have tab : ∀ {C' : Cx}, C'.env.code = .ref 250 → C'.env.qual ++ "<lambda>" = qRows → Tab C' 248 250 qRows := fun e1 e2 => ⟨fun P => by kernel_rfl, e1, e2⟩
  have hq1 : ∀ {L : LO}, ∀ q ∈ [(a, L)], q.1 ≠ 248 := fun q hq => List.mem_singleton.mp hq ▸ hne
  refine .ifFM I (.cast (.cmp (.told (bsL := [("some", .lst (l.map optV))]) (pre := [(a, src p1)]) (post := []) (tab rfl rfl) hq1 (fun _ q => nomatch q) rfl rfl ⟨rfl, rfl, nl rfl, rfl, rfl, trivial⟩ ⟨fun _ _ _ _ => rfl, rfl, rfl, rfl, by decide⟩ (fun C g h f c I => (.call I fWrite (.cons (.var I rfl) .nil) (write_options_fn _ hlo hl4) rfl)) rfl)
    (.of fun h I => (.bin (.var I rfl) (.callT I gBytes (.cons (.bin (.bin .int (.callB I gLen (.cons (.var I rfl) .nil) (.lenB (by omega)) rfl) .sub) .int (.mod (by decide))) .nil) (.bytesN (pad_ok _).1 (by have := (pad_ok B.length).2; omega)) rfl) (.addB (by rw [List.length_replicate]; have := (pad_ok B.length).2; omega)))) .neY) (by rw [pad_eq, hB]; exact bne_self_eq_false _)) fun h I => ?_






  refine .forL I (It.list (.of fun h I => (.var I rfl))) fo.f (fun g it hit hg => ?_) (fun _ z => nomatch z)
  refine Loop.all optV l (fun _ => [(a, src p1), (248, .tab qRows)]) (fun _ => [("plain", .byt B), ("some", .lst (l.map optV)), ("source", .ref a)]) (fun _ => memTwo am Pm) (fun p o r e => ⟨_, fun io => .tup (.cons (.name (inOwn calleeOwn) rfl) (.cons (.name (inOwn calleeOwn) rfl) .nil)), fun io h I => ?_⟩) fun h I => ?_
  · have k := hlo o (e ▸ List.mem_append_right _ (.head _))
    refine .ifF I (Tv.cast (.or (.cmp (.call I fOptionOctets (.cons (.var I rfl) (.cons (.var I rfl) .nil)) (option_octets_fn _ k) rfl) (.call I fPlain (.cons (.list I (.cons (.tuple I (.cons (.var I rfl) (.cons (.var I rfl) .nil)) (Nat.le_of_ble_eq_true rfl)) .nil) (Nat.le_of_ble_eq_true rfl)) .nil) (law_plain_fn [o] (fun x hx => List.mem_singleton.mp hx ▸ k) (Nat.le_of_ble_eq_true rfl)) rfl) .neY) fun hs => (.or (.cmp (.call I fIsCopied (.cons (.var I rfl) .nil) (is_copied_fn _) rfl) (.cmp (.var I rfl) .int .gt) .neB) fun hs => .orN)) (row1 o)) fun h I => ?_
    exact .ifF I (Tv.cast (.or (.cmp (.call I fIsSingle (.cons (.var I rfl) .nil) (is_single_fn _) rfl) (.cmp (.var I rfl) .int .eqI) .neB) fun hs => (.or (.cmp (.call I fStrict (.cons (.var I rfl) .nil) (is_strict_fn _) rfl) (.cmp (.var I rfl) .int .eqI) .neB) fun hs => .orN)) (row2 k.nz)) fun h I => .nil (I.sub (subC rfl (subC rfl (subC rfl sub0))))
  obtain ⟨W, hW⟩ : ∃ W, W = l.filter fun o => wayT (optV o) := ⟨_, rfl⟩
  refine .asgComp I calleeOwn rfl (It.list (.of fun h I => (.var I rfl))) rfl (fun g L it acc J hi ha => Turns.name (bsD := []) id wayT compOwn rfl (memTwo am Pm) (.inr ⟨_, rfl, fun x hx led h I => ?_⟩) (fun x hx _ led h I => .var I rfl) Under.self (by simp; omega)) rfl hv0 cl0 fo.f (.inl rfl) rfl (by decide) (by decide) fun h I => ?_
  · obtain ⟨o, ho, rfl⟩ := List.mem_map.mp hx
    exact (.cmp (.sub (.var I rfl) .int (.itemT (by decide) (by decide) rfl)) (.list I (.cons .int (.cons .int .nil)) (Nat.le_of_ble_eq_true rfl)) (.inI (fun x hx => by rcases List.mem_cons.mp hx with rfl | hx; exact ⟨_, rfl⟩; rw [List.mem_singleton.mp hx]; exact ⟨_, rfl⟩)))
  rw [filt, ← hW] at I


  have wv := way_of hW
  refine .ifFM I (.orF (.cmp (.of fun h I => (.call I fCopied (.cons (.var I rfl) .nil) (copied_fn _ (by omega)) rfl)) (.cast (.comp (bsD := []) (It.list (.of fun h I => (.var I rfl))) rfl (fun g L it acc J hi ha => Turns.name (bsD := []) id copT compOwn rfl (memTwo am Pm) (.inr ⟨_, rfl, fun x hx led h I => ?_⟩) (fun x hx _ led h I => .var I rfl) Under.self (by simp; omega)) rfl hv0 cl0 fo.f (.inl rfl) rfl (by decide) (by decide)) (by rw [filt, cop_eq])) (.neV I.good (sh_opts _) (by decide)))
    (.orF (.cmp (.of fun h I => (.call I fWay (.cons (.var I rfl) .nil) (tells_way_fn _) rfl)) (.of fun h I => ?_) (.neV I.good (wv ▸ sh_head W) (by decide))) .orN)) fun h I => ?_
  · obtain ⟨o, ho, rfl⟩ := List.mem_map.mp hx
    exact (.cmp (.sub (.var I rfl) .int (.itemT (by decide) (by decide) rfl)) .int .gt)
  · rw [wv]
    cases W with
    | nil => exact (.ifF (Tv.cast (.cmp (.var I rfl) (.list I .nil (Nat.le_of_ble_eq_true rfl)) (.neNil I.good)) rfl) .none)
    | cons o r => exact (.ifT (Tv.cast (.cmp (.var I rfl) (.list I .nil (Nat.le_of_ble_eq_true rfl)) (.neNil I.good)) rfl) (.sub (.var I rfl) .int (.itemL (by decide) (by decide) rfl)))
  have hq2 : ∀ q ∈ [((248 : Addr), LO.tab qRows)], q.1 ≠ a := fun q hq => List.mem_singleton.mp hq ▸ hne.symm
  refine .asgT I (z := .tuple (.cons (.of fun h I => .var I rfl) (.cons (.cast (.callM (pre := []) (post := [(248, .tab qRows)]) fTake (.cons (.of fun h I => (.var I rfl)) (.cons (.of fun h I => (.bin (.callB I gLen (.cons (.var I rfl) .nil) (.lenB (by omega)) rfl) .int .add)) .nil)) (take_fn _ _ _ o1 (by omega) (by omega)) rfl (fun _ q => nomatch q) hq2) (congrArg PV.int hn2)) .nil)) (Nat.le_of_ble_eq_true rfl)) (.tup (.cons (.cell rfl rfl (calleeCell (x := "bent") rfl)) (.cons (.name calleeOwn rfl) .nil))) fun h I => ?_
  rw [hp2] at I
  refine .iteNM (led₂ := [(a, src p'), (248, .tab qRows)]) (bs₁ := [("bent", .byt B'), ("plain", .byt B), ("some", .lst (l.map optV)), ("source", .ref a)]) I (.andP (.cmp (.callM (pre := []) (post := [(248, .tab qRows)]) fTake (.cons (.of fun h I => (.var I rfl)) (.cons (.of fun h I => .int) .nil)) (take_fn _ _ _ o2 (by decide) (by decide)) rfl (fun _ q => nomatch q) hq2) (.of fun h I => .int) .eqI) fun h I _ => .and (.cmp (.var I rfl) .byt .neY) fun _ => .andN) (fun h I => ?_) fun h I => ?_
  · rw [hc, hB', hp']
    have z16 : B.length ≤ 16777216 := by omega
    cases c with
    | true =>
      have hB0 : 0 < B.length := by
        rw [Bool.and_true, Bool.and_eq_true] at hc
        cases hBB : B with
        | nil => rw [hBB] at hc; exact absurd hc.2 (by decide)
        | cons _ _ => exact Nat.succ_pos _
      obtain ⟨m, hm⟩ : ∃ m, n2 % B.length = m := ⟨_, rfl⟩
      rw [hm]
      refine .asg (X := .int m) I calleeOwn (.cast (.bin (.var I rfl) (.callB I gLen (.cons (.var I rfl) .nil) (.lenB (by omega)) rfl) (.mod (by omega))) (by rw [fmd _ (by omega), ← hm]; rfl)) rfl fun h I => ?_
      have c1 := cut_le B none (some (m : Int))
      have c2 := cut_le B (some ((m : Int) + 1)) none
      refine .asgCM (X := .byt (bentV B m (b8 (pick menuB (takeS p2 2))))) I (.cast (.bin (.bin (.of fun h I => (.cut (.var I rfl) .none (.some (.var I rfl)) z16)) (.callT gBytes (.cons (.list (.cons (.callM (pre := []) (post := [(248, .tab qRows)]) fOne (.cons (.of fun h I => (.var I rfl)) (.cons (.of fun h I => (.list I (.cons .int (.cons .int (.cons .int (.cons .int (.cons .int (.cons .int .nil)))))) (Nat.le_of_ble_eq_true rfl))) .nil)) (law_one_fn _ _ menuB o3 (by decide) (by decide)) rfl (fun _ q => nomatch q) hq2) .nil) (Nat.le_of_ble_eq_true rfl)) .nil) (.bytesL I.good.hh (Nat.le_of_ble_eq_true rfl) (fun x hx => by rw [List.mem_singleton.mp hx]; exact ⟨_, rfl, menuB_ok _ (pick_mem _ _ (by decide))⟩)) rfl) (.addB (show (cutL B none (some (m : Int))).length + 1 ≤ 16777216 by omega))) (.of fun h I => (.cut (.var I rfl) (.some (.bin (.var I rfl) .int .add)) .none z16)) (.addB (by rw [List.length_append]; show (cutL B none (some (m : Int))).length + 1 + (cutL B (some ((m : Int) + 1)) none).length ≤ 16777216; omega))) (by
        show PV.byt (cutL B none (some (m : Int)) ++ [b8 (pick menuB (takeS p2 2))] ++ cutL B (some ((m : Int) + 1)) none) = _
        rw [cutEN, show cutL B (some ((m : Int) + 1)) none = _ from cutNE B (m + 1)]; rfl)) rfl rfl (calleeCell (x := "bent") rfl) fun h I => ?_
      exact .nil (I.sub (subC rfl (subC rfl (subC rfl (subC rfl sub0)))))
    | false =>
      refine .iteNM I (.cmp (.callM (pre := []) (post := [(248, .tab qRows)]) fTake (.cons (.of fun h I => (.var I rfl)) (.cons (.of fun h I => .int) .nil)) (take_fn _ _ _ o3 (by decide) (by decide)) rfl (fun _ q => nomatch q) hq2) (.of fun h I => .int) .eqI) (fun h I => ?_) fun h I => .nil I
      rw [hc2]
      cases c2 with
      | true =>
        refine .asgC (X := .byt (B.take n2)) I (.cast (.cut (.var I rfl) .none (.some (.var I rfl)) z16) (congrArg PV.byt (cutEN B n2))) rfl rfl (calleeCell (x := "bent") rfl) fun h I => ?_
        exact .nil (I.sub (subC rfl (subC rfl (subC rfl (subC rfl sub0)))))
      | false => exact .nil (I.sub (subC rfl (subC rfl (subC rfl (subC rfl sub0)))))
  have hBz : B'.length ≤ 900 := by omega
  refine .forL I (It.range1 (n := B'.length) (.of fun h I => (.callB I gLen (.cons (.var I rfl) .nil) (.lenB (by omega)) rfl)) (by omega) rfl gRange) fo.f (fun g it hit hg => ?_) (fun _ z => nomatch z)
  refine Loop.all (fun i : Nat => .int i) (List.range B'.length) (fun _ => [(a, src p'), (248, .tab qRows)]) (fun _ => [("bent", .byt B'), ("plain", .byt B), ("some", .lst (l.map optV)), ("source", .ref a)]) (fun _ => memTwo am Pm) (fun p i r e => ⟨_, fun io => .cell rfl rfl (inCell (calleeCell (x := "at") rfl)), fun io h I => ?_⟩) fun h I => ?_
  · have fo' := FoIn (it := it) fo hg
    have hi : i < B'.length := List.mem_range.mp (e ▸ List.mem_append_right _ (.head _))
    have h1 : ∀ io, ∀ q ∈ [(it, LO.obj io), (a, src p')], q.1 ≠ 248 := fun io q hq => (List.mem_cons.mp hq).elim (fun e => e ▸ fun z => hit (by rw [show it = 248 from z]; exact Pm)) fun hq => List.mem_singleton.mp hq ▸ hne
    by_cases h2 : i + 1 < B'.length ∧ 2 ≤ u B' (i + 1) ∧ i + u B' (i + 1) ≤ B'.length
    · obtain ⟨q1, q2, q3⟩ := h2
      refine .ifFM I (.cast (.cmp (.told (bsL := [("bent", .byt B'), ("at", .int i)]) (pre := [(it, .obj io), (a, src p')]) (post := []) (tab rfl rfl) (h1 io) (fun _ q => nomatch q) rfl rfl ⟨rfl, rfl, nl rfl, rfl, rfl, rfl, rfl, nl rfl, rfl, rfl, trivial⟩ ⟨fun _ _ _ _ => rfl, rfl, rfl, rfl, by decide⟩ (fun C g h f c I => (.call I fSizeAt (.cons (.var I rfl) (.cons (.var I rfl) .nil)) (size_at_fn _ _ q1 q2 q3 (by omega)) rfl)) rfl)
        (.of fun h I => (.call I fLSize (.cons (.var I rfl) (.cons (.var I rfl) .nil)) (law_size_ok _ _ q1 q2 q3 (by omega)) rfl)) .neI) (bne_self_eq_false _)) fun h I => .nil (I.sub (subC rfl (subC rfl (subC rfl (subC rfl sub0)))))
    · have h2' : i + 1 < B'.length → u B' (i + 1) < 2 ∨ (B'.length : Int) < i + u B' (i + 1) := by omega

      refine .ifFM I (.cast (.cmp (.toldX (bsL := [("bent", .byt B'), ("at", .int i)]) (pre := [(it, .obj io), (a, src p')]) (post := []) (.inl ⟨rfl, rfl⟩) fo' (tab rfl rfl) (h1 io) (fun _ q => nomatch q) rfl rfl ⟨rfl, rfl, nl rfl, rfl, rfl, rfl, rfl, nl rfl, rfl, rfl, trivial⟩ ⟨fun _ _ _ _ => rfl, rfl, rfl, rfl, by decide⟩ (fun C g h f c I => .call I rfl fSizeAt (.cons (.var I rfl) (.cons (.var I rfl) .nil)) (size_at_fx B' i h2' (by omega)) rfl) rfl)
        (.of fun h I => (.call I fLSize (.cons (.var I rfl) (.cons (.var I rfl) .nil)) (law_size_bad _ _ h2' (by omega)) rfl)) .neS) (bne_self_eq_false _)) fun h I => .nil (I.sub (subC rfl (subC rfl (subC rfl (subC rfl sub0)))))
  have ra := rd_all hlo
  rw [← hB] at ra
  have r1 := read_options_fn (lv := lv) B' hBz
  have r2 := read_options_fn (lv := lv) B (by omega)
  rw [ra] at r2
  obtain ⟨R, hR⟩ : ∃ R, rd B'.length B' 0 = R := ⟨_, rfl⟩
  rw [hR] at r1
  refine .retM I (.andT (led₁ := [(a, src p'), (248, .tab qRows)]) ?_ (.one (.cmp (.told (bsL := [("plain", .byt B)]) (pre := [(a, src p')]) (post := []) (tab rfl rfl) hq1 (fun _ q => nomatch q) rfl rfl ⟨rfl, rfl, nl rfl, rfl, rfl, trivial⟩ ⟨fun _ _ _ _ => rfl, rfl, rfl, rfl, by decide⟩ (fun C g h f c I => .call I fReadO (.cons (.var I rfl) .nil) r2 rfl) rfl) (.of fun h I => .var I rfl) (.eqV I.good (sh_opts l) (by decide)))))
  obtain ⟨L, ok⟩ := R
  cases ok with
  | true => exact .cmp (.told (bsL := [("bent", .byt B')]) (pre := [(a, src p')]) (post := []) (tab rfl rfl) hq1 (fun _ q => nomatch q) rfl rfl ⟨rfl, rfl, nl rfl, rfl, rfl, trivial⟩ ⟨fun _ _ _ _ => rfl, rfl, rfl, rfl, by decide⟩ (fun C g h f c I => .call I fReadO (.cons (.var I rfl) .nil) r1 rfl) rfl) (.of fun h I => .cast (.call I fRead (.cons (.var I rfl) .nil) (law_read_fn _ hBz) rfl) (by rw [hR]; rfl)) (.eqV I.good (sh_opts L) (by decide))
  | false => exact .cast (.cmp (.toldX (bsL := [("bent", .byt B')]) (pre := [(a, src p')]) (post := []) (.inl ⟨rfl, rfl⟩) fo (tab rfl rfl) hq1 (fun _ q => nomatch q) rfl rfl ⟨rfl, rfl, nl rfl, rfl, rfl, trivial⟩ ⟨fun _ _ _ _ => rfl, rfl, rfl, rfl, by decide⟩ (fun C g h f c I => .call I rfl fReadO (.cons (.var I rfl) .nil) r1 rfl) rfl) (.of fun h I => .cast (.call I fRead (.cons (.var I rfl) .nil) (law_read_fn _ hBz) rfl) (by rw [hR]; rfl)) .eqS) (by rw [beq_self_eq_true])
end Mine
end
section
open PySem PySem.W PySem.Spec PySem.Calls PyProof.Rows
namespace Mine
theorem filter_range {t : Nat → Bool} {m : Nat} : ∀ {n : Nat}, m ≤ n → (∀ i, i < n → (t i = true ↔ i < m)) → (List.range n).filter t = List.range m
  | 0, h, _ => by rw [Nat.le_zero.mp h]; rfl
  | n + 1, h, k => by
    rw [List.range_succ, List.filter_append]
    by_cases e : m = n + 1
    · subst e
      rw [List.filter_eq_self.mpr fun i hi => (k i (Nat.lt_succ_of_lt (List.mem_range.mp hi))).mpr (Nat.lt_succ_of_lt (List.mem_range.mp hi)), List.filter_cons_of_pos ((k n (Nat.lt_succ_self n)).mpr (Nat.lt_succ_self n)), List.filter_nil, List.range_succ]
    · rw [filter_range (by omega) fun i hi => k i (Nat.lt_succ_of_lt hi), List.filter_cons_of_neg (fun z => by have := (k n (Nat.lt_succ_self n)).mp z; omega), List.filter_nil, List.append_nil]
/-- four octets from a place on -/
abbrev sl (b : List UInt8) (k : Nat) : List UInt8 := (b.drop k).take 4
theorem sl_len {b : List UInt8} {k : Nat} (h : k + 4 ≤ b.length) : (sl b k).length = 4 := by rw [List.length_take, List.length_drop]; omega
theorem u_sl {b : List UInt8} {k j : Nat} (h : j < 4) : u (sl b k) j = u b (k + j) := by
  unfold u
  rw [List.getD_eq_getElem?_getD, List.getD_eq_getElem?_getD, List.getElem?_take, if_pos h, List.getElem?_drop]
theorem byte_nat {n : Int} (h0 : 0 ≤ n) (h1 : n < 256) : ((b8 n).toNat : Int) = n := u_b8 (r := []) h0 h1
theorem b8_u (b : List UInt8) (i : Nat) : b8 (u b i) = b.getD i 0 := by
  show ((b.getD i 0).toNat).toUInt8 = _
  apply UInt8.toNat_inj.mp
  simp
theorem four_w32 {b : List UInt8} {k : Nat} (h : k + 4 ≤ b.length) : four (w32 b k) = sl b k := by
  have a0 := u_lo b k; have a1 := u_hi b k
  have b0 := u_lo b (k+1); have b1 := u_hi b (k+1)
  have c0 := u_lo b (k+2); have c1 := u_hi b (k+2)
  have d0 := u_lo b (k+3); have d1 := u_hi b (k+3)
  unfold four w32
  rw [show (((u b k * 256 + u b (k+1)) * 256 + u b (k+2)) * 256 + u b (k+3)) / 16777216 % 256 = u b k by omega,
    show (((u b k * 256 + u b (k+1)) * 256 + u b (k+2)) * 256 + u b (k+3)) / 65536 % 256 = u b (k+1) by omega,
    show (((u b k * 256 + u b (k+1)) * 256 + u b (k+2)) * 256 + u b (k+3)) / 256 % 256 = u b (k+2) by omega,
    show (((u b k * 256 + u b (k+1)) * 256 + u b (k+2)) * 256 + u b (k+3)) % 256 = u b (k+3) by omega]
  rw [b8_u, b8_u, b8_u, b8_u]
  apply List.ext_getElem?
  intro i
  rw [List.getElem?_take, List.getElem?_drop]
  have g : ∀ j, j < b.length → b[j]? = some (b.getD j 0) := fun j hj => by rw [List.getD_eq_getElem?_getD, List.getElem?_eq_getElem hj]; rfl
  match i with
  | 0 => rw [if_pos (by decide), g _ (by omega)]; rfl
  | 1 => rw [if_pos (by decide), g _ (by omega)]; rfl
  | 2 => rw [if_pos (by decide), g _ (by omega)]; rfl
  | 3 => rw [if_pos (by decide), g _ (by omega)]; rfl
  | i + 4 => rw [if_neg (by omega)]; rfl
/-- the groups of four that a comprehension with a test finds -/
theorem groups (b : List UInt8) (p e : Nat) (he : e ≤ b.length) (f : PV → PV) (hf : ∀ i, p + 4 * i + 4 ≤ e → f (.int ((p : Int) + (i : Nat) * 4)) = .byt (sl b (p + 4 * i))) (t : PV → Bool) (ht : ∀ i : Nat, t (.int ((p : Int) + i * 4)) = decide (p + 4 * i + 4 ≤ e)) :
    ((((List.range (rn p e)).map fun (i : Nat) => PV.int ((p : Int) + i * 4)).filter t).map f) = (List.range (rn p (e - 3))).map fun i => PV.byt (sl b (p + 4 * i)) := by
  rw [List.filter_map, List.map_map, filter_range (m := rn p (e - 3)) (by unfold rn; omega) (fun i hi => by
    show t _ = true ↔ _
    rw [ht, decide_eq_true_iff]; unfold rn at hi ⊢; omega)]
  refine List.map_congr_left fun i hi => ?_
  have := List.mem_range.mp hi
  exact hf i (by unfold rn at this; omega)
theorem rn_zero {p e : Nat} : rn p (e - 3) = 0 ↔ ¬ p + 4 ≤ e := by unfold rn; omega
end Mine
end
section
open PySem PySem.W PySem.Spec PySem.Calls PyProof.Rows
set_option maxHeartbeats 4000000
namespace Mine
theorem fFour : GlF "_law_four" 256 := ⟨fun P => ⟨by k_is, by k_is⟩, by decide⟩
theorem fSourceRoute : GlF "source_route" 164 := ⟨fun P => ⟨by k_is, by k_is⟩, by decide⟩
theorem fRecorded : GlF "recorded" 159 := ⟨fun P => ⟨by k_is, by k_is⟩, by decide⟩
theorem fNext : GlF "next_on_way" 185 := ⟨fun P => ⟨by k_is, by k_is⟩, by decide⟩
abbrev qRoute : Str := "_law_route_right.<locals>.<lambda>"
abbrev menuP : List Int := [4, 8, 8, 12, 16, 0, 3, 5, 20]
abbrev menuN (i : Int) : List Int := [0, (2 : Int) ^ (32 : Int).toNat - 1, 167772161 + i]
theorem menuP_ok : ∀ k ∈ menuP, 0 ≤ k ∧ k ≤ 20 := by decide
theorem menuR_ok : ∀ k ∈ ([0, 0, 0, 2] : List Int), 0 ≤ k ∧ k ≤ 2 := by decide
theorem ints_of : ∀ {zs : List PV}, (∀ z ∈ zs, ∃ n : Int, z = .int n) → ∃ l : List Int, zs = l.map .int
  | [], _ => ⟨[], rfl⟩
  | z :: zs, h => by
    obtain ⟨n, rfl⟩ := h z (.head _)
    obtain ⟨l, rfl⟩ := ints_of fun x hx => h x (.tail _ hx)
    exact ⟨n :: l, rfl⟩
theorem flat_len : ∀ N : List Int, (N.map four).flatten.length = 4 * N.length
  | [] => rfl
  | n :: N => by rw [List.map_cons, List.flatten_cons, List.length_append, flat_len N, List.length_cons]; show 4 + _ = _; omega
def stepN : PV → Int × Int → PV × (Int × Int) := fun x p => (.int (pick (menuN (toI x)) p), takeS p 3)
abbrev leftV (b : List UInt8) (p e : Nat) : List PV := (List.range (rn p (e - 3))).map fun i => PV.byt (sl b (p + 4 * i))
abbrev cutF (b : List UInt8) (x : PV) : PV := .byt (cutL b (some (toI x)) (some (toI x + 4)))
theorem grp (b : List UInt8) (p e : Nat) (he : e ≤ b.length) : ([] : List PV) ++ (((List.range (rn p e)).map fun (i : Nat) => PV.int ((p : Int) + i * 4)).filter fun x => decide (toI x + 4 ≤ (e : Int))).map (cutF b) = leftV b p e := by
  rw [List.nil_append]
  refine groups b p e he (cutF b) (fun i hi => ?_) _ fun i => ?_
  · show PV.byt (cutL b (some ((p : Int) + i * 4)) (some ((p : Int) + i * 4 + 4))) = _
    rw [show (p : Int) + i * 4 = ((p + 4 * i : Nat) : Int) by omega, show ((p + 4 * i : Nat) : Int) + 4 = ((p + 4 * i + 4 : Nat) : Int) by omega, cutNN]
    congr 2; omega
  · show decide ((p : Int) + i * 4 + 4 ≤ e) = _
    congr 1; exact propext (by omega)
theorem sh_left {b : List UInt8} {p e : Nat} : sh 1 (.lst (leftV b p e)) := fun x hx => by
  obtain ⟨i, _, rfl⟩ := List.mem_map.mp hx
  trivial
theorem sh_route {b : List UInt8} {p e : Nat} : sh 1 (.lst (routeL b p e)) := fun x hx => by
  obtain ⟨i, _, rfl⟩ := List.mem_map.mp hx
  trivial
theorem left_len {b : List UInt8} {p e : Nat} : (leftV b p e).length = rn p (e - 3) := by rw [List.length_map, List.length_range]
theorem left_empty {b : List UInt8} {p e : Nat} : (leftV b p e).isEmpty = decide (¬ p + 4 ≤ e) := by
  have := @rn_zero p e
  unfold leftV
  by_cases h : p + 4 ≤ e
  · rw [decide_eq_false (by simpa using h)]
    obtain ⟨n, hn⟩ : ∃ n, rn p (e - 3) = n + 1 := ⟨rn p (e - 3) - 1, by omega⟩
    rw [hn, List.range_succ]
    simp
  · rw [this.mpr h, decide_eq_true h]; rfl
theorem w32_sl {b : List UInt8} {k : Nat} : w32 (sl b k) 0 = w32 b k := by
  show ((u (sl b k) 0 * 256 + u (sl b k) 1) * 256 + u (sl b k) 2) * 256 + u (sl b k) 3 = _
  rw [u_sl (by decide), u_sl (by decide), u_sl (by decide), u_sl (by decide)]; rfl
def byV : PV → List UInt8
  | .byt b => b
  | _ => []
theorem left_w32 {b : List UInt8} {p e : Nat} : ([] : List PV) ++ ((leftV b p e).filter fun _ => true).map (fun x => PV.int (w32 (byV x) 0)) = routeL b p (e - 3) := by
  unfold leftV
  rw [List.nil_append, all_map]
  exact List.map_congr_left fun i _ => congrArg PV.int w32_sl
theorem done_four {b : List UInt8} {e : Nat} (he : e ≤ b.length) : ([] : List PV) ++ ((routeL b 1 (e - 3)).filter fun _ => true).map (fun x => PV.byt (four (toI x))) = leftV b 1 e := by
  unfold leftV routeL
  rw [List.nil_append, all_map]
  exact List.map_congr_left fun i hi => congrArg PV.byt (four_w32 (by have := rn_lt (List.mem_range.mp hi); omega))
theorem left_get {b : List UInt8} {p : Nat} (h : p + 4 ≤ b.length) : (leftV b p b.length)[0]? = some (.byt (four (w32 b p))) := by
  have := @rn_zero p b.length
  obtain ⟨n, hn⟩ : ∃ n, rn p (b.length - 3) = n + 1 := ⟨rn p (b.length - 3) - 1, by omega⟩
  unfold leftV
  rw [hn, List.getElem?_map, List.getElem?_range (Nat.succ_pos _), four_w32 h]; rfl
theorem flat0 : ∀ x X, ([] : List (Str × PV)).lookup x = some X → flatV X := fun _ _ e => nomatch e
theorem flatC {bs : List (Str × PV)} {n : Str} {Y : PV} (h : flatV Y) (r : ∀ x X, bs.lookup x = some X → flatV X) : ∀ x X, ((n, Y) :: bs).lookup x = some X → flatV X := fun x X e => by
  rw [List.lookup_cons] at e
  cases hb : x == n with
  | true => rw [hb] at e; cases e; exact h
  | false => rw [hb] at e; exact r x X e
theorem w32_of {b : List UInt8} {k : Nat} : ((u (sl b k) 0 * 256 + u (sl b k) 1) * 256 + u (sl b k) 2) * 256 + u (sl b k) 3 = w32 b k := by
  rw [u_sl (by decide), u_sl (by decide), u_sl (by decide), u_sl (by decide)]; rfl
end Mine
end
section
open PySem PySem.W PySem.Spec PySem.Calls PyProof.Rows
set_option maxHeartbeats 4000000
namespace Mine




theorem sh_two (x y : List UInt8) : sh 1 (.tup [.byt x, .byt y]) := fun z hz => by
  rcases List.mem_cons.mp hz with rfl | hz
  · trivial
  · rw [List.mem_singleton.mp hz]; trivial
theorem route_fn {lv : Nat} (a : Addr) (p : Int × Int) (o : Ok p) : ∃ p', Ok p' ∧ MFnT (lv+8) 261 a (src p) 258 qRoute [.ref a] (.bool true) (src p') := by
  obtain ⟨m, hm⟩ := Int.eq_ofNat_of_zero_le (take_lo p (top := 4) (by decide))
  have hm3 : m ≤ 3 := by have := take_hi p (top := 4) (by decide); omega
  have all := runT_all stepN (G := fun z => ∃ n : Int, z = .int n) (O := Ok) ((List.range m).map fun (i : Nat) => .int i) (takeS p 4) (take_ok o (by decide)) fun x _ p hp => ⟨⟨_, rfl⟩, take_ok hp (by decide)⟩
  have hlen := runT_len stepN ((List.range m).map fun (i : Nat) => .int i) (takeS p 4)
  obtain ⟨N, hN⟩ := ints_of all.1
  obtain ⟨p1, hp1⟩ : ∃ p1, (runT stepN ((List.range m).map fun (i : Nat) => .int i) (takeS p 4)).2 = p1 := ⟨_, rfl⟩
  have o1 : Ok p1 := hp1 ▸ all.2
  have hN3 : N.length ≤ 3 := by rw [hN, List.length_map, List.length_map, List.length_range] at hlen; omega
  obtain ⟨ptr, hptr⟩ : ∃ k, pick menuP p1 = k := ⟨_, rfl⟩
  have hpm := menuP_ok _ (hptr ▸ pick_mem menuP p1 (by decide))
  obtain ⟨p2, hp2⟩ : ∃ q, takeS p1 9 = q := ⟨_, rfl⟩
  have o2 : Ok p2 := hp2 ▸ take_ok o1 (by decide)
  obtain ⟨hr, hhr⟩ : ∃ k, takeV p2 ((2 : Int) ^ (32 : Int).toNat) = k := ⟨_, rfl⟩
  obtain ⟨p3, hp3⟩ : ∃ q, takeS p2 ((2 : Int) ^ (32 : Int).toNat) = q := ⟨_, rfl⟩
  have o3 : Ok p3 := hp3 ▸ take_ok o2 (by decide +kernel)
  obtain ⟨r, hr1⟩ := Int.eq_ofNat_of_zero_le (menuR_ok _ (pick_mem [0, 0, 0, 2] p3 (by decide))).1
  have hr2 : r ≤ 2 := by have := (menuR_ok _ (pick_mem [0, 0, 0, 2] p3 (by decide))).2; omega
  obtain ⟨p', hp'⟩ : ∃ q, takeS p3 4 = q := ⟨_, rfl⟩
  have o' : Ok p' := hp' ▸ take_ok o3 (by decide)
  obtain ⟨T, hT⟩ : ∃ T, T = (N.map four).flatten ++ (List.replicate r (PV.int 9)).map fun x => (toI x).toNat.toUInt8 := ⟨_, rfl⟩
  have hTl : T.length ≤ 14 := by rw [hT, List.length_append, flat_len, List.length_map, List.length_replicate]; omega
  obtain ⟨O, hO⟩ : ∃ O, O = b8 ptr :: T := ⟨_, rfl⟩
  have hOl : O.length ≤ 15 := by rw [hO, List.length_cons]; omega
  have hO0 : 0 < O.length := by rw [hO]; exact Nat.succ_pos _
  have hu : u O 0 = ptr := by rw [hO]; exact u_b8 hpm.1 (by omega)
  refine ⟨p', o', ?_⟩
  refine MFnT.of (lv := lv+7) ["source"] (fun P => by k_is) (fun P => by k_is) (fun vs hv => by obtain ⟨a, rfl⟩ := len1 hv; rfl) (by decide) (by decide) rfl rfl rfl rfl (fun C h h₁ hne fo I => ?_) (fun _ _ _ q => by obtain ⟨_, _, rfl, _⟩ := q; exact itemL)
  have am := I.memMu (.head _)
  have Pm := I.memMu (.tail _ (.head _))
  have hq2 : ∀ q ∈ [((258 : Addr), LO.tab qRoute)], q.1 ≠ a := fun q hq => List.mem_singleton.mp hq ▸ hne.symm
  have hq1 : ∀ {L : LO}, ∀ q ∈ [(a, L)], q.1 ≠ 258 := fun q hq => List.mem_singleton.mp hq ▸ hne
  refine .asgM (X := .int m) I calleeOwn (.cast (.callM (pre := []) (post := [(258, .tab qRoute)]) fTake (.cons (.of fun h I => (.var I rfl)) (.cons (.of fun h I => .int) .nil)) (take_fn _ _ _ o (by decide) (by decide)) rfl (fun _ q => nomatch q) hq2) (congrArg PV.int hm)) rfl fun h I => ?_
  refine .asgComp I calleeOwn rfl (It.range1 (n := m) (.of fun h I => (.var I rfl)) (by omega) rfl gRange) rfl
    (fun g L it acc J hi ha => Turns.draw (bsD := [("source", .ref a)]) stepN (fun p => [(a, src p), (258, .tab qRoute)]) Ok compOwn rfl (fun p => memTwo am Pm) (fun x _ p hp => take_ok hp (by decide)) (fun x hx p hp io ys => ?_)
      (take_ok o (by decide)) Under.self (by simp; omega)) rfl (hvC rfl (nl rfl) (fun _ => rfl) rfl hv0) (clC rfl cl0) fo.f (.inl rfl) rfl (by decide) (by decide) fun h I => ?_
  · obtain ⟨i, hi', rfl⟩ := List.mem_map.mp hx
    exact (.callM (pre := [(it, .obj io), (acc, .lst ys)]) (post := [(258, .tab qRoute)]) fOne (.cons (.of fun h I => (.var I rfl)) (.cons (.of fun h I => (.list I (.cons .int (.cons (.bin (.bin .int .int (.pow (by decide) (by decide +kernel))) .int .sub) (.cons (.bin .int (.var I rfl) .add) .nil))) (Nat.le_of_ble_eq_true rfl))) .nil)) (law_one_fn _ _ (menuN i) hp (Nat.succ_pos _) (Nat.le_of_ble_eq_true rfl)) rfl (fun q hq => (List.mem_cons.mp hq).elim (fun e => e ▸ fun z => hi (z ▸ am)) fun hq => List.mem_singleton.mp hq ▸ fun z => ha (z ▸ am)) hq2)
  rw [List.nil_append, hN, hp1] at I
  refine .asgT I (z := .tuple (.cons (.cast (.callM (pre := []) (post := [(258, .tab qRoute)]) fOne (.cons (.of fun h I => (.var I rfl)) (.cons (.of fun h I => (.list I (.cons .int (.cons .int (.cons .int (.cons .int (.cons .int (.cons .int (.cons .int (.cons .int (.cons .int .nil))))))))) (Nat.le_of_ble_eq_true rfl))) .nil)) (law_one_fn _ _ menuP o1 (by decide) (by decide)) rfl (fun _ q => nomatch q) hq2) (congrArg PV.int hptr)) (.cons (.cast (.callM (pre := []) (post := [(258, .tab qRoute)]) fTake (.cons (.of fun h I => (.var I rfl)) (.cons (.of fun h I => (.bin .int .int (.pow (by decide) (by decide +kernel)))) .nil)) (take_fn _ _ _ (show Ok (takeS p1 9) from hp2 ▸ o2) (by decide +kernel) (by decide +kernel)) rfl (fun _ q => nomatch q) hq2) (show PV.int (takeV (takeS p1 9) _) = .int hr by rw [hp2, hhr])) .nil)) (Nat.le_of_ble_eq_true rfl)) (.tup (.cons (.name calleeOwn rfl) (.cons (.cell rfl rfl (calleeCell (x := "here") rfl)) .nil))) fun h I => ?_
  rw [show takeS (takeS p1 ((menuP.length : Nat) : Int)) ((2 : Int) ^ (32 : Int).toNat) = p3 by show takeS (takeS p1 9) _ = p3; rw [hp2, hp3]] at I
  refine .asgCM (X := .byt O) I (.cast (.bin (.bin (.of fun h I => (.callT I gBytes (.cons (.list I (.cons (.var I rfl) .nil) (Nat.le_of_ble_eq_true rfl)) .nil) (.bytesL I.good.hh (Nat.le_of_ble_eq_true rfl) (fun x hx => by rw [List.mem_singleton.mp hx]; exact ⟨_, rfl, hpm.1, by omega⟩)) rfl)) (.join (bl := N.map four) (.cast (.comp (bsD := []) (It.list (.of fun h I => (.var I rfl))) rfl (fun g L it acc J hi ha => Turns.name (fun x => .byt (four (toI x))) (fun _ => true) compOwn rfl (memTwo am Pm) (.inl ⟨rfl, fun _ _ => rfl⟩) (fun x hx _ led h I => ?_) Under.self (by simp; omega)) rfl hv0 cl0 fo.f (.inl rfl) rfl (by decide) (by decide)) (by rw [List.nil_append, all_map, List.map_map]; rfl)) (by rw [List.length_map]; exact hN3) (by rw [flat_len]; omega)) (.addB (by rw [flat_len]; show 1 + _ ≤ _; omega)))
    (.callT gBytes (.cons (.mul1 (X := .int 9) (n := r) (.of fun h I => (.list I (.cons .int .nil) (Nat.le_of_ble_eq_true rfl))) (.cast (.callM (pre := []) (post := [(258, .tab qRoute)]) fOne (.cons (.of fun h I => (.var I rfl)) (.cons (.of fun h I => (.list I (.cons .int (.cons .int (.cons .int (.cons .int .nil)))) (Nat.le_of_ble_eq_true rfl))) .nil)) (law_one_fn _ _ [0, 0, 0, 2] o3 (by decide) (by decide)) rfl (fun _ q => nomatch q) hq2) (congrArg PV.int hr1)) (by omega)) .nil) (.bytesL I.good.hh (by rw [List.length_replicate]; omega) (fun x hx => by rw [List.eq_of_mem_replicate hx]; exact ⟨9, rfl, by decide, by decide⟩)) rfl)
    (.addB (by simp only [List.length_append, flat_len, List.length_map, List.length_replicate, List.length_cons, List.length_nil]; omega))) (by rw [hO, hT]; rfl)) rfl rfl (calleeCell (x := "octets") rfl) fun h I => ?_
  · obtain ⟨n, hn, rfl⟩ := List.mem_map.mp hx
    exact (.call I fFour (.cons (.var I rfl) .nil) (law_four_fn _) rfl)
  rw [show takeS p3 (([0, 0, 0, 2] : List Int).length : Nat) = p' from hp'] at I
  by_cases hlow : ptr < 4
  · refine .ifT I (Tv.cast (.cmp (.var I rfl) .int .lt) (decide_eq_true hlow)) trivial fun h I => ?_
    refine .asgM I calleeOwn (.list (.cons (.lam (pre := [(a, src p')]) (post := []) (P := 258) (c := 260) (q := qRoute) hq1 (fun _ q => nomatch q) (fun P => by kernel_rfl) rfl rfl rfl rfl) (.cons (.lam (pre := [(a, src p')]) (post := []) (P := 258) (c := 260) (q := qRoute) hq1 (fun _ q => nomatch q) (fun P => by kernel_rfl) rfl rfl rfl rfl) (.cons (.lam (pre := [(a, src p')]) (post := []) (P := 258) (c := 260) (q := qRoute) hq1 (fun _ q => nomatch q) (fun P => by kernel_rfl) rfl rfl rfl rfl) .nil))) (Nat.le_of_ble_eq_true rfl)) rfl fun h I => ?_
    refine .asgM I calleeOwn (.addL (.of fun h I => .var I rfl) (.list (.cons (.lam (pre := [(a, src p')]) (post := []) (P := 258) (c := 260) (q := qRoute) hq1 (fun _ q => nomatch q) (fun P => by kernel_rfl) rfl rfl rfl rfl) (.cons (.lam (pre := [(a, src p')]) (post := []) (P := 258) (c := 260) (q := qRoute) hq1 (fun _ q => nomatch q) (fun P => by kernel_rfl) rfl rfl rfl rfl) .nil)) (Nat.le_of_ble_eq_true rfl)) (Nat.le_of_ble_eq_true rfl)) rfl fun h I => ?_
    refine .retM I (.cmp (.comp (bsD := []) (fs := frsA _) (It.list (.of fun h I => .var I rfl)) rfl (fun g L it acc J hi ha => Turns.noneM compOwn rfl (memTwo am Pm) (Nat.zero_le _) (fun x hx io => ?_) Under.self) rfl hv0 cl0 fo.f (.inr ⟨rfl, fo⟩) rfl (by decide) (by decide)) (.of fun h I => .list I .nil (Nat.zero_le _)) (.eqNil I.good))
    have hlo : O = [] ∨ u O 0 < 4 := .inr (by omega)
    rcases List.mem_cons.mp hx with rfl | hx
    · exact .cast (.cmp (.toldVar (bsL := [("octets", .byt O)]) (.inl ⟨rfl, rfl⟩) (FoComp fo) rfl (fun h I => cellsIn J ⟨rfl, rfl, nl rfl, rfl, rfl, trivial⟩ (flatC trivial flat0) I) ⟨fun _ _ _ _ => rfl, rfl, rfl, rfl, by decide⟩ (fun C g h f c I => .call I rfl fPointerPlace (.cons (.var I rfl) .nil) (pointer_place_fx O hlo (by omega)) rfl) rfl) (.of fun h I => .str) .neS) (bne_self_eq_false _)
    rcases List.mem_cons.mp hx with rfl | hx
    · exact .cast (.cmp (.toldVar (bsL := [("octets", .byt O)]) (.inl ⟨rfl, rfl⟩) (FoComp fo) rfl (fun h I => cellsIn J ⟨rfl, rfl, nl rfl, rfl, rfl, trivial⟩ (flatC trivial flat0) I) ⟨fun _ _ _ _ => rfl, rfl, rfl, rfl, by decide⟩ (fun C g h f c I => .call I rfl fSourceRoute (.cons (.var I rfl) .nil) (source_route_fx O hlo (by omega)) rfl) rfl) (.of fun h I => .str) .neS) (bne_self_eq_false _)
    rcases List.mem_cons.mp hx with rfl | hx
    · exact .cast (.cmp (.toldVar (bsL := [("octets", .byt O), ("here", .int hr)]) (.inl ⟨rfl, rfl⟩) (FoComp fo) rfl (fun h I => cellsIn J ⟨rfl, rfl, nl rfl, rfl, rfl, rfl, rfl, nl rfl, rfl, rfl, trivial⟩ (flatC trivial (flatC trivial flat0)) I) ⟨fun _ _ _ _ => rfl, rfl, rfl, rfl, by decide⟩ (fun C g h f c I => .call I rfl fRecordRoute (.cons (.var I rfl) (.cons (.var I rfl) .nil)) (record_route_fx O hr hlo (by omega)) rfl) rfl) (.of fun h I => .str) .neS) (bne_self_eq_false _)
    rcases List.mem_cons.mp hx with rfl | hx
    · exact .cast (.cmp (.toldVar (bsL := [("octets", .byt O), ("here", .int hr)]) (.inl ⟨rfl, rfl⟩) (FoComp fo) rfl (fun h I => cellsIn J ⟨rfl, rfl, nl rfl, rfl, rfl, rfl, rfl, nl rfl, rfl, rfl, trivial⟩ (flatC trivial (flatC trivial flat0)) I) ⟨fun _ _ _ _ => rfl, rfl, rfl, rfl, by decide⟩ (fun C g h f c I => .call I rfl fNext (.cons (.var I rfl) (.cons (.var I rfl) .nil)) (next_on_way_fx O hr hlo (by omega)) rfl) rfl) (.of fun h I => .str) .neS) (bne_self_eq_false _)
    cases List.mem_singleton.mp hx
    exact .cast (.cmp (.toldVar (bsL := [("octets", .byt O)]) (.inl ⟨rfl, rfl⟩) (FoComp fo) rfl (fun h I => cellsIn J ⟨rfl, rfl, nl rfl, rfl, rfl, trivial⟩ (flatC trivial flat0) I) ⟨fun _ _ _ _ => rfl, rfl, rfl, rfl, by decide⟩ (fun C g h f c I => .call I rfl fRecorded (.cons (.var I rfl) .nil) (recorded_fx O hlo (by omega)) rfl) rfl) (.of fun h I => .str) .neS) (bne_self_eq_false _)
  refine .ifF I (Tv.cast (.cmp (.var I rfl) .int .lt) (decide_eq_false hlow)) fun h I => ?_
  obtain ⟨q, hq, q1, q17⟩ : ∃ q : Nat, ptr = q + 3 ∧ 1 ≤ q ∧ q ≤ 17 := ⟨(ptr - 3).toNat, by omega, by omega, by omega⟩
  have h0 : u O 0 = q + 3 := by rw [hu, hq]
  refine .asgC (X := .int q) I (.cast (.bin (.var I rfl) .int .sub) (congrArg PV.int (by omega))) rfl rfl (calleeCell (x := "begin") rfl) fun h I => ?_
  refine .asgComp I calleeOwn rfl (It.range3 (a := (q : Int)) (b := (O.length : Int)) (c := 4) (n := rn q O.length) (.cons (.of fun h I => (.var I rfl)) (.cons (.of fun h I => (.callB I gLen (.cons (.var I rfl) .nil) (.lenB (by omega)) rfl)) (.cons (.of fun h I => .int) .nil))) (by omega) (by omega) (by decide) (by rw [rn_size q1]; rfl) rfl gRange) rfl (fun g L it acc J hi ha => Turns.name (bsD := [("octets", .byt O)]) (cutF O) (fun x => decide (toI x + 4 ≤ (O.length : Int))) compOwn rfl (memTwo am Pm) (.inr ⟨_, rfl, fun x hx led h I => ?_⟩) (fun x hx _ led h I => ?_) Under.self (by have := @rn_len q O.length; simp only [List.length_map, List.length_range, List.length_nil]; omega)) rfl (hvC rfl (nl rfl) (fun _ => rfl) rfl hv0) (clC rfl cl0) fo.f (.inl rfl) rfl (by decide) (by decide) fun h I => ?_
  · obtain ⟨i, hi', rfl⟩ := List.mem_map.mp hx
    exact (.cmp (.bin (.var I rfl) .int .add) (.callB I gLen (.cons (.var I rfl) .nil) (.lenB (by omega)) rfl) .le)
  · obtain ⟨i, hi', rfl⟩ := List.mem_map.mp hx
    exact (.cut (.var I rfl) (.some (.var I rfl)) (.some (.bin (.var I rfl) .int .add)) (by omega))
  rw [grp O q O.length (Nat.le_refl _)] at I



  have hl4 : ∀ x ∈ leftV O q O.length, ∃ b, x = .byt b ∧ b.length = 4 := fun x hx => by
    obtain ⟨i, hi, rfl⟩ := List.mem_map.mp hx
    exact ⟨_, rfl, sl_len (by have := rn_lt (List.mem_range.mp hi); omega)⟩
  have hll : (leftV O q O.length).length ≤ 20 := by rw [left_len]; unfold rn; omega
  refine .ifFM I (.orF (.cast (.cmp (.of fun h I => .cast (.call I fPointerPlace (.cons (.var I rfl) .nil) (pointer_place_fn _ (by omega) hO0 (by omega)) rfl) (congrArg PV.int (show u O 0 - 4 + 1 = (q : Int) by omega))) (.of fun h I => .var I rfl) .neI) (bne_self_eq_false _))
    (.orF (.cmp (.of fun h I => (.call I fSourceRoute (.cons (.var I rfl) .nil) (source_route_fn _ q h0 q1 (by omega) hO0 (by omega)) rfl)) (.cast (.comp (bsD := []) (It.list (.of fun h I => (.var I rfl))) rfl (fun g L it acc J hi ha => Turns.name (fun x => .int (w32 (byV x) 0)) (fun _ => true) compOwn rfl (memTwo am Pm) (.inl ⟨rfl, fun _ _ => rfl⟩) (fun x hx _ led h I => ?_) Under.self (by rw [List.length_nil]; omega)) rfl hv0 cl0 fo.f (.inl rfl) rfl (by decide) (by decide)) (congrArg PV.lst left_w32)) (.neV I.good sh_route (by decide))) .orN)) fun h I => ?_
  · obtain ⟨b, rfl, hb4⟩ := hl4 x hx
    exact (.bin (.bin (.bin (.bin (.bin (.bin (.sub (.var I rfl) .int (.itemB (by omega) (by decide) (by omega))) .int (.mulR ⟨by decide, by decide⟩)) (.sub (.var I rfl) .int (.itemB (by omega) (by decide) (by omega))) .add) .int (.mulR ⟨by decide, by decide⟩)) (.sub (.var I rfl) .int (.itemB (by omega) (by decide) (by omega))) .add) .int (.mulR ⟨by decide, by decide⟩)) (.sub (.var I rfl) .int (.itemB (by omega) (by decide) (by omega))) .add)
  obtain ⟨e, he⟩ : ∃ e, e = min q O.length := ⟨_, rfl⟩
  have heI : min (q : Int) O.length = e := by omega
  refine .asgComp I calleeOwn rfl (It.range3 (a := ((1 : Nat) : Int)) (b := (e : Int)) (c := 4) (n := rn 1 e) (.cons (.of fun h I => .int) (.cons (.cast (.of fun h I => (.callB I gMin (.cons (.var I rfl) (.cons (.callB I gLen (.cons (.var I rfl) .nil) (.lenB (by omega)) rfl) .nil)) (.min2 I.good.hh) rfl)) (congrArg PV.int heI)) (.cons (.of fun h I => .int) .nil))) (by omega) (by omega) (by decide) (by rw [rn_size (Nat.le_refl 1)]; rfl) rfl gRange) rfl (fun g L it acc J hi ha => Turns.name (bsD := [("begin", .int q), ("octets", .byt O)]) (cutF O) (fun x => decide (toI x + 4 ≤ (e : Int))) compOwn rfl (memTwo am Pm) (.inr ⟨_, rfl, fun x hx led h I => ?_⟩) (fun x hx _ led h I => ?_) Under.self (by have := @rn_len 1 e; simp only [List.length_map, List.length_range, List.length_nil]; omega)) rfl (hvC rfl (nl rfl) (fun _ => rfl) rfl (hvC rfl (nl rfl) (fun _ => rfl) rfl hv0)) (clC rfl (clC rfl cl0)) fo.f (.inl rfl) rfl (by decide) (by decide) fun h I => ?_
  · obtain ⟨i, hi', rfl⟩ := List.mem_map.mp hx
    exact Tv.cast (.cmp (.bin (.var I rfl) .int .add) (.callB I gMin (.cons (.var I rfl) (.cons (.callB I gLen (.cons (.var I rfl) .nil) (.lenB (by omega)) rfl) .nil)) (.min2 I.good.hh) rfl) .le) (by show _ = decide (_ + 4 ≤ (e : Int)); rw [← heI]; rfl)
  · obtain ⟨i, hi', rfl⟩ := List.mem_map.mp hx
    exact (.cut (.var I rfl) (.some (.var I rfl)) (.some (.bin (.var I rfl) .int .add)) (by omega))
  have hel : e ≤ O.length := by omega
  rw [grp O 1 e hel] at I
  have hrl : (routeL O 1 (min q O.length - 3)).length ≤ 20 := by unfold routeL; rw [List.length_map, List.length_range]; unfold rn; omega
  refine .ifFM I (.cmp (.cast (.comp (bsD := []) (It.list (.of fun h I => (.call I fRecorded (.cons (.var I rfl) .nil) (recorded_fn _ q h0 q1 (by omega) hO0 (by omega)) rfl))) rfl (fun g L it acc J hi ha => Turns.name (fun x => .byt (four (toI x))) (fun _ => true) compOwn rfl (memTwo am Pm) (.inl ⟨rfl, fun _ _ => rfl⟩) (fun x hx _ led h I => ?_) Under.self (by rw [List.length_nil]; omega)) rfl hv0 cl0 fo.f (.inl rfl) rfl (by decide) (by decide)) (congrArg PV.lst (by rw [← he]; exact done_four hel))) (.of fun h I => .var I rfl) (.neV I.good sh_left (by decide))) fun h I => ?_
  · obtain ⟨i, hi', rfl⟩ := List.mem_map.mp hx
    exact (.call I fFour (.cons (.var I rfl) .nil) (law_four_fn _) rfl)
  obtain ⟨F, hF⟩ : ∃ F, F = if q + 4 ≤ O.length then recd O hr q else O := ⟨_, rfl⟩
  obtain ⟨A, hA⟩ : ∃ A, A = if q + 4 ≤ O.length then PV.tup [.int (w32 O q), .byt (recd O hr q)] else .none := ⟨_, rfl⟩
  have hem := @left_empty O q O.length
  have rr : Fn (lv+7) 154 [.byt O, .int hr] (.byt F) := by
    rw [hF]
    split
    · exact record_route_more O hr q h0 q1 (by omega) (by omega) (by omega)
    · exact record_route_same O hr (by omega) hO0 (by omega) (by omega)
  have nn : Fn (lv+7) 185 [.byt O, .int hr] A := by
    rw [hA]
    split
    · exact next_on_way_some O hr q h0 q1 (by omega) (by omega) (by omega)
    · exact next_on_way_none O hr (by omega) hO0 (by omega) (by omega)


  refine .asgM (X := .byt F) I calleeOwn (.of fun h I => ?_) rfl fun h I => ?_
  · by_cases hle : q + 4 ≤ O.length
    · rw [decide_eq_false (by omega)] at hem
      rw [hF, if_pos hle]
      refine .cast (.ifT (Tv.cast (.cmp (.var I rfl) (.list I .nil (Nat.le_of_ble_eq_true rfl)) (.neNil I.good)) (by rw [hem]; rfl)) (.bin (.bin (.bin (.callT I gBytes (.cons (.list I (.cons (.bin (.var I rfl) .int .add) .nil) (Nat.le_of_ble_eq_true rfl)) .nil) (.bytesL I.good.hh (Nat.le_of_ble_eq_true rfl) ?_) rfl) (.cut (.var I rfl) (.some .int) (.some (.var I rfl)) (by omega)) (.addB ?_)) (.call I fFour (.cons (.var I rfl) .nil) (law_four_fn _) rfl) (.addB ?_)) (.cut (.var I rfl) (.some (.bin (.var I rfl) .int .add)) .none (by omega)) (.addB ?_))) ?_
      · intro x hx
        rw [List.mem_singleton.mp hx]
        exact ⟨_, rfl, by omega, by omega⟩
      · show 1 + _ ≤ _
        have := cut_le O (some 1) (some (q : Int))
        omega
      · rw [List.length_append]
        show 1 + _ + 4 ≤ _
        have := cut_le O (some 1) (some (q : Int))
        omega
      · rw [List.length_append, List.length_append]
        show 1 + _ + 4 + _ ≤ _
        have := cut_le O (some 1) (some (q : Int))
        have := cut_le O (some ((q : Int) + 4)) none
        omega
      · have e1 : cutL O (some 1) (some (q : Int)) = _ := cutNN O 1 q
        have e2 : cutL O (some ((q : Int) + 4)) none = _ := cutNE O (q + 4)
        rw [e1, e2, List.append_assoc, List.append_assoc]
        unfold recd
        rw [hu]
        rfl
    · rw [decide_eq_true (by omega)] at hem
      rw [hF, if_neg hle]
      exact (.ifF (Tv.cast (.cmp (.var I rfl) (.list I .nil (Nat.le_of_ble_eq_true rfl)) (.neNil I.good)) (by rw [hem]; rfl)) (.var I rfl))
  refine .ifF I (Tv.cast (.cmp (.call I fRecordRoute (.cons (.var I rfl) (.cons (.var I rfl) .nil)) (rr) rfl) (.var I rfl) .neY) (bne_self_eq_false _)) fun h I => ?_
  refine .asg (X := A) I calleeOwn (.call I fNext (.cons (.var I rfl) (.cons (.var I rfl) .nil)) (nn) rfl) rfl fun h I => ?_
  refine .retM I (.of fun h I => ?_)
  by_cases hle : q + 4 ≤ O.length
  · rw [decide_eq_false (by omega)] at hem
    rw [hA, hF, if_pos hle, if_pos hle] at I
    exact (.ifF (Tv.cast (.cmp (.var I rfl) (.list I .nil (Nat.le_of_ble_eq_true rfl)) (.eqNil I.good)) hem) (.cmp (.tuple I (.cons (.call I fFour (.cons (.sub (.var I rfl) .int (.itemT (by decide) (by decide) rfl)) .nil) (law_four_fn _) rfl) (.cons (.sub (.var I rfl) .int (.itemT (by decide) (by decide) rfl)) .nil)) (Nat.le_of_ble_eq_true rfl)) (.tuple I (.cons (.sub (.var I rfl) .int (.itemL (by decide) (by decide) (left_get hle))) (.cons (.var I rfl) .nil)) (Nat.le_of_ble_eq_true rfl)) (.eqV I.good (sh_two _ _) (by decide))))
  · rw [decide_eq_true (by omega)] at hem
    rw [hA, if_neg hle] at I
    exact (.ifT (Tv.cast (.cmp (.var I rfl) (.list I .nil (Nat.le_of_ble_eq_true rfl)) (.eqNil I.good)) hem) (.cmp (.var I rfl) .none .isNone))
end Mine
end
section
open PySem PySem.W PySem.Spec PySem.Calls PyProof.Rows
set_option maxHeartbeats 4000000
namespace Mine
theorem FoAdd {C : Cx} {a : Addr} (fo : Fo C) : Fo (C.add a) := ⟨fun b hb => .tail _ (fo.m b hb), fo.s, fun b hb => .tail _ (fo.f b hb), fun b hb n => .tail _ (fo.o b hb n)⟩
theorem EvM.callMT {C : Cx} {lv : Nat} {bs : List (Str × PV)} {led : List (Addr × LO)} {x : Str} {f a P : Addr} {L L' : LO} {q : Str} {p pos : Pos} {e : Expr} {es : List Expr} {xs : List PV} {X : PV} (g : GlF x f) (z : EvLM C lv bs ((a, L) :: led) (e :: es) xs ((a, L) :: led)) (c : MFnT lv f a L P q xs X L') (fo : Fo C)
    (hP : (P, .tab q) ∈ led) (hn : ∀ y ∈ led, y.1 ≠ a) (hu : ∀ y ∈ led, y.1 = P → y = (P, .tab q)) (hx : C.env.kindOf x = some .globalImplicit) (he : notStar e = true := by rfl) (hp : List.all es notStar = true := by rfl) :
    EvM C lv bs ((a, L) :: led) (.Call (.Name x p) (e :: es) [] pos) X ((a, L') :: led) := fun s Q E I qq =>
  Call_ (nameG I (g.1 _).1 hx (callWith_K (h₀ := s.heap) I.K (g.1 _).2 (z.run pos s _ E I fun vs h' tk I' k' i => ⟨I'.K, c C led bs (to s h' tk) Q E vs fo I' hP hn hu i fun v h'' tk' J k'' j => qq v h'' tk' J (k'.trans k'') j⟩) (star_cons he) (star_plain hp pos)) g.2)
theorem It.litL {C : Cx} {lv : Nat} {bs : List (Str × PV)} {led : List (Addr × LO)} {es : List Expr} {l l' : List PV} {lp : Pos} (a : ∀ h, Inv C lv led bs h → EvL C h es l) (e : l = l') (hz : l.length ≤ 16777216) : It C lv bs led (.List es lp) l' led := e ▸ It.list (.of fun h I => .list I (a h I) hz)
theorem fRows : GlF "_law_rows_right" 251 := ⟨fun P => ⟨by k_is, by k_is⟩, by decide⟩
theorem fRoute : GlF "_law_route_right" 261 := ⟨fun P => ⟨by k_is, by k_is⟩, by decide⟩
abbrev qLaw : Str := "law.<locals>.<lambda>"
abbrev tabs3 : List (Addr × LO) := [(258, .tab qRoute), (248, .tab qRows), (263, .tab qLaw)]
def RunsOf (K : Frag) (f : Addr) (ns : List Int) : Prop := ∀ (oc : Value) (od : Option Addr) (name qual : Str) (params : Arguments) (body : List Stmt) (scope : Scope) (dV kV doc pm cdv ct : Value) (an : Option Addr) (osl : Array (Option Value)),
  K.lookup f = some ⟨oc, od, .func (fnOf name qual params body scope dV kV doc pm an cdv ct), osl⟩ → ∀ (C₀ : Cx) (g h : Heap) (f' : Addr), Fo (calleeCx C₀ g [258, 248, 263] [] qual scope f' cdv) →
  Inv (calleeCx C₀ g [258, 248, 263] [] qual scope f' cdv) 10 tabs3 [("script", .lst (ns.map .int))] h → Runs (calleeCx C₀ g [258, 248, 263] [] qual scope f' cdv) 10 tabs3 body (.ret (.bool true)) h
abbrev lawV (x : Int × List UInt8 × PV) : PV := .tup [.int x.1, .byt x.2.1, x.2.2]
abbrev lawT : List (Int × List UInt8 × PV) := [(0, [], .str "form"), (256, [], .str "form"), (1, [97], .str "form"), (7, List.replicate 39 0, .str "size"), (7, List.replicate 38 0, .byt ([7, 40] ++ List.replicate 38 0))]
abbrev B9 : List UInt8 := [8, 1, 1, 1, 1, 0, 0, 0, 7]
abbrev W3 : List Opt := [(7, []), (131, [97]), (137, [])]
theorem sr9 {lv : Nat} : Fn (lv+4) 164 [.byt B9] (.lst [.int 7]) := source_route_fn B9 5 (by decide) (by decide) (by decide) (by decide) (by decide)
theorem tw3 {lv : Nat} : Fn (lv+1) 178 [.lst (W3.map optV)] (optV (131, [97])) := tells_way_fn W3


theorem someEq {α : Type} {a : Option α} {x y : α} {G : Prop} (h : a = some x) (e : a = some y) (k : x = y → G) : G := k (Option.some.inj (h.symm.trans e))
theorem law_body (P : Params) (ns : List Int) (hz : ns.length ≤ 1000) : RunsOf (hd.heap_39 P) 268 ns := by
  intro oc od name qual params body scope dV kV doc pm cdv ct an osl e C₀ g₀ h f' fo I
  refine someEq (by k_is) e fun z => ?_
  clear e
  cases z
  have m1 := I.memMu (.head _)
  have m2 := I.memMu (.tail _ (.head _))
  have m3 := I.memMu (.tail _ (.tail _ (.head _)))
  have Tm : ∀ q ∈ tabs3, q.1 ∈ (calleeCx C₀ g₀ [258, 248, 263] [] _ _ f' _).mu := fun q hq => I.memMu hq
  have tab : ∀ {C' : Cx}, C'.env.code = .ref 267 → C'.env.qual ++ "<lambda>" = qLaw → Tab C' 263 267 qLaw := fun e1 e2 => ⟨fun P => by kernel_rfl, e1, e2⟩
  have hT2 : ∀ q ∈ [((258 : Addr), LO.tab qRoute), (248, .tab qRows)], q.1 ≠ 263 := by decide
  refine .ifF I (Tv.cast (.or (.cmp (.call I fSourceRoute (.cons (.cast (.callT I gBytes (.cons (.list I (.cons .int (.cons .int (.cons .int (.cons .int (.cons .int (.cons .int (.cons .int (.cons .int (.cons .int .nil))))))))) (Nat.le_of_ble_eq_true rfl)) .nil) (.bytesL I.good.hh (Nat.le_of_ble_eq_true rfl) (fun x hx => ?_)) rfl) rfl) .nil) sr9 rfl) (.list I (.cons .int .nil) (Nat.le_of_ble_eq_true rfl)) (.neV I.good (n := 1) ?_ (by decide))) fun _ => .or (.cmp (.call I fWay (.cons (.list I (.cons (.tuple I (.cons .int (.cons .byt .nil)) (Nat.le_of_ble_eq_true rfl)) (.cons (.tuple I (.cons .int (.cons .byt .nil)) (Nat.le_of_ble_eq_true rfl)) (.cons (.tuple I (.cons .int (.cons .byt .nil)) (Nat.le_of_ble_eq_true rfl)) .nil))) (Nat.le_of_ble_eq_true rfl)) .nil) tw3 rfl) (.tuple I (.cons .int (.cons .byt .nil)) (Nat.le_of_ble_eq_true rfl)) (.neV I.good (n := 1) (sh_opt _) (by decide))) fun _ => .orN) rfl) fun h I => ?_
  · simp only [List.mem_cons, List.not_mem_nil, or_false] at hx
    rcases hx with rfl | rfl | rfl | rfl | rfl | rfl | rfl | rfl | rfl <;> exact ⟨_, rfl, by decide, by decide⟩
  · intro x hx; rw [List.mem_singleton.mp hx]; trivial
  refine .forL I (It.litL (fun h I => (.cons (.tuple I (.cons .int (.cons .byt (.cons .str .nil))) (Nat.le_of_ble_eq_true rfl)) (.cons (.tuple I (.cons .int (.cons .byt (.cons .str .nil))) (Nat.le_of_ble_eq_true rfl)) (.cons (.tuple I (.cons .int (.cons .byt (.cons .str .nil))) (Nat.le_of_ble_eq_true rfl)) (.cons (.tuple I (.cons .int (.cons (.callT I gBytes (.cons .int .nil) (.bytesN (by decide) (by decide)) rfl) (.cons .str .nil))) (Nat.le_of_ble_eq_true rfl)) (.cons (.tuple I (.cons .int (.cons (.callT I gBytes (.cons .int .nil) (.bytesN (by decide) (by decide)) rfl) (.cons (.bin (.callT I gBytes (.cons (.list I (.cons .int (.cons .int .nil)) (Nat.le_of_ble_eq_true rfl)) .nil) (.bytesL I.good.hh (Nat.le_of_ble_eq_true rfl) (fun x hx => ?_)) rfl) (.callT I gBytes (.cons .int .nil) (.bytesN (by decide) (by decide)) rfl) (.addB ?_)) .nil))) (Nat.le_of_ble_eq_true rfl)) .nil)))))) (rfl : _ = lawT.map lawV) (Nat.le_of_ble_eq_true rfl)) fo.f (fun g it hit hg => ?_) (fun _ z => nomatch z)
  · rcases List.mem_cons.mp hx with rfl | hx
    · exact ⟨_, rfl, by decide, by decide⟩
    · rw [List.mem_singleton.mp hx]; exact ⟨_, rfl, by decide, by decide⟩
  · decide
  refine Loop.all lawV lawT (fun _ => tabs3) (fun _ => [("script", .lst (ns.map .int))]) (fun _ => Tm) (fun p x r e => ⟨_, fun io => .tup (.cons (.cell rfl rfl (inCell (calleeCell (x := "kind") rfl))) (.cons (.cell rfl rfl (inCell (calleeCell (x := "octets") rfl))) (.cons (.name (inOwn calleeOwn) rfl) .nil))), fun io h I => ?_⟩) fun h I => ?_
  · have fo' := FoIn (it := it) fo hg
    have h1 : ∀ io, ∀ q ∈ [(it, LO.obj io), (258, .tab qRoute), (248, .tab qRows)], q.1 ≠ 263 := fun io q hq => (List.mem_cons.mp hq).elim (fun e => e ▸ fun z => hit (by rw [show it = 263 from z]; exact m3)) (hT2 q)
    have hx : x ∈ lawT := e ▸ List.mem_append_right _ (.head _)
    clear e
    rcases List.mem_cons.mp hx with rfl | hx
    · refine .ifFM I (.cast (.cmp (.toldX (bsL := [("octets", .byt []), ("kind", .int 0)]) (pre := [(it, .obj io), (258, .tab qRoute), (248, .tab qRows)]) (post := []) (.inl ⟨rfl, rfl⟩) fo' (tab rfl rfl) (h1 io) (fun _ q => nomatch q) rfl rfl ⟨rfl, rfl, nl rfl, rfl, rfl, rfl, rfl, nl rfl, rfl, rfl, trivial⟩ ⟨fun _ _ _ _ => rfl, rfl, rfl, rfl, by decide⟩ (fun C g h f c I => .call I rfl fOptionOctets (.cons (.var I rfl) (.cons (.var I rfl) .nil)) (option_octets_kind 0 [] (.inl (by decide))) rfl) rfl) (.of fun h I => .var I rfl) .neS) (bne_self_eq_false _)) fun h I => .nil (I.sub (subC rfl sub0))
    rcases List.mem_cons.mp hx with rfl | hx
    · refine .ifFM I (.cast (.cmp (.toldX (bsL := [("octets", .byt []), ("kind", .int 256)]) (pre := [(it, .obj io), (258, .tab qRoute), (248, .tab qRows)]) (post := []) (.inl ⟨rfl, rfl⟩) fo' (tab rfl rfl) (h1 io) (fun _ q => nomatch q) rfl rfl ⟨rfl, rfl, nl rfl, rfl, rfl, rfl, rfl, nl rfl, rfl, rfl, trivial⟩ ⟨fun _ _ _ _ => rfl, rfl, rfl, rfl, by decide⟩ (fun C g h f c I => .call I rfl fOptionOctets (.cons (.var I rfl) (.cons (.var I rfl) .nil)) (option_octets_kind 256 [] (.inr (by decide))) rfl) rfl) (.of fun h I => .var I rfl) .neS) (bne_self_eq_false _)) fun h I => .nil (I.sub (subC rfl sub0))
    rcases List.mem_cons.mp hx with rfl | hx
    · refine .ifFM I (.cast (.cmp (.toldX (bsL := [("octets", .byt [97]), ("kind", .int 1)]) (pre := [(it, .obj io), (258, .tab qRoute), (248, .tab qRows)]) (post := []) (.inl ⟨rfl, rfl⟩) fo' (tab rfl rfl) (h1 io) (fun _ q => nomatch q) rfl rfl ⟨rfl, rfl, nl rfl, rfl, rfl, rfl, rfl, nl rfl, rfl, rfl, trivial⟩ ⟨fun _ _ _ _ => rfl, rfl, rfl, rfl, by decide⟩ (fun C g h f c I => .call I rfl fOptionOctets (.cons (.var I rfl) (.cons (.var I rfl) .nil)) (option_octets_body [97] (by decide)) rfl) rfl) (.of fun h I => .var I rfl) .neS) (bne_self_eq_false _)) fun h I => .nil (I.sub (subC rfl sub0))
    rcases List.mem_cons.mp hx with rfl | hx
    · refine .ifFM I (.cast (.cmp (.toldX (bsL := [("octets", .byt (List.replicate 39 0)), ("kind", .int 7)]) (pre := [(it, .obj io), (258, .tab qRoute), (248, .tab qRows)]) (post := []) (.inr ⟨rfl, rfl⟩) fo' (tab rfl rfl) (h1 io) (fun _ q => nomatch q) rfl rfl ⟨rfl, rfl, nl rfl, rfl, rfl, rfl, rfl, nl rfl, rfl, rfl, trivial⟩ ⟨fun _ _ _ _ => rfl, rfl, rfl, rfl, by decide⟩ (fun C g h f c I => .call I rfl fOptionOctets (.cons (.var I rfl) (.cons (.var I rfl) .nil)) (option_octets_size 7 (List.replicate 39 0) (by decide) (by decide) (by decide) (by decide)) rfl) rfl) (.of fun h I => .var I rfl) .neS) (bne_self_eq_false _)) fun h I => .nil (I.sub (subC rfl sub0))
    cases List.mem_singleton.mp hx
    refine .ifFM I (.cast (.cmp (.told (bsL := [("octets", .byt (List.replicate 38 0)), ("kind", .int 7)]) (pre := [(it, .obj io), (258, .tab qRoute), (248, .tab qRows)]) (post := []) (tab rfl rfl) (h1 io) (fun _ q => nomatch q) rfl rfl ⟨rfl, rfl, nl rfl, rfl, rfl, rfl, rfl, nl rfl, rfl, rfl, trivial⟩ ⟨fun _ _ _ _ => rfl, rfl, rfl, rfl, by decide⟩ (fun C g h f c I => .call I fOptionOctets (.cons (.var I rfl) (.cons (.var I rfl) .nil)) (option_octets_more 7 (List.replicate 38 0) (by decide) (by decide) (by decide)) rfl) rfl) (.of fun h I => .var I rfl) .neY) (by decide +kernel)) fun h I => .nil (I.sub (subC rfl sub0))
  refine .ifFM I (.orF (.cast (.cmp (.toldX (bsL := []) (pre := [(258, .tab qRoute), (248, .tab qRows)]) (post := []) (.inl ⟨rfl, rfl⟩) fo (tab rfl rfl) hT2 (fun _ q => nomatch q) rfl rfl trivial ⟨fun _ _ _ _ => rfl, rfl, rfl, rfl, by decide⟩ (fun C g h f c I => .call I rfl fPointerPlace (.cons .byt .nil) (pointer_place_fx [] (.inl rfl) (Nat.zero_le _)) rfl) rfl) (.of fun h I => .str) .neS) (bne_self_eq_false _)) (.orF (.of fun h I => Tv.cast (.not (.val (.call I fIsSingle (.cons .int .nil) (is_single_fn _) rfl))) rfl) .orN)) fun h I => ?_
  obtain ⟨n, hn⟩ : ∃ n, n = max 1 (min ns.length 2) := ⟨_, rfl⟩
  refine .forL I (It.range1 (n := n) (.cast (.of fun h I => (.callB I gMax (.cons .int (.cons (.callB I gMin (.cons (.callB I gLen (.cons (.var I rfl) .nil) (.lenL (by rw [List.length_map]; omega)) rfl) (.cons .int .nil)) (.min2 I.good.hh) rfl) .nil)) (.max2 I.good.hh) rfl)) (congrArg PV.int (by rw [List.length_map]; omega))) (by omega) rfl gRange) fo.f (fun g it hit hg => ?_) (fun _ z => nomatch z)
  refine Loop.all (fun i : Nat => .int i) (List.range n) (fun _ => tabs3) (fun _ => [("script", .lst (ns.map .int))]) (fun _ => Tm) (fun p i r e => ⟨_, fun io => .name (inOwn calleeOwn) rfl, fun io h I => ?_⟩) fun h I => .ret I .bool
  have fo' := FoIn (it := it) fo hg
  have hi : i < n := List.mem_range.mp (e ▸ List.mem_append_right _ (.head _))
  obtain ⟨p, o, pl⟩ := law_pool_fn (lv := 9) ns i (by omega) hz
  refine .asgNew I (inOwn calleeOwn) rfl fo'.f fPool (.cons (.var I rfl) (.cons (.var I rfl) .nil)) pl rfl (fun q hq => ?_) (fun x hx => ?_) (fun a h ha I => ?_)
  · rcases List.mem_cons.mp hq with rfl | hq
    · exact .head _
    · exact .tail _ (Tm q hq)
  · rcases List.mem_cons.mp hx with rfl | hx
    · exact ⟨_, rfl⟩
    · rw [List.mem_singleton.mp hx]; exact ⟨_, rfl⟩
  have fa := FoAdd (a := a) fo'
  obtain ⟨p1, o1, r1⟩ := rows_fn (lv := 2) a p o
  obtain ⟨p2, o2, r2⟩ := route_fn (lv := 2) a p1 o1
  obtain ⟨p3, o3, r3⟩ := route_fn (lv := 2) a p2 o2
  have hn' : ∀ y ∈ ((it, LO.obj io) :: tabs3), y.1 ≠ a := fun y hy z => ha (z ▸ (List.mem_cons.mp hy).elim (fun e => e ▸ .head _) fun hy => .tail _ (Tm y hy))
  have u0 : ∀ {P : Addr} {q : Str}, it ≠ P → (∀ y ∈ tabs3, y.1 = P → y = (P, .tab q)) → ∀ y ∈ ((it, LO.obj io) :: tabs3), y.1 = P → y = (P, .tab q) := fun n k y hy e => (List.mem_cons.mp hy).elim (fun z => by rw [z] at e; exact absurd e n) fun hy => k y hy e
  have u1 : ∀ y ∈ tabs3, y.1 = 248 → y = (248, .tab qRows) := fun y hy e => by
    rcases List.mem_cons.mp hy with rfl | hy
    · exact absurd e (by decide)
    rcases List.mem_cons.mp hy with rfl | hy
    · rfl
    · rw [List.mem_singleton.mp hy] at e; exact absurd e (by decide)
  have u2 : ∀ y ∈ tabs3, y.1 = 258 → y = (258, .tab qRoute) := fun y hy e => by
    rcases List.mem_cons.mp hy with rfl | hy
    · rfl
    rcases List.mem_cons.mp hy with rfl | hy
    · exact absurd e (by decide)
    · rw [List.mem_singleton.mp hy] at e; exact absurd e (by decide)
  have v1 := u0 (fun z => hit (z ▸ m2)) u1
  have v2 := u0 (fun z => hit (z ▸ m1)) u2
  refine ⟨src p3, .ifFM I (.orF (.not (.val (.callMT fRows (.cons (.of fun h I => (.var I rfl)) .nil) r1 fa (.tail _ (.tail _ (.head _))) hn' v1 rfl))) (.orF (.not (.val (.callMT fRoute (.cons (.of fun h I => (.var I rfl)) .nil) r2 fa (.tail _ (.head _)) hn' v2 rfl))) (.orF (.not (.val (.callMT fRoute (.cons (.of fun h I => (.var I rfl)) .nil) r3 fa (.tail _ (.head _)) hn' v2 rfl))) .orN))) fun h I => .nil (I.sub (subC rfl sub0))⟩
end Mine
end
section
open PySem PySem.W PySem.Spec PySem.Calls PyProof.Rows
namespace Mine
abbrev topC (w : World) (g : Heap) (env : Env) : Cx := ⟨w, callerA, env, env, [258, 248, 263], [], g, []⟩
theorem topFo {w : World} {g : Heap} {e : Env} {qual : Str} {scope : Scope} {fa : Addr} {cdv : Value} : Fo (calleeCx (topC w g e) g [258, 248, 263] [] qual scope fa cdv) := by
  have hA : (calleeCx (topC w g e) g [258, 248, 263] [] qual scope fa cdv).A.frames = some [envOfC qual scope g.objs.size fa cdv] := Around.frames_deeper (A := callerA) rfl
  have hf : frsA (calleeCx (topC w g e) g [258, 248, 263] [] qual scope fa cdv).A = [g.objs.size] := (frsA_eq hA).trans rfl
  refine ⟨fun b hb => ?_, fun b hb _ => ?_, fun b hb => (nomatch hb), fun b hb _ => ?_⟩
  · rw [hf] at hb; rw [List.mem_singleton.mp hb]; exact .head _
  · rw [hf] at hb; rw [List.mem_singleton.mp hb]
    show (hideAll g [258, 248, 263]).get? g.objs.size = none
    exact Heap.get?_none_of_le (Nat.le_of_eq (hideAll_size _ _))
  · rw [hf] at hb; rw [List.mem_singleton.mp hb]; exact .head _
theorem wellList {P : Params} {g : Heap} {l : Addr} {xs : List PyData} (z : Well P g (.ref l) (ofPy (.list xs))) : ∃ vs : List Value, g.get? l = some (lstO vs 0) := by
  have e : ∃ ys, ofPy (.list xs) = .list ys := ⟨_, by rw [ofPy]⟩
  obtain ⟨ys, e⟩ := e
  rw [e] at z
  cases z with
  | list h _ => exact ⟨_, h⟩
theorem ints_is {mu : List Addr} {h : Heap} : ∀ {vs : List Value} {ns : List Int}, IntsAre vs ns → IsL mu h vs (ns.map .int)
  | _, _, .nil => .nil
  | _, _, .cons n t r => .cons (.int n t) (ints_is r)
theorem topInv {w : World} {g : Heap} {e : Env} {qual : Str} {scope : Scope} {fa : Addr} {cdv : Value} {h₁ : Heap} {mf mg mb : Str → Option Value} {p : Program} {loose : List Str} {mean : ExcName → Option Value} {y1 y2 : Str} {c1 c2 l : Addr} {o1 o2 : Obj} {v1 v2 : Option Value} {vs : List Value} {ns : List Int}
    (X : (hd.heap_39 w.params).In (hideAll g [258, 248, 263])) (T : Top p loose mean mg mb (hideAll g [258, 248, 263])) (F : Fr (hideAll g [258, 248, 263]) g.objs.size h₁ mf)
    (N : News (hideAll g [258, 248, 263]) g.objs.size h₁ [(c1, o1), (c2, o2), (258, tabObj #[]), (248, tabObj #[]), (263, tabObj #[])])
    (hc : cellsFrom (g.objs.size + 1) scope.names [] = [(y1, c1), (y2, c2)]) (hcc : c1 ≠ c2) (d1 : o1.data = .cell v1) (d2 : o2.data = .cell v2)
    (hk : scope.kind = .function) (hs : scope.names.lookup ("script" : Str) = some .local) (hm : mf "script" = some (.ref l)) {xs : List PyData} (hl : (hideAll g [258, 248, 263]).IsList l vs.toArray) (hw : Well w.params g (.ref l) (ofPy (.list xs))) (hi : IntsAre vs ns) :
    Inv (calleeCx (topC w g e) g [258, 248, 263] [] qual scope fa cdv) 10 tabs3 [("script", .lst (ns.map .int))] h₁ := by
  have hA : (calleeCx (topC w g e) g [258, 248, 263] [] qual scope fa cdv).A.frames = some [envOfC qual scope g.objs.size fa cdv] := Around.frames_deeper (A := callerA) rfl
  have hmu : (calleeCx (topC w g e) g [258, 248, 263] [] qual scope fa cdv).mu = [g.objs.size, c1, c2, 258, 248, 263] := by
    show _ :: (List.map _ (cellsFrom _ scope.names []) ++ _) = _; rw [hc]; rfl
  have hown : (calleeCx (topC w g e) g [258, 248, 263] [] qual scope fa cdv).own = [g.objs.size, c1, c2, 258, 248, 263] := by
    show _ :: (List.map _ (cellsFrom _ scope.names []) ++ _) = _; rw [hc]; rfl
  have cl : ∀ x c, (calleeCx (topC w g e) g [258, 248, 263] [] qual scope fa cdv).env.cells.lookup x = some c → x = y1 ∧ c = c1 ∨ x = y2 ∧ c = c2 := fun x c z => by
    have z' : (cellsFrom (g.objs.size + 1) scope.names []).lookup x = some c := z
    rw [hc, List.lookup_cons] at z'
    cases b1 : x == y1 with
    | true => rw [b1] at z'; cases z'; exact .inl ⟨beq_iff_eq.mp b1, rfl⟩
    | false =>
      rw [b1, List.lookup_cons] at z'
      cases b2 : x == y2 with
      | true => rw [b2] at z'; cases z'; exact .inr ⟨beq_iff_eq.mp b2, rfl⟩
      | false => rw [b2] at z'; cases z'
  obtain ⟨n1, _, m1⟩ := N _ (.head _)
  obtain ⟨n2, _, m2⟩ := N _ (.tail _ (.head _))
  have tb : ∀ q ∈ tabs3, h₁.get? q.1 = some (tabObj #[]) ∧ q.1 ≠ g.objs.size ∧ (hideAll g [258, 248, 263]).get? q.1 = none := fun q hq => by
    rcases List.mem_cons.mp hq with rfl | hq
    · exact N _ (.tail _ (.tail _ (.head _)))
    rcases List.mem_cons.mp hq with rfl | hq
    · exact N _ (.tail _ (.tail _ (.tail _ (.head _))))
    · rw [List.mem_singleton.mp hq]; exact N _ (.tail _ (.tail _ (.tail _ (.tail _ (.head _)))))
  have nL : (hideAll g [258, 248, 263]).get? g.objs.size = none := Heap.get?_none_of_le (Nat.le_of_eq (hideAll_size _ _))
  have all : ∀ a ∈ [g.objs.size, c1, c2, 258, 248, 263], h₁.get? a ≠ none ∧ (hideAll g [258, 248, 263]).get? a = none := fun a ha => by
    rcases List.mem_cons.mp ha with rfl | ha
    · obtain ⟨_, _, _, z, _⟩ := F.ns
      exact ⟨fun q => (by rw [z] at q; cases q), nL⟩
    rcases List.mem_cons.mp ha with rfl | ha
    · exact ⟨fun q => (by have n1' : h₁.get? a = some o1 := n1; rw [n1'] at q; cases q), m1⟩
    rcases List.mem_cons.mp ha with rfl | ha
    · exact ⟨fun q => (by have n2' : h₁.get? a = some o2 := n2; rw [n2'] at q; cases q), m2⟩
    have tb' : ∀ q ∈ tabs3, h₁.get? q.1 ≠ none ∧ (hideAll g [258, 248, 263]).get? q.1 = none := fun q hq => ⟨fun z => (by rw [(tb q hq).1] at z; cases z), (tb q hq).2.2⟩
    rcases List.mem_cons.mp ha with rfl | ha
    · exact tb' _ (.head _)
    rcases List.mem_cons.mp ha with rfl | ha
    · exact tb' _ (.tail _ (.head _))
    · rw [List.mem_singleton.mp ha]; exact tb' _ (.tail _ (.tail _ (.head _)))
  refine .mk (Lf := g.objs.size) (h₀ := hideAll g [258, 248, 263]) (base := hideAll g [258, 248, 263]) (outer := []) ⟨rfl, by show callerA.depth + 1 + 4 * 10 ≤ 400; decide, by show callerA.units + 3 + 40 * 10 ≤ 4000; decide, hk, hk, rfl, rfl⟩ (below_caller _) X T F hA rfl F.ns
    (fun x Z q => ?_) (fun x c q => ?_) (fun q hq => ?_) (fun b o q _ => F.keep b o q) (.of_keeps F.keep) (fun a ha => ?_) (fun a ha => ?_) (fun q hq => ?_) ?_
  · rw [List.lookup_cons] at q
    cases hb : x == ("script" : Str) with
    | false => rw [hb] at q; cases q
    | true =>
      rw [hb] at q; cases q
      rw [beq_iff_eq.mp hb]
      obtain ⟨o, e1, e2, n, e3⟩ := hl
      obtain ⟨us, e4⟩ := wellList hw
      have e5 := of_hideAll _ e1
      rw [e4] at e5
      cases e5
      have e6 : us.toArray = vs.toArray := by have := e3; cases this; rfl
      refine .loc hs hm (.lst (n := 0) (fun z => ?_) (by have := F.keep _ _ e1; unfold lstO at this; rw [e6] at this; exact this) (ints_is (mu := []) (h := h₁) hi).1 (ints_is hi).2)
      have := (all l (hmu ▸ z)).2
      rw [this] at e1; cases e1
  · rw [hmu]
    rcases cl x c q with ⟨rfl, rfl⟩ | ⟨rfl, rfl⟩
    · refine ⟨⟨_, _, n1, d1⟩, .tail _ (.head _), fun z hz => ?_⟩
      rcases cl z _ hz with ⟨r, _⟩ | ⟨_, r⟩
      · exact r
      · exact absurd r hcc
    · refine ⟨⟨_, _, n2, d2⟩, .tail _ (.tail _ (.head _)), fun z hz => ?_⟩
      rcases cl z _ hz with ⟨_, r⟩ | ⟨r, _⟩
      · exact absurd r.symm hcc
      · exact r
  · obtain ⟨t1, t2, t3⟩ := tb q hq
    refine ⟨_, t1, t2, t3, ?_, ⟨fun _ _ z => (nomatch z), fun _ z => (nomatch z)⟩⟩
    have : ∀ s, (LO.tab s).Says (calleeCx (topC w g e) g [258, 248, 263] [] qual scope fa cdv).mu h₁ (tabObj #[]) := fun s => ⟨#[], rfl, trivial, fun pos cv z => by cases z⟩
    rcases List.mem_cons.mp hq with rfl | hq
    · exact this _
    rcases List.mem_cons.mp hq with rfl | hq
    · exact this _
    · rw [List.mem_singleton.mp hq]; exact this _
  · exact (all a (hmu ▸ ha)).1
  · have := all a (hown ▸ ha)
    exact ⟨this.2, this.2, hmu ▸ (hown ▸ ha : a ∈ [g.objs.size, c1, c2, 258, 248, 263])⟩
  · rw [hown]
    rcases List.mem_cons.mp hq with rfl | hq
    · exact .tail _ (.tail _ (.tail _ (.head _)))
    rcases List.mem_cons.mp hq with rfl | hq
    · exact .tail _ (.tail _ (.tail _ (.tail _ (.head _))))
    · rw [List.mem_singleton.mp hq]; exact .tail _ (.tail _ (.tail _ (.tail _ (.tail _ (.head _)))))
  · exact .head _
end Mine
end
section
open PySem PySem.W PySem.Spec PySem.Calls PyProof.Rows
namespace Mine
theorem goodTop {c : ClaimW} {cl : Str → Option Addr} {mean : ExcName → Option Value} {args : List WData} {s₁ s' : Shared} (kp : ∀ b o, s₁.heap.get? b = some o → s'.heap.get? b = some o) (hg : s'.gens = #[]) (hn : ∀ cls, c.raises args cls = false) (hp : c.post args (.bool true) args = true) (hos : s'.os = s₁.os) :
    GoodW c cl mean args s₁ (.ok (.ret (.bool true))) s' := ⟨.inl ⟨_, _, [], rfl, hn, .bool true, hp, fun _ => ⟨List.nodup_nil, fun _ h => nomatch h⟩⟩, kp, hos, hg⟩
theorem grownTop {mu : List Addr} {h : Heap} (hh : Holds mu h tabs3) : GrownAll [(260, 258), (250, 248), (267, 263)] h := by
  obtain ⟨o1, e1, ps1, rfl, _⟩ := hh _ (.head _)
  obtain ⟨o2, e2, ps2, rfl, _⟩ := hh _ (.tail _ (.head _))
  obtain ⟨o3, e3, ps3, rfl, _⟩ := hh _ (.tail _ (.tail _ (.head _)))
  exact ⟨⟨_, e1⟩, ⟨_, e2⟩, ⟨_, e3⟩, trivial⟩
theorem topRun {w : World} {g : Heap} {qual : Str} {scope : Scope} {fa : Addr} {cdv : Value} {s : Shared} {mf mg mb : Str → Option Value} {p : Program} {loose : List Str} {mean : ExcName → Option Value} {y1 y2 : Str} {c1 c2 l : Addr} {o1 o2 : Obj} {v1 v2 : Option Value} {vs : List Value} {ns : List Int} {xs : List PyData}
    {oc : Value} {od : Option Addr} {name : Str} {params : Arguments} {body : List Stmt} {dV kV doc pm ct : Value} {an : Option Addr} {osl : Array (Option Value)} {Q : Flow → Shared → Prop} {E : Value → Shared → Prop}
    (X : (hd.heap_39 w.params).In (hideAll g [258, 248, 263])) (T : Top p loose mean mg mb (hideAll g [258, 248, 263])) (F : Fr (hideAll g [258, 248, 263]) g.objs.size s.heap mf)
    (N : News (hideAll g [258, 248, 263]) g.objs.size s.heap [(c1, o1), (c2, o2), (258, tabObj #[]), (248, tabObj #[]), (263, tabObj #[])])
    (hc : cellsFrom (g.objs.size + 1) scope.names [] = [(y1, c1), (y2, c2)]) (hcc : c1 ≠ c2) (d1 : o1.data = .cell v1) (d2 : o2.data = .cell v2)
    (hk : scope.kind = .function) (hs : scope.names.lookup ("script" : Str) = some .local) (hm : mf "script" = some (.ref l)) (hl : (hideAll g [258, 248, 263]).IsList l vs.toArray) (hw : Well w.params g (.ref l) (ofPy (.list xs))) (hi : IntsAre vs ns) (hz : ns.length ≤ 1000)
    (e : (hd.heap_39 w.params).lookup 268 = some ⟨oc, od, .func (fnOf name qual params body scope dV kV doc pm an cdv ct), osl⟩)
    (q : ∀ mu h' tk, (∀ b o, (hideAll g [258, 248, 263]).get? b = some o → h'.get? b = some o) → Holds mu h' tabs3 → Q (.ret (.bool true)) (to s h' tk)) :
    wpAny (model Prog w) (callerA.deeper (envOfC qual scope g.objs.size fa cdv)) (execs body (envOfC qual scope g.objs.size fa cdv)) Q E s :=
  law_body w.params ns hz oc od name qual params body scope dV kV doc pm cdv ct an osl e (topC w g (envOfC qual scope g.objs.size fa cdv)) g s.heap fa topFo (topInv X T F N hc hcc d1 d2 hk hs hm hl hw hi) s s.toks Q E
    fun v h' tk kp hh i => by
      rw [i.bool']
      exact q _ h' tk (fun b o e => kp.1 b o e fun z => nomatch z) hh
end Mine
end
section
open PySem PySem.W PySem.Spec PySem.Calls PyProof.Rows
set_option maxHeartbeats 0
namespace Mine
theorem top : PySem.Challenge.rw_on0337_01.Holds := by
  w_on
  refine holds_law (by decide +kernel) fun said => ?_
  refine holds_open (q := hd.view_39) (loose := []) (Xt := fun s => xlAt hd.view_39 [] s && recOk (RowW.records PySem.Challenge.rw_on0337_01.row.toRowW) s) (XP := XL hd.view_39 []) (Yf := Hook.obs (kmHook hd.heap_39 asL keysK [258, 248, 263])) (Ya := Hook.val (kmHook hd.heap_39 asL keysK [258, 248, 263])) (YP := Hook.says (kmHook hd.heap_39 asL keysK [258, 248, 263])) (N := 3528) lefts (Hook.of (kmHook hd.heap_39 asL keysK [258, 248, 263])) (Hook.keeps (kmHook hd.heap_39 asL keysK [258, 248, 263])) (fun s e => xl_of s (Bool.and_eq_true_iff.mp e).1) XL.keeps (by rfl) (by rfl) (by rfl) (fun s e => recFacts_of (Bool.and_eq_true_iff.mp e).2) (by rfl) (by first | assumption | decide +kernel) (by decide +kernel) ⟨rfl, rfl, rfl, rfl, rfl, by decide +kernel⟩ ?hw ?hc
  case hw => w_witness2
  case hc => w_strict (
    k_go0
    refine topRun (by assumption) (by assumption) (by assumption) (by assumption) rfl ?_ (by assumption) (by assumption) rfl rfl rfl (by assumption) (by assumption) (by assumption) ?_ (by k_is) fun mu h' tk kp hh => ⟨goodTop kp (by assumption) (raisesW_false (by wrow_none_raised)) ?_ rfl, grownTop hh⟩
    · first | exact Nat.succ_ne_self _ | exact (Nat.succ_ne_self _).symm
    · omega
    · wrow_post)
end Mine
end
theorem PySem.Challenge.cw_on0337_01_holds : PySem.Challenge.rw_on0337_01.Holds :=
  Mine.top
