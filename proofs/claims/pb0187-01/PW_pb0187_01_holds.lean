import PyProof.Rows.All
import Wide.All
import OpenK.AllK
import Wide.FinOn
import Lean
import PySem.Challenge.RW_pb0187_01
set_option Elab.async false
section
open PySem PySem.W PyProof.Rows
namespace Mine
set_option maxRecDepth 100000
noncomputable def prog : Program := PySem.Challenge.pw_pb0187_01
noncomputable def cell (n : Nat) : Stmt := (prog.main.body[n]?).getD (Stmt.Pass ⟨0, 0, 0, 0⟩)
def defs : List Stmt → List Stmt
  | [] => []
  | s :: r => match s with
    | .FunctionDef .. => s :: defs r
    | _ => defs r
noncomputable def meth (c k : Nat) : Stmt := match cell c with
  | .ClassDef _ _ _ body _ _ _ _ _ _ _ => ((defs body)[k]?).getD (Stmt.Pass ⟨0, 0, 0, 0⟩)
  | s => s
noncomputable def fnObj (c : Value) (s : Stmt) (qn : Str) (dfl pm : Value) (code : Addr) : Obj := match s with
  | .FunctionDef n ps body _ _ _ sc _ _ _ => { cls := c, data := .func { name := n, qualname := qn, params := ps, body := .stmts body, scope := sc, globals := 3, closure := [], defaults := dfl, kwdefaults := .none, pyModule := pm, code := .ref code } }
  | _ => { cls := c, data := .cell none }
noncomputable def view : Program := { prog with main := { prog.main with body := [cell 0, cell 2, cell 3, cell 4, cell 5, cell 6, cell 7, cell 8, cell 9, cell 10, cell 11, cell 12, cell 13, cell 15, cell 16, cell 18, cell 20, cell 22, cell 23, cell 24, cell 25, cell 27, cell 28, cell 29] } }
def kAt : List Nat := 2 :: 3 :: 15 :: 17 :: 18 :: 20 :: 21 :: 29 :: 31 :: 32 :: 34 :: 35 :: 36 :: 39 :: 40 :: 41 :: 42 :: 43 :: 44 :: 45 :: 55 :: 56 :: 58 :: 59 :: 61 :: 62 :: 63 :: 64 :: 65 :: 66 :: 67 :: 70 :: 72 :: 73 :: 75 :: 76 :: 77 :: 79 :: 80 :: 82 :: 83 :: 84 :: 86 :: 87 :: 89 :: 90 :: 91 :: 93 :: 94 :: 96 :: 97 :: 98 :: 100 :: 101 :: 103 :: 104 :: 105 :: 107 :: 108 :: 110 :: 111 :: 119 :: 121 :: 122 :: 124 :: 125 :: 126 :: 128 :: 129 :: 131 :: 132 :: 133 :: 135 :: 136 :: 138 :: 139 :: 140 :: 141 :: 142 :: 143 :: 144 :: 154 :: 155 :: 157 :: 158 :: 160 :: 161 :: 162 :: 165 :: 166 :: 167 :: 169 :: 170 :: 172 :: 173 :: 174 :: 177 :: 178 :: 179 :: 181 :: 182 :: 184 :: 185 :: 186 :: 188 :: 189 :: 191 :: 192 :: 193 :: 194 :: 195 :: 196 :: 197 :: 207 :: 209 :: 210 :: 212 :: 213 :: 214 :: 216 :: 217 :: 219 :: 220 :: 221 :: 223 :: 224 :: 226 :: 227 :: 228 :: 230 :: 231 :: 233 :: 234 :: 235 :: 238 :: 239 :: 240 :: 241 :: 242 :: 243 :: 244 :: 254 :: 256 :: 257 :: 259 :: 260 :: 261 :: 263 :: 264 :: 266 :: 267 :: 268 :: 270 :: 271 :: 273 :: 274 :: 275 :: 277 :: 278 :: 280 :: 281 :: 282 :: 283 :: 284 :: 285 :: 286 :: 296 :: 297 :: 299 :: 300 :: 302 :: 303 :: 304 :: 306 :: 307 :: 309 :: 310 :: 311 :: 313 :: 314 :: 316 :: 317 :: 318 :: 320 :: 321 :: 323 :: 324 :: 325 :: 328 :: 329 :: 330 :: 331 :: 332 :: 333 :: 334 :: 337 :: 339 :: 340 :: 342 :: 343 :: 344 :: 347 :: 348 :: 349 :: 352 :: 353 :: []
noncomputable def kFrag (P : Params) : Frag :=
  (nat_lit 2, { cls := Value.none, data := Data.dict #[] }) ::
  (nat_lit 3, { cls := Value.type "dict", data := Data.dict #[{ hash := PyData.keyHash P (Str.ofString "__name__"), key := Value.str (Str.ofString "__name__") 165, val := Value.str (Str.ofString "law_pb0187_01") 660 }, { hash := PyData.keyHash P (Str.ofString "__doc__"), key := Value.str (Str.ofString "__doc__") 166, val := Value.none }, { hash := PyData.keyHash P (Str.ofString "__package__"), key := Value.str (Str.ofString "__package__") 167, val := Value.none }, { hash := PyData.keyHash P (Str.ofString "__loader__"), key := Value.str (Str.ofString "__loader__") 168, val := Value.builtin "__main__.__loader__#opaque" }, { hash := PyData.keyHash P (Str.ofString "__spec__"), key := Value.str (Str.ofString "__spec__") 169, val := Value.none }, { hash := PyData.keyHash P (Str.ofString "__annotations__"), key := Value.str (Str.ofString "__annotations__") 170, val := Value.ref 6 }, { hash := PyData.keyHash P (Str.ofString "__builtins__"), key := Value.str (Str.ofString "__builtins__") 171, val := Value.ref 4 }, { hash := PyData.keyHash P (Str.ofString "__file__"), key := Value.str (Str.ofString "__file__") 173, val := Value.str (Str.ofString "/claim/cut.py") 172 }, { hash := PyData.keyHash P (Str.ofString "__cached__"), key := Value.str (Str.ofString "__cached__") 174, val := Value.none }, { hash := PyData.keyHash P (Str.ofString "_wall"), key := Value.str (Str.ofString "_wall") 193, val := Value.ref 21 }, { hash := PyData.keyHash P (Str.ofString "IGNORE_BASES"), key := Value.str (Str.ofString "IGNORE_BASES") 197, val := Value.int 2 196 }, { hash := PyData.keyHash P (Str.ofString "IGNORE_LIGATURES"), key := Value.str (Str.ofString "IGNORE_LIGATURES") 199, val := Value.int 4 198 }, { hash := PyData.keyHash P (Str.ofString "IGNORE_MARKS"), key := Value.str (Str.ofString "IGNORE_MARKS") 201, val := Value.int 8 200 }, { hash := PyData.keyHash P (Str.ofString "USE_SET"), key := Value.str (Str.ofString "USE_SET") 203, val := Value.int 16 202 }, { hash := PyData.keyHash P (Str.ofString "Lookup"), key := Value.str (Str.ofString "Lookup") 244, val := Value.ref 43 }, { hash := PyData.keyHash P (Str.ofString "Scene"), key := Value.str (Str.ofString "Scene") 285, val := Value.ref 65 }, { hash := PyData.keyHash P (Str.ofString "attach_wanted"), key := Value.str (Str.ofString "attach_wanted") 292, val := Value.ref 76 }, { hash := PyData.keyHash P (Str.ofString "class_bit"), key := Value.str (Str.ofString "class_bit") 299, val := Value.ref 83 }, { hash := PyData.keyHash P (Str.ofString "is_ignored"), key := Value.str (Str.ofString "is_ignored") 310, val := Value.ref 90 }, { hash := PyData.keyHash P (Str.ofString "passes"), key := Value.str (Str.ofString "passes") 318, val := Value.ref 97 }, { hash := PyData.keyHash P (Str.ofString "takes"), key := Value.str (Str.ofString "takes") 326, val := Value.ref 104 }, { hash := PyData.keyHash P (Str.ofString "nested_scene"), key := Value.str (Str.ofString "nested_scene") 335, val := Value.ref 111 }, { hash := PyData.keyHash P (Str.ofString "Info"), key := Value.str (Str.ofString "Info") 397, val := Value.ref 142 }, { hash := PyData.keyHash P (Str.ofString "Buffer"), key := Value.str (Str.ofString "Buffer") 463, val := Value.ref 195 }, { hash := PyData.keyHash P (Str.ofString "ClassDef"), key := Value.str (Str.ofString "ClassDef") 525, val := Value.ref 242 }, { hash := PyData.keyHash P (Str.ofString "Coverage"), key := Value.str (Str.ofString "Coverage") 582, val := Value.ref 284 }, { hash := PyData.keyHash P (Str.ofString "NO_CLASS"), key := Value.str (Str.ofString "NO_CLASS") 586, val := Value.int 0 585 }, { hash := PyData.keyHash P (Str.ofString "BASE"), key := Value.str (Str.ofString "BASE") 588, val := Value.int 1 587 }, { hash := PyData.keyHash P (Str.ofString "COMPONENT"), key := Value.str (Str.ofString "COMPONENT") 590, val := Value.int 4 589 }, { hash := PyData.keyHash P (Str.ofString "Gdef"), key := Value.str (Str.ofString "Gdef") 659, val := Value.ref 332 }, { hash := PyData.keyHash P (Str.ofString "_law_draw"), key := Value.str (Str.ofString "_law_draw") 671, val := Value.ref 343 }, { hash := PyData.keyHash P (Str.ofString "_law_seen"), key := Value.str (Str.ofString "_law_seen") 677, val := Value.ref 348 }, { hash := PyData.keyHash P (Str.ofString "law"), key := Value.str (Str.ofString "law") 683, val := Value.ref 353 }] 33 }) ::
  (nat_lit 15, { cls := Value.type "tuple", data := Data.seq #[] }) ::
  (nat_lit 17, { cls := Value.type "tuple", data := Data.seq #[Value.str (Str.ofString "k") 190] }) ::
  (nat_lit 18, { cls := Value.type "tuple", data := Data.seq #[] }) ::
  (nat_lit 20, { cls := Value.type "code", data := Data.fields #[Value.str (Str.ofString "_wall") 187, Value.str (Str.ofString "_wall") 188, Value.str (Str.ofString "/claim/cut.py") 189, Value.int 1 0, Value.int 1 0, Value.int 0 0, Value.int 0 0, Value.int 3 0, Value.ref 15, Value.bool true, Value.int 181 0, Value.ref 16, Value.none, Value.ref 17, Value.ref 18, Value.ref 19, Value.int 191 0, Value.int 1 0, Value.str (Str.ofString "/claim/cut.py") 192] }) ::
  (nat_lit 21, fnObj (Value.type "function") (cell 0) (Str.ofString "_wall") (Value.none) (Value.str (Str.ofString "__main__") 164) 20) ::
  (nat_lit 29, { cls := Value.type "tuple", data := Data.seq #[] }) ::
  (nat_lit 31, { cls := Value.type "tuple", data := Data.seq #[Value.str (Str.ofString "self") 219, Value.str (Str.ofString "kind") 220, Value.str (Str.ofString "flag") 221, Value.str (Str.ofString "mark_set") 222, Value.str (Str.ofString "tables") 223] }) ::
  (nat_lit 32, { cls := Value.type "tuple", data := Data.seq #[] }) ::
  (nat_lit 34, { cls := Value.type "code", data := Data.fields #[Value.str (Str.ofString "__init__") 216, Value.str (Str.ofString "Lookup.__init__") 217, Value.str (Str.ofString "/claim/cut.py") 218, Value.int 11 0, Value.int 5 0, Value.int 0 0, Value.int 0 0, Value.int 3 0, Value.ref 29, Value.bool true, Value.int 181 0, Value.ref 30, Value.none, Value.ref 31, Value.ref 32, Value.ref 33, Value.int 224 0, Value.int 11 0, Value.str (Str.ofString "/claim/cut.py") 225] }) ::
  (nat_lit 35, fnObj (Value.type "function") (meth 6 0) (Str.ofString "Lookup.__init__") (Value.none) (Value.str (Str.ofString "joinedhand.flags") 194) 34) ::
  (nat_lit 36, { cls := Value.type "tuple", data := Data.seq #[] }) ::
  (nat_lit 39, { cls := Value.type "code", data := Data.fields #[Value.str (Str.ofString "told") 227, Value.str (Str.ofString "Lookup.told") 228, Value.str (Str.ofString "/claim/cut.py") 229, Value.int 17 0, Value.int 1 0, Value.int 0 0, Value.int 0 0, Value.int 3 0, Value.ref 36, Value.bool true, Value.int 181 0, Value.ref 37, Value.none, Value.none, Value.none, Value.ref 38, Value.int 230 0, Value.int 17 0, Value.str (Str.ofString "/claim/cut.py") 231] }) ::
  (nat_lit 40, fnObj (Value.type "function") (meth 6 1) (Str.ofString "Lookup.told") (Value.none) (Value.str (Str.ofString "joinedhand.flags") 194) 39) ::
  (nat_lit 41, { cls := Value.type "tuple", data := Data.seq #[Value.str (Str.ofString "flag") 233, Value.str (Str.ofString "kind") 234, Value.str (Str.ofString "mark_set") 235, Value.str (Str.ofString "tables") 236] }) ::
  (nat_lit 42, { cls := Value.type "dict", data := Data.dict #[{ hash := PyData.keyHash P (Str.ofString "__module__"), key := Value.str (Str.ofString "__module__") 211, val := Value.str (Str.ofString "joinedhand.flags") 194 }, { hash := PyData.keyHash P (Str.ofString "__firstlineno__"), key := Value.str (Str.ofString "__firstlineno__") 215, val := Value.int 9 214 }, { hash := PyData.keyHash P (Str.ofString "__init__"), key := Value.str (Str.ofString "__init__") 226, val := Value.ref 35 }, { hash := PyData.keyHash P (Str.ofString "told"), key := Value.str (Str.ofString "told") 232, val := Value.ref 40 }, { hash := PyData.keyHash P (Str.ofString "__static_attributes__"), key := Value.str (Str.ofString "__static_attributes__") 237, val := Value.ref 41 }, { hash := PyData.keyHash P (Str.ofString "__dict__"), key := Value.str (Str.ofString "__dict__") 239, val := Value.ref 44 }, { hash := PyData.keyHash P (Str.ofString "__weakref__"), key := Value.str (Str.ofString "__weakref__") 241, val := Value.ref 45 }, { hash := PyData.keyHash P (Str.ofString "__doc__"), key := Value.str (Str.ofString "__doc__") 242, val := Value.none }] 4 }) ::
  (nat_lit 43, { cls := Value.type "type", data := Data.cls { name := Str.ofString "Lookup", bases := [Value.type "object"], mro := [Value.ref 43, Value.type "object"], ns := 42, qualname := Str.ofString "Lookup" }, slots := #[none, none, some (Value.str (Str.ofString "Lookup") 204), some (Value.str (Str.ofString "Lookup") 212), some (Value.builtin "object.__new__"), some (Value.bool true)] }) ::
  (nat_lit 44, { cls := Value.type "getset_descriptor", data := Data.fields #[Value.str (Str.ofString "__dict__") 238, Value.ref 43, Value.builtin "function.__dict__", Value.builtin "function.__dict__#set"] }) ::
  (nat_lit 45, { cls := Value.type "getset_descriptor", data := Data.fields #[Value.str (Str.ofString "__weakref__") 240, Value.ref 43, Value.builtin "ExceptionGroup.__weakref__", Value.none] }) ::
  (nat_lit 55, { cls := Value.type "tuple", data := Data.seq #[Value.int 0 257] }) ::
  (nat_lit 56, { cls := Value.type "tuple", data := Data.seq #[] }) ::
  (nat_lit 58, { cls := Value.type "tuple", data := Data.seq #[Value.str (Str.ofString "self") 261, Value.str (Str.ofString "buffer") 262, Value.str (Str.ofString "gdef") 263, Value.str (Str.ofString "lookups") 264, Value.str (Str.ofString "lookup") 265, Value.str (Str.ofString "mask") 266, Value.str (Str.ofString "depth") 267] }) ::
  (nat_lit 59, { cls := Value.type "tuple", data := Data.seq #[] }) ::
  (nat_lit 61, { cls := Value.type "code", data := Data.fields #[Value.str (Str.ofString "__init__") 258, Value.str (Str.ofString "Scene.__init__") 259, Value.str (Str.ofString "/claim/cut.py") 260, Value.int 22 0, Value.int 7 0, Value.int 0 0, Value.int 0 0, Value.int 3 0, Value.ref 56, Value.bool true, Value.int 181 0, Value.ref 57, Value.none, Value.ref 58, Value.ref 59, Value.ref 60, Value.int 268 0, Value.int 22 0, Value.str (Str.ofString "/claim/cut.py") 269] }) ::
  (nat_lit 62, fnObj (Value.type "function") (meth 7 0) (Str.ofString "Scene.__init__") (Value.ref 55) (Value.str (Str.ofString "joinedhand.flags") 194) 61) ::
  (nat_lit 63, { cls := Value.type "tuple", data := Data.seq #[Value.str (Str.ofString "buffer") 271, Value.str (Str.ofString "depth") 272, Value.str (Str.ofString "gdef") 273, Value.str (Str.ofString "lookup") 274, Value.str (Str.ofString "lookups") 275, Value.str (Str.ofString "mask") 276, Value.str (Str.ofString "steps") 277] }) ::
  (nat_lit 64, { cls := Value.type "dict", data := Data.dict #[{ hash := PyData.keyHash P (Str.ofString "__module__"), key := Value.str (Str.ofString "__module__") 252, val := Value.str (Str.ofString "joinedhand.flags") 194 }, { hash := PyData.keyHash P (Str.ofString "__firstlineno__"), key := Value.str (Str.ofString "__firstlineno__") 256, val := Value.int 20 255 }, { hash := PyData.keyHash P (Str.ofString "__init__"), key := Value.str (Str.ofString "__init__") 270, val := Value.ref 62 }, { hash := PyData.keyHash P (Str.ofString "__static_attributes__"), key := Value.str (Str.ofString "__static_attributes__") 278, val := Value.ref 63 }, { hash := PyData.keyHash P (Str.ofString "__dict__"), key := Value.str (Str.ofString "__dict__") 280, val := Value.ref 66 }, { hash := PyData.keyHash P (Str.ofString "__weakref__"), key := Value.str (Str.ofString "__weakref__") 282, val := Value.ref 67 }, { hash := PyData.keyHash P (Str.ofString "__doc__"), key := Value.str (Str.ofString "__doc__") 283, val := Value.none }] 4 }) ::
  (nat_lit 65, { cls := Value.type "type", data := Data.cls { name := Str.ofString "Scene", bases := [Value.type "object"], mro := [Value.ref 65, Value.type "object"], ns := 64, qualname := Str.ofString "Scene" }, slots := #[none, none, some (Value.str (Str.ofString "Scene") 245), some (Value.str (Str.ofString "Scene") 253), some (Value.builtin "object.__new__"), some (Value.bool true)] }) ::
  (nat_lit 66, { cls := Value.type "getset_descriptor", data := Data.fields #[Value.str (Str.ofString "__dict__") 279, Value.ref 65, Value.builtin "function.__dict__", Value.builtin "function.__dict__#set"] }) ::
  (nat_lit 67, { cls := Value.type "getset_descriptor", data := Data.fields #[Value.str (Str.ofString "__weakref__") 281, Value.ref 65, Value.builtin "ExceptionGroup.__weakref__", Value.none] }) ::
  (nat_lit 70, { cls := Value.type "tuple", data := Data.seq #[] }) ::
  (nat_lit 72, { cls := Value.type "tuple", data := Data.seq #[Value.str (Str.ofString "flag") 289] }) ::
  (nat_lit 73, { cls := Value.type "tuple", data := Data.seq #[] }) ::
  (nat_lit 75, { cls := Value.type "code", data := Data.fields #[Value.str (Str.ofString "attach_wanted") 286, Value.str (Str.ofString "attach_wanted") 287, Value.str (Str.ofString "/claim/cut.py") 288, Value.int 30 0, Value.int 1 0, Value.int 0 0, Value.int 0 0, Value.int 3 0, Value.ref 70, Value.bool true, Value.int 181 0, Value.ref 71, Value.none, Value.ref 72, Value.ref 73, Value.ref 74, Value.int 290 0, Value.int 30 0, Value.str (Str.ofString "/claim/cut.py") 291] }) ::
  (nat_lit 76, fnObj (Value.type "function") (cell 8) (Str.ofString "attach_wanted") (Value.none) (Value.str (Str.ofString "joinedhand.flags") 194) 75) ::
  (nat_lit 77, { cls := Value.type "tuple", data := Data.seq #[] }) ::
  (nat_lit 79, { cls := Value.type "tuple", data := Data.seq #[Value.str (Str.ofString "number") 296] }) ::
  (nat_lit 80, { cls := Value.type "tuple", data := Data.seq #[] }) ::
  (nat_lit 82, { cls := Value.type "code", data := Data.fields #[Value.str (Str.ofString "class_bit") 293, Value.str (Str.ofString "class_bit") 294, Value.str (Str.ofString "/claim/cut.py") 295, Value.int 32 0, Value.int 1 0, Value.int 0 0, Value.int 0 0, Value.int 3 0, Value.ref 77, Value.bool true, Value.int 181 0, Value.ref 78, Value.none, Value.ref 79, Value.ref 80, Value.ref 81, Value.int 297 0, Value.int 32 0, Value.str (Str.ofString "/claim/cut.py") 298] }) ::
  (nat_lit 83, fnObj (Value.type "function") (cell 9) (Str.ofString "class_bit") (Value.none) (Value.str (Str.ofString "joinedhand.flags") 194) 82) ::
  (nat_lit 84, { cls := Value.type "tuple", data := Data.seq #[] }) ::
  (nat_lit 86, { cls := Value.type "tuple", data := Data.seq #[Value.str (Str.ofString "gdef") 303, Value.str (Str.ofString "lookup") 304, Value.str (Str.ofString "glyph") 305, Value.str (Str.ofString "number") 306, Value.str (Str.ofString "wanted") 307] }) ::
  (nat_lit 87, { cls := Value.type "tuple", data := Data.seq #[] }) ::
  (nat_lit 89, { cls := Value.type "code", data := Data.fields #[Value.str (Str.ofString "is_ignored") 300, Value.str (Str.ofString "is_ignored") 301, Value.str (Str.ofString "/claim/cut.py") 302, Value.int 34 0, Value.int 3 0, Value.int 0 0, Value.int 0 0, Value.int 3 0, Value.ref 84, Value.bool true, Value.int 181 0, Value.ref 85, Value.none, Value.ref 86, Value.ref 87, Value.ref 88, Value.int 308 0, Value.int 34 0, Value.str (Str.ofString "/claim/cut.py") 309] }) ::
  (nat_lit 90, fnObj (Value.type "function") (cell 10) (Str.ofString "is_ignored") (Value.none) (Value.str (Str.ofString "joinedhand.flags") 194) 89) ::
  (nat_lit 91, { cls := Value.type "tuple", data := Data.seq #[] }) ::
  (nat_lit 93, { cls := Value.type "tuple", data := Data.seq #[Value.str (Str.ofString "scene") 314, Value.str (Str.ofString "at") 315] }) ::
  (nat_lit 94, { cls := Value.type "tuple", data := Data.seq #[] }) ::
  (nat_lit 96, { cls := Value.type "code", data := Data.fields #[Value.str (Str.ofString "passes") 311, Value.str (Str.ofString "passes") 312, Value.str (Str.ofString "/claim/cut.py") 313, Value.int 44 0, Value.int 2 0, Value.int 0 0, Value.int 0 0, Value.int 3 0, Value.ref 91, Value.bool true, Value.int 181 0, Value.ref 92, Value.none, Value.ref 93, Value.ref 94, Value.ref 95, Value.int 316 0, Value.int 44 0, Value.str (Str.ofString "/claim/cut.py") 317] }) ::
  (nat_lit 97, fnObj (Value.type "function") (cell 11) (Str.ofString "passes") (Value.none) (Value.str (Str.ofString "joinedhand.flags") 194) 96) ::
  (nat_lit 98, { cls := Value.type "tuple", data := Data.seq #[] }) ::
  (nat_lit 100, { cls := Value.type "tuple", data := Data.seq #[Value.str (Str.ofString "scene") 322, Value.str (Str.ofString "at") 323] }) ::
  (nat_lit 101, { cls := Value.type "tuple", data := Data.seq #[] }) ::
  (nat_lit 103, { cls := Value.type "code", data := Data.fields #[Value.str (Str.ofString "takes") 319, Value.str (Str.ofString "takes") 320, Value.str (Str.ofString "/claim/cut.py") 321, Value.int 46 0, Value.int 2 0, Value.int 0 0, Value.int 0 0, Value.int 3 0, Value.ref 98, Value.bool true, Value.int 181 0, Value.ref 99, Value.none, Value.ref 100, Value.ref 101, Value.ref 102, Value.int 324 0, Value.int 46 0, Value.str (Str.ofString "/claim/cut.py") 325] }) ::
  (nat_lit 104, fnObj (Value.type "function") (cell 12) (Str.ofString "takes") (Value.none) (Value.str (Str.ofString "joinedhand.flags") 194) 103) ::
  (nat_lit 105, { cls := Value.type "tuple", data := Data.seq #[] }) ::
  (nat_lit 107, { cls := Value.type "tuple", data := Data.seq #[Value.str (Str.ofString "scene") 330, Value.str (Str.ofString "number") 331, Value.str (Str.ofString "found") 332] }) ::
  (nat_lit 108, { cls := Value.type "tuple", data := Data.seq #[] }) ::
  (nat_lit 110, { cls := Value.type "code", data := Data.fields #[Value.str (Str.ofString "nested_scene") 327, Value.str (Str.ofString "nested_scene") 328, Value.str (Str.ofString "/claim/cut.py") 329, Value.int 48 0, Value.int 2 0, Value.int 0 0, Value.int 0 0, Value.int 3 0, Value.ref 105, Value.bool true, Value.int 181 0, Value.ref 106, Value.none, Value.ref 107, Value.ref 108, Value.ref 109, Value.int 333 0, Value.int 48 0, Value.str (Str.ofString "/claim/cut.py") 334] }) ::
  (nat_lit 111, fnObj (Value.type "function") (cell 13) (Str.ofString "nested_scene") (Value.none) (Value.str (Str.ofString "joinedhand.flags") 194) 110) ::
  (nat_lit 119, { cls := Value.type "tuple", data := Data.seq #[] }) ::
  (nat_lit 121, { cls := Value.type "tuple", data := Data.seq #[Value.str (Str.ofString "self") 353, Value.str (Str.ofString "code") 354, Value.str (Str.ofString "glyph") 355, Value.str (Str.ofString "cluster") 356] }) ::
  (nat_lit 122, { cls := Value.type "tuple", data := Data.seq #[] }) ::
  (nat_lit 124, { cls := Value.type "code", data := Data.fields #[Value.str (Str.ofString "__init__") 350, Value.str (Str.ofString "Info.__init__") 351, Value.str (Str.ofString "/claim/cut.py") 352, Value.int 57 0, Value.int 4 0, Value.int 0 0, Value.int 0 0, Value.int 3 0, Value.ref 119, Value.bool true, Value.int 181 0, Value.ref 120, Value.none, Value.ref 121, Value.ref 122, Value.ref 123, Value.int 357 0, Value.int 57 0, Value.str (Str.ofString "/claim/cut.py") 358] }) ::
  (nat_lit 125, fnObj (Value.type "function") (meth 15 0) (Str.ofString "Info.__init__") (Value.none) (Value.str (Str.ofString "joinedhand.buffer") 336) 124) ::
  (nat_lit 126, { cls := Value.type "tuple", data := Data.seq #[] }) ::
  (nat_lit 128, { cls := Value.type "tuple", data := Data.seq #[Value.str (Str.ofString "self") 363] }) ::
  (nat_lit 129, { cls := Value.type "tuple", data := Data.seq #[] }) ::
  (nat_lit 131, { cls := Value.type "code", data := Data.fields #[Value.str (Str.ofString "copied") 360, Value.str (Str.ofString "Info.copied") 361, Value.str (Str.ofString "/claim/cut.py") 362, Value.int 75 0, Value.int 1 0, Value.int 0 0, Value.int 0 0, Value.int 3 0, Value.ref 126, Value.bool true, Value.int 181 0, Value.ref 127, Value.none, Value.ref 128, Value.ref 129, Value.ref 130, Value.int 364 0, Value.int 75 0, Value.str (Str.ofString "/claim/cut.py") 365] }) ::
  (nat_lit 132, fnObj (Value.type "function") (meth 15 1) (Str.ofString "Info.copied") (Value.none) (Value.str (Str.ofString "joinedhand.buffer") 336) 131) ::
  (nat_lit 133, { cls := Value.type "tuple", data := Data.seq #[] }) ::
  (nat_lit 135, { cls := Value.type "tuple", data := Data.seq #[Value.str (Str.ofString "self") 370] }) ::
  (nat_lit 136, { cls := Value.type "tuple", data := Data.seq #[] }) ::
  (nat_lit 138, { cls := Value.type "code", data := Data.fields #[Value.str (Str.ofString "told") 367, Value.str (Str.ofString "Info.told") 368, Value.str (Str.ofString "/claim/cut.py") 369, Value.int 78 0, Value.int 1 0, Value.int 0 0, Value.int 0 0, Value.int 3 0, Value.ref 133, Value.bool true, Value.int 181 0, Value.ref 134, Value.none, Value.ref 135, Value.ref 136, Value.ref 137, Value.int 371 0, Value.int 78 0, Value.str (Str.ofString "/claim/cut.py") 372] }) ::
  (nat_lit 139, fnObj (Value.type "function") (meth 15 2) (Str.ofString "Info.told") (Value.none) (Value.str (Str.ofString "joinedhand.buffer") 336) 138) ::
  (nat_lit 140, { cls := Value.type "tuple", data := Data.seq #[Value.str (Str.ofString "bond") 374, Value.str (Str.ofString "cluster") 375, Value.str (Str.ofString "code") 376, Value.str (Str.ofString "glyph") 377, Value.str (Str.ofString "is_unsafe") 378, Value.str (Str.ofString "kind") 379, Value.str (Str.ofString "lig_count") 380, Value.str (Str.ofString "lig_id") 381, Value.str (Str.ofString "lig_part") 382, Value.str (Str.ofString "mask") 383, Value.str (Str.ofString "parent") 384, Value.str (Str.ofString "split_id") 385, Value.str (Str.ofString "x_advance") 386, Value.str (Str.ofString "x_offset") 387, Value.str (Str.ofString "y_advance") 388, Value.str (Str.ofString "y_offset") 389] }) ::
  (nat_lit 141, { cls := Value.type "dict", data := Data.dict #[{ hash := PyData.keyHash P (Str.ofString "__module__"), key := Value.str (Str.ofString "__module__") 345, val := Value.str (Str.ofString "joinedhand.buffer") 336 }, { hash := PyData.keyHash P (Str.ofString "__firstlineno__"), key := Value.str (Str.ofString "__firstlineno__") 349, val := Value.int 55 348 }, { hash := PyData.keyHash P (Str.ofString "__init__"), key := Value.str (Str.ofString "__init__") 359, val := Value.ref 125 }, { hash := PyData.keyHash P (Str.ofString "copied"), key := Value.str (Str.ofString "copied") 366, val := Value.ref 132 }, { hash := PyData.keyHash P (Str.ofString "told"), key := Value.str (Str.ofString "told") 373, val := Value.ref 139 }, { hash := PyData.keyHash P (Str.ofString "__static_attributes__"), key := Value.str (Str.ofString "__static_attributes__") 390, val := Value.ref 140 }, { hash := PyData.keyHash P (Str.ofString "__dict__"), key := Value.str (Str.ofString "__dict__") 392, val := Value.ref 143 }, { hash := PyData.keyHash P (Str.ofString "__weakref__"), key := Value.str (Str.ofString "__weakref__") 394, val := Value.ref 144 }, { hash := PyData.keyHash P (Str.ofString "__doc__"), key := Value.str (Str.ofString "__doc__") 395, val := Value.none }] 4 }) ::
  (nat_lit 142, { cls := Value.type "type", data := Data.cls { name := Str.ofString "Info", bases := [Value.type "object"], mro := [Value.ref 142, Value.type "object"], ns := 141, qualname := Str.ofString "Info" }, slots := #[none, none, some (Value.str (Str.ofString "Info") 338), some (Value.str (Str.ofString "Info") 346), some (Value.builtin "object.__new__"), some (Value.bool true)] }) ::
  (nat_lit 143, { cls := Value.type "getset_descriptor", data := Data.fields #[Value.str (Str.ofString "__dict__") 391, Value.ref 142, Value.builtin "function.__dict__", Value.builtin "function.__dict__#set"] }) ::
  (nat_lit 144, { cls := Value.type "getset_descriptor", data := Data.fields #[Value.str (Str.ofString "__weakref__") 393, Value.ref 142, Value.builtin "ExceptionGroup.__weakref__", Value.none] }) ::
  (nat_lit 154, { cls := Value.type "tuple", data := Data.seq #[Value.bool false] }) ::
  (nat_lit 155, { cls := Value.type "tuple", data := Data.seq #[] }) ::
  (nat_lit 157, { cls := Value.type "tuple", data := Data.seq #[Value.str (Str.ofString "self") 413, Value.str (Str.ofString "infos") 414, Value.str (Str.ofString "is_backward") 415] }) ::
  (nat_lit 158, { cls := Value.type "tuple", data := Data.seq #[] }) ::
  (nat_lit 160, { cls := Value.type "code", data := Data.fields #[Value.str (Str.ofString "__init__") 410, Value.str (Str.ofString "Buffer.__init__") 411, Value.str (Str.ofString "/claim/cut.py") 412, Value.int 82 0, Value.int 3 0, Value.int 0 0, Value.int 0 0, Value.int 3 0, Value.ref 155, Value.bool true, Value.int 181 0, Value.ref 156, Value.none, Value.ref 157, Value.ref 158, Value.ref 159, Value.int 416 0, Value.int 82 0, Value.str (Str.ofString "/claim/cut.py") 417] }) ::
  (nat_lit 161, fnObj (Value.type "function") (meth 16 0) (Str.ofString "Buffer.__init__") (Value.ref 154) (Value.str (Str.ofString "joinedhand.buffer") 336) 160) ::
  (nat_lit 162, { cls := Value.type "tuple", data := Data.seq #[] }) ::
  (nat_lit 165, { cls := Value.type "code", data := Data.fields #[Value.str (Str.ofString "glyphs") 419, Value.str (Str.ofString "Buffer.glyphs") 420, Value.str (Str.ofString "/claim/cut.py") 421, Value.int 88 0, Value.int 1 0, Value.int 0 0, Value.int 0 0, Value.int 3 0, Value.ref 162, Value.bool true, Value.int 181 0, Value.ref 163, Value.none, Value.none, Value.none, Value.ref 164, Value.int 422 0, Value.int 88 0, Value.str (Str.ofString "/claim/cut.py") 423] }) ::
  (nat_lit 166, fnObj (Value.type "function") (meth 16 1) (Str.ofString "Buffer.glyphs") (Value.none) (Value.str (Str.ofString "joinedhand.buffer") 336) 165) ::
  (nat_lit 167, { cls := Value.type "tuple", data := Data.seq #[] }) ::
  (nat_lit 169, { cls := Value.type "tuple", data := Data.seq #[Value.str (Str.ofString "self") 428] }) ::
  (nat_lit 170, { cls := Value.type "tuple", data := Data.seq #[] }) ::
  (nat_lit 172, { cls := Value.type "code", data := Data.fields #[Value.str (Str.ofString "clusters") 425, Value.str (Str.ofString "Buffer.clusters") 426, Value.str (Str.ofString "/claim/cut.py") 427, Value.int 91 0, Value.int 1 0, Value.int 0 0, Value.int 0 0, Value.int 3 0, Value.ref 167, Value.bool true, Value.int 181 0, Value.ref 168, Value.none, Value.ref 169, Value.ref 170, Value.ref 171, Value.int 429 0, Value.int 91 0, Value.str (Str.ofString "/claim/cut.py") 430] }) ::
  (nat_lit 173, fnObj (Value.type "function") (meth 16 2) (Str.ofString "Buffer.clusters") (Value.none) (Value.str (Str.ofString "joinedhand.buffer") 336) 172) ::
  (nat_lit 174, { cls := Value.type "tuple", data := Data.seq #[] }) ::
  (nat_lit 177, { cls := Value.type "code", data := Data.fields #[Value.str (Str.ofString "told") 432, Value.str (Str.ofString "Buffer.told") 433, Value.str (Str.ofString "/claim/cut.py") 434, Value.int 94 0, Value.int 1 0, Value.int 0 0, Value.int 0 0, Value.int 3 0, Value.ref 174, Value.bool true, Value.int 181 0, Value.ref 175, Value.none, Value.none, Value.none, Value.ref 176, Value.int 435 0, Value.int 94 0, Value.str (Str.ofString "/claim/cut.py") 436] }) ::
  (nat_lit 178, fnObj (Value.type "function") (meth 16 3) (Str.ofString "Buffer.told") (Value.none) (Value.str (Str.ofString "joinedhand.buffer") 336) 177) ::
  (nat_lit 179, { cls := Value.type "tuple", data := Data.seq #[] }) ::
  (nat_lit 181, { cls := Value.type "tuple", data := Data.seq #[Value.str (Str.ofString "self") 441] }) ::
  (nat_lit 182, { cls := Value.type "tuple", data := Data.seq #[] }) ::
  (nat_lit 184, { cls := Value.type "code", data := Data.fields #[Value.str (Str.ofString "next_lig") 438, Value.str (Str.ofString "Buffer.next_lig") 439, Value.str (Str.ofString "/claim/cut.py") 440, Value.int 97 0, Value.int 1 0, Value.int 0 0, Value.int 0 0, Value.int 3 0, Value.ref 179, Value.bool true, Value.int 181 0, Value.ref 180, Value.none, Value.ref 181, Value.ref 182, Value.ref 183, Value.int 442 0, Value.int 97 0, Value.str (Str.ofString "/claim/cut.py") 443] }) ::
  (nat_lit 185, fnObj (Value.type "function") (meth 16 4) (Str.ofString "Buffer.next_lig") (Value.none) (Value.str (Str.ofString "joinedhand.buffer") 336) 184) ::
  (nat_lit 186, { cls := Value.type "tuple", data := Data.seq #[] }) ::
  (nat_lit 188, { cls := Value.type "tuple", data := Data.seq #[Value.str (Str.ofString "self") 448] }) ::
  (nat_lit 189, { cls := Value.type "tuple", data := Data.seq #[] }) ::
  (nat_lit 191, { cls := Value.type "code", data := Data.fields #[Value.str (Str.ofString "next_split") 445, Value.str (Str.ofString "Buffer.next_split") 446, Value.str (Str.ofString "/claim/cut.py") 447, Value.int 100 0, Value.int 1 0, Value.int 0 0, Value.int 0 0, Value.int 3 0, Value.ref 186, Value.bool true, Value.int 181 0, Value.ref 187, Value.none, Value.ref 188, Value.ref 189, Value.ref 190, Value.int 449 0, Value.int 100 0, Value.str (Str.ofString "/claim/cut.py") 450] }) ::
  (nat_lit 192, fnObj (Value.type "function") (meth 16 5) (Str.ofString "Buffer.next_split") (Value.none) (Value.str (Str.ofString "joinedhand.buffer") 336) 191) ::
  (nat_lit 193, { cls := Value.type "tuple", data := Data.seq #[Value.str (Str.ofString "is_backward") 452, Value.str (Str.ofString "last_lig") 453, Value.str (Str.ofString "last_split") 454, Value.str (Str.ofString "row") 455] }) ::
  (nat_lit 194, { cls := Value.type "dict", data := Data.dict #[{ hash := PyData.keyHash P (Str.ofString "__module__"), key := Value.str (Str.ofString "__module__") 405, val := Value.str (Str.ofString "joinedhand.buffer") 336 }, { hash := PyData.keyHash P (Str.ofString "__firstlineno__"), key := Value.str (Str.ofString "__firstlineno__") 409, val := Value.int 80 408 }, { hash := PyData.keyHash P (Str.ofString "__init__"), key := Value.str (Str.ofString "__init__") 418, val := Value.ref 161 }, { hash := PyData.keyHash P (Str.ofString "glyphs"), key := Value.str (Str.ofString "glyphs") 424, val := Value.ref 166 }, { hash := PyData.keyHash P (Str.ofString "clusters"), key := Value.str (Str.ofString "clusters") 431, val := Value.ref 173 }, { hash := PyData.keyHash P (Str.ofString "told"), key := Value.str (Str.ofString "told") 437, val := Value.ref 178 }, { hash := PyData.keyHash P (Str.ofString "next_lig"), key := Value.str (Str.ofString "next_lig") 444, val := Value.ref 185 }, { hash := PyData.keyHash P (Str.ofString "next_split"), key := Value.str (Str.ofString "next_split") 451, val := Value.ref 192 }, { hash := PyData.keyHash P (Str.ofString "__static_attributes__"), key := Value.str (Str.ofString "__static_attributes__") 456, val := Value.ref 193 }, { hash := PyData.keyHash P (Str.ofString "__dict__"), key := Value.str (Str.ofString "__dict__") 458, val := Value.ref 196 }, { hash := PyData.keyHash P (Str.ofString "__weakref__"), key := Value.str (Str.ofString "__weakref__") 460, val := Value.ref 197 }, { hash := PyData.keyHash P (Str.ofString "__doc__"), key := Value.str (Str.ofString "__doc__") 461, val := Value.none }] 4 }) ::
  (nat_lit 195, { cls := Value.type "type", data := Data.cls { name := Str.ofString "Buffer", bases := [Value.type "object"], mro := [Value.ref 195, Value.type "object"], ns := 194, qualname := Str.ofString "Buffer" }, slots := #[none, none, some (Value.str (Str.ofString "Buffer") 398), some (Value.str (Str.ofString "Buffer") 406), some (Value.builtin "object.__new__"), some (Value.bool true)] }) ::
  (nat_lit 196, { cls := Value.type "getset_descriptor", data := Data.fields #[Value.str (Str.ofString "__dict__") 457, Value.ref 195, Value.builtin "function.__dict__", Value.builtin "function.__dict__#set"] }) ::
  (nat_lit 197, { cls := Value.type "getset_descriptor", data := Data.fields #[Value.str (Str.ofString "__weakref__") 459, Value.ref 195, Value.builtin "ExceptionGroup.__weakref__", Value.none] }) ::
  (nat_lit 207, { cls := Value.type "tuple", data := Data.seq #[] }) ::
  (nat_lit 209, { cls := Value.type "tuple", data := Data.seq #[Value.str (Str.ofString "self") 481, Value.str (Str.ofString "classes") 482] }) ::
  (nat_lit 210, { cls := Value.type "tuple", data := Data.seq #[] }) ::
  (nat_lit 212, { cls := Value.type "code", data := Data.fields #[Value.str (Str.ofString "__init__") 478, Value.str (Str.ofString "ClassDef.__init__") 479, Value.str (Str.ofString "/claim/cut.py") 480, Value.int 105 0, Value.int 2 0, Value.int 0 0, Value.int 0 0, Value.int 3 0, Value.ref 207, Value.bool true, Value.int 181 0, Value.ref 208, Value.none, Value.ref 209, Value.ref 210, Value.ref 211, Value.int 483 0, Value.int 105 0, Value.str (Str.ofString "/claim/cut.py") 484] }) ::
  (nat_lit 213, fnObj (Value.type "function") (meth 18 0) (Str.ofString "ClassDef.__init__") (Value.none) (Value.str (Str.ofString "joinedhand.classdefs") 464) 212) ::
  (nat_lit 214, { cls := Value.type "tuple", data := Data.seq #[] }) ::
  (nat_lit 216, { cls := Value.type "tuple", data := Data.seq #[Value.str (Str.ofString "self") 489, Value.str (Str.ofString "glyph") 490] }) ::
  (nat_lit 217, { cls := Value.type "tuple", data := Data.seq #[] }) ::
  (nat_lit 219, { cls := Value.type "code", data := Data.fields #[Value.str (Str.ofString "class_of") 486, Value.str (Str.ofString "ClassDef.class_of") 487, Value.str (Str.ofString "/claim/cut.py") 488, Value.int 108 0, Value.int 2 0, Value.int 0 0, Value.int 0 0, Value.int 3 0, Value.ref 214, Value.bool true, Value.int 181 0, Value.ref 215, Value.none, Value.ref 216, Value.ref 217, Value.ref 218, Value.int 491 0, Value.int 108 0, Value.str (Str.ofString "/claim/cut.py") 492] }) ::
  (nat_lit 220, fnObj (Value.type "function") (meth 18 1) (Str.ofString "ClassDef.class_of") (Value.none) (Value.str (Str.ofString "joinedhand.classdefs") 464) 219) ::
  (nat_lit 221, { cls := Value.type "tuple", data := Data.seq #[] }) ::
  (nat_lit 223, { cls := Value.type "tuple", data := Data.seq #[Value.str (Str.ofString "self") 497, Value.str (Str.ofString "number") 498] }) ::
  (nat_lit 224, { cls := Value.type "tuple", data := Data.seq #[] }) ::
  (nat_lit 226, { cls := Value.type "code", data := Data.fields #[Value.str (Str.ofString "glyphs_of") 494, Value.str (Str.ofString "ClassDef.glyphs_of") 495, Value.str (Str.ofString "/claim/cut.py") 496, Value.int 111 0, Value.int 2 0, Value.int 0 0, Value.int 0 0, Value.int 3 0, Value.ref 221, Value.bool true, Value.int 181 0, Value.ref 222, Value.none, Value.ref 223, Value.ref 224, Value.ref 225, Value.int 499 0, Value.int 111 0, Value.str (Str.ofString "/claim/cut.py") 500] }) ::
  (nat_lit 227, fnObj (Value.type "function") (meth 18 2) (Str.ofString "ClassDef.glyphs_of") (Value.none) (Value.str (Str.ofString "joinedhand.classdefs") 464) 226) ::
  (nat_lit 228, { cls := Value.type "tuple", data := Data.seq #[] }) ::
  (nat_lit 230, { cls := Value.type "tuple", data := Data.seq #[Value.str (Str.ofString "self") 505, Value.str (Str.ofString "most") 506, Value.str (Str.ofString "glyph") 507] }) ::
  (nat_lit 231, { cls := Value.type "tuple", data := Data.seq #[] }) ::
  (nat_lit 233, { cls := Value.type "code", data := Data.fields #[Value.str (Str.ofString "count") 502, Value.str (Str.ofString "ClassDef.count") 503, Value.str (Str.ofString "/claim/cut.py") 504, Value.int 114 0, Value.int 1 0, Value.int 0 0, Value.int 0 0, Value.int 3 0, Value.ref 228, Value.bool true, Value.int 181 0, Value.ref 229, Value.none, Value.ref 230, Value.ref 231, Value.ref 232, Value.int 508 0, Value.int 114 0, Value.str (Str.ofString "/claim/cut.py") 509] }) ::
  (nat_lit 234, fnObj (Value.type "function") (meth 18 3) (Str.ofString "ClassDef.count") (Value.none) (Value.str (Str.ofString "joinedhand.classdefs") 464) 233) ::
  (nat_lit 235, { cls := Value.type "tuple", data := Data.seq #[] }) ::
  (nat_lit 238, { cls := Value.type "code", data := Data.fields #[Value.str (Str.ofString "told") 511, Value.str (Str.ofString "ClassDef.told") 512, Value.str (Str.ofString "/claim/cut.py") 513, Value.int 120 0, Value.int 1 0, Value.int 0 0, Value.int 0 0, Value.int 3 0, Value.ref 235, Value.bool true, Value.int 181 0, Value.ref 236, Value.none, Value.none, Value.none, Value.ref 237, Value.int 514 0, Value.int 120 0, Value.str (Str.ofString "/claim/cut.py") 515] }) ::
  (nat_lit 239, fnObj (Value.type "function") (meth 18 4) (Str.ofString "ClassDef.told") (Value.none) (Value.str (Str.ofString "joinedhand.classdefs") 464) 238) ::
  (nat_lit 240, { cls := Value.type "tuple", data := Data.seq #[Value.str (Str.ofString "classes") 517] }) ::
  (nat_lit 241, { cls := Value.type "dict", data := Data.dict #[{ hash := PyData.keyHash P (Str.ofString "__module__"), key := Value.str (Str.ofString "__module__") 473, val := Value.str (Str.ofString "joinedhand.classdefs") 464 }, { hash := PyData.keyHash P (Str.ofString "__firstlineno__"), key := Value.str (Str.ofString "__firstlineno__") 477, val := Value.int 103 476 }, { hash := PyData.keyHash P (Str.ofString "__init__"), key := Value.str (Str.ofString "__init__") 485, val := Value.ref 213 }, { hash := PyData.keyHash P (Str.ofString "class_of"), key := Value.str (Str.ofString "class_of") 493, val := Value.ref 220 }, { hash := PyData.keyHash P (Str.ofString "glyphs_of"), key := Value.str (Str.ofString "glyphs_of") 501, val := Value.ref 227 }, { hash := PyData.keyHash P (Str.ofString "count"), key := Value.str (Str.ofString "count") 510, val := Value.ref 234 }, { hash := PyData.keyHash P (Str.ofString "told"), key := Value.str (Str.ofString "told") 516, val := Value.ref 239 }, { hash := PyData.keyHash P (Str.ofString "__static_attributes__"), key := Value.str (Str.ofString "__static_attributes__") 518, val := Value.ref 240 }, { hash := PyData.keyHash P (Str.ofString "__dict__"), key := Value.str (Str.ofString "__dict__") 520, val := Value.ref 243 }, { hash := PyData.keyHash P (Str.ofString "__weakref__"), key := Value.str (Str.ofString "__weakref__") 522, val := Value.ref 244 }, { hash := PyData.keyHash P (Str.ofString "__doc__"), key := Value.str (Str.ofString "__doc__") 523, val := Value.none }] 4 }) ::
  (nat_lit 242, { cls := Value.type "type", data := Data.cls { name := Str.ofString "ClassDef", bases := [Value.type "object"], mro := [Value.ref 242, Value.type "object"], ns := 241, qualname := Str.ofString "ClassDef" }, slots := #[none, none, some (Value.str (Str.ofString "ClassDef") 466), some (Value.str (Str.ofString "ClassDef") 474), some (Value.builtin "object.__new__"), some (Value.bool true)] }) ::
  (nat_lit 243, { cls := Value.type "getset_descriptor", data := Data.fields #[Value.str (Str.ofString "__dict__") 519, Value.ref 242, Value.builtin "function.__dict__", Value.builtin "function.__dict__#set"] }) ::
  (nat_lit 244, { cls := Value.type "getset_descriptor", data := Data.fields #[Value.str (Str.ofString "__weakref__") 521, Value.ref 242, Value.builtin "ExceptionGroup.__weakref__", Value.none] }) ::
  (nat_lit 254, { cls := Value.type "tuple", data := Data.seq #[] }) ::
  (nat_lit 256, { cls := Value.type "tuple", data := Data.seq #[Value.str (Str.ofString "self") 543, Value.str (Str.ofString "glyphs") 544] }) ::
  (nat_lit 257, { cls := Value.type "tuple", data := Data.seq #[] }) ::
  (nat_lit 259, { cls := Value.type "code", data := Data.fields #[Value.str (Str.ofString "__init__") 540, Value.str (Str.ofString "Coverage.__init__") 541, Value.str (Str.ofString "/claim/cut.py") 542, Value.int 125 0, Value.int 2 0, Value.int 0 0, Value.int 0 0, Value.int 3 0, Value.ref 254, Value.bool true, Value.int 181 0, Value.ref 255, Value.none, Value.ref 256, Value.ref 257, Value.ref 258, Value.int 545 0, Value.int 125 0, Value.str (Str.ofString "/claim/cut.py") 546] }) ::
  (nat_lit 260, fnObj (Value.type "function") (meth 20 0) (Str.ofString "Coverage.__init__") (Value.none) (Value.str (Str.ofString "joinedhand.coverage") 526) 259) ::
  (nat_lit 261, { cls := Value.type "tuple", data := Data.seq #[] }) ::
  (nat_lit 263, { cls := Value.type "tuple", data := Data.seq #[Value.str (Str.ofString "self") 551, Value.str (Str.ofString "glyph") 552, Value.str (Str.ofString "low") 553, Value.str (Str.ofString "high") 554, Value.str (Str.ofString "middle") 555] }) ::
  (nat_lit 264, { cls := Value.type "tuple", data := Data.seq #[] }) ::
  (nat_lit 266, { cls := Value.type "code", data := Data.fields #[Value.str (Str.ofString "index") 548, Value.str (Str.ofString "Coverage.index") 549, Value.str (Str.ofString "/claim/cut.py") 550, Value.int 128 0, Value.int 2 0, Value.int 0 0, Value.int 0 0, Value.int 3 0, Value.ref 261, Value.bool true, Value.int 181 0, Value.ref 262, Value.none, Value.ref 263, Value.ref 264, Value.ref 265, Value.int 556 0, Value.int 128 0, Value.str (Str.ofString "/claim/cut.py") 557] }) ::
  (nat_lit 267, fnObj (Value.type "function") (meth 20 1) (Str.ofString "Coverage.index") (Value.none) (Value.str (Str.ofString "joinedhand.coverage") 526) 266) ::
  (nat_lit 268, { cls := Value.type "tuple", data := Data.seq #[] }) ::
  (nat_lit 270, { cls := Value.type "tuple", data := Data.seq #[Value.str (Str.ofString "self") 562, Value.str (Str.ofString "glyph") 563] }) ::
  (nat_lit 271, { cls := Value.type "tuple", data := Data.seq #[] }) ::
  (nat_lit 273, { cls := Value.type "code", data := Data.fields #[Value.str (Str.ofString "has") 559, Value.str (Str.ofString "Coverage.has") 560, Value.str (Str.ofString "/claim/cut.py") 561, Value.int 141 0, Value.int 2 0, Value.int 0 0, Value.int 0 0, Value.int 3 0, Value.ref 268, Value.bool true, Value.int 181 0, Value.ref 269, Value.none, Value.ref 270, Value.ref 271, Value.ref 272, Value.int 564 0, Value.int 141 0, Value.str (Str.ofString "/claim/cut.py") 565] }) ::
  (nat_lit 274, fnObj (Value.type "function") (meth 20 2) (Str.ofString "Coverage.has") (Value.none) (Value.str (Str.ofString "joinedhand.coverage") 526) 273) ::
  (nat_lit 275, { cls := Value.type "tuple", data := Data.seq #[] }) ::
  (nat_lit 277, { cls := Value.type "tuple", data := Data.seq #[Value.str (Str.ofString "self") 570] }) ::
  (nat_lit 278, { cls := Value.type "tuple", data := Data.seq #[] }) ::
  (nat_lit 280, { cls := Value.type "code", data := Data.fields #[Value.str (Str.ofString "told") 567, Value.str (Str.ofString "Coverage.told") 568, Value.str (Str.ofString "/claim/cut.py") 569, Value.int 144 0, Value.int 1 0, Value.int 0 0, Value.int 0 0, Value.int 3 0, Value.ref 275, Value.bool true, Value.int 181 0, Value.ref 276, Value.none, Value.ref 277, Value.ref 278, Value.ref 279, Value.int 571 0, Value.int 144 0, Value.str (Str.ofString "/claim/cut.py") 572] }) ::
  (nat_lit 281, fnObj (Value.type "function") (meth 20 3) (Str.ofString "Coverage.told") (Value.none) (Value.str (Str.ofString "joinedhand.coverage") 526) 280) ::
  (nat_lit 282, { cls := Value.type "tuple", data := Data.seq #[Value.str (Str.ofString "glyphs") 574] }) ::
  (nat_lit 283, { cls := Value.type "dict", data := Data.dict #[{ hash := PyData.keyHash P (Str.ofString "__module__"), key := Value.str (Str.ofString "__module__") 535, val := Value.str (Str.ofString "joinedhand.coverage") 526 }, { hash := PyData.keyHash P (Str.ofString "__firstlineno__"), key := Value.str (Str.ofString "__firstlineno__") 539, val := Value.int 123 538 }, { hash := PyData.keyHash P (Str.ofString "__init__"), key := Value.str (Str.ofString "__init__") 547, val := Value.ref 260 }, { hash := PyData.keyHash P (Str.ofString "index"), key := Value.str (Str.ofString "index") 558, val := Value.ref 267 }, { hash := PyData.keyHash P (Str.ofString "has"), key := Value.str (Str.ofString "has") 566, val := Value.ref 274 }, { hash := PyData.keyHash P (Str.ofString "told"), key := Value.str (Str.ofString "told") 573, val := Value.ref 281 }, { hash := PyData.keyHash P (Str.ofString "__static_attributes__"), key := Value.str (Str.ofString "__static_attributes__") 575, val := Value.ref 282 }, { hash := PyData.keyHash P (Str.ofString "__dict__"), key := Value.str (Str.ofString "__dict__") 577, val := Value.ref 285 }, { hash := PyData.keyHash P (Str.ofString "__weakref__"), key := Value.str (Str.ofString "__weakref__") 579, val := Value.ref 286 }, { hash := PyData.keyHash P (Str.ofString "__doc__"), key := Value.str (Str.ofString "__doc__") 580, val := Value.none }] 4 }) ::
  (nat_lit 284, { cls := Value.type "type", data := Data.cls { name := Str.ofString "Coverage", bases := [Value.type "object"], mro := [Value.ref 284, Value.type "object"], ns := 283, qualname := Str.ofString "Coverage" }, slots := #[none, none, some (Value.str (Str.ofString "Coverage") 528), some (Value.str (Str.ofString "Coverage") 536), some (Value.builtin "object.__new__"), some (Value.bool true)] }) ::
  (nat_lit 285, { cls := Value.type "getset_descriptor", data := Data.fields #[Value.str (Str.ofString "__dict__") 576, Value.ref 284, Value.builtin "function.__dict__", Value.builtin "function.__dict__#set"] }) ::
  (nat_lit 286, { cls := Value.type "getset_descriptor", data := Data.fields #[Value.str (Str.ofString "__weakref__") 578, Value.ref 284, Value.builtin "ExceptionGroup.__weakref__", Value.none] }) ::
  (nat_lit 296, { cls := Value.type "tuple", data := Data.seq #[Value.none, Value.none] }) ::
  (nat_lit 297, { cls := Value.type "tuple", data := Data.seq #[] }) ::
  (nat_lit 299, { cls := Value.type "tuple", data := Data.seq #[Value.str (Str.ofString "self") 606, Value.str (Str.ofString "classes") 607, Value.str (Str.ofString "attach") 608, Value.str (Str.ofString "sets") 609, Value.str (Str.ofString "points") 610, Value.str (Str.ofString "carets") 611] }) ::
  (nat_lit 300, { cls := Value.type "tuple", data := Data.seq #[] }) ::
  (nat_lit 302, { cls := Value.type "code", data := Data.fields #[Value.str (Str.ofString "__init__") 603, Value.str (Str.ofString "Gdef.__init__") 604, Value.str (Str.ofString "/claim/cut.py") 605, Value.int 152 0, Value.int 6 0, Value.int 0 0, Value.int 0 0, Value.int 3 0, Value.ref 297, Value.bool true, Value.int 181 0, Value.ref 298, Value.none, Value.ref 299, Value.ref 300, Value.ref 301, Value.int 612 0, Value.int 152 0, Value.str (Str.ofString "/claim/cut.py") 613] }) ::
  (nat_lit 303, fnObj (Value.type "function") (meth 25 0) (Str.ofString "Gdef.__init__") (Value.ref 296) (Value.str (Str.ofString "joinedhand.gdef") 583) 302) ::
  (nat_lit 304, { cls := Value.type "tuple", data := Data.seq #[] }) ::
  (nat_lit 306, { cls := Value.type "tuple", data := Data.seq #[Value.str (Str.ofString "self") 618, Value.str (Str.ofString "glyph") 619, Value.str (Str.ofString "number") 620] }) ::
  (nat_lit 307, { cls := Value.type "tuple", data := Data.seq #[] }) ::
  (nat_lit 309, { cls := Value.type "code", data := Data.fields #[Value.str (Str.ofString "glyph_class") 615, Value.str (Str.ofString "Gdef.glyph_class") 616, Value.str (Str.ofString "/claim/cut.py") 617, Value.int 159 0, Value.int 2 0, Value.int 0 0, Value.int 0 0, Value.int 3 0, Value.ref 304, Value.bool true, Value.int 181 0, Value.ref 305, Value.none, Value.ref 306, Value.ref 307, Value.ref 308, Value.int 621 0, Value.int 159 0, Value.str (Str.ofString "/claim/cut.py") 622] }) ::
  (nat_lit 310, fnObj (Value.type "function") (meth 25 1) (Str.ofString "Gdef.glyph_class") (Value.none) (Value.str (Str.ofString "joinedhand.gdef") 583) 309) ::
  (nat_lit 311, { cls := Value.type "tuple", data := Data.seq #[] }) ::
  (nat_lit 313, { cls := Value.type "tuple", data := Data.seq #[Value.str (Str.ofString "self") 627, Value.str (Str.ofString "glyph") 628] }) ::
  (nat_lit 314, { cls := Value.type "tuple", data := Data.seq #[] }) ::
  (nat_lit 316, { cls := Value.type "code", data := Data.fields #[Value.str (Str.ofString "attach_class") 624, Value.str (Str.ofString "Gdef.attach_class") 625, Value.str (Str.ofString "/claim/cut.py") 626, Value.int 163 0, Value.int 2 0, Value.int 0 0, Value.int 0 0, Value.int 3 0, Value.ref 311, Value.bool true, Value.int 181 0, Value.ref 312, Value.none, Value.ref 313, Value.ref 314, Value.ref 315, Value.int 629 0, Value.int 163 0, Value.str (Str.ofString "/claim/cut.py") 630] }) ::
  (nat_lit 317, fnObj (Value.type "function") (meth 25 2) (Str.ofString "Gdef.attach_class") (Value.none) (Value.str (Str.ofString "joinedhand.gdef") 583) 316) ::
  (nat_lit 318, { cls := Value.type "tuple", data := Data.seq #[] }) ::
  (nat_lit 320, { cls := Value.type "tuple", data := Data.seq #[Value.str (Str.ofString "self") 635, Value.str (Str.ofString "number") 636, Value.str (Str.ofString "glyph") 637] }) ::
  (nat_lit 321, { cls := Value.type "tuple", data := Data.seq #[] }) ::
  (nat_lit 323, { cls := Value.type "code", data := Data.fields #[Value.str (Str.ofString "is_in_set") 632, Value.str (Str.ofString "Gdef.is_in_set") 633, Value.str (Str.ofString "/claim/cut.py") 634, Value.int 166 0, Value.int 3 0, Value.int 0 0, Value.int 0 0, Value.int 3 0, Value.ref 318, Value.bool true, Value.int 181 0, Value.ref 319, Value.none, Value.ref 320, Value.ref 321, Value.ref 322, Value.int 638 0, Value.int 166 0, Value.str (Str.ofString "/claim/cut.py") 639] }) ::
  (nat_lit 324, fnObj (Value.type "function") (meth 25 3) (Str.ofString "Gdef.is_in_set") (Value.none) (Value.str (Str.ofString "joinedhand.gdef") 583) 323) ::
  (nat_lit 325, { cls := Value.type "tuple", data := Data.seq #[] }) ::
  (nat_lit 328, { cls := Value.type "code", data := Data.fields #[Value.str (Str.ofString "told") 641, Value.str (Str.ofString "Gdef.told") 642, Value.str (Str.ofString "/claim/cut.py") 643, Value.int 169 0, Value.int 1 0, Value.int 0 0, Value.int 0 0, Value.int 3 0, Value.ref 325, Value.bool true, Value.int 181 0, Value.ref 326, Value.none, Value.none, Value.none, Value.ref 327, Value.int 644 0, Value.int 169 0, Value.str (Str.ofString "/claim/cut.py") 645] }) ::
  (nat_lit 329, fnObj (Value.type "function") (meth 25 4) (Str.ofString "Gdef.told") (Value.none) (Value.str (Str.ofString "joinedhand.gdef") 583) 328) ::
  (nat_lit 330, { cls := Value.type "tuple", data := Data.seq #[Value.str (Str.ofString "attach") 647, Value.str (Str.ofString "carets") 648, Value.str (Str.ofString "classes") 649, Value.str (Str.ofString "points") 650, Value.str (Str.ofString "sets") 651] }) ::
  (nat_lit 331, { cls := Value.type "dict", data := Data.dict #[{ hash := PyData.keyHash P (Str.ofString "__module__"), key := Value.str (Str.ofString "__module__") 598, val := Value.str (Str.ofString "joinedhand.gdef") 583 }, { hash := PyData.keyHash P (Str.ofString "__firstlineno__"), key := Value.str (Str.ofString "__firstlineno__") 602, val := Value.int 150 601 }, { hash := PyData.keyHash P (Str.ofString "__init__"), key := Value.str (Str.ofString "__init__") 614, val := Value.ref 303 }, { hash := PyData.keyHash P (Str.ofString "glyph_class"), key := Value.str (Str.ofString "glyph_class") 623, val := Value.ref 310 }, { hash := PyData.keyHash P (Str.ofString "attach_class"), key := Value.str (Str.ofString "attach_class") 631, val := Value.ref 317 }, { hash := PyData.keyHash P (Str.ofString "is_in_set"), key := Value.str (Str.ofString "is_in_set") 640, val := Value.ref 324 }, { hash := PyData.keyHash P (Str.ofString "told"), key := Value.str (Str.ofString "told") 646, val := Value.ref 329 }, { hash := PyData.keyHash P (Str.ofString "__static_attributes__"), key := Value.str (Str.ofString "__static_attributes__") 652, val := Value.ref 330 }, { hash := PyData.keyHash P (Str.ofString "__dict__"), key := Value.str (Str.ofString "__dict__") 654, val := Value.ref 333 }, { hash := PyData.keyHash P (Str.ofString "__weakref__"), key := Value.str (Str.ofString "__weakref__") 656, val := Value.ref 334 }, { hash := PyData.keyHash P (Str.ofString "__doc__"), key := Value.str (Str.ofString "__doc__") 657, val := Value.none }] 4 }) ::
  (nat_lit 332, { cls := Value.type "type", data := Data.cls { name := Str.ofString "Gdef", bases := [Value.type "object"], mro := [Value.ref 332, Value.type "object"], ns := 331, qualname := Str.ofString "Gdef" }, slots := #[none, none, some (Value.str (Str.ofString "Gdef") 591), some (Value.str (Str.ofString "Gdef") 599), some (Value.builtin "object.__new__"), some (Value.bool true)] }) ::
  (nat_lit 333, { cls := Value.type "getset_descriptor", data := Data.fields #[Value.str (Str.ofString "__dict__") 653, Value.ref 332, Value.builtin "function.__dict__", Value.builtin "function.__dict__#set"] }) ::
  (nat_lit 334, { cls := Value.type "getset_descriptor", data := Data.fields #[Value.str (Str.ofString "__weakref__") 655, Value.ref 332, Value.builtin "ExceptionGroup.__weakref__", Value.none] }) ::
  (nat_lit 337, { cls := Value.type "tuple", data := Data.seq #[] }) ::
  (nat_lit 339, { cls := Value.type "tuple", data := Data.seq #[Value.str (Str.ofString "tape") 665, Value.str (Str.ofString "limit") 666, Value.str (Str.ofString "cells") 667, Value.str (Str.ofString "at") 668] }) ::
  (nat_lit 340, { cls := Value.type "tuple", data := Data.seq #[] }) ::
  (nat_lit 342, { cls := Value.type "code", data := Data.fields #[Value.str (Str.ofString "_law_draw") 662, Value.str (Str.ofString "_law_draw") 663, Value.str (Str.ofString "/claim/cut.py") 664, Value.int 174 0, Value.int 2 0, Value.int 0 0, Value.int 0 0, Value.int 3 0, Value.ref 337, Value.bool true, Value.int 181 0, Value.ref 338, Value.none, Value.ref 339, Value.ref 340, Value.ref 341, Value.int 669 0, Value.int 174 0, Value.str (Str.ofString "/claim/cut.py") 670] }) ::
  (nat_lit 343, fnObj (Value.type "function") (cell 27) (Str.ofString "_law_draw") (Value.none) (Value.str (Str.ofString "law_pb0187_01") 660) 342) ::
  (nat_lit 344, { cls := Value.type "tuple", data := Data.seq #[] }) ::
  (nat_lit 347, { cls := Value.type "code", data := Data.fields #[Value.str (Str.ofString "_law_seen") 672, Value.str (Str.ofString "_law_seen") 673, Value.str (Str.ofString "/claim/cut.py") 674, Value.int 179 0, Value.int 1 0, Value.int 0 0, Value.int 0 0, Value.int 3 0, Value.ref 344, Value.bool true, Value.int 181 0, Value.ref 345, Value.none, Value.none, Value.none, Value.ref 346, Value.int 675 0, Value.int 179 0, Value.str (Str.ofString "/claim/cut.py") 676] }) ::
  (nat_lit 348, fnObj (Value.type "function") (cell 28) (Str.ofString "_law_seen") (Value.none) (Value.str (Str.ofString "law_pb0187_01") 660) 347) ::
  (nat_lit 349, { cls := Value.type "tuple", data := Data.seq #[] }) ::
  (nat_lit 352, { cls := Value.type "code", data := Data.fields #[Value.str (Str.ofString "law") 678, Value.str (Str.ofString "law") 679, Value.str (Str.ofString "/claim/cut.py") 680, Value.int 181 0, Value.int 1 0, Value.int 0 0, Value.int 0 0, Value.int 3 0, Value.ref 349, Value.bool true, Value.int 181 0, Value.ref 350, Value.none, Value.none, Value.none, Value.ref 351, Value.int 681 0, Value.int 181 0, Value.str (Str.ofString "/claim/cut.py") 682] }) ::
  (nat_lit 353, fnObj (Value.type "function") (cell 29) (Str.ofString "law") (Value.none) (Value.str (Str.ofString "law_pb0187_01") 660) 352) :: []
noncomputable abbrev kH : Hook := kHook kFrag kAt (fun _ => by kernel_rfl)
end Mine
end
section
open PySem PySem.W PyProof.Rows
namespace Mine
set_option maxRecDepth 100000
noncomputable def fnParams (s : Stmt) : Arguments := match s with
  | .FunctionDef _ ps _ _ _ _ _ _ _ _ => ps
  | _ => default
noncomputable def fnBody (s : Stmt) : FuncBody := match s with
  | .FunctionDef _ _ body _ _ _ _ _ _ _ => .stmts body
  | _ => .stmts []
noncomputable def fnScope (s : Stmt) : Scope := match s with
  | .FunctionDef _ _ _ _ _ _ sc _ _ _ => sc
  | _ => default
noncomputable def o43 (_ : Params) : Obj := { cls := Value.type "tuple", data := Data.seq #[] }
noncomputable def o44 (_ : Params) : Obj := { cls := Value.none, data := Data.fields #[] }
noncomputable def o45 (_ : Params) : Obj := { cls := Value.type "code", data := Data.fields #[Value.str (Str.ofString "<module>") 182, Value.str (Str.ofString "<module>") 183, Value.str (Str.ofString "/claim/cut.py") 184, Value.int 1 0, Value.int 0 0, Value.int 0 0, Value.int 0 0, Value.int 0 0, Value.ref 11, Value.bool false, Value.int 181 0, Value.ref 12, Value.none, Value.none, Value.none, Value.none, Value.int 185 0, Value.int 1 0, Value.str (Str.ofString "/claim/cut.py") 186] }
noncomputable def o46 (_ : Params) : Obj := { cls := Value.type "frame", slots := #[some (Value.ref 13), some (Value.ref 3), some (Value.ref 3), none, some (Value.str (Str.ofString "__main__") 164), none, some (Value.ref 0)] }
noncomputable def heap46 (P : Params) : Heap := { objs := { toList := boot_o_0 P :: boot_o_1 P :: boot_o_2 P :: boot_o_3 P :: boot_o_4 P :: boot_o_5 P :: boot_o_6 P :: boot_o_7 P :: boot_o_8 P :: boot_o_9 P :: boot_o_10 P :: o43 P :: o44 P :: o45 P :: o46 P :: [] } }
noncomputable def o392 (P : Params) : Obj := { cls := Value.type "dict", data := Data.dict #[{ hash := PyData.keyHash P (Str.ofString "__name__"), key := Value.str (Str.ofString "__name__") 165, val := Value.str (Str.ofString "law_pb0187_01") 660 }, { hash := PyData.keyHash P (Str.ofString "__doc__"), key := Value.str (Str.ofString "__doc__") 166, val := Value.none }, { hash := PyData.keyHash P (Str.ofString "__package__"), key := Value.str (Str.ofString "__package__") 167, val := Value.none }, { hash := PyData.keyHash P (Str.ofString "__loader__"), key := Value.str (Str.ofString "__loader__") 168, val := Value.builtin "__main__.__loader__#opaque" }, { hash := PyData.keyHash P (Str.ofString "__spec__"), key := Value.str (Str.ofString "__spec__") 169, val := Value.none }, { hash := PyData.keyHash P (Str.ofString "__annotations__"), key := Value.str (Str.ofString "__annotations__") 170, val := Value.ref 6 }, { hash := PyData.keyHash P (Str.ofString "__builtins__"), key := Value.str (Str.ofString "__builtins__") 171, val := Value.ref 4 }, { hash := PyData.keyHash P (Str.ofString "__file__"), key := Value.str (Str.ofString "__file__") 173, val := Value.str (Str.ofString "/claim/cut.py") 172 }, { hash := PyData.keyHash P (Str.ofString "__cached__"), key := Value.str (Str.ofString "__cached__") 174, val := Value.none }, { hash := PyData.keyHash P (Str.ofString "_wall"), key := Value.str (Str.ofString "_wall") 193, val := Value.ref 21 }, { hash := PyData.keyHash P (Str.ofString "IGNORE_BASES"), key := Value.str (Str.ofString "IGNORE_BASES") 197, val := Value.int 2 196 }, { hash := PyData.keyHash P (Str.ofString "IGNORE_LIGATURES"), key := Value.str (Str.ofString "IGNORE_LIGATURES") 199, val := Value.int 4 198 }, { hash := PyData.keyHash P (Str.ofString "IGNORE_MARKS"), key := Value.str (Str.ofString "IGNORE_MARKS") 201, val := Value.int 8 200 }, { hash := PyData.keyHash P (Str.ofString "USE_SET"), key := Value.str (Str.ofString "USE_SET") 203, val := Value.int 16 202 }, { hash := PyData.keyHash P (Str.ofString "Lookup"), key := Value.str (Str.ofString "Lookup") 244, val := Value.ref 43 }, { hash := PyData.keyHash P (Str.ofString "Scene"), key := Value.str (Str.ofString "Scene") 285, val := Value.ref 65 }, { hash := PyData.keyHash P (Str.ofString "attach_wanted"), key := Value.str (Str.ofString "attach_wanted") 292, val := Value.ref 76 }, { hash := PyData.keyHash P (Str.ofString "class_bit"), key := Value.str (Str.ofString "class_bit") 299, val := Value.ref 83 }, { hash := PyData.keyHash P (Str.ofString "is_ignored"), key := Value.str (Str.ofString "is_ignored") 310, val := Value.ref 90 }, { hash := PyData.keyHash P (Str.ofString "passes"), key := Value.str (Str.ofString "passes") 318, val := Value.ref 97 }, { hash := PyData.keyHash P (Str.ofString "takes"), key := Value.str (Str.ofString "takes") 326, val := Value.ref 104 }, { hash := PyData.keyHash P (Str.ofString "nested_scene"), key := Value.str (Str.ofString "nested_scene") 335, val := Value.ref 111 }, { hash := PyData.keyHash P (Str.ofString "Info"), key := Value.str (Str.ofString "Info") 397, val := Value.ref 142 }, { hash := PyData.keyHash P (Str.ofString "Buffer"), key := Value.str (Str.ofString "Buffer") 463, val := Value.ref 195 }, { hash := PyData.keyHash P (Str.ofString "ClassDef"), key := Value.str (Str.ofString "ClassDef") 525, val := Value.ref 242 }, { hash := PyData.keyHash P (Str.ofString "Coverage"), key := Value.str (Str.ofString "Coverage") 582, val := Value.ref 284 }, { hash := PyData.keyHash P (Str.ofString "NO_CLASS"), key := Value.str (Str.ofString "NO_CLASS") 586, val := Value.int 0 585 }, { hash := PyData.keyHash P (Str.ofString "BASE"), key := Value.str (Str.ofString "BASE") 588, val := Value.int 1 587 }, { hash := PyData.keyHash P (Str.ofString "COMPONENT"), key := Value.str (Str.ofString "COMPONENT") 590, val := Value.int 4 589 }, { hash := PyData.keyHash P (Str.ofString "Gdef"), key := Value.str (Str.ofString "Gdef") 659, val := Value.ref 332 }, { hash := PyData.keyHash P (Str.ofString "_law_draw"), key := Value.str (Str.ofString "_law_draw") 671, val := Value.ref 343 }, { hash := PyData.keyHash P (Str.ofString "_law_seen"), key := Value.str (Str.ofString "_law_seen") 677, val := Value.ref 348 }, { hash := PyData.keyHash P (Str.ofString "law"), key := Value.str (Str.ofString "law") 683, val := Value.ref 353 }] 33 }
noncomputable def o393 (_ : Params) : Obj := { cls := Value.none, data := Data.fields #[Value.int 1 0, Value.int 0 0, Value.ref 20, Value.int 9 0, Value.int 0 0, Value.ref 27, Value.int 20 0, Value.int 0 0, Value.ref 53, Value.int 30 0, Value.int 0 0, Value.ref 75, Value.int 32 0, Value.int 0 0, Value.ref 82, Value.int 34 0, Value.int 0 0, Value.ref 89, Value.int 44 0, Value.int 0 0, Value.ref 96, Value.int 46 0, Value.int 0 0, Value.ref 103, Value.int 48 0, Value.int 0 0, Value.ref 110, Value.int 55 0, Value.int 0 0, Value.ref 117, Value.int 80 0, Value.int 0 0, Value.ref 152, Value.int 103 0, Value.int 0 0, Value.ref 205, Value.int 123 0, Value.int 0 0, Value.ref 252, Value.int 150 0, Value.int 0 0, Value.ref 294, Value.int 174 0, Value.int 0 0, Value.ref 342, Value.int 179 0, Value.int 0 0, Value.ref 347, Value.int 181 0, Value.int 0 0, Value.ref 352] }
noncomputable def o51 (_ : Params) : Obj := { cls := Value.type "tuple", data := Data.seq #[] }
noncomputable def o52 (_ : Params) : Obj := { cls := Value.none, data := Data.fields #[] }
noncomputable def o53 (_ : Params) : Obj := { cls := Value.type "tuple", data := Data.seq #[Value.str (Str.ofString "k") 190] }
noncomputable def o54 (_ : Params) : Obj := { cls := Value.type "tuple", data := Data.seq #[] }
noncomputable def o55 (_ : Params) : Obj := { cls := Value.none, data := Data.func { name := Str.ofString "_wall", qualname := Str.ofString "_wall", params := fnParams (cell 0), body := fnBody (cell 0), scope := fnScope (cell 0), globals := 0, closure := [], defaults := Value.none, kwdefaults := Value.none } }
noncomputable def o56 (_ : Params) : Obj := { cls := Value.type "code", data := Data.fields #[Value.str (Str.ofString "_wall") 187, Value.str (Str.ofString "_wall") 188, Value.str (Str.ofString "/claim/cut.py") 189, Value.int 1 0, Value.int 1 0, Value.int 0 0, Value.int 0 0, Value.int 3 0, Value.ref 15, Value.bool true, Value.int 181 0, Value.ref 16, Value.none, Value.ref 17, Value.ref 18, Value.ref 19, Value.int 191 0, Value.int 1 0, Value.str (Str.ofString "/claim/cut.py") 192] }
noncomputable def o57 (_ : Params) : Obj := { cls := Value.type "function", data := Data.func { name := Str.ofString "_wall", qualname := Str.ofString "_wall", params := fnParams (cell 0), body := fnBody (cell 0), scope := fnScope (cell 0), globals := 3, closure := [], defaults := Value.none, kwdefaults := Value.none, pyModule := Value.str (Str.ofString "__main__") 164, code := Value.ref 20 } }
noncomputable def o58 (_ : Params) : Obj := { cls := Value.type "tuple", data := Data.seq #[] }
noncomputable def o59 (_ : Params) : Obj := { cls := Value.type "builtin_function_or_method", data := Data.fields #[Value.builtin "type.__prepare__", Value.type "type"] }
noncomputable def o60 (P : Params) : Obj := { cls := Value.type "dict", data := Data.dict #[{ hash := PyData.keyHash P (Str.ofString "__module__"), key := Value.str (Str.ofString "__module__") 211, val := Value.str (Str.ofString "joinedhand.flags") 194 }, { hash := PyData.keyHash P (Str.ofString "__qualname__"), key := Value.str (Str.ofString "__qualname__") 213, val := Value.str (Str.ofString "Lookup") 212 }, { hash := PyData.keyHash P (Str.ofString "__firstlineno__"), key := Value.str (Str.ofString "__firstlineno__") 215, val := Value.int 9 214 }, { hash := PyData.keyHash P (Str.ofString "__init__"), key := Value.str (Str.ofString "__init__") 226, val := Value.ref 35 }, { hash := PyData.keyHash P (Str.ofString "told"), key := Value.str (Str.ofString "told") 232, val := Value.ref 40 }, { hash := PyData.keyHash P (Str.ofString "__static_attributes__"), key := Value.str (Str.ofString "__static_attributes__") 237, val := Value.ref 41 }] 6 }
noncomputable def o61 (_ : Params) : Obj := { cls := Value.type "tuple", data := Data.seq #[] }
noncomputable def o62 (_ : Params) : Obj := { cls := Value.none, data := Data.fields #[Value.int 11 0, Value.int 4 0, Value.ref 34, Value.int 17 0, Value.int 4 0, Value.ref 39] }
noncomputable def o63 (_ : Params) : Obj := { cls := Value.type "code", data := Data.fields #[Value.str (Str.ofString "Lookup") 206, Value.str (Str.ofString "Lookup") 207, Value.str (Str.ofString "/claim/cut.py") 208, Value.int 9 0, Value.int 0 0, Value.int 0 0, Value.int 0 0, Value.int 0 0, Value.ref 25, Value.bool false, Value.int 181 0, Value.ref 26, Value.none, Value.none, Value.none, Value.none, Value.int 209 0, Value.int 9 0, Value.str (Str.ofString "/claim/cut.py") 210] }
noncomputable def o64 (_ : Params) : Obj := { cls := Value.type "frame", slots := #[some (Value.ref 27), some (Value.ref 3), some (Value.ref 24), none, some (Value.str (Str.ofString "joinedhand.flags") 194), none, some (Value.ref 0)] }
noncomputable def o65 (_ : Params) : Obj := { cls := Value.type "tuple", data := Data.seq #[] }
noncomputable def o66 (_ : Params) : Obj := { cls := Value.none, data := Data.fields #[] }
noncomputable def o67 (_ : Params) : Obj := { cls := Value.type "tuple", data := Data.seq #[Value.str (Str.ofString "self") 219, Value.str (Str.ofString "kind") 220, Value.str (Str.ofString "flag") 221, Value.str (Str.ofString "mark_set") 222, Value.str (Str.ofString "tables") 223] }
noncomputable def o68 (_ : Params) : Obj := { cls := Value.type "tuple", data := Data.seq #[] }
noncomputable def o69 (_ : Params) : Obj := { cls := Value.none, data := Data.func { name := Str.ofString "__init__", qualname := Str.ofString "Lookup.__init__", params := fnParams (meth 6 0), body := fnBody (meth 6 0), scope := fnScope (meth 6 0), globals := 0, closure := [], defaults := Value.none, kwdefaults := Value.none } }
noncomputable def o70 (_ : Params) : Obj := { cls := Value.type "code", data := Data.fields #[Value.str (Str.ofString "__init__") 216, Value.str (Str.ofString "Lookup.__init__") 217, Value.str (Str.ofString "/claim/cut.py") 218, Value.int 11 0, Value.int 5 0, Value.int 0 0, Value.int 0 0, Value.int 3 0, Value.ref 29, Value.bool true, Value.int 181 0, Value.ref 30, Value.none, Value.ref 31, Value.ref 32, Value.ref 33, Value.int 224 0, Value.int 11 0, Value.str (Str.ofString "/claim/cut.py") 225] }
noncomputable def o71 (_ : Params) : Obj := { cls := Value.type "function", data := Data.func { name := Str.ofString "__init__", qualname := Str.ofString "Lookup.__init__", params := fnParams (meth 6 0), body := fnBody (meth 6 0), scope := fnScope (meth 6 0), globals := 3, closure := [], defaults := Value.none, kwdefaults := Value.none, pyModule := Value.str (Str.ofString "joinedhand.flags") 194, code := Value.ref 34 } }
noncomputable def o72 (_ : Params) : Obj := { cls := Value.type "tuple", data := Data.seq #[] }
noncomputable def o73 (_ : Params) : Obj := { cls := Value.none, data := Data.fields #[] }
noncomputable def o74 (_ : Params) : Obj := { cls := Value.none, data := Data.func { name := Str.ofString "told", qualname := Str.ofString "Lookup.told", params := fnParams (meth 6 1), body := fnBody (meth 6 1), scope := fnScope (meth 6 1), globals := 0, closure := [], defaults := Value.none, kwdefaults := Value.none } }
noncomputable def o75 (_ : Params) : Obj := { cls := Value.type "code", data := Data.fields #[Value.str (Str.ofString "told") 227, Value.str (Str.ofString "Lookup.told") 228, Value.str (Str.ofString "/claim/cut.py") 229, Value.int 17 0, Value.int 1 0, Value.int 0 0, Value.int 0 0, Value.int 3 0, Value.ref 36, Value.bool true, Value.int 181 0, Value.ref 37, Value.none, Value.none, Value.none, Value.ref 38, Value.int 230 0, Value.int 17 0, Value.str (Str.ofString "/claim/cut.py") 231] }
noncomputable def o76 (_ : Params) : Obj := { cls := Value.type "function", data := Data.func { name := Str.ofString "told", qualname := Str.ofString "Lookup.told", params := fnParams (meth 6 1), body := fnBody (meth 6 1), scope := fnScope (meth 6 1), globals := 3, closure := [], defaults := Value.none, kwdefaults := Value.none, pyModule := Value.str (Str.ofString "joinedhand.flags") 194, code := Value.ref 39 } }
noncomputable def o77 (_ : Params) : Obj := { cls := Value.type "tuple", data := Data.seq #[Value.str (Str.ofString "flag") 233, Value.str (Str.ofString "kind") 234, Value.str (Str.ofString "mark_set") 235, Value.str (Str.ofString "tables") 236] }
noncomputable def o78 (P : Params) : Obj := { cls := Value.type "dict", data := Data.dict #[{ hash := PyData.keyHash P (Str.ofString "__module__"), key := Value.str (Str.ofString "__module__") 211, val := Value.str (Str.ofString "joinedhand.flags") 194 }, { hash := PyData.keyHash P (Str.ofString "__firstlineno__"), key := Value.str (Str.ofString "__firstlineno__") 215, val := Value.int 9 214 }, { hash := PyData.keyHash P (Str.ofString "__init__"), key := Value.str (Str.ofString "__init__") 226, val := Value.ref 35 }, { hash := PyData.keyHash P (Str.ofString "told"), key := Value.str (Str.ofString "told") 232, val := Value.ref 40 }, { hash := PyData.keyHash P (Str.ofString "__static_attributes__"), key := Value.str (Str.ofString "__static_attributes__") 237, val := Value.ref 41 }, { hash := PyData.keyHash P (Str.ofString "__dict__"), key := Value.str (Str.ofString "__dict__") 239, val := Value.ref 44 }, { hash := PyData.keyHash P (Str.ofString "__weakref__"), key := Value.str (Str.ofString "__weakref__") 241, val := Value.ref 45 }, { hash := PyData.keyHash P (Str.ofString "__doc__"), key := Value.str (Str.ofString "__doc__") 242, val := Value.none }] 4 }
noncomputable def o79 (_ : Params) : Obj := { cls := Value.type "type", data := Data.cls { name := Str.ofString "Lookup", bases := [Value.type "object"], mro := [Value.ref 43, Value.type "object"], ns := 42, qualname := Str.ofString "Lookup" }, slots := #[none, none, some (Value.str (Str.ofString "Lookup") 204), some (Value.str (Str.ofString "Lookup") 212), some (Value.builtin "object.__new__"), some (Value.bool true)] }
noncomputable def o80 (_ : Params) : Obj := { cls := Value.type "getset_descriptor", data := Data.fields #[Value.str (Str.ofString "__dict__") 238, Value.ref 43, Value.builtin "function.__dict__", Value.builtin "function.__dict__#set"] }
noncomputable def o81 (_ : Params) : Obj := { cls := Value.type "getset_descriptor", data := Data.fields #[Value.str (Str.ofString "__weakref__") 240, Value.ref 43, Value.builtin "ExceptionGroup.__weakref__", Value.none] }
noncomputable def o82 (_ : Params) : Obj := { cls := Value.type "super", data := Data.fields #[Value.ref 43, Value.ref 43, Value.ref 43] }
noncomputable def o83 (_ : Params) : Obj := { cls := Value.type "builtin_function_or_method", data := Data.fields #[Value.builtin "object.__init_subclass__", Value.ref 43] }
noncomputable def o86 (_ : Params) : Obj := { cls := Value.type "tuple", data := Data.seq #[] }
noncomputable def o87 (_ : Params) : Obj := { cls := Value.type "builtin_function_or_method", data := Data.fields #[Value.builtin "type.__prepare__", Value.type "type"] }
noncomputable def o88 (P : Params) : Obj := { cls := Value.type "dict", data := Data.dict #[{ hash := PyData.keyHash P (Str.ofString "__module__"), key := Value.str (Str.ofString "__module__") 252, val := Value.str (Str.ofString "joinedhand.flags") 194 }, { hash := PyData.keyHash P (Str.ofString "__qualname__"), key := Value.str (Str.ofString "__qualname__") 254, val := Value.str (Str.ofString "Scene") 253 }, { hash := PyData.keyHash P (Str.ofString "__firstlineno__"), key := Value.str (Str.ofString "__firstlineno__") 256, val := Value.int 20 255 }, { hash := PyData.keyHash P (Str.ofString "__init__"), key := Value.str (Str.ofString "__init__") 270, val := Value.ref 62 }, { hash := PyData.keyHash P (Str.ofString "__static_attributes__"), key := Value.str (Str.ofString "__static_attributes__") 278, val := Value.ref 63 }] 5 }
noncomputable def o89 (_ : Params) : Obj := { cls := Value.type "tuple", data := Data.seq #[] }
noncomputable def o90 (_ : Params) : Obj := { cls := Value.none, data := Data.fields #[Value.int 22 0, Value.int 4 0, Value.ref 61] }
noncomputable def o91 (_ : Params) : Obj := { cls := Value.type "code", data := Data.fields #[Value.str (Str.ofString "Scene") 247, Value.str (Str.ofString "Scene") 248, Value.str (Str.ofString "/claim/cut.py") 249, Value.int 20 0, Value.int 0 0, Value.int 0 0, Value.int 0 0, Value.int 0 0, Value.ref 51, Value.bool false, Value.int 181 0, Value.ref 52, Value.none, Value.none, Value.none, Value.none, Value.int 250 0, Value.int 20 0, Value.str (Str.ofString "/claim/cut.py") 251] }
noncomputable def o92 (_ : Params) : Obj := { cls := Value.type "frame", slots := #[some (Value.ref 53), some (Value.ref 3), some (Value.ref 50), none, some (Value.str (Str.ofString "joinedhand.flags") 194), none, some (Value.ref 0)] }
noncomputable def o93 (_ : Params) : Obj := { cls := Value.type "tuple", data := Data.seq #[Value.int 0 257] }
noncomputable def o94 (_ : Params) : Obj := { cls := Value.type "tuple", data := Data.seq #[] }
noncomputable def o95 (_ : Params) : Obj := { cls := Value.none, data := Data.fields #[] }
noncomputable def o96 (_ : Params) : Obj := { cls := Value.type "tuple", data := Data.seq #[Value.str (Str.ofString "self") 261, Value.str (Str.ofString "buffer") 262, Value.str (Str.ofString "gdef") 263, Value.str (Str.ofString "lookups") 264, Value.str (Str.ofString "lookup") 265, Value.str (Str.ofString "mask") 266, Value.str (Str.ofString "depth") 267] }
noncomputable def o97 (_ : Params) : Obj := { cls := Value.type "tuple", data := Data.seq #[] }
noncomputable def o98 (_ : Params) : Obj := { cls := Value.none, data := Data.func { name := Str.ofString "__init__", qualname := Str.ofString "Scene.__init__", params := fnParams (meth 7 0), body := fnBody (meth 7 0), scope := fnScope (meth 7 0), globals := 0, closure := [], defaults := Value.none, kwdefaults := Value.none } }
noncomputable def o99 (_ : Params) : Obj := { cls := Value.type "code", data := Data.fields #[Value.str (Str.ofString "__init__") 258, Value.str (Str.ofString "Scene.__init__") 259, Value.str (Str.ofString "/claim/cut.py") 260, Value.int 22 0, Value.int 7 0, Value.int 0 0, Value.int 0 0, Value.int 3 0, Value.ref 56, Value.bool true, Value.int 181 0, Value.ref 57, Value.none, Value.ref 58, Value.ref 59, Value.ref 60, Value.int 268 0, Value.int 22 0, Value.str (Str.ofString "/claim/cut.py") 269] }
noncomputable def o100 (_ : Params) : Obj := { cls := Value.type "function", data := Data.func { name := Str.ofString "__init__", qualname := Str.ofString "Scene.__init__", params := fnParams (meth 7 0), body := fnBody (meth 7 0), scope := fnScope (meth 7 0), globals := 3, closure := [], defaults := Value.ref 55, kwdefaults := Value.none, pyModule := Value.str (Str.ofString "joinedhand.flags") 194, code := Value.ref 61 } }
noncomputable def o101 (_ : Params) : Obj := { cls := Value.type "tuple", data := Data.seq #[Value.str (Str.ofString "buffer") 271, Value.str (Str.ofString "depth") 272, Value.str (Str.ofString "gdef") 273, Value.str (Str.ofString "lookup") 274, Value.str (Str.ofString "lookups") 275, Value.str (Str.ofString "mask") 276, Value.str (Str.ofString "steps") 277] }
noncomputable def o102 (P : Params) : Obj := { cls := Value.type "dict", data := Data.dict #[{ hash := PyData.keyHash P (Str.ofString "__module__"), key := Value.str (Str.ofString "__module__") 252, val := Value.str (Str.ofString "joinedhand.flags") 194 }, { hash := PyData.keyHash P (Str.ofString "__firstlineno__"), key := Value.str (Str.ofString "__firstlineno__") 256, val := Value.int 20 255 }, { hash := PyData.keyHash P (Str.ofString "__init__"), key := Value.str (Str.ofString "__init__") 270, val := Value.ref 62 }, { hash := PyData.keyHash P (Str.ofString "__static_attributes__"), key := Value.str (Str.ofString "__static_attributes__") 278, val := Value.ref 63 }, { hash := PyData.keyHash P (Str.ofString "__dict__"), key := Value.str (Str.ofString "__dict__") 280, val := Value.ref 66 }, { hash := PyData.keyHash P (Str.ofString "__weakref__"), key := Value.str (Str.ofString "__weakref__") 282, val := Value.ref 67 }, { hash := PyData.keyHash P (Str.ofString "__doc__"), key := Value.str (Str.ofString "__doc__") 283, val := Value.none }] 4 }
noncomputable def o103 (_ : Params) : Obj := { cls := Value.type "type", data := Data.cls { name := Str.ofString "Scene", bases := [Value.type "object"], mro := [Value.ref 65, Value.type "object"], ns := 64, qualname := Str.ofString "Scene" }, slots := #[none, none, some (Value.str (Str.ofString "Scene") 245), some (Value.str (Str.ofString "Scene") 253), some (Value.builtin "object.__new__"), some (Value.bool true)] }
noncomputable def o104 (_ : Params) : Obj := { cls := Value.type "getset_descriptor", data := Data.fields #[Value.str (Str.ofString "__dict__") 279, Value.ref 65, Value.builtin "function.__dict__", Value.builtin "function.__dict__#set"] }
noncomputable def o105 (_ : Params) : Obj := { cls := Value.type "getset_descriptor", data := Data.fields #[Value.str (Str.ofString "__weakref__") 281, Value.ref 65, Value.builtin "ExceptionGroup.__weakref__", Value.none] }
noncomputable def o106 (_ : Params) : Obj := { cls := Value.type "super", data := Data.fields #[Value.ref 65, Value.ref 65, Value.ref 65] }
noncomputable def o107 (_ : Params) : Obj := { cls := Value.type "builtin_function_or_method", data := Data.fields #[Value.builtin "object.__init_subclass__", Value.ref 65] }
noncomputable def o108 (_ : Params) : Obj := { cls := Value.type "tuple", data := Data.seq #[] }
noncomputable def o109 (_ : Params) : Obj := { cls := Value.none, data := Data.fields #[] }
noncomputable def o110 (_ : Params) : Obj := { cls := Value.type "tuple", data := Data.seq #[Value.str (Str.ofString "flag") 289] }
noncomputable def o111 (_ : Params) : Obj := { cls := Value.type "tuple", data := Data.seq #[] }
noncomputable def o112 (_ : Params) : Obj := { cls := Value.none, data := Data.func { name := Str.ofString "attach_wanted", qualname := Str.ofString "attach_wanted", params := fnParams (cell 8), body := fnBody (cell 8), scope := fnScope (cell 8), globals := 0, closure := [], defaults := Value.none, kwdefaults := Value.none } }
noncomputable def o113 (_ : Params) : Obj := { cls := Value.type "code", data := Data.fields #[Value.str (Str.ofString "attach_wanted") 286, Value.str (Str.ofString "attach_wanted") 287, Value.str (Str.ofString "/claim/cut.py") 288, Value.int 30 0, Value.int 1 0, Value.int 0 0, Value.int 0 0, Value.int 3 0, Value.ref 70, Value.bool true, Value.int 181 0, Value.ref 71, Value.none, Value.ref 72, Value.ref 73, Value.ref 74, Value.int 290 0, Value.int 30 0, Value.str (Str.ofString "/claim/cut.py") 291] }
noncomputable def o114 (_ : Params) : Obj := { cls := Value.type "function", data := Data.func { name := Str.ofString "attach_wanted", qualname := Str.ofString "attach_wanted", params := fnParams (cell 8), body := fnBody (cell 8), scope := fnScope (cell 8), globals := 3, closure := [], defaults := Value.none, kwdefaults := Value.none, pyModule := Value.str (Str.ofString "joinedhand.flags") 194, code := Value.ref 75 } }
noncomputable def o115 (_ : Params) : Obj := { cls := Value.type "tuple", data := Data.seq #[] }
noncomputable def o116 (_ : Params) : Obj := { cls := Value.none, data := Data.fields #[] }
noncomputable def o117 (_ : Params) : Obj := { cls := Value.type "tuple", data := Data.seq #[Value.str (Str.ofString "number") 296] }
noncomputable def o118 (_ : Params) : Obj := { cls := Value.type "tuple", data := Data.seq #[] }
noncomputable def o119 (_ : Params) : Obj := { cls := Value.none, data := Data.func { name := Str.ofString "class_bit", qualname := Str.ofString "class_bit", params := fnParams (cell 9), body := fnBody (cell 9), scope := fnScope (cell 9), globals := 0, closure := [], defaults := Value.none, kwdefaults := Value.none } }
noncomputable def o120 (_ : Params) : Obj := { cls := Value.type "code", data := Data.fields #[Value.str (Str.ofString "class_bit") 293, Value.str (Str.ofString "class_bit") 294, Value.str (Str.ofString "/claim/cut.py") 295, Value.int 32 0, Value.int 1 0, Value.int 0 0, Value.int 0 0, Value.int 3 0, Value.ref 77, Value.bool true, Value.int 181 0, Value.ref 78, Value.none, Value.ref 79, Value.ref 80, Value.ref 81, Value.int 297 0, Value.int 32 0, Value.str (Str.ofString "/claim/cut.py") 298] }
noncomputable def o121 (_ : Params) : Obj := { cls := Value.type "function", data := Data.func { name := Str.ofString "class_bit", qualname := Str.ofString "class_bit", params := fnParams (cell 9), body := fnBody (cell 9), scope := fnScope (cell 9), globals := 3, closure := [], defaults := Value.none, kwdefaults := Value.none, pyModule := Value.str (Str.ofString "joinedhand.flags") 194, code := Value.ref 82 } }
noncomputable def o122 (_ : Params) : Obj := { cls := Value.type "tuple", data := Data.seq #[] }
noncomputable def o123 (_ : Params) : Obj := { cls := Value.none, data := Data.fields #[] }
noncomputable def o124 (_ : Params) : Obj := { cls := Value.type "tuple", data := Data.seq #[Value.str (Str.ofString "gdef") 303, Value.str (Str.ofString "lookup") 304, Value.str (Str.ofString "glyph") 305, Value.str (Str.ofString "number") 306, Value.str (Str.ofString "wanted") 307] }
noncomputable def o125 (_ : Params) : Obj := { cls := Value.type "tuple", data := Data.seq #[] }
noncomputable def o126 (_ : Params) : Obj := { cls := Value.none, data := Data.func { name := Str.ofString "is_ignored", qualname := Str.ofString "is_ignored", params := fnParams (cell 10), body := fnBody (cell 10), scope := fnScope (cell 10), globals := 0, closure := [], defaults := Value.none, kwdefaults := Value.none } }
noncomputable def o127 (_ : Params) : Obj := { cls := Value.type "code", data := Data.fields #[Value.str (Str.ofString "is_ignored") 300, Value.str (Str.ofString "is_ignored") 301, Value.str (Str.ofString "/claim/cut.py") 302, Value.int 34 0, Value.int 3 0, Value.int 0 0, Value.int 0 0, Value.int 3 0, Value.ref 84, Value.bool true, Value.int 181 0, Value.ref 85, Value.none, Value.ref 86, Value.ref 87, Value.ref 88, Value.int 308 0, Value.int 34 0, Value.str (Str.ofString "/claim/cut.py") 309] }
noncomputable def o128 (_ : Params) : Obj := { cls := Value.type "function", data := Data.func { name := Str.ofString "is_ignored", qualname := Str.ofString "is_ignored", params := fnParams (cell 10), body := fnBody (cell 10), scope := fnScope (cell 10), globals := 3, closure := [], defaults := Value.none, kwdefaults := Value.none, pyModule := Value.str (Str.ofString "joinedhand.flags") 194, code := Value.ref 89 } }
noncomputable def o129 (_ : Params) : Obj := { cls := Value.type "tuple", data := Data.seq #[] }
noncomputable def o130 (_ : Params) : Obj := { cls := Value.none, data := Data.fields #[] }
noncomputable def o131 (_ : Params) : Obj := { cls := Value.type "tuple", data := Data.seq #[Value.str (Str.ofString "scene") 314, Value.str (Str.ofString "at") 315] }
noncomputable def o132 (_ : Params) : Obj := { cls := Value.type "tuple", data := Data.seq #[] }
noncomputable def o133 (_ : Params) : Obj := { cls := Value.none, data := Data.func { name := Str.ofString "passes", qualname := Str.ofString "passes", params := fnParams (cell 11), body := fnBody (cell 11), scope := fnScope (cell 11), globals := 0, closure := [], defaults := Value.none, kwdefaults := Value.none } }
noncomputable def o134 (_ : Params) : Obj := { cls := Value.type "code", data := Data.fields #[Value.str (Str.ofString "passes") 311, Value.str (Str.ofString "passes") 312, Value.str (Str.ofString "/claim/cut.py") 313, Value.int 44 0, Value.int 2 0, Value.int 0 0, Value.int 0 0, Value.int 3 0, Value.ref 91, Value.bool true, Value.int 181 0, Value.ref 92, Value.none, Value.ref 93, Value.ref 94, Value.ref 95, Value.int 316 0, Value.int 44 0, Value.str (Str.ofString "/claim/cut.py") 317] }
noncomputable def o135 (_ : Params) : Obj := { cls := Value.type "function", data := Data.func { name := Str.ofString "passes", qualname := Str.ofString "passes", params := fnParams (cell 11), body := fnBody (cell 11), scope := fnScope (cell 11), globals := 3, closure := [], defaults := Value.none, kwdefaults := Value.none, pyModule := Value.str (Str.ofString "joinedhand.flags") 194, code := Value.ref 96 } }
noncomputable def o136 (_ : Params) : Obj := { cls := Value.type "tuple", data := Data.seq #[] }
noncomputable def o137 (_ : Params) : Obj := { cls := Value.none, data := Data.fields #[] }
noncomputable def o138 (_ : Params) : Obj := { cls := Value.type "tuple", data := Data.seq #[Value.str (Str.ofString "scene") 322, Value.str (Str.ofString "at") 323] }
noncomputable def o139 (_ : Params) : Obj := { cls := Value.type "tuple", data := Data.seq #[] }
noncomputable def o140 (_ : Params) : Obj := { cls := Value.none, data := Data.func { name := Str.ofString "takes", qualname := Str.ofString "takes", params := fnParams (cell 12), body := fnBody (cell 12), scope := fnScope (cell 12), globals := 0, closure := [], defaults := Value.none, kwdefaults := Value.none } }
noncomputable def o141 (_ : Params) : Obj := { cls := Value.type "code", data := Data.fields #[Value.str (Str.ofString "takes") 319, Value.str (Str.ofString "takes") 320, Value.str (Str.ofString "/claim/cut.py") 321, Value.int 46 0, Value.int 2 0, Value.int 0 0, Value.int 0 0, Value.int 3 0, Value.ref 98, Value.bool true, Value.int 181 0, Value.ref 99, Value.none, Value.ref 100, Value.ref 101, Value.ref 102, Value.int 324 0, Value.int 46 0, Value.str (Str.ofString "/claim/cut.py") 325] }
noncomputable def o142 (_ : Params) : Obj := { cls := Value.type "function", data := Data.func { name := Str.ofString "takes", qualname := Str.ofString "takes", params := fnParams (cell 12), body := fnBody (cell 12), scope := fnScope (cell 12), globals := 3, closure := [], defaults := Value.none, kwdefaults := Value.none, pyModule := Value.str (Str.ofString "joinedhand.flags") 194, code := Value.ref 103 } }
noncomputable def o145 (_ : Params) : Obj := { cls := Value.type "tuple", data := Data.seq #[] }
noncomputable def o146 (_ : Params) : Obj := { cls := Value.none, data := Data.fields #[] }
noncomputable def o147 (_ : Params) : Obj := { cls := Value.type "tuple", data := Data.seq #[Value.str (Str.ofString "scene") 330, Value.str (Str.ofString "number") 331, Value.str (Str.ofString "found") 332] }
noncomputable def o148 (_ : Params) : Obj := { cls := Value.type "tuple", data := Data.seq #[] }
noncomputable def o149 (_ : Params) : Obj := { cls := Value.none, data := Data.func { name := Str.ofString "nested_scene", qualname := Str.ofString "nested_scene", params := fnParams (cell 13), body := fnBody (cell 13), scope := fnScope (cell 13), globals := 0, closure := [], defaults := Value.none, kwdefaults := Value.none } }
noncomputable def o150 (_ : Params) : Obj := { cls := Value.type "code", data := Data.fields #[Value.str (Str.ofString "nested_scene") 327, Value.str (Str.ofString "nested_scene") 328, Value.str (Str.ofString "/claim/cut.py") 329, Value.int 48 0, Value.int 2 0, Value.int 0 0, Value.int 0 0, Value.int 3 0, Value.ref 105, Value.bool true, Value.int 181 0, Value.ref 106, Value.none, Value.ref 107, Value.ref 108, Value.ref 109, Value.int 333 0, Value.int 48 0, Value.str (Str.ofString "/claim/cut.py") 334] }
noncomputable def o151 (_ : Params) : Obj := { cls := Value.type "function", data := Data.func { name := Str.ofString "nested_scene", qualname := Str.ofString "nested_scene", params := fnParams (cell 13), body := fnBody (cell 13), scope := fnScope (cell 13), globals := 3, closure := [], defaults := Value.none, kwdefaults := Value.none, pyModule := Value.str (Str.ofString "joinedhand.flags") 194, code := Value.ref 110 } }
noncomputable def o152 (_ : Params) : Obj := { cls := Value.type "tuple", data := Data.seq #[] }
noncomputable def o153 (_ : Params) : Obj := { cls := Value.type "builtin_function_or_method", data := Data.fields #[Value.builtin "type.__prepare__", Value.type "type"] }
noncomputable def o154 (P : Params) : Obj := { cls := Value.type "dict", data := Data.dict #[{ hash := PyData.keyHash P (Str.ofString "__module__"), key := Value.str (Str.ofString "__module__") 345, val := Value.str (Str.ofString "joinedhand.buffer") 336 }, { hash := PyData.keyHash P (Str.ofString "__qualname__"), key := Value.str (Str.ofString "__qualname__") 347, val := Value.str (Str.ofString "Info") 346 }, { hash := PyData.keyHash P (Str.ofString "__firstlineno__"), key := Value.str (Str.ofString "__firstlineno__") 349, val := Value.int 55 348 }, { hash := PyData.keyHash P (Str.ofString "__init__"), key := Value.str (Str.ofString "__init__") 359, val := Value.ref 125 }, { hash := PyData.keyHash P (Str.ofString "copied"), key := Value.str (Str.ofString "copied") 366, val := Value.ref 132 }, { hash := PyData.keyHash P (Str.ofString "told"), key := Value.str (Str.ofString "told") 373, val := Value.ref 139 }, { hash := PyData.keyHash P (Str.ofString "__static_attributes__"), key := Value.str (Str.ofString "__static_attributes__") 390, val := Value.ref 140 }] 7 }
noncomputable def o155 (_ : Params) : Obj := { cls := Value.type "tuple", data := Data.seq #[] }
noncomputable def o156 (_ : Params) : Obj := { cls := Value.none, data := Data.fields #[Value.int 57 0, Value.int 4 0, Value.ref 124, Value.int 75 0, Value.int 4 0, Value.ref 131, Value.int 78 0, Value.int 4 0, Value.ref 138] }
noncomputable def o157 (_ : Params) : Obj := { cls := Value.type "code", data := Data.fields #[Value.str (Str.ofString "Info") 340, Value.str (Str.ofString "Info") 341, Value.str (Str.ofString "/claim/cut.py") 342, Value.int 55 0, Value.int 0 0, Value.int 0 0, Value.int 0 0, Value.int 0 0, Value.ref 115, Value.bool false, Value.int 181 0, Value.ref 116, Value.none, Value.none, Value.none, Value.none, Value.int 343 0, Value.int 55 0, Value.str (Str.ofString "/claim/cut.py") 344] }
noncomputable def o158 (_ : Params) : Obj := { cls := Value.type "frame", slots := #[some (Value.ref 117), some (Value.ref 3), some (Value.ref 114), none, some (Value.str (Str.ofString "joinedhand.buffer") 336), none, some (Value.ref 0)] }
noncomputable def o159 (_ : Params) : Obj := { cls := Value.type "tuple", data := Data.seq #[] }
noncomputable def o160 (_ : Params) : Obj := { cls := Value.none, data := Data.fields #[] }
noncomputable def o161 (_ : Params) : Obj := { cls := Value.type "tuple", data := Data.seq #[Value.str (Str.ofString "self") 353, Value.str (Str.ofString "code") 354, Value.str (Str.ofString "glyph") 355, Value.str (Str.ofString "cluster") 356] }
noncomputable def o162 (_ : Params) : Obj := { cls := Value.type "tuple", data := Data.seq #[] }
noncomputable def o163 (_ : Params) : Obj := { cls := Value.none, data := Data.func { name := Str.ofString "__init__", qualname := Str.ofString "Info.__init__", params := fnParams (meth 15 0), body := fnBody (meth 15 0), scope := fnScope (meth 15 0), globals := 0, closure := [], defaults := Value.none, kwdefaults := Value.none } }
noncomputable def o164 (_ : Params) : Obj := { cls := Value.type "code", data := Data.fields #[Value.str (Str.ofString "__init__") 350, Value.str (Str.ofString "Info.__init__") 351, Value.str (Str.ofString "/claim/cut.py") 352, Value.int 57 0, Value.int 4 0, Value.int 0 0, Value.int 0 0, Value.int 3 0, Value.ref 119, Value.bool true, Value.int 181 0, Value.ref 120, Value.none, Value.ref 121, Value.ref 122, Value.ref 123, Value.int 357 0, Value.int 57 0, Value.str (Str.ofString "/claim/cut.py") 358] }
noncomputable def o165 (_ : Params) : Obj := { cls := Value.type "function", data := Data.func { name := Str.ofString "__init__", qualname := Str.ofString "Info.__init__", params := fnParams (meth 15 0), body := fnBody (meth 15 0), scope := fnScope (meth 15 0), globals := 3, closure := [], defaults := Value.none, kwdefaults := Value.none, pyModule := Value.str (Str.ofString "joinedhand.buffer") 336, code := Value.ref 124 } }
noncomputable def o166 (_ : Params) : Obj := { cls := Value.type "tuple", data := Data.seq #[] }
noncomputable def o167 (_ : Params) : Obj := { cls := Value.none, data := Data.fields #[] }
noncomputable def o168 (_ : Params) : Obj := { cls := Value.type "tuple", data := Data.seq #[Value.str (Str.ofString "self") 363] }
noncomputable def o169 (_ : Params) : Obj := { cls := Value.type "tuple", data := Data.seq #[] }
noncomputable def o170 (_ : Params) : Obj := { cls := Value.none, data := Data.func { name := Str.ofString "copied", qualname := Str.ofString "Info.copied", params := fnParams (meth 15 1), body := fnBody (meth 15 1), scope := fnScope (meth 15 1), globals := 0, closure := [], defaults := Value.none, kwdefaults := Value.none } }
noncomputable def o171 (_ : Params) : Obj := { cls := Value.type "code", data := Data.fields #[Value.str (Str.ofString "copied") 360, Value.str (Str.ofString "Info.copied") 361, Value.str (Str.ofString "/claim/cut.py") 362, Value.int 75 0, Value.int 1 0, Value.int 0 0, Value.int 0 0, Value.int 3 0, Value.ref 126, Value.bool true, Value.int 181 0, Value.ref 127, Value.none, Value.ref 128, Value.ref 129, Value.ref 130, Value.int 364 0, Value.int 75 0, Value.str (Str.ofString "/claim/cut.py") 365] }
noncomputable def o172 (_ : Params) : Obj := { cls := Value.type "function", data := Data.func { name := Str.ofString "copied", qualname := Str.ofString "Info.copied", params := fnParams (meth 15 1), body := fnBody (meth 15 1), scope := fnScope (meth 15 1), globals := 3, closure := [], defaults := Value.none, kwdefaults := Value.none, pyModule := Value.str (Str.ofString "joinedhand.buffer") 336, code := Value.ref 131 } }
noncomputable def o173 (_ : Params) : Obj := { cls := Value.type "tuple", data := Data.seq #[] }
noncomputable def o174 (_ : Params) : Obj := { cls := Value.none, data := Data.fields #[] }
noncomputable def o175 (_ : Params) : Obj := { cls := Value.type "tuple", data := Data.seq #[Value.str (Str.ofString "self") 370] }
noncomputable def o176 (_ : Params) : Obj := { cls := Value.type "tuple", data := Data.seq #[] }
noncomputable def o177 (_ : Params) : Obj := { cls := Value.none, data := Data.func { name := Str.ofString "told", qualname := Str.ofString "Info.told", params := fnParams (meth 15 2), body := fnBody (meth 15 2), scope := fnScope (meth 15 2), globals := 0, closure := [], defaults := Value.none, kwdefaults := Value.none } }
noncomputable def o178 (_ : Params) : Obj := { cls := Value.type "code", data := Data.fields #[Value.str (Str.ofString "told") 367, Value.str (Str.ofString "Info.told") 368, Value.str (Str.ofString "/claim/cut.py") 369, Value.int 78 0, Value.int 1 0, Value.int 0 0, Value.int 0 0, Value.int 3 0, Value.ref 133, Value.bool true, Value.int 181 0, Value.ref 134, Value.none, Value.ref 135, Value.ref 136, Value.ref 137, Value.int 371 0, Value.int 78 0, Value.str (Str.ofString "/claim/cut.py") 372] }
noncomputable def o179 (_ : Params) : Obj := { cls := Value.type "function", data := Data.func { name := Str.ofString "told", qualname := Str.ofString "Info.told", params := fnParams (meth 15 2), body := fnBody (meth 15 2), scope := fnScope (meth 15 2), globals := 3, closure := [], defaults := Value.none, kwdefaults := Value.none, pyModule := Value.str (Str.ofString "joinedhand.buffer") 336, code := Value.ref 138 } }
noncomputable def o180 (_ : Params) : Obj := { cls := Value.type "tuple", data := Data.seq #[Value.str (Str.ofString "bond") 374, Value.str (Str.ofString "cluster") 375, Value.str (Str.ofString "code") 376, Value.str (Str.ofString "glyph") 377, Value.str (Str.ofString "is_unsafe") 378, Value.str (Str.ofString "kind") 379, Value.str (Str.ofString "lig_count") 380, Value.str (Str.ofString "lig_id") 381, Value.str (Str.ofString "lig_part") 382, Value.str (Str.ofString "mask") 383, Value.str (Str.ofString "parent") 384, Value.str (Str.ofString "split_id") 385, Value.str (Str.ofString "x_advance") 386, Value.str (Str.ofString "x_offset") 387, Value.str (Str.ofString "y_advance") 388, Value.str (Str.ofString "y_offset") 389] }
noncomputable def o181 (P : Params) : Obj := { cls := Value.type "dict", data := Data.dict #[{ hash := PyData.keyHash P (Str.ofString "__module__"), key := Value.str (Str.ofString "__module__") 345, val := Value.str (Str.ofString "joinedhand.buffer") 336 }, { hash := PyData.keyHash P (Str.ofString "__firstlineno__"), key := Value.str (Str.ofString "__firstlineno__") 349, val := Value.int 55 348 }, { hash := PyData.keyHash P (Str.ofString "__init__"), key := Value.str (Str.ofString "__init__") 359, val := Value.ref 125 }, { hash := PyData.keyHash P (Str.ofString "copied"), key := Value.str (Str.ofString "copied") 366, val := Value.ref 132 }, { hash := PyData.keyHash P (Str.ofString "told"), key := Value.str (Str.ofString "told") 373, val := Value.ref 139 }, { hash := PyData.keyHash P (Str.ofString "__static_attributes__"), key := Value.str (Str.ofString "__static_attributes__") 390, val := Value.ref 140 }, { hash := PyData.keyHash P (Str.ofString "__dict__"), key := Value.str (Str.ofString "__dict__") 392, val := Value.ref 143 }, { hash := PyData.keyHash P (Str.ofString "__weakref__"), key := Value.str (Str.ofString "__weakref__") 394, val := Value.ref 144 }, { hash := PyData.keyHash P (Str.ofString "__doc__"), key := Value.str (Str.ofString "__doc__") 395, val := Value.none }] 4 }
noncomputable def o182 (_ : Params) : Obj := { cls := Value.type "type", data := Data.cls { name := Str.ofString "Info", bases := [Value.type "object"], mro := [Value.ref 142, Value.type "object"], ns := 141, qualname := Str.ofString "Info" }, slots := #[none, none, some (Value.str (Str.ofString "Info") 338), some (Value.str (Str.ofString "Info") 346), some (Value.builtin "object.__new__"), some (Value.bool true)] }
noncomputable def o183 (_ : Params) : Obj := { cls := Value.type "getset_descriptor", data := Data.fields #[Value.str (Str.ofString "__dict__") 391, Value.ref 142, Value.builtin "function.__dict__", Value.builtin "function.__dict__#set"] }
noncomputable def o184 (_ : Params) : Obj := { cls := Value.type "getset_descriptor", data := Data.fields #[Value.str (Str.ofString "__weakref__") 393, Value.ref 142, Value.builtin "ExceptionGroup.__weakref__", Value.none] }
noncomputable def o185 (_ : Params) : Obj := { cls := Value.type "super", data := Data.fields #[Value.ref 142, Value.ref 142, Value.ref 142] }
noncomputable def o186 (_ : Params) : Obj := { cls := Value.type "builtin_function_or_method", data := Data.fields #[Value.builtin "object.__init_subclass__", Value.ref 142] }
noncomputable def o189 (_ : Params) : Obj := { cls := Value.type "tuple", data := Data.seq #[] }
noncomputable def o190 (_ : Params) : Obj := { cls := Value.type "builtin_function_or_method", data := Data.fields #[Value.builtin "type.__prepare__", Value.type "type"] }
noncomputable def o191 (P : Params) : Obj := { cls := Value.type "dict", data := Data.dict #[{ hash := PyData.keyHash P (Str.ofString "__module__"), key := Value.str (Str.ofString "__module__") 405, val := Value.str (Str.ofString "joinedhand.buffer") 336 }, { hash := PyData.keyHash P (Str.ofString "__qualname__"), key := Value.str (Str.ofString "__qualname__") 407, val := Value.str (Str.ofString "Buffer") 406 }, { hash := PyData.keyHash P (Str.ofString "__firstlineno__"), key := Value.str (Str.ofString "__firstlineno__") 409, val := Value.int 80 408 }, { hash := PyData.keyHash P (Str.ofString "__init__"), key := Value.str (Str.ofString "__init__") 418, val := Value.ref 161 }, { hash := PyData.keyHash P (Str.ofString "glyphs"), key := Value.str (Str.ofString "glyphs") 424, val := Value.ref 166 }, { hash := PyData.keyHash P (Str.ofString "clusters"), key := Value.str (Str.ofString "clusters") 431, val := Value.ref 173 }, { hash := PyData.keyHash P (Str.ofString "told"), key := Value.str (Str.ofString "told") 437, val := Value.ref 178 }, { hash := PyData.keyHash P (Str.ofString "next_lig"), key := Value.str (Str.ofString "next_lig") 444, val := Value.ref 185 }, { hash := PyData.keyHash P (Str.ofString "next_split"), key := Value.str (Str.ofString "next_split") 451, val := Value.ref 192 }, { hash := PyData.keyHash P (Str.ofString "__static_attributes__"), key := Value.str (Str.ofString "__static_attributes__") 456, val := Value.ref 193 }] 10 }
noncomputable def o192 (_ : Params) : Obj := { cls := Value.type "tuple", data := Data.seq #[] }
noncomputable def o193 (_ : Params) : Obj := { cls := Value.none, data := Data.fields #[Value.int 82 0, Value.int 4 0, Value.ref 160, Value.int 88 0, Value.int 4 0, Value.ref 165, Value.int 91 0, Value.int 4 0, Value.ref 172, Value.int 94 0, Value.int 4 0, Value.ref 177, Value.int 97 0, Value.int 4 0, Value.ref 184, Value.int 100 0, Value.int 4 0, Value.ref 191] }
noncomputable def o194 (_ : Params) : Obj := { cls := Value.type "code", data := Data.fields #[Value.str (Str.ofString "Buffer") 400, Value.str (Str.ofString "Buffer") 401, Value.str (Str.ofString "/claim/cut.py") 402, Value.int 80 0, Value.int 0 0, Value.int 0 0, Value.int 0 0, Value.int 0 0, Value.ref 150, Value.bool false, Value.int 181 0, Value.ref 151, Value.none, Value.none, Value.none, Value.none, Value.int 403 0, Value.int 80 0, Value.str (Str.ofString "/claim/cut.py") 404] }
noncomputable def o195 (_ : Params) : Obj := { cls := Value.type "frame", slots := #[some (Value.ref 152), some (Value.ref 3), some (Value.ref 149), none, some (Value.str (Str.ofString "joinedhand.buffer") 336), none, some (Value.ref 0)] }
noncomputable def o196 (_ : Params) : Obj := { cls := Value.type "tuple", data := Data.seq #[Value.bool false] }
noncomputable def o197 (_ : Params) : Obj := { cls := Value.type "tuple", data := Data.seq #[] }
noncomputable def o198 (_ : Params) : Obj := { cls := Value.none, data := Data.fields #[] }
noncomputable def o199 (_ : Params) : Obj := { cls := Value.type "tuple", data := Data.seq #[Value.str (Str.ofString "self") 413, Value.str (Str.ofString "infos") 414, Value.str (Str.ofString "is_backward") 415] }
noncomputable def o200 (_ : Params) : Obj := { cls := Value.type "tuple", data := Data.seq #[] }
noncomputable def o201 (_ : Params) : Obj := { cls := Value.none, data := Data.func { name := Str.ofString "__init__", qualname := Str.ofString "Buffer.__init__", params := fnParams (meth 16 0), body := fnBody (meth 16 0), scope := fnScope (meth 16 0), globals := 0, closure := [], defaults := Value.none, kwdefaults := Value.none } }
noncomputable def o202 (_ : Params) : Obj := { cls := Value.type "code", data := Data.fields #[Value.str (Str.ofString "__init__") 410, Value.str (Str.ofString "Buffer.__init__") 411, Value.str (Str.ofString "/claim/cut.py") 412, Value.int 82 0, Value.int 3 0, Value.int 0 0, Value.int 0 0, Value.int 3 0, Value.ref 155, Value.bool true, Value.int 181 0, Value.ref 156, Value.none, Value.ref 157, Value.ref 158, Value.ref 159, Value.int 416 0, Value.int 82 0, Value.str (Str.ofString "/claim/cut.py") 417] }
noncomputable def o203 (_ : Params) : Obj := { cls := Value.type "function", data := Data.func { name := Str.ofString "__init__", qualname := Str.ofString "Buffer.__init__", params := fnParams (meth 16 0), body := fnBody (meth 16 0), scope := fnScope (meth 16 0), globals := 3, closure := [], defaults := Value.ref 154, kwdefaults := Value.none, pyModule := Value.str (Str.ofString "joinedhand.buffer") 336, code := Value.ref 160 } }
noncomputable def o204 (_ : Params) : Obj := { cls := Value.type "tuple", data := Data.seq #[] }
noncomputable def o205 (_ : Params) : Obj := { cls := Value.none, data := Data.fields #[] }
noncomputable def o206 (_ : Params) : Obj := { cls := Value.none, data := Data.func { name := Str.ofString "glyphs", qualname := Str.ofString "Buffer.glyphs", params := fnParams (meth 16 1), body := fnBody (meth 16 1), scope := fnScope (meth 16 1), globals := 0, closure := [], defaults := Value.none, kwdefaults := Value.none } }
noncomputable def o207 (_ : Params) : Obj := { cls := Value.type "code", data := Data.fields #[Value.str (Str.ofString "glyphs") 419, Value.str (Str.ofString "Buffer.glyphs") 420, Value.str (Str.ofString "/claim/cut.py") 421, Value.int 88 0, Value.int 1 0, Value.int 0 0, Value.int 0 0, Value.int 3 0, Value.ref 162, Value.bool true, Value.int 181 0, Value.ref 163, Value.none, Value.none, Value.none, Value.ref 164, Value.int 422 0, Value.int 88 0, Value.str (Str.ofString "/claim/cut.py") 423] }
noncomputable def o208 (_ : Params) : Obj := { cls := Value.type "function", data := Data.func { name := Str.ofString "glyphs", qualname := Str.ofString "Buffer.glyphs", params := fnParams (meth 16 1), body := fnBody (meth 16 1), scope := fnScope (meth 16 1), globals := 3, closure := [], defaults := Value.none, kwdefaults := Value.none, pyModule := Value.str (Str.ofString "joinedhand.buffer") 336, code := Value.ref 165 } }
noncomputable def o209 (_ : Params) : Obj := { cls := Value.type "tuple", data := Data.seq #[] }
noncomputable def o210 (_ : Params) : Obj := { cls := Value.none, data := Data.fields #[] }
noncomputable def o211 (_ : Params) : Obj := { cls := Value.type "tuple", data := Data.seq #[Value.str (Str.ofString "self") 428] }
noncomputable def o212 (_ : Params) : Obj := { cls := Value.type "tuple", data := Data.seq #[] }
noncomputable def o213 (_ : Params) : Obj := { cls := Value.none, data := Data.func { name := Str.ofString "clusters", qualname := Str.ofString "Buffer.clusters", params := fnParams (meth 16 2), body := fnBody (meth 16 2), scope := fnScope (meth 16 2), globals := 0, closure := [], defaults := Value.none, kwdefaults := Value.none } }
noncomputable def o214 (_ : Params) : Obj := { cls := Value.type "code", data := Data.fields #[Value.str (Str.ofString "clusters") 425, Value.str (Str.ofString "Buffer.clusters") 426, Value.str (Str.ofString "/claim/cut.py") 427, Value.int 91 0, Value.int 1 0, Value.int 0 0, Value.int 0 0, Value.int 3 0, Value.ref 167, Value.bool true, Value.int 181 0, Value.ref 168, Value.none, Value.ref 169, Value.ref 170, Value.ref 171, Value.int 429 0, Value.int 91 0, Value.str (Str.ofString "/claim/cut.py") 430] }
noncomputable def o215 (_ : Params) : Obj := { cls := Value.type "function", data := Data.func { name := Str.ofString "clusters", qualname := Str.ofString "Buffer.clusters", params := fnParams (meth 16 2), body := fnBody (meth 16 2), scope := fnScope (meth 16 2), globals := 3, closure := [], defaults := Value.none, kwdefaults := Value.none, pyModule := Value.str (Str.ofString "joinedhand.buffer") 336, code := Value.ref 172 } }
noncomputable def o216 (_ : Params) : Obj := { cls := Value.type "tuple", data := Data.seq #[] }
noncomputable def o217 (_ : Params) : Obj := { cls := Value.none, data := Data.fields #[] }
noncomputable def o218 (_ : Params) : Obj := { cls := Value.none, data := Data.func { name := Str.ofString "told", qualname := Str.ofString "Buffer.told", params := fnParams (meth 16 3), body := fnBody (meth 16 3), scope := fnScope (meth 16 3), globals := 0, closure := [], defaults := Value.none, kwdefaults := Value.none } }
noncomputable def o219 (_ : Params) : Obj := { cls := Value.type "code", data := Data.fields #[Value.str (Str.ofString "told") 432, Value.str (Str.ofString "Buffer.told") 433, Value.str (Str.ofString "/claim/cut.py") 434, Value.int 94 0, Value.int 1 0, Value.int 0 0, Value.int 0 0, Value.int 3 0, Value.ref 174, Value.bool true, Value.int 181 0, Value.ref 175, Value.none, Value.none, Value.none, Value.ref 176, Value.int 435 0, Value.int 94 0, Value.str (Str.ofString "/claim/cut.py") 436] }
noncomputable def o220 (_ : Params) : Obj := { cls := Value.type "function", data := Data.func { name := Str.ofString "told", qualname := Str.ofString "Buffer.told", params := fnParams (meth 16 3), body := fnBody (meth 16 3), scope := fnScope (meth 16 3), globals := 3, closure := [], defaults := Value.none, kwdefaults := Value.none, pyModule := Value.str (Str.ofString "joinedhand.buffer") 336, code := Value.ref 177 } }
noncomputable def o221 (_ : Params) : Obj := { cls := Value.type "tuple", data := Data.seq #[] }
noncomputable def o222 (_ : Params) : Obj := { cls := Value.none, data := Data.fields #[] }
noncomputable def o223 (_ : Params) : Obj := { cls := Value.type "tuple", data := Data.seq #[Value.str (Str.ofString "self") 441] }
noncomputable def o224 (_ : Params) : Obj := { cls := Value.type "tuple", data := Data.seq #[] }
noncomputable def o225 (_ : Params) : Obj := { cls := Value.none, data := Data.func { name := Str.ofString "next_lig", qualname := Str.ofString "Buffer.next_lig", params := fnParams (meth 16 4), body := fnBody (meth 16 4), scope := fnScope (meth 16 4), globals := 0, closure := [], defaults := Value.none, kwdefaults := Value.none } }
noncomputable def o226 (_ : Params) : Obj := { cls := Value.type "code", data := Data.fields #[Value.str (Str.ofString "next_lig") 438, Value.str (Str.ofString "Buffer.next_lig") 439, Value.str (Str.ofString "/claim/cut.py") 440, Value.int 97 0, Value.int 1 0, Value.int 0 0, Value.int 0 0, Value.int 3 0, Value.ref 179, Value.bool true, Value.int 181 0, Value.ref 180, Value.none, Value.ref 181, Value.ref 182, Value.ref 183, Value.int 442 0, Value.int 97 0, Value.str (Str.ofString "/claim/cut.py") 443] }
noncomputable def o227 (_ : Params) : Obj := { cls := Value.type "function", data := Data.func { name := Str.ofString "next_lig", qualname := Str.ofString "Buffer.next_lig", params := fnParams (meth 16 4), body := fnBody (meth 16 4), scope := fnScope (meth 16 4), globals := 3, closure := [], defaults := Value.none, kwdefaults := Value.none, pyModule := Value.str (Str.ofString "joinedhand.buffer") 336, code := Value.ref 184 } }
noncomputable def o228 (_ : Params) : Obj := { cls := Value.type "tuple", data := Data.seq #[] }
noncomputable def o229 (_ : Params) : Obj := { cls := Value.none, data := Data.fields #[] }
noncomputable def o230 (_ : Params) : Obj := { cls := Value.type "tuple", data := Data.seq #[Value.str (Str.ofString "self") 448] }
noncomputable def o231 (_ : Params) : Obj := { cls := Value.type "tuple", data := Data.seq #[] }
noncomputable def o232 (_ : Params) : Obj := { cls := Value.none, data := Data.func { name := Str.ofString "next_split", qualname := Str.ofString "Buffer.next_split", params := fnParams (meth 16 5), body := fnBody (meth 16 5), scope := fnScope (meth 16 5), globals := 0, closure := [], defaults := Value.none, kwdefaults := Value.none } }
noncomputable def o233 (_ : Params) : Obj := { cls := Value.type "code", data := Data.fields #[Value.str (Str.ofString "next_split") 445, Value.str (Str.ofString "Buffer.next_split") 446, Value.str (Str.ofString "/claim/cut.py") 447, Value.int 100 0, Value.int 1 0, Value.int 0 0, Value.int 0 0, Value.int 3 0, Value.ref 186, Value.bool true, Value.int 181 0, Value.ref 187, Value.none, Value.ref 188, Value.ref 189, Value.ref 190, Value.int 449 0, Value.int 100 0, Value.str (Str.ofString "/claim/cut.py") 450] }
noncomputable def o234 (_ : Params) : Obj := { cls := Value.type "function", data := Data.func { name := Str.ofString "next_split", qualname := Str.ofString "Buffer.next_split", params := fnParams (meth 16 5), body := fnBody (meth 16 5), scope := fnScope (meth 16 5), globals := 3, closure := [], defaults := Value.none, kwdefaults := Value.none, pyModule := Value.str (Str.ofString "joinedhand.buffer") 336, code := Value.ref 191 } }
noncomputable def o235 (_ : Params) : Obj := { cls := Value.type "tuple", data := Data.seq #[Value.str (Str.ofString "is_backward") 452, Value.str (Str.ofString "last_lig") 453, Value.str (Str.ofString "last_split") 454, Value.str (Str.ofString "row") 455] }
noncomputable def o236 (P : Params) : Obj := { cls := Value.type "dict", data := Data.dict #[{ hash := PyData.keyHash P (Str.ofString "__module__"), key := Value.str (Str.ofString "__module__") 405, val := Value.str (Str.ofString "joinedhand.buffer") 336 }, { hash := PyData.keyHash P (Str.ofString "__firstlineno__"), key := Value.str (Str.ofString "__firstlineno__") 409, val := Value.int 80 408 }, { hash := PyData.keyHash P (Str.ofString "__init__"), key := Value.str (Str.ofString "__init__") 418, val := Value.ref 161 }, { hash := PyData.keyHash P (Str.ofString "glyphs"), key := Value.str (Str.ofString "glyphs") 424, val := Value.ref 166 }, { hash := PyData.keyHash P (Str.ofString "clusters"), key := Value.str (Str.ofString "clusters") 431, val := Value.ref 173 }, { hash := PyData.keyHash P (Str.ofString "told"), key := Value.str (Str.ofString "told") 437, val := Value.ref 178 }, { hash := PyData.keyHash P (Str.ofString "next_lig"), key := Value.str (Str.ofString "next_lig") 444, val := Value.ref 185 }, { hash := PyData.keyHash P (Str.ofString "next_split"), key := Value.str (Str.ofString "next_split") 451, val := Value.ref 192 }, { hash := PyData.keyHash P (Str.ofString "__static_attributes__"), key := Value.str (Str.ofString "__static_attributes__") 456, val := Value.ref 193 }, { hash := PyData.keyHash P (Str.ofString "__dict__"), key := Value.str (Str.ofString "__dict__") 458, val := Value.ref 196 }, { hash := PyData.keyHash P (Str.ofString "__weakref__"), key := Value.str (Str.ofString "__weakref__") 460, val := Value.ref 197 }, { hash := PyData.keyHash P (Str.ofString "__doc__"), key := Value.str (Str.ofString "__doc__") 461, val := Value.none }] 4 }
noncomputable def o237 (_ : Params) : Obj := { cls := Value.type "type", data := Data.cls { name := Str.ofString "Buffer", bases := [Value.type "object"], mro := [Value.ref 195, Value.type "object"], ns := 194, qualname := Str.ofString "Buffer" }, slots := #[none, none, some (Value.str (Str.ofString "Buffer") 398), some (Value.str (Str.ofString "Buffer") 406), some (Value.builtin "object.__new__"), some (Value.bool true)] }
noncomputable def o238 (_ : Params) : Obj := { cls := Value.type "getset_descriptor", data := Data.fields #[Value.str (Str.ofString "__dict__") 457, Value.ref 195, Value.builtin "function.__dict__", Value.builtin "function.__dict__#set"] }
noncomputable def o239 (_ : Params) : Obj := { cls := Value.type "getset_descriptor", data := Data.fields #[Value.str (Str.ofString "__weakref__") 459, Value.ref 195, Value.builtin "ExceptionGroup.__weakref__", Value.none] }
noncomputable def o240 (_ : Params) : Obj := { cls := Value.type "super", data := Data.fields #[Value.ref 195, Value.ref 195, Value.ref 195] }
noncomputable def o241 (_ : Params) : Obj := { cls := Value.type "builtin_function_or_method", data := Data.fields #[Value.builtin "object.__init_subclass__", Value.ref 195] }
noncomputable def o244 (_ : Params) : Obj := { cls := Value.type "tuple", data := Data.seq #[] }
noncomputable def o245 (_ : Params) : Obj := { cls := Value.type "builtin_function_or_method", data := Data.fields #[Value.builtin "type.__prepare__", Value.type "type"] }
noncomputable def o246 (P : Params) : Obj := { cls := Value.type "dict", data := Data.dict #[{ hash := PyData.keyHash P (Str.ofString "__module__"), key := Value.str (Str.ofString "__module__") 473, val := Value.str (Str.ofString "joinedhand.classdefs") 464 }, { hash := PyData.keyHash P (Str.ofString "__qualname__"), key := Value.str (Str.ofString "__qualname__") 475, val := Value.str (Str.ofString "ClassDef") 474 }, { hash := PyData.keyHash P (Str.ofString "__firstlineno__"), key := Value.str (Str.ofString "__firstlineno__") 477, val := Value.int 103 476 }, { hash := PyData.keyHash P (Str.ofString "__init__"), key := Value.str (Str.ofString "__init__") 485, val := Value.ref 213 }, { hash := PyData.keyHash P (Str.ofString "class_of"), key := Value.str (Str.ofString "class_of") 493, val := Value.ref 220 }, { hash := PyData.keyHash P (Str.ofString "glyphs_of"), key := Value.str (Str.ofString "glyphs_of") 501, val := Value.ref 227 }, { hash := PyData.keyHash P (Str.ofString "count"), key := Value.str (Str.ofString "count") 510, val := Value.ref 234 }, { hash := PyData.keyHash P (Str.ofString "told"), key := Value.str (Str.ofString "told") 516, val := Value.ref 239 }, { hash := PyData.keyHash P (Str.ofString "__static_attributes__"), key := Value.str (Str.ofString "__static_attributes__") 518, val := Value.ref 240 }] 9 }
noncomputable def o247 (_ : Params) : Obj := { cls := Value.type "tuple", data := Data.seq #[] }
noncomputable def o248 (_ : Params) : Obj := { cls := Value.none, data := Data.fields #[Value.int 105 0, Value.int 4 0, Value.ref 212, Value.int 108 0, Value.int 4 0, Value.ref 219, Value.int 111 0, Value.int 4 0, Value.ref 226, Value.int 114 0, Value.int 4 0, Value.ref 233, Value.int 120 0, Value.int 4 0, Value.ref 238] }
noncomputable def o249 (_ : Params) : Obj := { cls := Value.type "code", data := Data.fields #[Value.str (Str.ofString "ClassDef") 468, Value.str (Str.ofString "ClassDef") 469, Value.str (Str.ofString "/claim/cut.py") 470, Value.int 103 0, Value.int 0 0, Value.int 0 0, Value.int 0 0, Value.int 0 0, Value.ref 203, Value.bool false, Value.int 181 0, Value.ref 204, Value.none, Value.none, Value.none, Value.none, Value.int 471 0, Value.int 103 0, Value.str (Str.ofString "/claim/cut.py") 472] }
noncomputable def o250 (_ : Params) : Obj := { cls := Value.type "frame", slots := #[some (Value.ref 205), some (Value.ref 3), some (Value.ref 202), none, some (Value.str (Str.ofString "joinedhand.classdefs") 464), none, some (Value.ref 0)] }
noncomputable def o251 (_ : Params) : Obj := { cls := Value.type "tuple", data := Data.seq #[] }
noncomputable def o252 (_ : Params) : Obj := { cls := Value.none, data := Data.fields #[] }
noncomputable def o253 (_ : Params) : Obj := { cls := Value.type "tuple", data := Data.seq #[Value.str (Str.ofString "self") 481, Value.str (Str.ofString "classes") 482] }
noncomputable def o254 (_ : Params) : Obj := { cls := Value.type "tuple", data := Data.seq #[] }
noncomputable def o255 (_ : Params) : Obj := { cls := Value.none, data := Data.func { name := Str.ofString "__init__", qualname := Str.ofString "ClassDef.__init__", params := fnParams (meth 18 0), body := fnBody (meth 18 0), scope := fnScope (meth 18 0), globals := 0, closure := [], defaults := Value.none, kwdefaults := Value.none } }
noncomputable def o256 (_ : Params) : Obj := { cls := Value.type "code", data := Data.fields #[Value.str (Str.ofString "__init__") 478, Value.str (Str.ofString "ClassDef.__init__") 479, Value.str (Str.ofString "/claim/cut.py") 480, Value.int 105 0, Value.int 2 0, Value.int 0 0, Value.int 0 0, Value.int 3 0, Value.ref 207, Value.bool true, Value.int 181 0, Value.ref 208, Value.none, Value.ref 209, Value.ref 210, Value.ref 211, Value.int 483 0, Value.int 105 0, Value.str (Str.ofString "/claim/cut.py") 484] }
noncomputable def o257 (_ : Params) : Obj := { cls := Value.type "function", data := Data.func { name := Str.ofString "__init__", qualname := Str.ofString "ClassDef.__init__", params := fnParams (meth 18 0), body := fnBody (meth 18 0), scope := fnScope (meth 18 0), globals := 3, closure := [], defaults := Value.none, kwdefaults := Value.none, pyModule := Value.str (Str.ofString "joinedhand.classdefs") 464, code := Value.ref 212 } }
noncomputable def o258 (_ : Params) : Obj := { cls := Value.type "tuple", data := Data.seq #[] }
noncomputable def o259 (_ : Params) : Obj := { cls := Value.none, data := Data.fields #[] }
noncomputable def o260 (_ : Params) : Obj := { cls := Value.type "tuple", data := Data.seq #[Value.str (Str.ofString "self") 489, Value.str (Str.ofString "glyph") 490] }
noncomputable def o261 (_ : Params) : Obj := { cls := Value.type "tuple", data := Data.seq #[] }
noncomputable def o262 (_ : Params) : Obj := { cls := Value.none, data := Data.func { name := Str.ofString "class_of", qualname := Str.ofString "ClassDef.class_of", params := fnParams (meth 18 1), body := fnBody (meth 18 1), scope := fnScope (meth 18 1), globals := 0, closure := [], defaults := Value.none, kwdefaults := Value.none } }
noncomputable def o263 (_ : Params) : Obj := { cls := Value.type "code", data := Data.fields #[Value.str (Str.ofString "class_of") 486, Value.str (Str.ofString "ClassDef.class_of") 487, Value.str (Str.ofString "/claim/cut.py") 488, Value.int 108 0, Value.int 2 0, Value.int 0 0, Value.int 0 0, Value.int 3 0, Value.ref 214, Value.bool true, Value.int 181 0, Value.ref 215, Value.none, Value.ref 216, Value.ref 217, Value.ref 218, Value.int 491 0, Value.int 108 0, Value.str (Str.ofString "/claim/cut.py") 492] }
noncomputable def o264 (_ : Params) : Obj := { cls := Value.type "function", data := Data.func { name := Str.ofString "class_of", qualname := Str.ofString "ClassDef.class_of", params := fnParams (meth 18 1), body := fnBody (meth 18 1), scope := fnScope (meth 18 1), globals := 3, closure := [], defaults := Value.none, kwdefaults := Value.none, pyModule := Value.str (Str.ofString "joinedhand.classdefs") 464, code := Value.ref 219 } }
noncomputable def o265 (_ : Params) : Obj := { cls := Value.type "tuple", data := Data.seq #[] }
noncomputable def o266 (_ : Params) : Obj := { cls := Value.none, data := Data.fields #[] }
noncomputable def o267 (_ : Params) : Obj := { cls := Value.type "tuple", data := Data.seq #[Value.str (Str.ofString "self") 497, Value.str (Str.ofString "number") 498] }
noncomputable def o268 (_ : Params) : Obj := { cls := Value.type "tuple", data := Data.seq #[] }
noncomputable def o269 (_ : Params) : Obj := { cls := Value.none, data := Data.func { name := Str.ofString "glyphs_of", qualname := Str.ofString "ClassDef.glyphs_of", params := fnParams (meth 18 2), body := fnBody (meth 18 2), scope := fnScope (meth 18 2), globals := 0, closure := [], defaults := Value.none, kwdefaults := Value.none } }
noncomputable def o270 (_ : Params) : Obj := { cls := Value.type "code", data := Data.fields #[Value.str (Str.ofString "glyphs_of") 494, Value.str (Str.ofString "ClassDef.glyphs_of") 495, Value.str (Str.ofString "/claim/cut.py") 496, Value.int 111 0, Value.int 2 0, Value.int 0 0, Value.int 0 0, Value.int 3 0, Value.ref 221, Value.bool true, Value.int 181 0, Value.ref 222, Value.none, Value.ref 223, Value.ref 224, Value.ref 225, Value.int 499 0, Value.int 111 0, Value.str (Str.ofString "/claim/cut.py") 500] }
noncomputable def o271 (_ : Params) : Obj := { cls := Value.type "function", data := Data.func { name := Str.ofString "glyphs_of", qualname := Str.ofString "ClassDef.glyphs_of", params := fnParams (meth 18 2), body := fnBody (meth 18 2), scope := fnScope (meth 18 2), globals := 3, closure := [], defaults := Value.none, kwdefaults := Value.none, pyModule := Value.str (Str.ofString "joinedhand.classdefs") 464, code := Value.ref 226 } }
noncomputable def o272 (_ : Params) : Obj := { cls := Value.type "tuple", data := Data.seq #[] }
noncomputable def o273 (_ : Params) : Obj := { cls := Value.none, data := Data.fields #[] }
noncomputable def o274 (_ : Params) : Obj := { cls := Value.type "tuple", data := Data.seq #[Value.str (Str.ofString "self") 505, Value.str (Str.ofString "most") 506, Value.str (Str.ofString "glyph") 507] }
noncomputable def o275 (_ : Params) : Obj := { cls := Value.type "tuple", data := Data.seq #[] }
noncomputable def o276 (_ : Params) : Obj := { cls := Value.none, data := Data.func { name := Str.ofString "count", qualname := Str.ofString "ClassDef.count", params := fnParams (meth 18 3), body := fnBody (meth 18 3), scope := fnScope (meth 18 3), globals := 0, closure := [], defaults := Value.none, kwdefaults := Value.none } }
noncomputable def o277 (_ : Params) : Obj := { cls := Value.type "code", data := Data.fields #[Value.str (Str.ofString "count") 502, Value.str (Str.ofString "ClassDef.count") 503, Value.str (Str.ofString "/claim/cut.py") 504, Value.int 114 0, Value.int 1 0, Value.int 0 0, Value.int 0 0, Value.int 3 0, Value.ref 228, Value.bool true, Value.int 181 0, Value.ref 229, Value.none, Value.ref 230, Value.ref 231, Value.ref 232, Value.int 508 0, Value.int 114 0, Value.str (Str.ofString "/claim/cut.py") 509] }
noncomputable def o278 (_ : Params) : Obj := { cls := Value.type "function", data := Data.func { name := Str.ofString "count", qualname := Str.ofString "ClassDef.count", params := fnParams (meth 18 3), body := fnBody (meth 18 3), scope := fnScope (meth 18 3), globals := 3, closure := [], defaults := Value.none, kwdefaults := Value.none, pyModule := Value.str (Str.ofString "joinedhand.classdefs") 464, code := Value.ref 233 } }
noncomputable def o279 (_ : Params) : Obj := { cls := Value.type "tuple", data := Data.seq #[] }
noncomputable def o280 (_ : Params) : Obj := { cls := Value.none, data := Data.fields #[] }
noncomputable def o281 (_ : Params) : Obj := { cls := Value.none, data := Data.func { name := Str.ofString "told", qualname := Str.ofString "ClassDef.told", params := fnParams (meth 18 4), body := fnBody (meth 18 4), scope := fnScope (meth 18 4), globals := 0, closure := [], defaults := Value.none, kwdefaults := Value.none } }
noncomputable def o282 (_ : Params) : Obj := { cls := Value.type "code", data := Data.fields #[Value.str (Str.ofString "told") 511, Value.str (Str.ofString "ClassDef.told") 512, Value.str (Str.ofString "/claim/cut.py") 513, Value.int 120 0, Value.int 1 0, Value.int 0 0, Value.int 0 0, Value.int 3 0, Value.ref 235, Value.bool true, Value.int 181 0, Value.ref 236, Value.none, Value.none, Value.none, Value.ref 237, Value.int 514 0, Value.int 120 0, Value.str (Str.ofString "/claim/cut.py") 515] }
noncomputable def o283 (_ : Params) : Obj := { cls := Value.type "function", data := Data.func { name := Str.ofString "told", qualname := Str.ofString "ClassDef.told", params := fnParams (meth 18 4), body := fnBody (meth 18 4), scope := fnScope (meth 18 4), globals := 3, closure := [], defaults := Value.none, kwdefaults := Value.none, pyModule := Value.str (Str.ofString "joinedhand.classdefs") 464, code := Value.ref 238 } }
noncomputable def o284 (_ : Params) : Obj := { cls := Value.type "tuple", data := Data.seq #[Value.str (Str.ofString "classes") 517] }
noncomputable def o285 (P : Params) : Obj := { cls := Value.type "dict", data := Data.dict #[{ hash := PyData.keyHash P (Str.ofString "__module__"), key := Value.str (Str.ofString "__module__") 473, val := Value.str (Str.ofString "joinedhand.classdefs") 464 }, { hash := PyData.keyHash P (Str.ofString "__firstlineno__"), key := Value.str (Str.ofString "__firstlineno__") 477, val := Value.int 103 476 }, { hash := PyData.keyHash P (Str.ofString "__init__"), key := Value.str (Str.ofString "__init__") 485, val := Value.ref 213 }, { hash := PyData.keyHash P (Str.ofString "class_of"), key := Value.str (Str.ofString "class_of") 493, val := Value.ref 220 }, { hash := PyData.keyHash P (Str.ofString "glyphs_of"), key := Value.str (Str.ofString "glyphs_of") 501, val := Value.ref 227 }, { hash := PyData.keyHash P (Str.ofString "count"), key := Value.str (Str.ofString "count") 510, val := Value.ref 234 }, { hash := PyData.keyHash P (Str.ofString "told"), key := Value.str (Str.ofString "told") 516, val := Value.ref 239 }, { hash := PyData.keyHash P (Str.ofString "__static_attributes__"), key := Value.str (Str.ofString "__static_attributes__") 518, val := Value.ref 240 }, { hash := PyData.keyHash P (Str.ofString "__dict__"), key := Value.str (Str.ofString "__dict__") 520, val := Value.ref 243 }, { hash := PyData.keyHash P (Str.ofString "__weakref__"), key := Value.str (Str.ofString "__weakref__") 522, val := Value.ref 244 }, { hash := PyData.keyHash P (Str.ofString "__doc__"), key := Value.str (Str.ofString "__doc__") 523, val := Value.none }] 4 }
noncomputable def o286 (_ : Params) : Obj := { cls := Value.type "type", data := Data.cls { name := Str.ofString "ClassDef", bases := [Value.type "object"], mro := [Value.ref 242, Value.type "object"], ns := 241, qualname := Str.ofString "ClassDef" }, slots := #[none, none, some (Value.str (Str.ofString "ClassDef") 466), some (Value.str (Str.ofString "ClassDef") 474), some (Value.builtin "object.__new__"), some (Value.bool true)] }
noncomputable def o287 (_ : Params) : Obj := { cls := Value.type "getset_descriptor", data := Data.fields #[Value.str (Str.ofString "__dict__") 519, Value.ref 242, Value.builtin "function.__dict__", Value.builtin "function.__dict__#set"] }
noncomputable def o288 (_ : Params) : Obj := { cls := Value.type "getset_descriptor", data := Data.fields #[Value.str (Str.ofString "__weakref__") 521, Value.ref 242, Value.builtin "ExceptionGroup.__weakref__", Value.none] }
noncomputable def o289 (_ : Params) : Obj := { cls := Value.type "super", data := Data.fields #[Value.ref 242, Value.ref 242, Value.ref 242] }
noncomputable def o290 (_ : Params) : Obj := { cls := Value.type "builtin_function_or_method", data := Data.fields #[Value.builtin "object.__init_subclass__", Value.ref 242] }
noncomputable def o293 (_ : Params) : Obj := { cls := Value.type "tuple", data := Data.seq #[] }
noncomputable def o294 (_ : Params) : Obj := { cls := Value.type "builtin_function_or_method", data := Data.fields #[Value.builtin "type.__prepare__", Value.type "type"] }
noncomputable def o295 (P : Params) : Obj := { cls := Value.type "dict", data := Data.dict #[{ hash := PyData.keyHash P (Str.ofString "__module__"), key := Value.str (Str.ofString "__module__") 535, val := Value.str (Str.ofString "joinedhand.coverage") 526 }, { hash := PyData.keyHash P (Str.ofString "__qualname__"), key := Value.str (Str.ofString "__qualname__") 537, val := Value.str (Str.ofString "Coverage") 536 }, { hash := PyData.keyHash P (Str.ofString "__firstlineno__"), key := Value.str (Str.ofString "__firstlineno__") 539, val := Value.int 123 538 }, { hash := PyData.keyHash P (Str.ofString "__init__"), key := Value.str (Str.ofString "__init__") 547, val := Value.ref 260 }, { hash := PyData.keyHash P (Str.ofString "index"), key := Value.str (Str.ofString "index") 558, val := Value.ref 267 }, { hash := PyData.keyHash P (Str.ofString "has"), key := Value.str (Str.ofString "has") 566, val := Value.ref 274 }, { hash := PyData.keyHash P (Str.ofString "told"), key := Value.str (Str.ofString "told") 573, val := Value.ref 281 }, { hash := PyData.keyHash P (Str.ofString "__static_attributes__"), key := Value.str (Str.ofString "__static_attributes__") 575, val := Value.ref 282 }] 8 }
noncomputable def o296 (_ : Params) : Obj := { cls := Value.type "tuple", data := Data.seq #[] }
noncomputable def o297 (_ : Params) : Obj := { cls := Value.none, data := Data.fields #[Value.int 125 0, Value.int 4 0, Value.ref 259, Value.int 128 0, Value.int 4 0, Value.ref 266, Value.int 141 0, Value.int 4 0, Value.ref 273, Value.int 144 0, Value.int 4 0, Value.ref 280] }
noncomputable def o298 (_ : Params) : Obj := { cls := Value.type "code", data := Data.fields #[Value.str (Str.ofString "Coverage") 530, Value.str (Str.ofString "Coverage") 531, Value.str (Str.ofString "/claim/cut.py") 532, Value.int 123 0, Value.int 0 0, Value.int 0 0, Value.int 0 0, Value.int 0 0, Value.ref 250, Value.bool false, Value.int 181 0, Value.ref 251, Value.none, Value.none, Value.none, Value.none, Value.int 533 0, Value.int 123 0, Value.str (Str.ofString "/claim/cut.py") 534] }
noncomputable def o299 (_ : Params) : Obj := { cls := Value.type "frame", slots := #[some (Value.ref 252), some (Value.ref 3), some (Value.ref 249), none, some (Value.str (Str.ofString "joinedhand.coverage") 526), none, some (Value.ref 0)] }
noncomputable def o300 (_ : Params) : Obj := { cls := Value.type "tuple", data := Data.seq #[] }
noncomputable def o301 (_ : Params) : Obj := { cls := Value.none, data := Data.fields #[] }
noncomputable def o302 (_ : Params) : Obj := { cls := Value.type "tuple", data := Data.seq #[Value.str (Str.ofString "self") 543, Value.str (Str.ofString "glyphs") 544] }
noncomputable def o303 (_ : Params) : Obj := { cls := Value.type "tuple", data := Data.seq #[] }
noncomputable def o304 (_ : Params) : Obj := { cls := Value.none, data := Data.func { name := Str.ofString "__init__", qualname := Str.ofString "Coverage.__init__", params := fnParams (meth 20 0), body := fnBody (meth 20 0), scope := fnScope (meth 20 0), globals := 0, closure := [], defaults := Value.none, kwdefaults := Value.none } }
noncomputable def o305 (_ : Params) : Obj := { cls := Value.type "code", data := Data.fields #[Value.str (Str.ofString "__init__") 540, Value.str (Str.ofString "Coverage.__init__") 541, Value.str (Str.ofString "/claim/cut.py") 542, Value.int 125 0, Value.int 2 0, Value.int 0 0, Value.int 0 0, Value.int 3 0, Value.ref 254, Value.bool true, Value.int 181 0, Value.ref 255, Value.none, Value.ref 256, Value.ref 257, Value.ref 258, Value.int 545 0, Value.int 125 0, Value.str (Str.ofString "/claim/cut.py") 546] }
noncomputable def o306 (_ : Params) : Obj := { cls := Value.type "function", data := Data.func { name := Str.ofString "__init__", qualname := Str.ofString "Coverage.__init__", params := fnParams (meth 20 0), body := fnBody (meth 20 0), scope := fnScope (meth 20 0), globals := 3, closure := [], defaults := Value.none, kwdefaults := Value.none, pyModule := Value.str (Str.ofString "joinedhand.coverage") 526, code := Value.ref 259 } }
noncomputable def o307 (_ : Params) : Obj := { cls := Value.type "tuple", data := Data.seq #[] }
noncomputable def o308 (_ : Params) : Obj := { cls := Value.none, data := Data.fields #[] }
noncomputable def o309 (_ : Params) : Obj := { cls := Value.type "tuple", data := Data.seq #[Value.str (Str.ofString "self") 551, Value.str (Str.ofString "glyph") 552, Value.str (Str.ofString "low") 553, Value.str (Str.ofString "high") 554, Value.str (Str.ofString "middle") 555] }
noncomputable def o310 (_ : Params) : Obj := { cls := Value.type "tuple", data := Data.seq #[] }
noncomputable def o311 (_ : Params) : Obj := { cls := Value.none, data := Data.func { name := Str.ofString "index", qualname := Str.ofString "Coverage.index", params := fnParams (meth 20 1), body := fnBody (meth 20 1), scope := fnScope (meth 20 1), globals := 0, closure := [], defaults := Value.none, kwdefaults := Value.none } }
noncomputable def o312 (_ : Params) : Obj := { cls := Value.type "code", data := Data.fields #[Value.str (Str.ofString "index") 548, Value.str (Str.ofString "Coverage.index") 549, Value.str (Str.ofString "/claim/cut.py") 550, Value.int 128 0, Value.int 2 0, Value.int 0 0, Value.int 0 0, Value.int 3 0, Value.ref 261, Value.bool true, Value.int 181 0, Value.ref 262, Value.none, Value.ref 263, Value.ref 264, Value.ref 265, Value.int 556 0, Value.int 128 0, Value.str (Str.ofString "/claim/cut.py") 557] }
noncomputable def o313 (_ : Params) : Obj := { cls := Value.type "function", data := Data.func { name := Str.ofString "index", qualname := Str.ofString "Coverage.index", params := fnParams (meth 20 1), body := fnBody (meth 20 1), scope := fnScope (meth 20 1), globals := 3, closure := [], defaults := Value.none, kwdefaults := Value.none, pyModule := Value.str (Str.ofString "joinedhand.coverage") 526, code := Value.ref 266 } }
noncomputable def o314 (_ : Params) : Obj := { cls := Value.type "tuple", data := Data.seq #[] }
noncomputable def o315 (_ : Params) : Obj := { cls := Value.none, data := Data.fields #[] }
noncomputable def o316 (_ : Params) : Obj := { cls := Value.type "tuple", data := Data.seq #[Value.str (Str.ofString "self") 562, Value.str (Str.ofString "glyph") 563] }
noncomputable def o317 (_ : Params) : Obj := { cls := Value.type "tuple", data := Data.seq #[] }
noncomputable def o318 (_ : Params) : Obj := { cls := Value.none, data := Data.func { name := Str.ofString "has", qualname := Str.ofString "Coverage.has", params := fnParams (meth 20 2), body := fnBody (meth 20 2), scope := fnScope (meth 20 2), globals := 0, closure := [], defaults := Value.none, kwdefaults := Value.none } }
noncomputable def o319 (_ : Params) : Obj := { cls := Value.type "code", data := Data.fields #[Value.str (Str.ofString "has") 559, Value.str (Str.ofString "Coverage.has") 560, Value.str (Str.ofString "/claim/cut.py") 561, Value.int 141 0, Value.int 2 0, Value.int 0 0, Value.int 0 0, Value.int 3 0, Value.ref 268, Value.bool true, Value.int 181 0, Value.ref 269, Value.none, Value.ref 270, Value.ref 271, Value.ref 272, Value.int 564 0, Value.int 141 0, Value.str (Str.ofString "/claim/cut.py") 565] }
noncomputable def o320 (_ : Params) : Obj := { cls := Value.type "function", data := Data.func { name := Str.ofString "has", qualname := Str.ofString "Coverage.has", params := fnParams (meth 20 2), body := fnBody (meth 20 2), scope := fnScope (meth 20 2), globals := 3, closure := [], defaults := Value.none, kwdefaults := Value.none, pyModule := Value.str (Str.ofString "joinedhand.coverage") 526, code := Value.ref 273 } }
noncomputable def o321 (_ : Params) : Obj := { cls := Value.type "tuple", data := Data.seq #[] }
noncomputable def o322 (_ : Params) : Obj := { cls := Value.none, data := Data.fields #[] }
noncomputable def o323 (_ : Params) : Obj := { cls := Value.type "tuple", data := Data.seq #[Value.str (Str.ofString "self") 570] }
noncomputable def o324 (_ : Params) : Obj := { cls := Value.type "tuple", data := Data.seq #[] }
noncomputable def o325 (_ : Params) : Obj := { cls := Value.none, data := Data.func { name := Str.ofString "told", qualname := Str.ofString "Coverage.told", params := fnParams (meth 20 3), body := fnBody (meth 20 3), scope := fnScope (meth 20 3), globals := 0, closure := [], defaults := Value.none, kwdefaults := Value.none } }
noncomputable def o326 (_ : Params) : Obj := { cls := Value.type "code", data := Data.fields #[Value.str (Str.ofString "told") 567, Value.str (Str.ofString "Coverage.told") 568, Value.str (Str.ofString "/claim/cut.py") 569, Value.int 144 0, Value.int 1 0, Value.int 0 0, Value.int 0 0, Value.int 3 0, Value.ref 275, Value.bool true, Value.int 181 0, Value.ref 276, Value.none, Value.ref 277, Value.ref 278, Value.ref 279, Value.int 571 0, Value.int 144 0, Value.str (Str.ofString "/claim/cut.py") 572] }
noncomputable def o327 (_ : Params) : Obj := { cls := Value.type "function", data := Data.func { name := Str.ofString "told", qualname := Str.ofString "Coverage.told", params := fnParams (meth 20 3), body := fnBody (meth 20 3), scope := fnScope (meth 20 3), globals := 3, closure := [], defaults := Value.none, kwdefaults := Value.none, pyModule := Value.str (Str.ofString "joinedhand.coverage") 526, code := Value.ref 280 } }
noncomputable def o328 (_ : Params) : Obj := { cls := Value.type "tuple", data := Data.seq #[Value.str (Str.ofString "glyphs") 574] }
noncomputable def o329 (P : Params) : Obj := { cls := Value.type "dict", data := Data.dict #[{ hash := PyData.keyHash P (Str.ofString "__module__"), key := Value.str (Str.ofString "__module__") 535, val := Value.str (Str.ofString "joinedhand.coverage") 526 }, { hash := PyData.keyHash P (Str.ofString "__firstlineno__"), key := Value.str (Str.ofString "__firstlineno__") 539, val := Value.int 123 538 }, { hash := PyData.keyHash P (Str.ofString "__init__"), key := Value.str (Str.ofString "__init__") 547, val := Value.ref 260 }, { hash := PyData.keyHash P (Str.ofString "index"), key := Value.str (Str.ofString "index") 558, val := Value.ref 267 }, { hash := PyData.keyHash P (Str.ofString "has"), key := Value.str (Str.ofString "has") 566, val := Value.ref 274 }, { hash := PyData.keyHash P (Str.ofString "told"), key := Value.str (Str.ofString "told") 573, val := Value.ref 281 }, { hash := PyData.keyHash P (Str.ofString "__static_attributes__"), key := Value.str (Str.ofString "__static_attributes__") 575, val := Value.ref 282 }, { hash := PyData.keyHash P (Str.ofString "__dict__"), key := Value.str (Str.ofString "__dict__") 577, val := Value.ref 285 }, { hash := PyData.keyHash P (Str.ofString "__weakref__"), key := Value.str (Str.ofString "__weakref__") 579, val := Value.ref 286 }, { hash := PyData.keyHash P (Str.ofString "__doc__"), key := Value.str (Str.ofString "__doc__") 580, val := Value.none }] 4 }
noncomputable def o330 (_ : Params) : Obj := { cls := Value.type "type", data := Data.cls { name := Str.ofString "Coverage", bases := [Value.type "object"], mro := [Value.ref 284, Value.type "object"], ns := 283, qualname := Str.ofString "Coverage" }, slots := #[none, none, some (Value.str (Str.ofString "Coverage") 528), some (Value.str (Str.ofString "Coverage") 536), some (Value.builtin "object.__new__"), some (Value.bool true)] }
noncomputable def o331 (_ : Params) : Obj := { cls := Value.type "getset_descriptor", data := Data.fields #[Value.str (Str.ofString "__dict__") 576, Value.ref 284, Value.builtin "function.__dict__", Value.builtin "function.__dict__#set"] }
noncomputable def o332 (_ : Params) : Obj := { cls := Value.type "getset_descriptor", data := Data.fields #[Value.str (Str.ofString "__weakref__") 578, Value.ref 284, Value.builtin "ExceptionGroup.__weakref__", Value.none] }
noncomputable def o333 (_ : Params) : Obj := { cls := Value.type "super", data := Data.fields #[Value.ref 284, Value.ref 284, Value.ref 284] }
noncomputable def o334 (_ : Params) : Obj := { cls := Value.type "builtin_function_or_method", data := Data.fields #[Value.builtin "object.__init_subclass__", Value.ref 284] }
noncomputable def o337 (_ : Params) : Obj := { cls := Value.type "tuple", data := Data.seq #[] }
noncomputable def o338 (_ : Params) : Obj := { cls := Value.type "builtin_function_or_method", data := Data.fields #[Value.builtin "type.__prepare__", Value.type "type"] }
noncomputable def o339 (P : Params) : Obj := { cls := Value.type "dict", data := Data.dict #[{ hash := PyData.keyHash P (Str.ofString "__module__"), key := Value.str (Str.ofString "__module__") 598, val := Value.str (Str.ofString "joinedhand.gdef") 583 }, { hash := PyData.keyHash P (Str.ofString "__qualname__"), key := Value.str (Str.ofString "__qualname__") 600, val := Value.str (Str.ofString "Gdef") 599 }, { hash := PyData.keyHash P (Str.ofString "__firstlineno__"), key := Value.str (Str.ofString "__firstlineno__") 602, val := Value.int 150 601 }, { hash := PyData.keyHash P (Str.ofString "__init__"), key := Value.str (Str.ofString "__init__") 614, val := Value.ref 303 }, { hash := PyData.keyHash P (Str.ofString "glyph_class"), key := Value.str (Str.ofString "glyph_class") 623, val := Value.ref 310 }, { hash := PyData.keyHash P (Str.ofString "attach_class"), key := Value.str (Str.ofString "attach_class") 631, val := Value.ref 317 }, { hash := PyData.keyHash P (Str.ofString "is_in_set"), key := Value.str (Str.ofString "is_in_set") 640, val := Value.ref 324 }, { hash := PyData.keyHash P (Str.ofString "told"), key := Value.str (Str.ofString "told") 646, val := Value.ref 329 }, { hash := PyData.keyHash P (Str.ofString "__static_attributes__"), key := Value.str (Str.ofString "__static_attributes__") 652, val := Value.ref 330 }] 9 }
noncomputable def o340 (_ : Params) : Obj := { cls := Value.type "tuple", data := Data.seq #[] }
noncomputable def o341 (_ : Params) : Obj := { cls := Value.none, data := Data.fields #[Value.int 152 0, Value.int 4 0, Value.ref 302, Value.int 159 0, Value.int 4 0, Value.ref 309, Value.int 163 0, Value.int 4 0, Value.ref 316, Value.int 166 0, Value.int 4 0, Value.ref 323, Value.int 169 0, Value.int 4 0, Value.ref 328] }
noncomputable def o342 (_ : Params) : Obj := { cls := Value.type "code", data := Data.fields #[Value.str (Str.ofString "Gdef") 593, Value.str (Str.ofString "Gdef") 594, Value.str (Str.ofString "/claim/cut.py") 595, Value.int 150 0, Value.int 0 0, Value.int 0 0, Value.int 0 0, Value.int 0 0, Value.ref 292, Value.bool false, Value.int 181 0, Value.ref 293, Value.none, Value.none, Value.none, Value.none, Value.int 596 0, Value.int 150 0, Value.str (Str.ofString "/claim/cut.py") 597] }
noncomputable def o343 (_ : Params) : Obj := { cls := Value.type "frame", slots := #[some (Value.ref 294), some (Value.ref 3), some (Value.ref 291), none, some (Value.str (Str.ofString "joinedhand.gdef") 583), none, some (Value.ref 0)] }
noncomputable def o344 (_ : Params) : Obj := { cls := Value.type "tuple", data := Data.seq #[Value.none, Value.none] }
noncomputable def o345 (_ : Params) : Obj := { cls := Value.type "tuple", data := Data.seq #[] }
noncomputable def o346 (_ : Params) : Obj := { cls := Value.none, data := Data.fields #[] }
noncomputable def o347 (_ : Params) : Obj := { cls := Value.type "tuple", data := Data.seq #[Value.str (Str.ofString "self") 606, Value.str (Str.ofString "classes") 607, Value.str (Str.ofString "attach") 608, Value.str (Str.ofString "sets") 609, Value.str (Str.ofString "points") 610, Value.str (Str.ofString "carets") 611] }
noncomputable def o348 (_ : Params) : Obj := { cls := Value.type "tuple", data := Data.seq #[] }
noncomputable def o349 (_ : Params) : Obj := { cls := Value.none, data := Data.func { name := Str.ofString "__init__", qualname := Str.ofString "Gdef.__init__", params := fnParams (meth 25 0), body := fnBody (meth 25 0), scope := fnScope (meth 25 0), globals := 0, closure := [], defaults := Value.none, kwdefaults := Value.none } }
noncomputable def o350 (_ : Params) : Obj := { cls := Value.type "code", data := Data.fields #[Value.str (Str.ofString "__init__") 603, Value.str (Str.ofString "Gdef.__init__") 604, Value.str (Str.ofString "/claim/cut.py") 605, Value.int 152 0, Value.int 6 0, Value.int 0 0, Value.int 0 0, Value.int 3 0, Value.ref 297, Value.bool true, Value.int 181 0, Value.ref 298, Value.none, Value.ref 299, Value.ref 300, Value.ref 301, Value.int 612 0, Value.int 152 0, Value.str (Str.ofString "/claim/cut.py") 613] }
noncomputable def o351 (_ : Params) : Obj := { cls := Value.type "function", data := Data.func { name := Str.ofString "__init__", qualname := Str.ofString "Gdef.__init__", params := fnParams (meth 25 0), body := fnBody (meth 25 0), scope := fnScope (meth 25 0), globals := 3, closure := [], defaults := Value.ref 296, kwdefaults := Value.none, pyModule := Value.str (Str.ofString "joinedhand.gdef") 583, code := Value.ref 302 } }
noncomputable def o352 (_ : Params) : Obj := { cls := Value.type "tuple", data := Data.seq #[] }
noncomputable def o353 (_ : Params) : Obj := { cls := Value.none, data := Data.fields #[] }
noncomputable def o354 (_ : Params) : Obj := { cls := Value.type "tuple", data := Data.seq #[Value.str (Str.ofString "self") 618, Value.str (Str.ofString "glyph") 619, Value.str (Str.ofString "number") 620] }
noncomputable def o355 (_ : Params) : Obj := { cls := Value.type "tuple", data := Data.seq #[] }
noncomputable def o356 (_ : Params) : Obj := { cls := Value.none, data := Data.func { name := Str.ofString "glyph_class", qualname := Str.ofString "Gdef.glyph_class", params := fnParams (meth 25 1), body := fnBody (meth 25 1), scope := fnScope (meth 25 1), globals := 0, closure := [], defaults := Value.none, kwdefaults := Value.none } }
noncomputable def o357 (_ : Params) : Obj := { cls := Value.type "code", data := Data.fields #[Value.str (Str.ofString "glyph_class") 615, Value.str (Str.ofString "Gdef.glyph_class") 616, Value.str (Str.ofString "/claim/cut.py") 617, Value.int 159 0, Value.int 2 0, Value.int 0 0, Value.int 0 0, Value.int 3 0, Value.ref 304, Value.bool true, Value.int 181 0, Value.ref 305, Value.none, Value.ref 306, Value.ref 307, Value.ref 308, Value.int 621 0, Value.int 159 0, Value.str (Str.ofString "/claim/cut.py") 622] }
noncomputable def o358 (_ : Params) : Obj := { cls := Value.type "function", data := Data.func { name := Str.ofString "glyph_class", qualname := Str.ofString "Gdef.glyph_class", params := fnParams (meth 25 1), body := fnBody (meth 25 1), scope := fnScope (meth 25 1), globals := 3, closure := [], defaults := Value.none, kwdefaults := Value.none, pyModule := Value.str (Str.ofString "joinedhand.gdef") 583, code := Value.ref 309 } }
noncomputable def o359 (_ : Params) : Obj := { cls := Value.type "tuple", data := Data.seq #[] }
noncomputable def o360 (_ : Params) : Obj := { cls := Value.none, data := Data.fields #[] }
noncomputable def o361 (_ : Params) : Obj := { cls := Value.type "tuple", data := Data.seq #[Value.str (Str.ofString "self") 627, Value.str (Str.ofString "glyph") 628] }
noncomputable def o362 (_ : Params) : Obj := { cls := Value.type "tuple", data := Data.seq #[] }
noncomputable def o363 (_ : Params) : Obj := { cls := Value.none, data := Data.func { name := Str.ofString "attach_class", qualname := Str.ofString "Gdef.attach_class", params := fnParams (meth 25 2), body := fnBody (meth 25 2), scope := fnScope (meth 25 2), globals := 0, closure := [], defaults := Value.none, kwdefaults := Value.none } }
noncomputable def o364 (_ : Params) : Obj := { cls := Value.type "code", data := Data.fields #[Value.str (Str.ofString "attach_class") 624, Value.str (Str.ofString "Gdef.attach_class") 625, Value.str (Str.ofString "/claim/cut.py") 626, Value.int 163 0, Value.int 2 0, Value.int 0 0, Value.int 0 0, Value.int 3 0, Value.ref 311, Value.bool true, Value.int 181 0, Value.ref 312, Value.none, Value.ref 313, Value.ref 314, Value.ref 315, Value.int 629 0, Value.int 163 0, Value.str (Str.ofString "/claim/cut.py") 630] }
noncomputable def o365 (_ : Params) : Obj := { cls := Value.type "function", data := Data.func { name := Str.ofString "attach_class", qualname := Str.ofString "Gdef.attach_class", params := fnParams (meth 25 2), body := fnBody (meth 25 2), scope := fnScope (meth 25 2), globals := 3, closure := [], defaults := Value.none, kwdefaults := Value.none, pyModule := Value.str (Str.ofString "joinedhand.gdef") 583, code := Value.ref 316 } }
noncomputable def o366 (_ : Params) : Obj := { cls := Value.type "tuple", data := Data.seq #[] }
noncomputable def o367 (_ : Params) : Obj := { cls := Value.none, data := Data.fields #[] }
noncomputable def o368 (_ : Params) : Obj := { cls := Value.type "tuple", data := Data.seq #[Value.str (Str.ofString "self") 635, Value.str (Str.ofString "number") 636, Value.str (Str.ofString "glyph") 637] }
noncomputable def o369 (_ : Params) : Obj := { cls := Value.type "tuple", data := Data.seq #[] }
noncomputable def o370 (_ : Params) : Obj := { cls := Value.none, data := Data.func { name := Str.ofString "is_in_set", qualname := Str.ofString "Gdef.is_in_set", params := fnParams (meth 25 3), body := fnBody (meth 25 3), scope := fnScope (meth 25 3), globals := 0, closure := [], defaults := Value.none, kwdefaults := Value.none } }
noncomputable def o371 (_ : Params) : Obj := { cls := Value.type "code", data := Data.fields #[Value.str (Str.ofString "is_in_set") 632, Value.str (Str.ofString "Gdef.is_in_set") 633, Value.str (Str.ofString "/claim/cut.py") 634, Value.int 166 0, Value.int 3 0, Value.int 0 0, Value.int 0 0, Value.int 3 0, Value.ref 318, Value.bool true, Value.int 181 0, Value.ref 319, Value.none, Value.ref 320, Value.ref 321, Value.ref 322, Value.int 638 0, Value.int 166 0, Value.str (Str.ofString "/claim/cut.py") 639] }
noncomputable def o372 (_ : Params) : Obj := { cls := Value.type "function", data := Data.func { name := Str.ofString "is_in_set", qualname := Str.ofString "Gdef.is_in_set", params := fnParams (meth 25 3), body := fnBody (meth 25 3), scope := fnScope (meth 25 3), globals := 3, closure := [], defaults := Value.none, kwdefaults := Value.none, pyModule := Value.str (Str.ofString "joinedhand.gdef") 583, code := Value.ref 323 } }
noncomputable def o373 (_ : Params) : Obj := { cls := Value.type "tuple", data := Data.seq #[] }
noncomputable def o374 (_ : Params) : Obj := { cls := Value.none, data := Data.fields #[] }
noncomputable def o375 (_ : Params) : Obj := { cls := Value.none, data := Data.func { name := Str.ofString "told", qualname := Str.ofString "Gdef.told", params := fnParams (meth 25 4), body := fnBody (meth 25 4), scope := fnScope (meth 25 4), globals := 0, closure := [], defaults := Value.none, kwdefaults := Value.none } }
noncomputable def o376 (_ : Params) : Obj := { cls := Value.type "code", data := Data.fields #[Value.str (Str.ofString "told") 641, Value.str (Str.ofString "Gdef.told") 642, Value.str (Str.ofString "/claim/cut.py") 643, Value.int 169 0, Value.int 1 0, Value.int 0 0, Value.int 0 0, Value.int 3 0, Value.ref 325, Value.bool true, Value.int 181 0, Value.ref 326, Value.none, Value.none, Value.none, Value.ref 327, Value.int 644 0, Value.int 169 0, Value.str (Str.ofString "/claim/cut.py") 645] }
noncomputable def o377 (_ : Params) : Obj := { cls := Value.type "function", data := Data.func { name := Str.ofString "told", qualname := Str.ofString "Gdef.told", params := fnParams (meth 25 4), body := fnBody (meth 25 4), scope := fnScope (meth 25 4), globals := 3, closure := [], defaults := Value.none, kwdefaults := Value.none, pyModule := Value.str (Str.ofString "joinedhand.gdef") 583, code := Value.ref 328 } }
noncomputable def o378 (_ : Params) : Obj := { cls := Value.type "tuple", data := Data.seq #[Value.str (Str.ofString "attach") 647, Value.str (Str.ofString "carets") 648, Value.str (Str.ofString "classes") 649, Value.str (Str.ofString "points") 650, Value.str (Str.ofString "sets") 651] }
noncomputable def o379 (P : Params) : Obj := { cls := Value.type "dict", data := Data.dict #[{ hash := PyData.keyHash P (Str.ofString "__module__"), key := Value.str (Str.ofString "__module__") 598, val := Value.str (Str.ofString "joinedhand.gdef") 583 }, { hash := PyData.keyHash P (Str.ofString "__firstlineno__"), key := Value.str (Str.ofString "__firstlineno__") 602, val := Value.int 150 601 }, { hash := PyData.keyHash P (Str.ofString "__init__"), key := Value.str (Str.ofString "__init__") 614, val := Value.ref 303 }, { hash := PyData.keyHash P (Str.ofString "glyph_class"), key := Value.str (Str.ofString "glyph_class") 623, val := Value.ref 310 }, { hash := PyData.keyHash P (Str.ofString "attach_class"), key := Value.str (Str.ofString "attach_class") 631, val := Value.ref 317 }, { hash := PyData.keyHash P (Str.ofString "is_in_set"), key := Value.str (Str.ofString "is_in_set") 640, val := Value.ref 324 }, { hash := PyData.keyHash P (Str.ofString "told"), key := Value.str (Str.ofString "told") 646, val := Value.ref 329 }, { hash := PyData.keyHash P (Str.ofString "__static_attributes__"), key := Value.str (Str.ofString "__static_attributes__") 652, val := Value.ref 330 }, { hash := PyData.keyHash P (Str.ofString "__dict__"), key := Value.str (Str.ofString "__dict__") 654, val := Value.ref 333 }, { hash := PyData.keyHash P (Str.ofString "__weakref__"), key := Value.str (Str.ofString "__weakref__") 656, val := Value.ref 334 }, { hash := PyData.keyHash P (Str.ofString "__doc__"), key := Value.str (Str.ofString "__doc__") 657, val := Value.none }] 4 }
noncomputable def o380 (_ : Params) : Obj := { cls := Value.type "type", data := Data.cls { name := Str.ofString "Gdef", bases := [Value.type "object"], mro := [Value.ref 332, Value.type "object"], ns := 331, qualname := Str.ofString "Gdef" }, slots := #[none, none, some (Value.str (Str.ofString "Gdef") 591), some (Value.str (Str.ofString "Gdef") 599), some (Value.builtin "object.__new__"), some (Value.bool true)] }
noncomputable def o381 (_ : Params) : Obj := { cls := Value.type "getset_descriptor", data := Data.fields #[Value.str (Str.ofString "__dict__") 653, Value.ref 332, Value.builtin "function.__dict__", Value.builtin "function.__dict__#set"] }
noncomputable def o382 (_ : Params) : Obj := { cls := Value.type "getset_descriptor", data := Data.fields #[Value.str (Str.ofString "__weakref__") 655, Value.ref 332, Value.builtin "ExceptionGroup.__weakref__", Value.none] }
noncomputable def o383 (_ : Params) : Obj := { cls := Value.type "super", data := Data.fields #[Value.ref 332, Value.ref 332, Value.ref 332] }
noncomputable def o384 (_ : Params) : Obj := { cls := Value.type "builtin_function_or_method", data := Data.fields #[Value.builtin "object.__init_subclass__", Value.ref 332] }
noncomputable def o385 (_ : Params) : Obj := { cls := Value.type "tuple", data := Data.seq #[] }
noncomputable def o386 (_ : Params) : Obj := { cls := Value.none, data := Data.fields #[] }
noncomputable def o387 (_ : Params) : Obj := { cls := Value.type "tuple", data := Data.seq #[Value.str (Str.ofString "tape") 665, Value.str (Str.ofString "limit") 666, Value.str (Str.ofString "cells") 667, Value.str (Str.ofString "at") 668] }
noncomputable def o388 (_ : Params) : Obj := { cls := Value.type "tuple", data := Data.seq #[] }
noncomputable def o389 (_ : Params) : Obj := { cls := Value.none, data := Data.func { name := Str.ofString "_law_draw", qualname := Str.ofString "_law_draw", params := fnParams (cell 27), body := fnBody (cell 27), scope := fnScope (cell 27), globals := 0, closure := [], defaults := Value.none, kwdefaults := Value.none } }
noncomputable def o390 (_ : Params) : Obj := { cls := Value.type "code", data := Data.fields #[Value.str (Str.ofString "_law_draw") 662, Value.str (Str.ofString "_law_draw") 663, Value.str (Str.ofString "/claim/cut.py") 664, Value.int 174 0, Value.int 2 0, Value.int 0 0, Value.int 0 0, Value.int 3 0, Value.ref 337, Value.bool true, Value.int 181 0, Value.ref 338, Value.none, Value.ref 339, Value.ref 340, Value.ref 341, Value.int 669 0, Value.int 174 0, Value.str (Str.ofString "/claim/cut.py") 670] }
noncomputable def o391 (_ : Params) : Obj := { cls := Value.type "function", data := Data.func { name := Str.ofString "_law_draw", qualname := Str.ofString "_law_draw", params := fnParams (cell 27), body := fnBody (cell 27), scope := fnScope (cell 27), globals := 3, closure := [], defaults := Value.none, kwdefaults := Value.none, pyModule := Value.str (Str.ofString "law_pb0187_01") 660, code := Value.ref 342 } }
noncomputable def o394 (_ : Params) : Obj := { cls := Value.type "tuple", data := Data.seq #[] }
noncomputable def o395 (_ : Params) : Obj := { cls := Value.none, data := Data.fields #[] }
noncomputable def o396 (_ : Params) : Obj := { cls := Value.none, data := Data.func { name := Str.ofString "_law_seen", qualname := Str.ofString "_law_seen", params := fnParams (cell 28), body := fnBody (cell 28), scope := fnScope (cell 28), globals := 0, closure := [], defaults := Value.none, kwdefaults := Value.none } }
noncomputable def o397 (_ : Params) : Obj := { cls := Value.type "code", data := Data.fields #[Value.str (Str.ofString "_law_seen") 672, Value.str (Str.ofString "_law_seen") 673, Value.str (Str.ofString "/claim/cut.py") 674, Value.int 179 0, Value.int 1 0, Value.int 0 0, Value.int 0 0, Value.int 3 0, Value.ref 344, Value.bool true, Value.int 181 0, Value.ref 345, Value.none, Value.none, Value.none, Value.ref 346, Value.int 675 0, Value.int 179 0, Value.str (Str.ofString "/claim/cut.py") 676] }
noncomputable def o398 (_ : Params) : Obj := { cls := Value.type "function", data := Data.func { name := Str.ofString "_law_seen", qualname := Str.ofString "_law_seen", params := fnParams (cell 28), body := fnBody (cell 28), scope := fnScope (cell 28), globals := 3, closure := [], defaults := Value.none, kwdefaults := Value.none, pyModule := Value.str (Str.ofString "law_pb0187_01") 660, code := Value.ref 347 } }
noncomputable def o399 (_ : Params) : Obj := { cls := Value.type "tuple", data := Data.seq #[] }
noncomputable def o400 (_ : Params) : Obj := { cls := Value.none, data := Data.fields #[] }
noncomputable def o401 (_ : Params) : Obj := { cls := Value.none, data := Data.func { name := Str.ofString "law", qualname := Str.ofString "law", params := fnParams (cell 29), body := fnBody (cell 29), scope := fnScope (cell 29), globals := 0, closure := [], defaults := Value.none, kwdefaults := Value.none } }
noncomputable def o402 (_ : Params) : Obj := { cls := Value.type "code", data := Data.fields #[Value.str (Str.ofString "law") 678, Value.str (Str.ofString "law") 679, Value.str (Str.ofString "/claim/cut.py") 680, Value.int 181 0, Value.int 1 0, Value.int 0 0, Value.int 0 0, Value.int 3 0, Value.ref 349, Value.bool true, Value.int 181 0, Value.ref 350, Value.none, Value.none, Value.none, Value.ref 351, Value.int 681 0, Value.int 181 0, Value.str (Str.ofString "/claim/cut.py") 682] }
noncomputable def o403 (_ : Params) : Obj := { cls := Value.type "function", data := Data.func { name := Str.ofString "law", qualname := Str.ofString "law", params := fnParams (cell 29), body := fnBody (cell 29), scope := fnScope (cell 29), globals := 3, closure := [], defaults := Value.none, kwdefaults := Value.none, pyModule := Value.str (Str.ofString "law_pb0187_01") 660, code := Value.ref 352 } }
noncomputable def heap404 (P : Params) : Heap := { objs := { toList := boot_o_0 P :: boot_o_1 P :: boot_o_2 P :: o392 P :: boot_o_4 P :: boot_o_5 P :: boot_o_6 P :: boot_o_7 P :: boot_o_8 P :: boot_o_9 P :: boot_o_10 P :: o43 P :: o393 P :: o45 P :: o46 P :: o51 P :: o52 P :: o53 P :: o54 P :: o55 P :: o56 P :: o57 P :: o58 P :: o59 P :: o60 P :: o61 P :: o62 P :: o63 P :: o64 P :: o65 P :: o66 P :: o67 P :: o68 P :: o69 P :: o70 P :: o71 P :: o72 P :: o73 P :: o74 P :: o75 P :: o76 P :: o77 P :: o78 P :: o79 P :: o80 P :: o81 P :: o82 P :: o83 P :: o86 P :: o87 P :: o88 P :: o89 P :: o90 P :: o91 P :: o92 P :: o93 P :: o94 P :: o95 P :: o96 P :: o97 P :: o98 P :: o99 P :: o100 P :: o101 P :: o102 P :: o103 P :: o104 P :: o105 P :: o106 P :: o107 P :: o108 P :: o109 P :: o110 P :: o111 P :: o112 P :: o113 P :: o114 P :: o115 P :: o116 P :: o117 P :: o118 P :: o119 P :: o120 P :: o121 P :: o122 P :: o123 P :: o124 P :: o125 P :: o126 P :: o127 P :: o128 P :: o129 P :: o130 P :: o131 P :: o132 P :: o133 P :: o134 P :: o135 P :: o136 P :: o137 P :: o138 P :: o139 P :: o140 P :: o141 P :: o142 P :: o145 P :: o146 P :: o147 P :: o148 P :: o149 P :: o150 P :: o151 P :: o152 P :: o153 P :: o154 P :: o155 P :: o156 P :: o157 P :: o158 P :: o159 P :: o160 P :: o161 P :: o162 P :: o163 P :: o164 P :: o165 P :: o166 P :: o167 P :: o168 P :: o169 P :: o170 P :: o171 P :: o172 P :: o173 P :: o174 P :: o175 P :: o176 P :: o177 P :: o178 P :: o179 P :: o180 P :: o181 P :: o182 P :: o183 P :: o184 P :: o185 P :: o186 P :: o189 P :: o190 P :: o191 P :: o192 P :: o193 P :: o194 P :: o195 P :: o196 P :: o197 P :: o198 P :: o199 P :: o200 P :: o201 P :: o202 P :: o203 P :: o204 P :: o205 P :: o206 P :: o207 P :: o208 P :: o209 P :: o210 P :: o211 P :: o212 P :: o213 P :: o214 P :: o215 P :: o216 P :: o217 P :: o218 P :: o219 P :: o220 P :: o221 P :: o222 P :: o223 P :: o224 P :: o225 P :: o226 P :: o227 P :: o228 P :: o229 P :: o230 P :: o231 P :: o232 P :: o233 P :: o234 P :: o235 P :: o236 P :: o237 P :: o238 P :: o239 P :: o240 P :: o241 P :: o244 P :: o245 P :: o246 P :: o247 P :: o248 P :: o249 P :: o250 P :: o251 P :: o252 P :: o253 P :: o254 P :: o255 P :: o256 P :: o257 P :: o258 P :: o259 P :: o260 P :: o261 P :: o262 P :: o263 P :: o264 P :: o265 P :: o266 P :: o267 P :: o268 P :: o269 P :: o270 P :: o271 P :: o272 P :: o273 P :: o274 P :: o275 P :: o276 P :: o277 P :: o278 P :: o279 P :: o280 P :: o281 P :: o282 P :: o283 P :: o284 P :: o285 P :: o286 P :: o287 P :: o288 P :: o289 P :: o290 P :: o293 P :: o294 P :: o295 P :: o296 P :: o297 P :: o298 P :: o299 P :: o300 P :: o301 P :: o302 P :: o303 P :: o304 P :: o305 P :: o306 P :: o307 P :: o308 P :: o309 P :: o310 P :: o311 P :: o312 P :: o313 P :: o314 P :: o315 P :: o316 P :: o317 P :: o318 P :: o319 P :: o320 P :: o321 P :: o322 P :: o323 P :: o324 P :: o325 P :: o326 P :: o327 P :: o328 P :: o329 P :: o330 P :: o331 P :: o332 P :: o333 P :: o334 P :: o337 P :: o338 P :: o339 P :: o340 P :: o341 P :: o342 P :: o343 P :: o344 P :: o345 P :: o346 P :: o347 P :: o348 P :: o349 P :: o350 P :: o351 P :: o352 P :: o353 P :: o354 P :: o355 P :: o356 P :: o357 P :: o358 P :: o359 P :: o360 P :: o361 P :: o362 P :: o363 P :: o364 P :: o365 P :: o366 P :: o367 P :: o368 P :: o369 P :: o370 P :: o371 P :: o372 P :: o373 P :: o374 P :: o375 P :: o376 P :: o377 P :: o378 P :: o379 P :: o380 P :: o381 P :: o382 P :: o383 P :: o384 P :: o385 P :: o386 P :: o387 P :: o388 P :: o389 P :: o390 P :: o391 P :: o394 P :: o395 P :: o396 P :: o397 P :: o398 P :: o399 P :: o400 P :: o401 P :: o402 P :: o403 P :: [] } }
noncomputable def tree47 (P : Params) : BT := BT.node (boot_o_0 P) (BT.node (boot_o_1 P) (BT.node (boot_o_3 P) (BT.node (boot_o_7 P) BT.nil BT.nil) (BT.node (o43 P) BT.nil BT.nil)) (BT.node (boot_o_5 P) (BT.node (boot_o_9 P) BT.nil BT.nil) (BT.node (o45 P) BT.nil BT.nil))) (BT.node (boot_o_2 P) (BT.node (boot_o_4 P) (BT.node (boot_o_8 P) BT.nil BT.nil) (BT.node (o44 P) BT.nil BT.nil)) (BT.node (boot_o_6 P) (BT.node (boot_o_10 P) BT.nil BT.nil) (BT.node (o46 P) BT.nil BT.nil)))
noncomputable def o49 (P : Params) : Obj := { cls := Value.type "dict", data := Data.dict #[{ hash := PyData.keyHash P (Str.ofString "__name__"), key := Value.str (Str.ofString "__name__") 165, val := Value.str (Str.ofString "joinedhand.flags") 194 }, { hash := PyData.keyHash P (Str.ofString "__doc__"), key := Value.str (Str.ofString "__doc__") 166, val := Value.none }, { hash := PyData.keyHash P (Str.ofString "__package__"), key := Value.str (Str.ofString "__package__") 167, val := Value.none }, { hash := PyData.keyHash P (Str.ofString "__loader__"), key := Value.str (Str.ofString "__loader__") 168, val := Value.builtin "__main__.__loader__#opaque" }, { hash := PyData.keyHash P (Str.ofString "__spec__"), key := Value.str (Str.ofString "__spec__") 169, val := Value.none }, { hash := PyData.keyHash P (Str.ofString "__annotations__"), key := Value.str (Str.ofString "__annotations__") 170, val := Value.ref 6 }, { hash := PyData.keyHash P (Str.ofString "__builtins__"), key := Value.str (Str.ofString "__builtins__") 171, val := Value.ref 4 }, { hash := PyData.keyHash P (Str.ofString "__file__"), key := Value.str (Str.ofString "__file__") 173, val := Value.str (Str.ofString "/claim/cut.py") 172 }, { hash := PyData.keyHash P (Str.ofString "__cached__"), key := Value.str (Str.ofString "__cached__") 174, val := Value.none }, { hash := PyData.keyHash P (Str.ofString "_wall"), key := Value.str (Str.ofString "_wall") 193, val := Value.ref 21 }, { hash := PyData.keyHash P (Str.ofString "IGNORE_BASES"), key := Value.str (Str.ofString "IGNORE_BASES") 197, val := Value.int 2 196 }, { hash := PyData.keyHash P (Str.ofString "IGNORE_LIGATURES"), key := Value.str (Str.ofString "IGNORE_LIGATURES") 199, val := Value.int 4 198 }, { hash := PyData.keyHash P (Str.ofString "IGNORE_MARKS"), key := Value.str (Str.ofString "IGNORE_MARKS") 201, val := Value.int 8 200 }, { hash := PyData.keyHash P (Str.ofString "USE_SET"), key := Value.str (Str.ofString "USE_SET") 203, val := Value.int 16 202 }, { hash := PyData.keyHash P (Str.ofString "Lookup"), key := Value.str (Str.ofString "Lookup") 244, val := Value.ref 43 }] 15 }
noncomputable def o50 (_ : Params) : Obj := { cls := Value.none, data := Data.fields #[Value.int 1 0, Value.int 0 0, Value.ref 20, Value.int 9 0, Value.int 0 0, Value.ref 27] }
noncomputable def tree83 (P : Params) : BT := BT.node (boot_o_0 P) (BT.node (boot_o_1 P) (BT.node (o49 P) (BT.node (boot_o_7 P) (BT.node (o51 P) (BT.node (o67 P) BT.nil BT.nil) (BT.node (o83 P) BT.nil BT.nil)) (BT.node (o59 P) (BT.node (o75 P) BT.nil BT.nil) BT.nil)) (BT.node (o43 P) (BT.node (o55 P) (BT.node (o71 P) BT.nil BT.nil) BT.nil) (BT.node (o63 P) (BT.node (o79 P) BT.nil BT.nil) BT.nil))) (BT.node (boot_o_5 P) (BT.node (boot_o_9 P) (BT.node (o53 P) (BT.node (o69 P) BT.nil BT.nil) BT.nil) (BT.node (o61 P) (BT.node (o77 P) BT.nil BT.nil) BT.nil)) (BT.node (o45 P) (BT.node (o57 P) (BT.node (o73 P) BT.nil BT.nil) BT.nil) (BT.node (o65 P) (BT.node (o81 P) BT.nil BT.nil) BT.nil)))) (BT.node (boot_o_2 P) (BT.node (boot_o_4 P) (BT.node (boot_o_8 P) (BT.node (o52 P) (BT.node (o68 P) BT.nil BT.nil) BT.nil) (BT.node (o60 P) (BT.node (o76 P) BT.nil BT.nil) BT.nil)) (BT.node (o50 P) (BT.node (o56 P) (BT.node (o72 P) BT.nil BT.nil) BT.nil) (BT.node (o64 P) (BT.node (o80 P) BT.nil BT.nil) BT.nil))) (BT.node (boot_o_6 P) (BT.node (boot_o_10 P) (BT.node (o54 P) (BT.node (o70 P) BT.nil BT.nil) BT.nil) (BT.node (o62 P) (BT.node (o78 P) BT.nil BT.nil) BT.nil)) (BT.node (o46 P) (BT.node (o58 P) (BT.node (o74 P) BT.nil BT.nil) BT.nil) (BT.node (o66 P) (BT.node (o82 P) BT.nil BT.nil) BT.nil))))
noncomputable def o84 (P : Params) : Obj := { cls := Value.type "dict", data := Data.dict #[{ hash := PyData.keyHash P (Str.ofString "__name__"), key := Value.str (Str.ofString "__name__") 165, val := Value.str (Str.ofString "joinedhand.flags") 194 }, { hash := PyData.keyHash P (Str.ofString "__doc__"), key := Value.str (Str.ofString "__doc__") 166, val := Value.none }, { hash := PyData.keyHash P (Str.ofString "__package__"), key := Value.str (Str.ofString "__package__") 167, val := Value.none }, { hash := PyData.keyHash P (Str.ofString "__loader__"), key := Value.str (Str.ofString "__loader__") 168, val := Value.builtin "__main__.__loader__#opaque" }, { hash := PyData.keyHash P (Str.ofString "__spec__"), key := Value.str (Str.ofString "__spec__") 169, val := Value.none }, { hash := PyData.keyHash P (Str.ofString "__annotations__"), key := Value.str (Str.ofString "__annotations__") 170, val := Value.ref 6 }, { hash := PyData.keyHash P (Str.ofString "__builtins__"), key := Value.str (Str.ofString "__builtins__") 171, val := Value.ref 4 }, { hash := PyData.keyHash P (Str.ofString "__file__"), key := Value.str (Str.ofString "__file__") 173, val := Value.str (Str.ofString "/claim/cut.py") 172 }, { hash := PyData.keyHash P (Str.ofString "__cached__"), key := Value.str (Str.ofString "__cached__") 174, val := Value.none }, { hash := PyData.keyHash P (Str.ofString "_wall"), key := Value.str (Str.ofString "_wall") 193, val := Value.ref 21 }, { hash := PyData.keyHash P (Str.ofString "IGNORE_BASES"), key := Value.str (Str.ofString "IGNORE_BASES") 197, val := Value.int 2 196 }, { hash := PyData.keyHash P (Str.ofString "IGNORE_LIGATURES"), key := Value.str (Str.ofString "IGNORE_LIGATURES") 199, val := Value.int 4 198 }, { hash := PyData.keyHash P (Str.ofString "IGNORE_MARKS"), key := Value.str (Str.ofString "IGNORE_MARKS") 201, val := Value.int 8 200 }, { hash := PyData.keyHash P (Str.ofString "USE_SET"), key := Value.str (Str.ofString "USE_SET") 203, val := Value.int 16 202 }, { hash := PyData.keyHash P (Str.ofString "Lookup"), key := Value.str (Str.ofString "Lookup") 244, val := Value.ref 43 }, { hash := PyData.keyHash P (Str.ofString "Scene"), key := Value.str (Str.ofString "Scene") 285, val := Value.ref 65 }, { hash := PyData.keyHash P (Str.ofString "attach_wanted"), key := Value.str (Str.ofString "attach_wanted") 292, val := Value.ref 76 }, { hash := PyData.keyHash P (Str.ofString "class_bit"), key := Value.str (Str.ofString "class_bit") 299, val := Value.ref 83 }, { hash := PyData.keyHash P (Str.ofString "is_ignored"), key := Value.str (Str.ofString "is_ignored") 310, val := Value.ref 90 }, { hash := PyData.keyHash P (Str.ofString "passes"), key := Value.str (Str.ofString "passes") 318, val := Value.ref 97 }, { hash := PyData.keyHash P (Str.ofString "takes"), key := Value.str (Str.ofString "takes") 326, val := Value.ref 104 }] 21 }
noncomputable def o85 (_ : Params) : Obj := { cls := Value.none, data := Data.fields #[Value.int 1 0, Value.int 0 0, Value.ref 20, Value.int 9 0, Value.int 0 0, Value.ref 27, Value.int 20 0, Value.int 0 0, Value.ref 53, Value.int 30 0, Value.int 0 0, Value.ref 75, Value.int 32 0, Value.int 0 0, Value.ref 82, Value.int 34 0, Value.int 0 0, Value.ref 89, Value.int 44 0, Value.int 0 0, Value.ref 96, Value.int 46 0, Value.int 0 0, Value.ref 103] }
noncomputable def tree142 (P : Params) : BT := BT.node (boot_o_0 P) (BT.node (boot_o_1 P) (BT.node (o84 P) (BT.node (boot_o_7 P) (BT.node (o51 P) (BT.node (o67 P) (BT.node (o101 P) BT.nil BT.nil) (BT.node (o133 P) BT.nil BT.nil)) (BT.node (o83 P) (BT.node (o117 P) BT.nil BT.nil) BT.nil)) (BT.node (o59 P) (BT.node (o75 P) (BT.node (o109 P) BT.nil BT.nil) (BT.node (o141 P) BT.nil BT.nil)) (BT.node (o93 P) (BT.node (o125 P) BT.nil BT.nil) BT.nil))) (BT.node (o43 P) (BT.node (o55 P) (BT.node (o71 P) (BT.node (o105 P) BT.nil BT.nil) (BT.node (o137 P) BT.nil BT.nil)) (BT.node (o89 P) (BT.node (o121 P) BT.nil BT.nil) BT.nil)) (BT.node (o63 P) (BT.node (o79 P) (BT.node (o113 P) BT.nil BT.nil) BT.nil) (BT.node (o97 P) (BT.node (o129 P) BT.nil BT.nil) BT.nil)))) (BT.node (boot_o_5 P) (BT.node (boot_o_9 P) (BT.node (o53 P) (BT.node (o69 P) (BT.node (o103 P) BT.nil BT.nil) (BT.node (o135 P) BT.nil BT.nil)) (BT.node (o87 P) (BT.node (o119 P) BT.nil BT.nil) BT.nil)) (BT.node (o61 P) (BT.node (o77 P) (BT.node (o111 P) BT.nil BT.nil) BT.nil) (BT.node (o95 P) (BT.node (o127 P) BT.nil BT.nil) BT.nil))) (BT.node (o45 P) (BT.node (o57 P) (BT.node (o73 P) (BT.node (o107 P) BT.nil BT.nil) (BT.node (o139 P) BT.nil BT.nil)) (BT.node (o91 P) (BT.node (o123 P) BT.nil BT.nil) BT.nil)) (BT.node (o65 P) (BT.node (o81 P) (BT.node (o115 P) BT.nil BT.nil) BT.nil) (BT.node (o99 P) (BT.node (o131 P) BT.nil BT.nil) BT.nil))))) (BT.node (boot_o_2 P) (BT.node (boot_o_4 P) (BT.node (boot_o_8 P) (BT.node (o52 P) (BT.node (o68 P) (BT.node (o102 P) BT.nil BT.nil) (BT.node (o134 P) BT.nil BT.nil)) (BT.node (o86 P) (BT.node (o118 P) BT.nil BT.nil) BT.nil)) (BT.node (o60 P) (BT.node (o76 P) (BT.node (o110 P) BT.nil BT.nil) (BT.node (o142 P) BT.nil BT.nil)) (BT.node (o94 P) (BT.node (o126 P) BT.nil BT.nil) BT.nil))) (BT.node (o85 P) (BT.node (o56 P) (BT.node (o72 P) (BT.node (o106 P) BT.nil BT.nil) (BT.node (o138 P) BT.nil BT.nil)) (BT.node (o90 P) (BT.node (o122 P) BT.nil BT.nil) BT.nil)) (BT.node (o64 P) (BT.node (o80 P) (BT.node (o114 P) BT.nil BT.nil) BT.nil) (BT.node (o98 P) (BT.node (o130 P) BT.nil BT.nil) BT.nil)))) (BT.node (boot_o_6 P) (BT.node (boot_o_10 P) (BT.node (o54 P) (BT.node (o70 P) (BT.node (o104 P) BT.nil BT.nil) (BT.node (o136 P) BT.nil BT.nil)) (BT.node (o88 P) (BT.node (o120 P) BT.nil BT.nil) BT.nil)) (BT.node (o62 P) (BT.node (o78 P) (BT.node (o112 P) BT.nil BT.nil) BT.nil) (BT.node (o96 P) (BT.node (o128 P) BT.nil BT.nil) BT.nil))) (BT.node (o46 P) (BT.node (o58 P) (BT.node (o74 P) (BT.node (o108 P) BT.nil BT.nil) (BT.node (o140 P) BT.nil BT.nil)) (BT.node (o92 P) (BT.node (o124 P) BT.nil BT.nil) BT.nil)) (BT.node (o66 P) (BT.node (o82 P) (BT.node (o116 P) BT.nil BT.nil) BT.nil) (BT.node (o100 P) (BT.node (o132 P) BT.nil BT.nil) BT.nil)))))
noncomputable def o143 (P : Params) : Obj := { cls := Value.type "dict", data := Data.dict #[{ hash := PyData.keyHash P (Str.ofString "__name__"), key := Value.str (Str.ofString "__name__") 165, val := Value.str (Str.ofString "joinedhand.buffer") 336 }, { hash := PyData.keyHash P (Str.ofString "__doc__"), key := Value.str (Str.ofString "__doc__") 166, val := Value.none }, { hash := PyData.keyHash P (Str.ofString "__package__"), key := Value.str (Str.ofString "__package__") 167, val := Value.none }, { hash := PyData.keyHash P (Str.ofString "__loader__"), key := Value.str (Str.ofString "__loader__") 168, val := Value.builtin "__main__.__loader__#opaque" }, { hash := PyData.keyHash P (Str.ofString "__spec__"), key := Value.str (Str.ofString "__spec__") 169, val := Value.none }, { hash := PyData.keyHash P (Str.ofString "__annotations__"), key := Value.str (Str.ofString "__annotations__") 170, val := Value.ref 6 }, { hash := PyData.keyHash P (Str.ofString "__builtins__"), key := Value.str (Str.ofString "__builtins__") 171, val := Value.ref 4 }, { hash := PyData.keyHash P (Str.ofString "__file__"), key := Value.str (Str.ofString "__file__") 173, val := Value.str (Str.ofString "/claim/cut.py") 172 }, { hash := PyData.keyHash P (Str.ofString "__cached__"), key := Value.str (Str.ofString "__cached__") 174, val := Value.none }, { hash := PyData.keyHash P (Str.ofString "_wall"), key := Value.str (Str.ofString "_wall") 193, val := Value.ref 21 }, { hash := PyData.keyHash P (Str.ofString "IGNORE_BASES"), key := Value.str (Str.ofString "IGNORE_BASES") 197, val := Value.int 2 196 }, { hash := PyData.keyHash P (Str.ofString "IGNORE_LIGATURES"), key := Value.str (Str.ofString "IGNORE_LIGATURES") 199, val := Value.int 4 198 }, { hash := PyData.keyHash P (Str.ofString "IGNORE_MARKS"), key := Value.str (Str.ofString "IGNORE_MARKS") 201, val := Value.int 8 200 }, { hash := PyData.keyHash P (Str.ofString "USE_SET"), key := Value.str (Str.ofString "USE_SET") 203, val := Value.int 16 202 }, { hash := PyData.keyHash P (Str.ofString "Lookup"), key := Value.str (Str.ofString "Lookup") 244, val := Value.ref 43 }, { hash := PyData.keyHash P (Str.ofString "Scene"), key := Value.str (Str.ofString "Scene") 285, val := Value.ref 65 }, { hash := PyData.keyHash P (Str.ofString "attach_wanted"), key := Value.str (Str.ofString "attach_wanted") 292, val := Value.ref 76 }, { hash := PyData.keyHash P (Str.ofString "class_bit"), key := Value.str (Str.ofString "class_bit") 299, val := Value.ref 83 }, { hash := PyData.keyHash P (Str.ofString "is_ignored"), key := Value.str (Str.ofString "is_ignored") 310, val := Value.ref 90 }, { hash := PyData.keyHash P (Str.ofString "passes"), key := Value.str (Str.ofString "passes") 318, val := Value.ref 97 }, { hash := PyData.keyHash P (Str.ofString "takes"), key := Value.str (Str.ofString "takes") 326, val := Value.ref 104 }, { hash := PyData.keyHash P (Str.ofString "nested_scene"), key := Value.str (Str.ofString "nested_scene") 335, val := Value.ref 111 }, { hash := PyData.keyHash P (Str.ofString "Info"), key := Value.str (Str.ofString "Info") 397, val := Value.ref 142 }] 23 }
noncomputable def o144 (_ : Params) : Obj := { cls := Value.none, data := Data.fields #[Value.int 1 0, Value.int 0 0, Value.ref 20, Value.int 9 0, Value.int 0 0, Value.ref 27, Value.int 20 0, Value.int 0 0, Value.ref 53, Value.int 30 0, Value.int 0 0, Value.ref 75, Value.int 32 0, Value.int 0 0, Value.ref 82, Value.int 34 0, Value.int 0 0, Value.ref 89, Value.int 44 0, Value.int 0 0, Value.ref 96, Value.int 46 0, Value.int 0 0, Value.ref 103, Value.int 48 0, Value.int 0 0, Value.ref 110, Value.int 55 0, Value.int 0 0, Value.ref 117] }
noncomputable def tree186 (P : Params) : BT := BT.node (boot_o_0 P) (BT.node (boot_o_1 P) (BT.node (o143 P) (BT.node (boot_o_7 P) (BT.node (o51 P) (BT.node (o67 P) (BT.node (o101 P) (BT.node (o167 P) BT.nil BT.nil) BT.nil) (BT.node (o133 P) BT.nil BT.nil)) (BT.node (o83 P) (BT.node (o117 P) (BT.node (o183 P) BT.nil BT.nil) BT.nil) (BT.node (o151 P) BT.nil BT.nil))) (BT.node (o59 P) (BT.node (o75 P) (BT.node (o109 P) (BT.node (o175 P) BT.nil BT.nil) BT.nil) (BT.node (o141 P) BT.nil BT.nil)) (BT.node (o93 P) (BT.node (o125 P) BT.nil BT.nil) (BT.node (o159 P) BT.nil BT.nil)))) (BT.node (o43 P) (BT.node (o55 P) (BT.node (o71 P) (BT.node (o105 P) (BT.node (o171 P) BT.nil BT.nil) BT.nil) (BT.node (o137 P) BT.nil BT.nil)) (BT.node (o89 P) (BT.node (o121 P) BT.nil BT.nil) (BT.node (o155 P) BT.nil BT.nil))) (BT.node (o63 P) (BT.node (o79 P) (BT.node (o113 P) (BT.node (o179 P) BT.nil BT.nil) BT.nil) (BT.node (o147 P) BT.nil BT.nil)) (BT.node (o97 P) (BT.node (o129 P) BT.nil BT.nil) (BT.node (o163 P) BT.nil BT.nil))))) (BT.node (boot_o_5 P) (BT.node (boot_o_9 P) (BT.node (o53 P) (BT.node (o69 P) (BT.node (o103 P) (BT.node (o169 P) BT.nil BT.nil) BT.nil) (BT.node (o135 P) BT.nil BT.nil)) (BT.node (o87 P) (BT.node (o119 P) (BT.node (o185 P) BT.nil BT.nil) BT.nil) (BT.node (o153 P) BT.nil BT.nil))) (BT.node (o61 P) (BT.node (o77 P) (BT.node (o111 P) (BT.node (o177 P) BT.nil BT.nil) BT.nil) (BT.node (o145 P) BT.nil BT.nil)) (BT.node (o95 P) (BT.node (o127 P) BT.nil BT.nil) (BT.node (o161 P) BT.nil BT.nil)))) (BT.node (o45 P) (BT.node (o57 P) (BT.node (o73 P) (BT.node (o107 P) (BT.node (o173 P) BT.nil BT.nil) BT.nil) (BT.node (o139 P) BT.nil BT.nil)) (BT.node (o91 P) (BT.node (o123 P) BT.nil BT.nil) (BT.node (o157 P) BT.nil BT.nil))) (BT.node (o65 P) (BT.node (o81 P) (BT.node (o115 P) (BT.node (o181 P) BT.nil BT.nil) BT.nil) (BT.node (o149 P) BT.nil BT.nil)) (BT.node (o99 P) (BT.node (o131 P) BT.nil BT.nil) (BT.node (o165 P) BT.nil BT.nil)))))) (BT.node (boot_o_2 P) (BT.node (boot_o_4 P) (BT.node (boot_o_8 P) (BT.node (o52 P) (BT.node (o68 P) (BT.node (o102 P) (BT.node (o168 P) BT.nil BT.nil) BT.nil) (BT.node (o134 P) BT.nil BT.nil)) (BT.node (o86 P) (BT.node (o118 P) (BT.node (o184 P) BT.nil BT.nil) BT.nil) (BT.node (o152 P) BT.nil BT.nil))) (BT.node (o60 P) (BT.node (o76 P) (BT.node (o110 P) (BT.node (o176 P) BT.nil BT.nil) BT.nil) (BT.node (o142 P) BT.nil BT.nil)) (BT.node (o94 P) (BT.node (o126 P) BT.nil BT.nil) (BT.node (o160 P) BT.nil BT.nil)))) (BT.node (o144 P) (BT.node (o56 P) (BT.node (o72 P) (BT.node (o106 P) (BT.node (o172 P) BT.nil BT.nil) BT.nil) (BT.node (o138 P) BT.nil BT.nil)) (BT.node (o90 P) (BT.node (o122 P) BT.nil BT.nil) (BT.node (o156 P) BT.nil BT.nil))) (BT.node (o64 P) (BT.node (o80 P) (BT.node (o114 P) (BT.node (o180 P) BT.nil BT.nil) BT.nil) (BT.node (o148 P) BT.nil BT.nil)) (BT.node (o98 P) (BT.node (o130 P) BT.nil BT.nil) (BT.node (o164 P) BT.nil BT.nil))))) (BT.node (boot_o_6 P) (BT.node (boot_o_10 P) (BT.node (o54 P) (BT.node (o70 P) (BT.node (o104 P) (BT.node (o170 P) BT.nil BT.nil) BT.nil) (BT.node (o136 P) BT.nil BT.nil)) (BT.node (o88 P) (BT.node (o120 P) (BT.node (o186 P) BT.nil BT.nil) BT.nil) (BT.node (o154 P) BT.nil BT.nil))) (BT.node (o62 P) (BT.node (o78 P) (BT.node (o112 P) (BT.node (o178 P) BT.nil BT.nil) BT.nil) (BT.node (o146 P) BT.nil BT.nil)) (BT.node (o96 P) (BT.node (o128 P) BT.nil BT.nil) (BT.node (o162 P) BT.nil BT.nil)))) (BT.node (o46 P) (BT.node (o58 P) (BT.node (o74 P) (BT.node (o108 P) (BT.node (o174 P) BT.nil BT.nil) BT.nil) (BT.node (o140 P) BT.nil BT.nil)) (BT.node (o92 P) (BT.node (o124 P) BT.nil BT.nil) (BT.node (o158 P) BT.nil BT.nil))) (BT.node (o66 P) (BT.node (o82 P) (BT.node (o116 P) (BT.node (o182 P) BT.nil BT.nil) BT.nil) (BT.node (o150 P) BT.nil BT.nil)) (BT.node (o100 P) (BT.node (o132 P) BT.nil BT.nil) (BT.node (o166 P) BT.nil BT.nil))))))
noncomputable def o187 (P : Params) : Obj := { cls := Value.type "dict", data := Data.dict #[{ hash := PyData.keyHash P (Str.ofString "__name__"), key := Value.str (Str.ofString "__name__") 165, val := Value.str (Str.ofString "joinedhand.classdefs") 464 }, { hash := PyData.keyHash P (Str.ofString "__doc__"), key := Value.str (Str.ofString "__doc__") 166, val := Value.none }, { hash := PyData.keyHash P (Str.ofString "__package__"), key := Value.str (Str.ofString "__package__") 167, val := Value.none }, { hash := PyData.keyHash P (Str.ofString "__loader__"), key := Value.str (Str.ofString "__loader__") 168, val := Value.builtin "__main__.__loader__#opaque" }, { hash := PyData.keyHash P (Str.ofString "__spec__"), key := Value.str (Str.ofString "__spec__") 169, val := Value.none }, { hash := PyData.keyHash P (Str.ofString "__annotations__"), key := Value.str (Str.ofString "__annotations__") 170, val := Value.ref 6 }, { hash := PyData.keyHash P (Str.ofString "__builtins__"), key := Value.str (Str.ofString "__builtins__") 171, val := Value.ref 4 }, { hash := PyData.keyHash P (Str.ofString "__file__"), key := Value.str (Str.ofString "__file__") 173, val := Value.str (Str.ofString "/claim/cut.py") 172 }, { hash := PyData.keyHash P (Str.ofString "__cached__"), key := Value.str (Str.ofString "__cached__") 174, val := Value.none }, { hash := PyData.keyHash P (Str.ofString "_wall"), key := Value.str (Str.ofString "_wall") 193, val := Value.ref 21 }, { hash := PyData.keyHash P (Str.ofString "IGNORE_BASES"), key := Value.str (Str.ofString "IGNORE_BASES") 197, val := Value.int 2 196 }, { hash := PyData.keyHash P (Str.ofString "IGNORE_LIGATURES"), key := Value.str (Str.ofString "IGNORE_LIGATURES") 199, val := Value.int 4 198 }, { hash := PyData.keyHash P (Str.ofString "IGNORE_MARKS"), key := Value.str (Str.ofString "IGNORE_MARKS") 201, val := Value.int 8 200 }, { hash := PyData.keyHash P (Str.ofString "USE_SET"), key := Value.str (Str.ofString "USE_SET") 203, val := Value.int 16 202 }, { hash := PyData.keyHash P (Str.ofString "Lookup"), key := Value.str (Str.ofString "Lookup") 244, val := Value.ref 43 }, { hash := PyData.keyHash P (Str.ofString "Scene"), key := Value.str (Str.ofString "Scene") 285, val := Value.ref 65 }, { hash := PyData.keyHash P (Str.ofString "attach_wanted"), key := Value.str (Str.ofString "attach_wanted") 292, val := Value.ref 76 }, { hash := PyData.keyHash P (Str.ofString "class_bit"), key := Value.str (Str.ofString "class_bit") 299, val := Value.ref 83 }, { hash := PyData.keyHash P (Str.ofString "is_ignored"), key := Value.str (Str.ofString "is_ignored") 310, val := Value.ref 90 }, { hash := PyData.keyHash P (Str.ofString "passes"), key := Value.str (Str.ofString "passes") 318, val := Value.ref 97 }, { hash := PyData.keyHash P (Str.ofString "takes"), key := Value.str (Str.ofString "takes") 326, val := Value.ref 104 }, { hash := PyData.keyHash P (Str.ofString "nested_scene"), key := Value.str (Str.ofString "nested_scene") 335, val := Value.ref 111 }, { hash := PyData.keyHash P (Str.ofString "Info"), key := Value.str (Str.ofString "Info") 397, val := Value.ref 142 }, { hash := PyData.keyHash P (Str.ofString "Buffer"), key := Value.str (Str.ofString "Buffer") 463, val := Value.ref 195 }] 24 }
noncomputable def o188 (_ : Params) : Obj := { cls := Value.none, data := Data.fields #[Value.int 1 0, Value.int 0 0, Value.ref 20, Value.int 9 0, Value.int 0 0, Value.ref 27, Value.int 20 0, Value.int 0 0, Value.ref 53, Value.int 30 0, Value.int 0 0, Value.ref 75, Value.int 32 0, Value.int 0 0, Value.ref 82, Value.int 34 0, Value.int 0 0, Value.ref 89, Value.int 44 0, Value.int 0 0, Value.ref 96, Value.int 46 0, Value.int 0 0, Value.ref 103, Value.int 48 0, Value.int 0 0, Value.ref 110, Value.int 55 0, Value.int 0 0, Value.ref 117, Value.int 80 0, Value.int 0 0, Value.ref 152] }
noncomputable def tree241 (P : Params) : BT := BT.node (boot_o_0 P) (BT.node (boot_o_1 P) (BT.node (o187 P) (BT.node (boot_o_7 P) (BT.node (o51 P) (BT.node (o67 P) (BT.node (o101 P) (BT.node (o167 P) BT.nil BT.nil) (BT.node (o233 P) BT.nil BT.nil)) (BT.node (o133 P) (BT.node (o201 P) BT.nil BT.nil) BT.nil)) (BT.node (o83 P) (BT.node (o117 P) (BT.node (o183 P) BT.nil BT.nil) BT.nil) (BT.node (o151 P) (BT.node (o217 P) BT.nil BT.nil) BT.nil))) (BT.node (o59 P) (BT.node (o75 P) (BT.node (o109 P) (BT.node (o175 P) BT.nil BT.nil) (BT.node (o241 P) BT.nil BT.nil)) (BT.node (o141 P) (BT.node (o209 P) BT.nil BT.nil) BT.nil)) (BT.node (o93 P) (BT.node (o125 P) (BT.node (o193 P) BT.nil BT.nil) BT.nil) (BT.node (o159 P) (BT.node (o225 P) BT.nil BT.nil) BT.nil)))) (BT.node (o43 P) (BT.node (o55 P) (BT.node (o71 P) (BT.node (o105 P) (BT.node (o171 P) BT.nil BT.nil) (BT.node (o237 P) BT.nil BT.nil)) (BT.node (o137 P) (BT.node (o205 P) BT.nil BT.nil) BT.nil)) (BT.node (o89 P) (BT.node (o121 P) (BT.node (o189 P) BT.nil BT.nil) BT.nil) (BT.node (o155 P) (BT.node (o221 P) BT.nil BT.nil) BT.nil))) (BT.node (o63 P) (BT.node (o79 P) (BT.node (o113 P) (BT.node (o179 P) BT.nil BT.nil) BT.nil) (BT.node (o147 P) (BT.node (o213 P) BT.nil BT.nil) BT.nil)) (BT.node (o97 P) (BT.node (o129 P) (BT.node (o197 P) BT.nil BT.nil) BT.nil) (BT.node (o163 P) (BT.node (o229 P) BT.nil BT.nil) BT.nil))))) (BT.node (boot_o_5 P) (BT.node (boot_o_9 P) (BT.node (o53 P) (BT.node (o69 P) (BT.node (o103 P) (BT.node (o169 P) BT.nil BT.nil) (BT.node (o235 P) BT.nil BT.nil)) (BT.node (o135 P) (BT.node (o203 P) BT.nil BT.nil) BT.nil)) (BT.node (o87 P) (BT.node (o119 P) (BT.node (o185 P) BT.nil BT.nil) BT.nil) (BT.node (o153 P) (BT.node (o219 P) BT.nil BT.nil) BT.nil))) (BT.node (o61 P) (BT.node (o77 P) (BT.node (o111 P) (BT.node (o177 P) BT.nil BT.nil) BT.nil) (BT.node (o145 P) (BT.node (o211 P) BT.nil BT.nil) BT.nil)) (BT.node (o95 P) (BT.node (o127 P) (BT.node (o195 P) BT.nil BT.nil) BT.nil) (BT.node (o161 P) (BT.node (o227 P) BT.nil BT.nil) BT.nil)))) (BT.node (o45 P) (BT.node (o57 P) (BT.node (o73 P) (BT.node (o107 P) (BT.node (o173 P) BT.nil BT.nil) (BT.node (o239 P) BT.nil BT.nil)) (BT.node (o139 P) (BT.node (o207 P) BT.nil BT.nil) BT.nil)) (BT.node (o91 P) (BT.node (o123 P) (BT.node (o191 P) BT.nil BT.nil) BT.nil) (BT.node (o157 P) (BT.node (o223 P) BT.nil BT.nil) BT.nil))) (BT.node (o65 P) (BT.node (o81 P) (BT.node (o115 P) (BT.node (o181 P) BT.nil BT.nil) BT.nil) (BT.node (o149 P) (BT.node (o215 P) BT.nil BT.nil) BT.nil)) (BT.node (o99 P) (BT.node (o131 P) (BT.node (o199 P) BT.nil BT.nil) BT.nil) (BT.node (o165 P) (BT.node (o231 P) BT.nil BT.nil) BT.nil)))))) (BT.node (boot_o_2 P) (BT.node (boot_o_4 P) (BT.node (boot_o_8 P) (BT.node (o52 P) (BT.node (o68 P) (BT.node (o102 P) (BT.node (o168 P) BT.nil BT.nil) (BT.node (o234 P) BT.nil BT.nil)) (BT.node (o134 P) (BT.node (o202 P) BT.nil BT.nil) BT.nil)) (BT.node (o86 P) (BT.node (o118 P) (BT.node (o184 P) BT.nil BT.nil) BT.nil) (BT.node (o152 P) (BT.node (o218 P) BT.nil BT.nil) BT.nil))) (BT.node (o60 P) (BT.node (o76 P) (BT.node (o110 P) (BT.node (o176 P) BT.nil BT.nil) BT.nil) (BT.node (o142 P) (BT.node (o210 P) BT.nil BT.nil) BT.nil)) (BT.node (o94 P) (BT.node (o126 P) (BT.node (o194 P) BT.nil BT.nil) BT.nil) (BT.node (o160 P) (BT.node (o226 P) BT.nil BT.nil) BT.nil)))) (BT.node (o188 P) (BT.node (o56 P) (BT.node (o72 P) (BT.node (o106 P) (BT.node (o172 P) BT.nil BT.nil) (BT.node (o238 P) BT.nil BT.nil)) (BT.node (o138 P) (BT.node (o206 P) BT.nil BT.nil) BT.nil)) (BT.node (o90 P) (BT.node (o122 P) (BT.node (o190 P) BT.nil BT.nil) BT.nil) (BT.node (o156 P) (BT.node (o222 P) BT.nil BT.nil) BT.nil))) (BT.node (o64 P) (BT.node (o80 P) (BT.node (o114 P) (BT.node (o180 P) BT.nil BT.nil) BT.nil) (BT.node (o148 P) (BT.node (o214 P) BT.nil BT.nil) BT.nil)) (BT.node (o98 P) (BT.node (o130 P) (BT.node (o198 P) BT.nil BT.nil) BT.nil) (BT.node (o164 P) (BT.node (o230 P) BT.nil BT.nil) BT.nil))))) (BT.node (boot_o_6 P) (BT.node (boot_o_10 P) (BT.node (o54 P) (BT.node (o70 P) (BT.node (o104 P) (BT.node (o170 P) BT.nil BT.nil) (BT.node (o236 P) BT.nil BT.nil)) (BT.node (o136 P) (BT.node (o204 P) BT.nil BT.nil) BT.nil)) (BT.node (o88 P) (BT.node (o120 P) (BT.node (o186 P) BT.nil BT.nil) BT.nil) (BT.node (o154 P) (BT.node (o220 P) BT.nil BT.nil) BT.nil))) (BT.node (o62 P) (BT.node (o78 P) (BT.node (o112 P) (BT.node (o178 P) BT.nil BT.nil) BT.nil) (BT.node (o146 P) (BT.node (o212 P) BT.nil BT.nil) BT.nil)) (BT.node (o96 P) (BT.node (o128 P) (BT.node (o196 P) BT.nil BT.nil) BT.nil) (BT.node (o162 P) (BT.node (o228 P) BT.nil BT.nil) BT.nil)))) (BT.node (o46 P) (BT.node (o58 P) (BT.node (o74 P) (BT.node (o108 P) (BT.node (o174 P) BT.nil BT.nil) (BT.node (o240 P) BT.nil BT.nil)) (BT.node (o140 P) (BT.node (o208 P) BT.nil BT.nil) BT.nil)) (BT.node (o92 P) (BT.node (o124 P) (BT.node (o192 P) BT.nil BT.nil) BT.nil) (BT.node (o158 P) (BT.node (o224 P) BT.nil BT.nil) BT.nil))) (BT.node (o66 P) (BT.node (o82 P) (BT.node (o116 P) (BT.node (o182 P) BT.nil BT.nil) BT.nil) (BT.node (o150 P) (BT.node (o216 P) BT.nil BT.nil) BT.nil)) (BT.node (o100 P) (BT.node (o132 P) (BT.node (o200 P) BT.nil BT.nil) BT.nil) (BT.node (o166 P) (BT.node (o232 P) BT.nil BT.nil) BT.nil))))))
noncomputable def o242 (P : Params) : Obj := { cls := Value.type "dict", data := Data.dict #[{ hash := PyData.keyHash P (Str.ofString "__name__"), key := Value.str (Str.ofString "__name__") 165, val := Value.str (Str.ofString "joinedhand.coverage") 526 }, { hash := PyData.keyHash P (Str.ofString "__doc__"), key := Value.str (Str.ofString "__doc__") 166, val := Value.none }, { hash := PyData.keyHash P (Str.ofString "__package__"), key := Value.str (Str.ofString "__package__") 167, val := Value.none }, { hash := PyData.keyHash P (Str.ofString "__loader__"), key := Value.str (Str.ofString "__loader__") 168, val := Value.builtin "__main__.__loader__#opaque" }, { hash := PyData.keyHash P (Str.ofString "__spec__"), key := Value.str (Str.ofString "__spec__") 169, val := Value.none }, { hash := PyData.keyHash P (Str.ofString "__annotations__"), key := Value.str (Str.ofString "__annotations__") 170, val := Value.ref 6 }, { hash := PyData.keyHash P (Str.ofString "__builtins__"), key := Value.str (Str.ofString "__builtins__") 171, val := Value.ref 4 }, { hash := PyData.keyHash P (Str.ofString "__file__"), key := Value.str (Str.ofString "__file__") 173, val := Value.str (Str.ofString "/claim/cut.py") 172 }, { hash := PyData.keyHash P (Str.ofString "__cached__"), key := Value.str (Str.ofString "__cached__") 174, val := Value.none }, { hash := PyData.keyHash P (Str.ofString "_wall"), key := Value.str (Str.ofString "_wall") 193, val := Value.ref 21 }, { hash := PyData.keyHash P (Str.ofString "IGNORE_BASES"), key := Value.str (Str.ofString "IGNORE_BASES") 197, val := Value.int 2 196 }, { hash := PyData.keyHash P (Str.ofString "IGNORE_LIGATURES"), key := Value.str (Str.ofString "IGNORE_LIGATURES") 199, val := Value.int 4 198 }, { hash := PyData.keyHash P (Str.ofString "IGNORE_MARKS"), key := Value.str (Str.ofString "IGNORE_MARKS") 201, val := Value.int 8 200 }, { hash := PyData.keyHash P (Str.ofString "USE_SET"), key := Value.str (Str.ofString "USE_SET") 203, val := Value.int 16 202 }, { hash := PyData.keyHash P (Str.ofString "Lookup"), key := Value.str (Str.ofString "Lookup") 244, val := Value.ref 43 }, { hash := PyData.keyHash P (Str.ofString "Scene"), key := Value.str (Str.ofString "Scene") 285, val := Value.ref 65 }, { hash := PyData.keyHash P (Str.ofString "attach_wanted"), key := Value.str (Str.ofString "attach_wanted") 292, val := Value.ref 76 }, { hash := PyData.keyHash P (Str.ofString "class_bit"), key := Value.str (Str.ofString "class_bit") 299, val := Value.ref 83 }, { hash := PyData.keyHash P (Str.ofString "is_ignored"), key := Value.str (Str.ofString "is_ignored") 310, val := Value.ref 90 }, { hash := PyData.keyHash P (Str.ofString "passes"), key := Value.str (Str.ofString "passes") 318, val := Value.ref 97 }, { hash := PyData.keyHash P (Str.ofString "takes"), key := Value.str (Str.ofString "takes") 326, val := Value.ref 104 }, { hash := PyData.keyHash P (Str.ofString "nested_scene"), key := Value.str (Str.ofString "nested_scene") 335, val := Value.ref 111 }, { hash := PyData.keyHash P (Str.ofString "Info"), key := Value.str (Str.ofString "Info") 397, val := Value.ref 142 }, { hash := PyData.keyHash P (Str.ofString "Buffer"), key := Value.str (Str.ofString "Buffer") 463, val := Value.ref 195 }, { hash := PyData.keyHash P (Str.ofString "ClassDef"), key := Value.str (Str.ofString "ClassDef") 525, val := Value.ref 242 }] 25 }
noncomputable def o243 (_ : Params) : Obj := { cls := Value.none, data := Data.fields #[Value.int 1 0, Value.int 0 0, Value.ref 20, Value.int 9 0, Value.int 0 0, Value.ref 27, Value.int 20 0, Value.int 0 0, Value.ref 53, Value.int 30 0, Value.int 0 0, Value.ref 75, Value.int 32 0, Value.int 0 0, Value.ref 82, Value.int 34 0, Value.int 0 0, Value.ref 89, Value.int 44 0, Value.int 0 0, Value.ref 96, Value.int 46 0, Value.int 0 0, Value.ref 103, Value.int 48 0, Value.int 0 0, Value.ref 110, Value.int 55 0, Value.int 0 0, Value.ref 117, Value.int 80 0, Value.int 0 0, Value.ref 152, Value.int 103 0, Value.int 0 0, Value.ref 205] }
noncomputable def tree290 (P : Params) : BT := BT.node (boot_o_0 P) (BT.node (boot_o_1 P) (BT.node (o242 P) (BT.node (boot_o_7 P) (BT.node (o51 P) (BT.node (o67 P) (BT.node (o101 P) (BT.node (o167 P) BT.nil BT.nil) (BT.node (o233 P) BT.nil BT.nil)) (BT.node (o133 P) (BT.node (o201 P) BT.nil BT.nil) (BT.node (o267 P) BT.nil BT.nil))) (BT.node (o83 P) (BT.node (o117 P) (BT.node (o183 P) BT.nil BT.nil) (BT.node (o251 P) BT.nil BT.nil)) (BT.node (o151 P) (BT.node (o217 P) BT.nil BT.nil) (BT.node (o283 P) BT.nil BT.nil)))) (BT.node (o59 P) (BT.node (o75 P) (BT.node (o109 P) (BT.node (o175 P) BT.nil BT.nil) (BT.node (o241 P) BT.nil BT.nil)) (BT.node (o141 P) (BT.node (o209 P) BT.nil BT.nil) (BT.node (o275 P) BT.nil BT.nil))) (BT.node (o93 P) (BT.node (o125 P) (BT.node (o193 P) BT.nil BT.nil) (BT.node (o259 P) BT.nil BT.nil)) (BT.node (o159 P) (BT.node (o225 P) BT.nil BT.nil) BT.nil)))) (BT.node (o43 P) (BT.node (o55 P) (BT.node (o71 P) (BT.node (o105 P) (BT.node (o171 P) BT.nil BT.nil) (BT.node (o237 P) BT.nil BT.nil)) (BT.node (o137 P) (BT.node (o205 P) BT.nil BT.nil) (BT.node (o271 P) BT.nil BT.nil))) (BT.node (o89 P) (BT.node (o121 P) (BT.node (o189 P) BT.nil BT.nil) (BT.node (o255 P) BT.nil BT.nil)) (BT.node (o155 P) (BT.node (o221 P) BT.nil BT.nil) (BT.node (o287 P) BT.nil BT.nil)))) (BT.node (o63 P) (BT.node (o79 P) (BT.node (o113 P) (BT.node (o179 P) BT.nil BT.nil) (BT.node (o247 P) BT.nil BT.nil)) (BT.node (o147 P) (BT.node (o213 P) BT.nil BT.nil) (BT.node (o279 P) BT.nil BT.nil))) (BT.node (o97 P) (BT.node (o129 P) (BT.node (o197 P) BT.nil BT.nil) (BT.node (o263 P) BT.nil BT.nil)) (BT.node (o163 P) (BT.node (o229 P) BT.nil BT.nil) BT.nil))))) (BT.node (boot_o_5 P) (BT.node (boot_o_9 P) (BT.node (o53 P) (BT.node (o69 P) (BT.node (o103 P) (BT.node (o169 P) BT.nil BT.nil) (BT.node (o235 P) BT.nil BT.nil)) (BT.node (o135 P) (BT.node (o203 P) BT.nil BT.nil) (BT.node (o269 P) BT.nil BT.nil))) (BT.node (o87 P) (BT.node (o119 P) (BT.node (o185 P) BT.nil BT.nil) (BT.node (o253 P) BT.nil BT.nil)) (BT.node (o153 P) (BT.node (o219 P) BT.nil BT.nil) (BT.node (o285 P) BT.nil BT.nil)))) (BT.node (o61 P) (BT.node (o77 P) (BT.node (o111 P) (BT.node (o177 P) BT.nil BT.nil) (BT.node (o245 P) BT.nil BT.nil)) (BT.node (o145 P) (BT.node (o211 P) BT.nil BT.nil) (BT.node (o277 P) BT.nil BT.nil))) (BT.node (o95 P) (BT.node (o127 P) (BT.node (o195 P) BT.nil BT.nil) (BT.node (o261 P) BT.nil BT.nil)) (BT.node (o161 P) (BT.node (o227 P) BT.nil BT.nil) BT.nil)))) (BT.node (o45 P) (BT.node (o57 P) (BT.node (o73 P) (BT.node (o107 P) (BT.node (o173 P) BT.nil BT.nil) (BT.node (o239 P) BT.nil BT.nil)) (BT.node (o139 P) (BT.node (o207 P) BT.nil BT.nil) (BT.node (o273 P) BT.nil BT.nil))) (BT.node (o91 P) (BT.node (o123 P) (BT.node (o191 P) BT.nil BT.nil) (BT.node (o257 P) BT.nil BT.nil)) (BT.node (o157 P) (BT.node (o223 P) BT.nil BT.nil) (BT.node (o289 P) BT.nil BT.nil)))) (BT.node (o65 P) (BT.node (o81 P) (BT.node (o115 P) (BT.node (o181 P) BT.nil BT.nil) (BT.node (o249 P) BT.nil BT.nil)) (BT.node (o149 P) (BT.node (o215 P) BT.nil BT.nil) (BT.node (o281 P) BT.nil BT.nil))) (BT.node (o99 P) (BT.node (o131 P) (BT.node (o199 P) BT.nil BT.nil) (BT.node (o265 P) BT.nil BT.nil)) (BT.node (o165 P) (BT.node (o231 P) BT.nil BT.nil) BT.nil)))))) (BT.node (boot_o_2 P) (BT.node (boot_o_4 P) (BT.node (boot_o_8 P) (BT.node (o52 P) (BT.node (o68 P) (BT.node (o102 P) (BT.node (o168 P) BT.nil BT.nil) (BT.node (o234 P) BT.nil BT.nil)) (BT.node (o134 P) (BT.node (o202 P) BT.nil BT.nil) (BT.node (o268 P) BT.nil BT.nil))) (BT.node (o86 P) (BT.node (o118 P) (BT.node (o184 P) BT.nil BT.nil) (BT.node (o252 P) BT.nil BT.nil)) (BT.node (o152 P) (BT.node (o218 P) BT.nil BT.nil) (BT.node (o284 P) BT.nil BT.nil)))) (BT.node (o60 P) (BT.node (o76 P) (BT.node (o110 P) (BT.node (o176 P) BT.nil BT.nil) (BT.node (o244 P) BT.nil BT.nil)) (BT.node (o142 P) (BT.node (o210 P) BT.nil BT.nil) (BT.node (o276 P) BT.nil BT.nil))) (BT.node (o94 P) (BT.node (o126 P) (BT.node (o194 P) BT.nil BT.nil) (BT.node (o260 P) BT.nil BT.nil)) (BT.node (o160 P) (BT.node (o226 P) BT.nil BT.nil) BT.nil)))) (BT.node (o243 P) (BT.node (o56 P) (BT.node (o72 P) (BT.node (o106 P) (BT.node (o172 P) BT.nil BT.nil) (BT.node (o238 P) BT.nil BT.nil)) (BT.node (o138 P) (BT.node (o206 P) BT.nil BT.nil) (BT.node (o272 P) BT.nil BT.nil))) (BT.node (o90 P) (BT.node (o122 P) (BT.node (o190 P) BT.nil BT.nil) (BT.node (o256 P) BT.nil BT.nil)) (BT.node (o156 P) (BT.node (o222 P) BT.nil BT.nil) (BT.node (o288 P) BT.nil BT.nil)))) (BT.node (o64 P) (BT.node (o80 P) (BT.node (o114 P) (BT.node (o180 P) BT.nil BT.nil) (BT.node (o248 P) BT.nil BT.nil)) (BT.node (o148 P) (BT.node (o214 P) BT.nil BT.nil) (BT.node (o280 P) BT.nil BT.nil))) (BT.node (o98 P) (BT.node (o130 P) (BT.node (o198 P) BT.nil BT.nil) (BT.node (o264 P) BT.nil BT.nil)) (BT.node (o164 P) (BT.node (o230 P) BT.nil BT.nil) BT.nil))))) (BT.node (boot_o_6 P) (BT.node (boot_o_10 P) (BT.node (o54 P) (BT.node (o70 P) (BT.node (o104 P) (BT.node (o170 P) BT.nil BT.nil) (BT.node (o236 P) BT.nil BT.nil)) (BT.node (o136 P) (BT.node (o204 P) BT.nil BT.nil) (BT.node (o270 P) BT.nil BT.nil))) (BT.node (o88 P) (BT.node (o120 P) (BT.node (o186 P) BT.nil BT.nil) (BT.node (o254 P) BT.nil BT.nil)) (BT.node (o154 P) (BT.node (o220 P) BT.nil BT.nil) (BT.node (o286 P) BT.nil BT.nil)))) (BT.node (o62 P) (BT.node (o78 P) (BT.node (o112 P) (BT.node (o178 P) BT.nil BT.nil) (BT.node (o246 P) BT.nil BT.nil)) (BT.node (o146 P) (BT.node (o212 P) BT.nil BT.nil) (BT.node (o278 P) BT.nil BT.nil))) (BT.node (o96 P) (BT.node (o128 P) (BT.node (o196 P) BT.nil BT.nil) (BT.node (o262 P) BT.nil BT.nil)) (BT.node (o162 P) (BT.node (o228 P) BT.nil BT.nil) BT.nil)))) (BT.node (o46 P) (BT.node (o58 P) (BT.node (o74 P) (BT.node (o108 P) (BT.node (o174 P) BT.nil BT.nil) (BT.node (o240 P) BT.nil BT.nil)) (BT.node (o140 P) (BT.node (o208 P) BT.nil BT.nil) (BT.node (o274 P) BT.nil BT.nil))) (BT.node (o92 P) (BT.node (o124 P) (BT.node (o192 P) BT.nil BT.nil) (BT.node (o258 P) BT.nil BT.nil)) (BT.node (o158 P) (BT.node (o224 P) BT.nil BT.nil) (BT.node (o290 P) BT.nil BT.nil)))) (BT.node (o66 P) (BT.node (o82 P) (BT.node (o116 P) (BT.node (o182 P) BT.nil BT.nil) (BT.node (o250 P) BT.nil BT.nil)) (BT.node (o150 P) (BT.node (o216 P) BT.nil BT.nil) (BT.node (o282 P) BT.nil BT.nil))) (BT.node (o100 P) (BT.node (o132 P) (BT.node (o200 P) BT.nil BT.nil) (BT.node (o266 P) BT.nil BT.nil)) (BT.node (o166 P) (BT.node (o232 P) BT.nil BT.nil) BT.nil))))))
noncomputable def o291 (P : Params) : Obj := { cls := Value.type "dict", data := Data.dict #[{ hash := PyData.keyHash P (Str.ofString "__name__"), key := Value.str (Str.ofString "__name__") 165, val := Value.str (Str.ofString "joinedhand.gdef") 583 }, { hash := PyData.keyHash P (Str.ofString "__doc__"), key := Value.str (Str.ofString "__doc__") 166, val := Value.none }, { hash := PyData.keyHash P (Str.ofString "__package__"), key := Value.str (Str.ofString "__package__") 167, val := Value.none }, { hash := PyData.keyHash P (Str.ofString "__loader__"), key := Value.str (Str.ofString "__loader__") 168, val := Value.builtin "__main__.__loader__#opaque" }, { hash := PyData.keyHash P (Str.ofString "__spec__"), key := Value.str (Str.ofString "__spec__") 169, val := Value.none }, { hash := PyData.keyHash P (Str.ofString "__annotations__"), key := Value.str (Str.ofString "__annotations__") 170, val := Value.ref 6 }, { hash := PyData.keyHash P (Str.ofString "__builtins__"), key := Value.str (Str.ofString "__builtins__") 171, val := Value.ref 4 }, { hash := PyData.keyHash P (Str.ofString "__file__"), key := Value.str (Str.ofString "__file__") 173, val := Value.str (Str.ofString "/claim/cut.py") 172 }, { hash := PyData.keyHash P (Str.ofString "__cached__"), key := Value.str (Str.ofString "__cached__") 174, val := Value.none }, { hash := PyData.keyHash P (Str.ofString "_wall"), key := Value.str (Str.ofString "_wall") 193, val := Value.ref 21 }, { hash := PyData.keyHash P (Str.ofString "IGNORE_BASES"), key := Value.str (Str.ofString "IGNORE_BASES") 197, val := Value.int 2 196 }, { hash := PyData.keyHash P (Str.ofString "IGNORE_LIGATURES"), key := Value.str (Str.ofString "IGNORE_LIGATURES") 199, val := Value.int 4 198 }, { hash := PyData.keyHash P (Str.ofString "IGNORE_MARKS"), key := Value.str (Str.ofString "IGNORE_MARKS") 201, val := Value.int 8 200 }, { hash := PyData.keyHash P (Str.ofString "USE_SET"), key := Value.str (Str.ofString "USE_SET") 203, val := Value.int 16 202 }, { hash := PyData.keyHash P (Str.ofString "Lookup"), key := Value.str (Str.ofString "Lookup") 244, val := Value.ref 43 }, { hash := PyData.keyHash P (Str.ofString "Scene"), key := Value.str (Str.ofString "Scene") 285, val := Value.ref 65 }, { hash := PyData.keyHash P (Str.ofString "attach_wanted"), key := Value.str (Str.ofString "attach_wanted") 292, val := Value.ref 76 }, { hash := PyData.keyHash P (Str.ofString "class_bit"), key := Value.str (Str.ofString "class_bit") 299, val := Value.ref 83 }, { hash := PyData.keyHash P (Str.ofString "is_ignored"), key := Value.str (Str.ofString "is_ignored") 310, val := Value.ref 90 }, { hash := PyData.keyHash P (Str.ofString "passes"), key := Value.str (Str.ofString "passes") 318, val := Value.ref 97 }, { hash := PyData.keyHash P (Str.ofString "takes"), key := Value.str (Str.ofString "takes") 326, val := Value.ref 104 }, { hash := PyData.keyHash P (Str.ofString "nested_scene"), key := Value.str (Str.ofString "nested_scene") 335, val := Value.ref 111 }, { hash := PyData.keyHash P (Str.ofString "Info"), key := Value.str (Str.ofString "Info") 397, val := Value.ref 142 }, { hash := PyData.keyHash P (Str.ofString "Buffer"), key := Value.str (Str.ofString "Buffer") 463, val := Value.ref 195 }, { hash := PyData.keyHash P (Str.ofString "ClassDef"), key := Value.str (Str.ofString "ClassDef") 525, val := Value.ref 242 }, { hash := PyData.keyHash P (Str.ofString "Coverage"), key := Value.str (Str.ofString "Coverage") 582, val := Value.ref 284 }, { hash := PyData.keyHash P (Str.ofString "NO_CLASS"), key := Value.str (Str.ofString "NO_CLASS") 586, val := Value.int 0 585 }, { hash := PyData.keyHash P (Str.ofString "BASE"), key := Value.str (Str.ofString "BASE") 588, val := Value.int 1 587 }, { hash := PyData.keyHash P (Str.ofString "COMPONENT"), key := Value.str (Str.ofString "COMPONENT") 590, val := Value.int 4 589 }] 29 }
noncomputable def o292 (_ : Params) : Obj := { cls := Value.none, data := Data.fields #[Value.int 1 0, Value.int 0 0, Value.ref 20, Value.int 9 0, Value.int 0 0, Value.ref 27, Value.int 20 0, Value.int 0 0, Value.ref 53, Value.int 30 0, Value.int 0 0, Value.ref 75, Value.int 32 0, Value.int 0 0, Value.ref 82, Value.int 34 0, Value.int 0 0, Value.ref 89, Value.int 44 0, Value.int 0 0, Value.ref 96, Value.int 46 0, Value.int 0 0, Value.ref 103, Value.int 48 0, Value.int 0 0, Value.ref 110, Value.int 55 0, Value.int 0 0, Value.ref 117, Value.int 80 0, Value.int 0 0, Value.ref 152, Value.int 103 0, Value.int 0 0, Value.ref 205, Value.int 123 0, Value.int 0 0, Value.ref 252] }
noncomputable def tree334 (P : Params) : BT := BT.node (boot_o_0 P) (BT.node (boot_o_1 P) (BT.node (o291 P) (BT.node (boot_o_7 P) (BT.node (o51 P) (BT.node (o67 P) (BT.node (o101 P) (BT.node (o167 P) (BT.node (o301 P) BT.nil BT.nil) BT.nil) (BT.node (o233 P) BT.nil BT.nil)) (BT.node (o133 P) (BT.node (o201 P) (BT.node (o333 P) BT.nil BT.nil) BT.nil) (BT.node (o267 P) BT.nil BT.nil))) (BT.node (o83 P) (BT.node (o117 P) (BT.node (o183 P) (BT.node (o317 P) BT.nil BT.nil) BT.nil) (BT.node (o251 P) BT.nil BT.nil)) (BT.node (o151 P) (BT.node (o217 P) BT.nil BT.nil) (BT.node (o283 P) BT.nil BT.nil)))) (BT.node (o59 P) (BT.node (o75 P) (BT.node (o109 P) (BT.node (o175 P) (BT.node (o309 P) BT.nil BT.nil) BT.nil) (BT.node (o241 P) BT.nil BT.nil)) (BT.node (o141 P) (BT.node (o209 P) BT.nil BT.nil) (BT.node (o275 P) BT.nil BT.nil))) (BT.node (o93 P) (BT.node (o125 P) (BT.node (o193 P) (BT.node (o325 P) BT.nil BT.nil) BT.nil) (BT.node (o259 P) BT.nil BT.nil)) (BT.node (o159 P) (BT.node (o225 P) BT.nil BT.nil) (BT.node (o293 P) BT.nil BT.nil))))) (BT.node (o43 P) (BT.node (o55 P) (BT.node (o71 P) (BT.node (o105 P) (BT.node (o171 P) (BT.node (o305 P) BT.nil BT.nil) BT.nil) (BT.node (o237 P) BT.nil BT.nil)) (BT.node (o137 P) (BT.node (o205 P) BT.nil BT.nil) (BT.node (o271 P) BT.nil BT.nil))) (BT.node (o89 P) (BT.node (o121 P) (BT.node (o189 P) (BT.node (o321 P) BT.nil BT.nil) BT.nil) (BT.node (o255 P) BT.nil BT.nil)) (BT.node (o155 P) (BT.node (o221 P) BT.nil BT.nil) (BT.node (o287 P) BT.nil BT.nil)))) (BT.node (o63 P) (BT.node (o79 P) (BT.node (o113 P) (BT.node (o179 P) (BT.node (o313 P) BT.nil BT.nil) BT.nil) (BT.node (o247 P) BT.nil BT.nil)) (BT.node (o147 P) (BT.node (o213 P) BT.nil BT.nil) (BT.node (o279 P) BT.nil BT.nil))) (BT.node (o97 P) (BT.node (o129 P) (BT.node (o197 P) (BT.node (o329 P) BT.nil BT.nil) BT.nil) (BT.node (o263 P) BT.nil BT.nil)) (BT.node (o163 P) (BT.node (o229 P) BT.nil BT.nil) (BT.node (o297 P) BT.nil BT.nil)))))) (BT.node (boot_o_5 P) (BT.node (boot_o_9 P) (BT.node (o53 P) (BT.node (o69 P) (BT.node (o103 P) (BT.node (o169 P) (BT.node (o303 P) BT.nil BT.nil) BT.nil) (BT.node (o235 P) BT.nil BT.nil)) (BT.node (o135 P) (BT.node (o203 P) BT.nil BT.nil) (BT.node (o269 P) BT.nil BT.nil))) (BT.node (o87 P) (BT.node (o119 P) (BT.node (o185 P) (BT.node (o319 P) BT.nil BT.nil) BT.nil) (BT.node (o253 P) BT.nil BT.nil)) (BT.node (o153 P) (BT.node (o219 P) BT.nil BT.nil) (BT.node (o285 P) BT.nil BT.nil)))) (BT.node (o61 P) (BT.node (o77 P) (BT.node (o111 P) (BT.node (o177 P) (BT.node (o311 P) BT.nil BT.nil) BT.nil) (BT.node (o245 P) BT.nil BT.nil)) (BT.node (o145 P) (BT.node (o211 P) BT.nil BT.nil) (BT.node (o277 P) BT.nil BT.nil))) (BT.node (o95 P) (BT.node (o127 P) (BT.node (o195 P) (BT.node (o327 P) BT.nil BT.nil) BT.nil) (BT.node (o261 P) BT.nil BT.nil)) (BT.node (o161 P) (BT.node (o227 P) BT.nil BT.nil) (BT.node (o295 P) BT.nil BT.nil))))) (BT.node (o45 P) (BT.node (o57 P) (BT.node (o73 P) (BT.node (o107 P) (BT.node (o173 P) (BT.node (o307 P) BT.nil BT.nil) BT.nil) (BT.node (o239 P) BT.nil BT.nil)) (BT.node (o139 P) (BT.node (o207 P) BT.nil BT.nil) (BT.node (o273 P) BT.nil BT.nil))) (BT.node (o91 P) (BT.node (o123 P) (BT.node (o191 P) (BT.node (o323 P) BT.nil BT.nil) BT.nil) (BT.node (o257 P) BT.nil BT.nil)) (BT.node (o157 P) (BT.node (o223 P) BT.nil BT.nil) (BT.node (o289 P) BT.nil BT.nil)))) (BT.node (o65 P) (BT.node (o81 P) (BT.node (o115 P) (BT.node (o181 P) (BT.node (o315 P) BT.nil BT.nil) BT.nil) (BT.node (o249 P) BT.nil BT.nil)) (BT.node (o149 P) (BT.node (o215 P) BT.nil BT.nil) (BT.node (o281 P) BT.nil BT.nil))) (BT.node (o99 P) (BT.node (o131 P) (BT.node (o199 P) (BT.node (o331 P) BT.nil BT.nil) BT.nil) (BT.node (o265 P) BT.nil BT.nil)) (BT.node (o165 P) (BT.node (o231 P) BT.nil BT.nil) (BT.node (o299 P) BT.nil BT.nil))))))) (BT.node (boot_o_2 P) (BT.node (boot_o_4 P) (BT.node (boot_o_8 P) (BT.node (o52 P) (BT.node (o68 P) (BT.node (o102 P) (BT.node (o168 P) (BT.node (o302 P) BT.nil BT.nil) BT.nil) (BT.node (o234 P) BT.nil BT.nil)) (BT.node (o134 P) (BT.node (o202 P) (BT.node (o334 P) BT.nil BT.nil) BT.nil) (BT.node (o268 P) BT.nil BT.nil))) (BT.node (o86 P) (BT.node (o118 P) (BT.node (o184 P) (BT.node (o318 P) BT.nil BT.nil) BT.nil) (BT.node (o252 P) BT.nil BT.nil)) (BT.node (o152 P) (BT.node (o218 P) BT.nil BT.nil) (BT.node (o284 P) BT.nil BT.nil)))) (BT.node (o60 P) (BT.node (o76 P) (BT.node (o110 P) (BT.node (o176 P) (BT.node (o310 P) BT.nil BT.nil) BT.nil) (BT.node (o244 P) BT.nil BT.nil)) (BT.node (o142 P) (BT.node (o210 P) BT.nil BT.nil) (BT.node (o276 P) BT.nil BT.nil))) (BT.node (o94 P) (BT.node (o126 P) (BT.node (o194 P) (BT.node (o326 P) BT.nil BT.nil) BT.nil) (BT.node (o260 P) BT.nil BT.nil)) (BT.node (o160 P) (BT.node (o226 P) BT.nil BT.nil) (BT.node (o294 P) BT.nil BT.nil))))) (BT.node (o292 P) (BT.node (o56 P) (BT.node (o72 P) (BT.node (o106 P) (BT.node (o172 P) (BT.node (o306 P) BT.nil BT.nil) BT.nil) (BT.node (o238 P) BT.nil BT.nil)) (BT.node (o138 P) (BT.node (o206 P) BT.nil BT.nil) (BT.node (o272 P) BT.nil BT.nil))) (BT.node (o90 P) (BT.node (o122 P) (BT.node (o190 P) (BT.node (o322 P) BT.nil BT.nil) BT.nil) (BT.node (o256 P) BT.nil BT.nil)) (BT.node (o156 P) (BT.node (o222 P) BT.nil BT.nil) (BT.node (o288 P) BT.nil BT.nil)))) (BT.node (o64 P) (BT.node (o80 P) (BT.node (o114 P) (BT.node (o180 P) (BT.node (o314 P) BT.nil BT.nil) BT.nil) (BT.node (o248 P) BT.nil BT.nil)) (BT.node (o148 P) (BT.node (o214 P) BT.nil BT.nil) (BT.node (o280 P) BT.nil BT.nil))) (BT.node (o98 P) (BT.node (o130 P) (BT.node (o198 P) (BT.node (o330 P) BT.nil BT.nil) BT.nil) (BT.node (o264 P) BT.nil BT.nil)) (BT.node (o164 P) (BT.node (o230 P) BT.nil BT.nil) (BT.node (o298 P) BT.nil BT.nil)))))) (BT.node (boot_o_6 P) (BT.node (boot_o_10 P) (BT.node (o54 P) (BT.node (o70 P) (BT.node (o104 P) (BT.node (o170 P) (BT.node (o304 P) BT.nil BT.nil) BT.nil) (BT.node (o236 P) BT.nil BT.nil)) (BT.node (o136 P) (BT.node (o204 P) BT.nil BT.nil) (BT.node (o270 P) BT.nil BT.nil))) (BT.node (o88 P) (BT.node (o120 P) (BT.node (o186 P) (BT.node (o320 P) BT.nil BT.nil) BT.nil) (BT.node (o254 P) BT.nil BT.nil)) (BT.node (o154 P) (BT.node (o220 P) BT.nil BT.nil) (BT.node (o286 P) BT.nil BT.nil)))) (BT.node (o62 P) (BT.node (o78 P) (BT.node (o112 P) (BT.node (o178 P) (BT.node (o312 P) BT.nil BT.nil) BT.nil) (BT.node (o246 P) BT.nil BT.nil)) (BT.node (o146 P) (BT.node (o212 P) BT.nil BT.nil) (BT.node (o278 P) BT.nil BT.nil))) (BT.node (o96 P) (BT.node (o128 P) (BT.node (o196 P) (BT.node (o328 P) BT.nil BT.nil) BT.nil) (BT.node (o262 P) BT.nil BT.nil)) (BT.node (o162 P) (BT.node (o228 P) BT.nil BT.nil) (BT.node (o296 P) BT.nil BT.nil))))) (BT.node (o46 P) (BT.node (o58 P) (BT.node (o74 P) (BT.node (o108 P) (BT.node (o174 P) (BT.node (o308 P) BT.nil BT.nil) BT.nil) (BT.node (o240 P) BT.nil BT.nil)) (BT.node (o140 P) (BT.node (o208 P) BT.nil BT.nil) (BT.node (o274 P) BT.nil BT.nil))) (BT.node (o92 P) (BT.node (o124 P) (BT.node (o192 P) (BT.node (o324 P) BT.nil BT.nil) BT.nil) (BT.node (o258 P) BT.nil BT.nil)) (BT.node (o158 P) (BT.node (o224 P) BT.nil BT.nil) (BT.node (o290 P) BT.nil BT.nil)))) (BT.node (o66 P) (BT.node (o82 P) (BT.node (o116 P) (BT.node (o182 P) (BT.node (o316 P) BT.nil BT.nil) BT.nil) (BT.node (o250 P) BT.nil BT.nil)) (BT.node (o150 P) (BT.node (o216 P) BT.nil BT.nil) (BT.node (o282 P) BT.nil BT.nil))) (BT.node (o100 P) (BT.node (o132 P) (BT.node (o200 P) (BT.node (o332 P) BT.nil BT.nil) BT.nil) (BT.node (o266 P) BT.nil BT.nil)) (BT.node (o166 P) (BT.node (o232 P) BT.nil BT.nil) (BT.node (o300 P) BT.nil BT.nil)))))))
noncomputable def o335 (P : Params) : Obj := { cls := Value.type "dict", data := Data.dict #[{ hash := PyData.keyHash P (Str.ofString "__name__"), key := Value.str (Str.ofString "__name__") 165, val := Value.str (Str.ofString "law_pb0187_01") 660 }, { hash := PyData.keyHash P (Str.ofString "__doc__"), key := Value.str (Str.ofString "__doc__") 166, val := Value.none }, { hash := PyData.keyHash P (Str.ofString "__package__"), key := Value.str (Str.ofString "__package__") 167, val := Value.none }, { hash := PyData.keyHash P (Str.ofString "__loader__"), key := Value.str (Str.ofString "__loader__") 168, val := Value.builtin "__main__.__loader__#opaque" }, { hash := PyData.keyHash P (Str.ofString "__spec__"), key := Value.str (Str.ofString "__spec__") 169, val := Value.none }, { hash := PyData.keyHash P (Str.ofString "__annotations__"), key := Value.str (Str.ofString "__annotations__") 170, val := Value.ref 6 }, { hash := PyData.keyHash P (Str.ofString "__builtins__"), key := Value.str (Str.ofString "__builtins__") 171, val := Value.ref 4 }, { hash := PyData.keyHash P (Str.ofString "__file__"), key := Value.str (Str.ofString "__file__") 173, val := Value.str (Str.ofString "/claim/cut.py") 172 }, { hash := PyData.keyHash P (Str.ofString "__cached__"), key := Value.str (Str.ofString "__cached__") 174, val := Value.none }, { hash := PyData.keyHash P (Str.ofString "_wall"), key := Value.str (Str.ofString "_wall") 193, val := Value.ref 21 }, { hash := PyData.keyHash P (Str.ofString "IGNORE_BASES"), key := Value.str (Str.ofString "IGNORE_BASES") 197, val := Value.int 2 196 }, { hash := PyData.keyHash P (Str.ofString "IGNORE_LIGATURES"), key := Value.str (Str.ofString "IGNORE_LIGATURES") 199, val := Value.int 4 198 }, { hash := PyData.keyHash P (Str.ofString "IGNORE_MARKS"), key := Value.str (Str.ofString "IGNORE_MARKS") 201, val := Value.int 8 200 }, { hash := PyData.keyHash P (Str.ofString "USE_SET"), key := Value.str (Str.ofString "USE_SET") 203, val := Value.int 16 202 }, { hash := PyData.keyHash P (Str.ofString "Lookup"), key := Value.str (Str.ofString "Lookup") 244, val := Value.ref 43 }, { hash := PyData.keyHash P (Str.ofString "Scene"), key := Value.str (Str.ofString "Scene") 285, val := Value.ref 65 }, { hash := PyData.keyHash P (Str.ofString "attach_wanted"), key := Value.str (Str.ofString "attach_wanted") 292, val := Value.ref 76 }, { hash := PyData.keyHash P (Str.ofString "class_bit"), key := Value.str (Str.ofString "class_bit") 299, val := Value.ref 83 }, { hash := PyData.keyHash P (Str.ofString "is_ignored"), key := Value.str (Str.ofString "is_ignored") 310, val := Value.ref 90 }, { hash := PyData.keyHash P (Str.ofString "passes"), key := Value.str (Str.ofString "passes") 318, val := Value.ref 97 }, { hash := PyData.keyHash P (Str.ofString "takes"), key := Value.str (Str.ofString "takes") 326, val := Value.ref 104 }, { hash := PyData.keyHash P (Str.ofString "nested_scene"), key := Value.str (Str.ofString "nested_scene") 335, val := Value.ref 111 }, { hash := PyData.keyHash P (Str.ofString "Info"), key := Value.str (Str.ofString "Info") 397, val := Value.ref 142 }, { hash := PyData.keyHash P (Str.ofString "Buffer"), key := Value.str (Str.ofString "Buffer") 463, val := Value.ref 195 }, { hash := PyData.keyHash P (Str.ofString "ClassDef"), key := Value.str (Str.ofString "ClassDef") 525, val := Value.ref 242 }, { hash := PyData.keyHash P (Str.ofString "Coverage"), key := Value.str (Str.ofString "Coverage") 582, val := Value.ref 284 }, { hash := PyData.keyHash P (Str.ofString "NO_CLASS"), key := Value.str (Str.ofString "NO_CLASS") 586, val := Value.int 0 585 }, { hash := PyData.keyHash P (Str.ofString "BASE"), key := Value.str (Str.ofString "BASE") 588, val := Value.int 1 587 }, { hash := PyData.keyHash P (Str.ofString "COMPONENT"), key := Value.str (Str.ofString "COMPONENT") 590, val := Value.int 4 589 }, { hash := PyData.keyHash P (Str.ofString "Gdef"), key := Value.str (Str.ofString "Gdef") 659, val := Value.ref 332 }, { hash := PyData.keyHash P (Str.ofString "_law_draw"), key := Value.str (Str.ofString "_law_draw") 671, val := Value.ref 343 }] 31 }
noncomputable def o336 (_ : Params) : Obj := { cls := Value.none, data := Data.fields #[Value.int 1 0, Value.int 0 0, Value.ref 20, Value.int 9 0, Value.int 0 0, Value.ref 27, Value.int 20 0, Value.int 0 0, Value.ref 53, Value.int 30 0, Value.int 0 0, Value.ref 75, Value.int 32 0, Value.int 0 0, Value.ref 82, Value.int 34 0, Value.int 0 0, Value.ref 89, Value.int 44 0, Value.int 0 0, Value.ref 96, Value.int 46 0, Value.int 0 0, Value.ref 103, Value.int 48 0, Value.int 0 0, Value.ref 110, Value.int 55 0, Value.int 0 0, Value.ref 117, Value.int 80 0, Value.int 0 0, Value.ref 152, Value.int 103 0, Value.int 0 0, Value.ref 205, Value.int 123 0, Value.int 0 0, Value.ref 252, Value.int 150 0, Value.int 0 0, Value.ref 294, Value.int 174 0, Value.int 0 0, Value.ref 342] }
noncomputable def tree391 (P : Params) : BT := BT.node (boot_o_0 P) (BT.node (boot_o_1 P) (BT.node (o335 P) (BT.node (boot_o_7 P) (BT.node (o51 P) (BT.node (o67 P) (BT.node (o101 P) (BT.node (o167 P) (BT.node (o301 P) BT.nil BT.nil) BT.nil) (BT.node (o233 P) (BT.node (o367 P) BT.nil BT.nil) BT.nil)) (BT.node (o133 P) (BT.node (o201 P) (BT.node (o333 P) BT.nil BT.nil) BT.nil) (BT.node (o267 P) BT.nil BT.nil))) (BT.node (o83 P) (BT.node (o117 P) (BT.node (o183 P) (BT.node (o317 P) BT.nil BT.nil) BT.nil) (BT.node (o251 P) (BT.node (o383 P) BT.nil BT.nil) BT.nil)) (BT.node (o151 P) (BT.node (o217 P) (BT.node (o351 P) BT.nil BT.nil) BT.nil) (BT.node (o283 P) BT.nil BT.nil)))) (BT.node (o59 P) (BT.node (o75 P) (BT.node (o109 P) (BT.node (o175 P) (BT.node (o309 P) BT.nil BT.nil) BT.nil) (BT.node (o241 P) (BT.node (o375 P) BT.nil BT.nil) BT.nil)) (BT.node (o141 P) (BT.node (o209 P) (BT.node (o343 P) BT.nil BT.nil) BT.nil) (BT.node (o275 P) BT.nil BT.nil))) (BT.node (o93 P) (BT.node (o125 P) (BT.node (o193 P) (BT.node (o325 P) BT.nil BT.nil) BT.nil) (BT.node (o259 P) (BT.node (o391 P) BT.nil BT.nil) BT.nil)) (BT.node (o159 P) (BT.node (o225 P) (BT.node (o359 P) BT.nil BT.nil) BT.nil) (BT.node (o293 P) BT.nil BT.nil))))) (BT.node (o43 P) (BT.node (o55 P) (BT.node (o71 P) (BT.node (o105 P) (BT.node (o171 P) (BT.node (o305 P) BT.nil BT.nil) BT.nil) (BT.node (o237 P) (BT.node (o371 P) BT.nil BT.nil) BT.nil)) (BT.node (o137 P) (BT.node (o205 P) (BT.node (o339 P) BT.nil BT.nil) BT.nil) (BT.node (o271 P) BT.nil BT.nil))) (BT.node (o89 P) (BT.node (o121 P) (BT.node (o189 P) (BT.node (o321 P) BT.nil BT.nil) BT.nil) (BT.node (o255 P) (BT.node (o387 P) BT.nil BT.nil) BT.nil)) (BT.node (o155 P) (BT.node (o221 P) (BT.node (o355 P) BT.nil BT.nil) BT.nil) (BT.node (o287 P) BT.nil BT.nil)))) (BT.node (o63 P) (BT.node (o79 P) (BT.node (o113 P) (BT.node (o179 P) (BT.node (o313 P) BT.nil BT.nil) BT.nil) (BT.node (o247 P) (BT.node (o379 P) BT.nil BT.nil) BT.nil)) (BT.node (o147 P) (BT.node (o213 P) (BT.node (o347 P) BT.nil BT.nil) BT.nil) (BT.node (o279 P) BT.nil BT.nil))) (BT.node (o97 P) (BT.node (o129 P) (BT.node (o197 P) (BT.node (o329 P) BT.nil BT.nil) BT.nil) (BT.node (o263 P) BT.nil BT.nil)) (BT.node (o163 P) (BT.node (o229 P) (BT.node (o363 P) BT.nil BT.nil) BT.nil) (BT.node (o297 P) BT.nil BT.nil)))))) (BT.node (boot_o_5 P) (BT.node (boot_o_9 P) (BT.node (o53 P) (BT.node (o69 P) (BT.node (o103 P) (BT.node (o169 P) (BT.node (o303 P) BT.nil BT.nil) BT.nil) (BT.node (o235 P) (BT.node (o369 P) BT.nil BT.nil) BT.nil)) (BT.node (o135 P) (BT.node (o203 P) (BT.node (o337 P) BT.nil BT.nil) BT.nil) (BT.node (o269 P) BT.nil BT.nil))) (BT.node (o87 P) (BT.node (o119 P) (BT.node (o185 P) (BT.node (o319 P) BT.nil BT.nil) BT.nil) (BT.node (o253 P) (BT.node (o385 P) BT.nil BT.nil) BT.nil)) (BT.node (o153 P) (BT.node (o219 P) (BT.node (o353 P) BT.nil BT.nil) BT.nil) (BT.node (o285 P) BT.nil BT.nil)))) (BT.node (o61 P) (BT.node (o77 P) (BT.node (o111 P) (BT.node (o177 P) (BT.node (o311 P) BT.nil BT.nil) BT.nil) (BT.node (o245 P) (BT.node (o377 P) BT.nil BT.nil) BT.nil)) (BT.node (o145 P) (BT.node (o211 P) (BT.node (o345 P) BT.nil BT.nil) BT.nil) (BT.node (o277 P) BT.nil BT.nil))) (BT.node (o95 P) (BT.node (o127 P) (BT.node (o195 P) (BT.node (o327 P) BT.nil BT.nil) BT.nil) (BT.node (o261 P) BT.nil BT.nil)) (BT.node (o161 P) (BT.node (o227 P) (BT.node (o361 P) BT.nil BT.nil) BT.nil) (BT.node (o295 P) BT.nil BT.nil))))) (BT.node (o45 P) (BT.node (o57 P) (BT.node (o73 P) (BT.node (o107 P) (BT.node (o173 P) (BT.node (o307 P) BT.nil BT.nil) BT.nil) (BT.node (o239 P) (BT.node (o373 P) BT.nil BT.nil) BT.nil)) (BT.node (o139 P) (BT.node (o207 P) (BT.node (o341 P) BT.nil BT.nil) BT.nil) (BT.node (o273 P) BT.nil BT.nil))) (BT.node (o91 P) (BT.node (o123 P) (BT.node (o191 P) (BT.node (o323 P) BT.nil BT.nil) BT.nil) (BT.node (o257 P) (BT.node (o389 P) BT.nil BT.nil) BT.nil)) (BT.node (o157 P) (BT.node (o223 P) (BT.node (o357 P) BT.nil BT.nil) BT.nil) (BT.node (o289 P) BT.nil BT.nil)))) (BT.node (o65 P) (BT.node (o81 P) (BT.node (o115 P) (BT.node (o181 P) (BT.node (o315 P) BT.nil BT.nil) BT.nil) (BT.node (o249 P) (BT.node (o381 P) BT.nil BT.nil) BT.nil)) (BT.node (o149 P) (BT.node (o215 P) (BT.node (o349 P) BT.nil BT.nil) BT.nil) (BT.node (o281 P) BT.nil BT.nil))) (BT.node (o99 P) (BT.node (o131 P) (BT.node (o199 P) (BT.node (o331 P) BT.nil BT.nil) BT.nil) (BT.node (o265 P) BT.nil BT.nil)) (BT.node (o165 P) (BT.node (o231 P) (BT.node (o365 P) BT.nil BT.nil) BT.nil) (BT.node (o299 P) BT.nil BT.nil))))))) (BT.node (boot_o_2 P) (BT.node (boot_o_4 P) (BT.node (boot_o_8 P) (BT.node (o52 P) (BT.node (o68 P) (BT.node (o102 P) (BT.node (o168 P) (BT.node (o302 P) BT.nil BT.nil) BT.nil) (BT.node (o234 P) (BT.node (o368 P) BT.nil BT.nil) BT.nil)) (BT.node (o134 P) (BT.node (o202 P) (BT.node (o334 P) BT.nil BT.nil) BT.nil) (BT.node (o268 P) BT.nil BT.nil))) (BT.node (o86 P) (BT.node (o118 P) (BT.node (o184 P) (BT.node (o318 P) BT.nil BT.nil) BT.nil) (BT.node (o252 P) (BT.node (o384 P) BT.nil BT.nil) BT.nil)) (BT.node (o152 P) (BT.node (o218 P) (BT.node (o352 P) BT.nil BT.nil) BT.nil) (BT.node (o284 P) BT.nil BT.nil)))) (BT.node (o60 P) (BT.node (o76 P) (BT.node (o110 P) (BT.node (o176 P) (BT.node (o310 P) BT.nil BT.nil) BT.nil) (BT.node (o244 P) (BT.node (o376 P) BT.nil BT.nil) BT.nil)) (BT.node (o142 P) (BT.node (o210 P) (BT.node (o344 P) BT.nil BT.nil) BT.nil) (BT.node (o276 P) BT.nil BT.nil))) (BT.node (o94 P) (BT.node (o126 P) (BT.node (o194 P) (BT.node (o326 P) BT.nil BT.nil) BT.nil) (BT.node (o260 P) BT.nil BT.nil)) (BT.node (o160 P) (BT.node (o226 P) (BT.node (o360 P) BT.nil BT.nil) BT.nil) (BT.node (o294 P) BT.nil BT.nil))))) (BT.node (o336 P) (BT.node (o56 P) (BT.node (o72 P) (BT.node (o106 P) (BT.node (o172 P) (BT.node (o306 P) BT.nil BT.nil) BT.nil) (BT.node (o238 P) (BT.node (o372 P) BT.nil BT.nil) BT.nil)) (BT.node (o138 P) (BT.node (o206 P) (BT.node (o340 P) BT.nil BT.nil) BT.nil) (BT.node (o272 P) BT.nil BT.nil))) (BT.node (o90 P) (BT.node (o122 P) (BT.node (o190 P) (BT.node (o322 P) BT.nil BT.nil) BT.nil) (BT.node (o256 P) (BT.node (o388 P) BT.nil BT.nil) BT.nil)) (BT.node (o156 P) (BT.node (o222 P) (BT.node (o356 P) BT.nil BT.nil) BT.nil) (BT.node (o288 P) BT.nil BT.nil)))) (BT.node (o64 P) (BT.node (o80 P) (BT.node (o114 P) (BT.node (o180 P) (BT.node (o314 P) BT.nil BT.nil) BT.nil) (BT.node (o248 P) (BT.node (o380 P) BT.nil BT.nil) BT.nil)) (BT.node (o148 P) (BT.node (o214 P) (BT.node (o348 P) BT.nil BT.nil) BT.nil) (BT.node (o280 P) BT.nil BT.nil))) (BT.node (o98 P) (BT.node (o130 P) (BT.node (o198 P) (BT.node (o330 P) BT.nil BT.nil) BT.nil) (BT.node (o264 P) BT.nil BT.nil)) (BT.node (o164 P) (BT.node (o230 P) (BT.node (o364 P) BT.nil BT.nil) BT.nil) (BT.node (o298 P) BT.nil BT.nil)))))) (BT.node (boot_o_6 P) (BT.node (boot_o_10 P) (BT.node (o54 P) (BT.node (o70 P) (BT.node (o104 P) (BT.node (o170 P) (BT.node (o304 P) BT.nil BT.nil) BT.nil) (BT.node (o236 P) (BT.node (o370 P) BT.nil BT.nil) BT.nil)) (BT.node (o136 P) (BT.node (o204 P) (BT.node (o338 P) BT.nil BT.nil) BT.nil) (BT.node (o270 P) BT.nil BT.nil))) (BT.node (o88 P) (BT.node (o120 P) (BT.node (o186 P) (BT.node (o320 P) BT.nil BT.nil) BT.nil) (BT.node (o254 P) (BT.node (o386 P) BT.nil BT.nil) BT.nil)) (BT.node (o154 P) (BT.node (o220 P) (BT.node (o354 P) BT.nil BT.nil) BT.nil) (BT.node (o286 P) BT.nil BT.nil)))) (BT.node (o62 P) (BT.node (o78 P) (BT.node (o112 P) (BT.node (o178 P) (BT.node (o312 P) BT.nil BT.nil) BT.nil) (BT.node (o246 P) (BT.node (o378 P) BT.nil BT.nil) BT.nil)) (BT.node (o146 P) (BT.node (o212 P) (BT.node (o346 P) BT.nil BT.nil) BT.nil) (BT.node (o278 P) BT.nil BT.nil))) (BT.node (o96 P) (BT.node (o128 P) (BT.node (o196 P) (BT.node (o328 P) BT.nil BT.nil) BT.nil) (BT.node (o262 P) BT.nil BT.nil)) (BT.node (o162 P) (BT.node (o228 P) (BT.node (o362 P) BT.nil BT.nil) BT.nil) (BT.node (o296 P) BT.nil BT.nil))))) (BT.node (o46 P) (BT.node (o58 P) (BT.node (o74 P) (BT.node (o108 P) (BT.node (o174 P) (BT.node (o308 P) BT.nil BT.nil) BT.nil) (BT.node (o240 P) (BT.node (o374 P) BT.nil BT.nil) BT.nil)) (BT.node (o140 P) (BT.node (o208 P) (BT.node (o342 P) BT.nil BT.nil) BT.nil) (BT.node (o274 P) BT.nil BT.nil))) (BT.node (o92 P) (BT.node (o124 P) (BT.node (o192 P) (BT.node (o324 P) BT.nil BT.nil) BT.nil) (BT.node (o258 P) (BT.node (o390 P) BT.nil BT.nil) BT.nil)) (BT.node (o158 P) (BT.node (o224 P) (BT.node (o358 P) BT.nil BT.nil) BT.nil) (BT.node (o290 P) BT.nil BT.nil)))) (BT.node (o66 P) (BT.node (o82 P) (BT.node (o116 P) (BT.node (o182 P) (BT.node (o316 P) BT.nil BT.nil) BT.nil) (BT.node (o250 P) (BT.node (o382 P) BT.nil BT.nil) BT.nil)) (BT.node (o150 P) (BT.node (o216 P) (BT.node (o350 P) BT.nil BT.nil) BT.nil) (BT.node (o282 P) BT.nil BT.nil))) (BT.node (o100 P) (BT.node (o132 P) (BT.node (o200 P) (BT.node (o332 P) BT.nil BT.nil) BT.nil) (BT.node (o266 P) BT.nil BT.nil)) (BT.node (o166 P) (BT.node (o232 P) (BT.node (o366 P) BT.nil BT.nil) BT.nil) (BT.node (o300 P) BT.nil BT.nil)))))))
noncomputable def tree403 (P : Params) : BT := BT.node (boot_o_0 P) (BT.node (boot_o_1 P) (BT.node (o392 P) (BT.node (boot_o_7 P) (BT.node (o51 P) (BT.node (o67 P) (BT.node (o101 P) (BT.node (o167 P) (BT.node (o301 P) BT.nil BT.nil) BT.nil) (BT.node (o233 P) (BT.node (o367 P) BT.nil BT.nil) BT.nil)) (BT.node (o133 P) (BT.node (o201 P) (BT.node (o333 P) BT.nil BT.nil) BT.nil) (BT.node (o267 P) (BT.node (o401 P) BT.nil BT.nil) BT.nil))) (BT.node (o83 P) (BT.node (o117 P) (BT.node (o183 P) (BT.node (o317 P) BT.nil BT.nil) BT.nil) (BT.node (o251 P) (BT.node (o383 P) BT.nil BT.nil) BT.nil)) (BT.node (o151 P) (BT.node (o217 P) (BT.node (o351 P) BT.nil BT.nil) BT.nil) (BT.node (o283 P) BT.nil BT.nil)))) (BT.node (o59 P) (BT.node (o75 P) (BT.node (o109 P) (BT.node (o175 P) (BT.node (o309 P) BT.nil BT.nil) BT.nil) (BT.node (o241 P) (BT.node (o375 P) BT.nil BT.nil) BT.nil)) (BT.node (o141 P) (BT.node (o209 P) (BT.node (o343 P) BT.nil BT.nil) BT.nil) (BT.node (o275 P) BT.nil BT.nil))) (BT.node (o93 P) (BT.node (o125 P) (BT.node (o193 P) (BT.node (o325 P) BT.nil BT.nil) BT.nil) (BT.node (o259 P) (BT.node (o391 P) BT.nil BT.nil) BT.nil)) (BT.node (o159 P) (BT.node (o225 P) (BT.node (o359 P) BT.nil BT.nil) BT.nil) (BT.node (o293 P) BT.nil BT.nil))))) (BT.node (o43 P) (BT.node (o55 P) (BT.node (o71 P) (BT.node (o105 P) (BT.node (o171 P) (BT.node (o305 P) BT.nil BT.nil) BT.nil) (BT.node (o237 P) (BT.node (o371 P) BT.nil BT.nil) BT.nil)) (BT.node (o137 P) (BT.node (o205 P) (BT.node (o339 P) BT.nil BT.nil) BT.nil) (BT.node (o271 P) BT.nil BT.nil))) (BT.node (o89 P) (BT.node (o121 P) (BT.node (o189 P) (BT.node (o321 P) BT.nil BT.nil) BT.nil) (BT.node (o255 P) (BT.node (o387 P) BT.nil BT.nil) BT.nil)) (BT.node (o155 P) (BT.node (o221 P) (BT.node (o355 P) BT.nil BT.nil) BT.nil) (BT.node (o287 P) BT.nil BT.nil)))) (BT.node (o63 P) (BT.node (o79 P) (BT.node (o113 P) (BT.node (o179 P) (BT.node (o313 P) BT.nil BT.nil) BT.nil) (BT.node (o247 P) (BT.node (o379 P) BT.nil BT.nil) BT.nil)) (BT.node (o147 P) (BT.node (o213 P) (BT.node (o347 P) BT.nil BT.nil) BT.nil) (BT.node (o279 P) BT.nil BT.nil))) (BT.node (o97 P) (BT.node (o129 P) (BT.node (o197 P) (BT.node (o329 P) BT.nil BT.nil) BT.nil) (BT.node (o263 P) (BT.node (o397 P) BT.nil BT.nil) BT.nil)) (BT.node (o163 P) (BT.node (o229 P) (BT.node (o363 P) BT.nil BT.nil) BT.nil) (BT.node (o297 P) BT.nil BT.nil)))))) (BT.node (boot_o_5 P) (BT.node (boot_o_9 P) (BT.node (o53 P) (BT.node (o69 P) (BT.node (o103 P) (BT.node (o169 P) (BT.node (o303 P) BT.nil BT.nil) BT.nil) (BT.node (o235 P) (BT.node (o369 P) BT.nil BT.nil) BT.nil)) (BT.node (o135 P) (BT.node (o203 P) (BT.node (o337 P) BT.nil BT.nil) BT.nil) (BT.node (o269 P) (BT.node (o403 P) BT.nil BT.nil) BT.nil))) (BT.node (o87 P) (BT.node (o119 P) (BT.node (o185 P) (BT.node (o319 P) BT.nil BT.nil) BT.nil) (BT.node (o253 P) (BT.node (o385 P) BT.nil BT.nil) BT.nil)) (BT.node (o153 P) (BT.node (o219 P) (BT.node (o353 P) BT.nil BT.nil) BT.nil) (BT.node (o285 P) BT.nil BT.nil)))) (BT.node (o61 P) (BT.node (o77 P) (BT.node (o111 P) (BT.node (o177 P) (BT.node (o311 P) BT.nil BT.nil) BT.nil) (BT.node (o245 P) (BT.node (o377 P) BT.nil BT.nil) BT.nil)) (BT.node (o145 P) (BT.node (o211 P) (BT.node (o345 P) BT.nil BT.nil) BT.nil) (BT.node (o277 P) BT.nil BT.nil))) (BT.node (o95 P) (BT.node (o127 P) (BT.node (o195 P) (BT.node (o327 P) BT.nil BT.nil) BT.nil) (BT.node (o261 P) (BT.node (o395 P) BT.nil BT.nil) BT.nil)) (BT.node (o161 P) (BT.node (o227 P) (BT.node (o361 P) BT.nil BT.nil) BT.nil) (BT.node (o295 P) BT.nil BT.nil))))) (BT.node (o45 P) (BT.node (o57 P) (BT.node (o73 P) (BT.node (o107 P) (BT.node (o173 P) (BT.node (o307 P) BT.nil BT.nil) BT.nil) (BT.node (o239 P) (BT.node (o373 P) BT.nil BT.nil) BT.nil)) (BT.node (o139 P) (BT.node (o207 P) (BT.node (o341 P) BT.nil BT.nil) BT.nil) (BT.node (o273 P) BT.nil BT.nil))) (BT.node (o91 P) (BT.node (o123 P) (BT.node (o191 P) (BT.node (o323 P) BT.nil BT.nil) BT.nil) (BT.node (o257 P) (BT.node (o389 P) BT.nil BT.nil) BT.nil)) (BT.node (o157 P) (BT.node (o223 P) (BT.node (o357 P) BT.nil BT.nil) BT.nil) (BT.node (o289 P) BT.nil BT.nil)))) (BT.node (o65 P) (BT.node (o81 P) (BT.node (o115 P) (BT.node (o181 P) (BT.node (o315 P) BT.nil BT.nil) BT.nil) (BT.node (o249 P) (BT.node (o381 P) BT.nil BT.nil) BT.nil)) (BT.node (o149 P) (BT.node (o215 P) (BT.node (o349 P) BT.nil BT.nil) BT.nil) (BT.node (o281 P) BT.nil BT.nil))) (BT.node (o99 P) (BT.node (o131 P) (BT.node (o199 P) (BT.node (o331 P) BT.nil BT.nil) BT.nil) (BT.node (o265 P) (BT.node (o399 P) BT.nil BT.nil) BT.nil)) (BT.node (o165 P) (BT.node (o231 P) (BT.node (o365 P) BT.nil BT.nil) BT.nil) (BT.node (o299 P) BT.nil BT.nil))))))) (BT.node (boot_o_2 P) (BT.node (boot_o_4 P) (BT.node (boot_o_8 P) (BT.node (o52 P) (BT.node (o68 P) (BT.node (o102 P) (BT.node (o168 P) (BT.node (o302 P) BT.nil BT.nil) BT.nil) (BT.node (o234 P) (BT.node (o368 P) BT.nil BT.nil) BT.nil)) (BT.node (o134 P) (BT.node (o202 P) (BT.node (o334 P) BT.nil BT.nil) BT.nil) (BT.node (o268 P) (BT.node (o402 P) BT.nil BT.nil) BT.nil))) (BT.node (o86 P) (BT.node (o118 P) (BT.node (o184 P) (BT.node (o318 P) BT.nil BT.nil) BT.nil) (BT.node (o252 P) (BT.node (o384 P) BT.nil BT.nil) BT.nil)) (BT.node (o152 P) (BT.node (o218 P) (BT.node (o352 P) BT.nil BT.nil) BT.nil) (BT.node (o284 P) BT.nil BT.nil)))) (BT.node (o60 P) (BT.node (o76 P) (BT.node (o110 P) (BT.node (o176 P) (BT.node (o310 P) BT.nil BT.nil) BT.nil) (BT.node (o244 P) (BT.node (o376 P) BT.nil BT.nil) BT.nil)) (BT.node (o142 P) (BT.node (o210 P) (BT.node (o344 P) BT.nil BT.nil) BT.nil) (BT.node (o276 P) BT.nil BT.nil))) (BT.node (o94 P) (BT.node (o126 P) (BT.node (o194 P) (BT.node (o326 P) BT.nil BT.nil) BT.nil) (BT.node (o260 P) (BT.node (o394 P) BT.nil BT.nil) BT.nil)) (BT.node (o160 P) (BT.node (o226 P) (BT.node (o360 P) BT.nil BT.nil) BT.nil) (BT.node (o294 P) BT.nil BT.nil))))) (BT.node (o393 P) (BT.node (o56 P) (BT.node (o72 P) (BT.node (o106 P) (BT.node (o172 P) (BT.node (o306 P) BT.nil BT.nil) BT.nil) (BT.node (o238 P) (BT.node (o372 P) BT.nil BT.nil) BT.nil)) (BT.node (o138 P) (BT.node (o206 P) (BT.node (o340 P) BT.nil BT.nil) BT.nil) (BT.node (o272 P) BT.nil BT.nil))) (BT.node (o90 P) (BT.node (o122 P) (BT.node (o190 P) (BT.node (o322 P) BT.nil BT.nil) BT.nil) (BT.node (o256 P) (BT.node (o388 P) BT.nil BT.nil) BT.nil)) (BT.node (o156 P) (BT.node (o222 P) (BT.node (o356 P) BT.nil BT.nil) BT.nil) (BT.node (o288 P) BT.nil BT.nil)))) (BT.node (o64 P) (BT.node (o80 P) (BT.node (o114 P) (BT.node (o180 P) (BT.node (o314 P) BT.nil BT.nil) BT.nil) (BT.node (o248 P) (BT.node (o380 P) BT.nil BT.nil) BT.nil)) (BT.node (o148 P) (BT.node (o214 P) (BT.node (o348 P) BT.nil BT.nil) BT.nil) (BT.node (o280 P) BT.nil BT.nil))) (BT.node (o98 P) (BT.node (o130 P) (BT.node (o198 P) (BT.node (o330 P) BT.nil BT.nil) BT.nil) (BT.node (o264 P) (BT.node (o398 P) BT.nil BT.nil) BT.nil)) (BT.node (o164 P) (BT.node (o230 P) (BT.node (o364 P) BT.nil BT.nil) BT.nil) (BT.node (o298 P) BT.nil BT.nil)))))) (BT.node (boot_o_6 P) (BT.node (boot_o_10 P) (BT.node (o54 P) (BT.node (o70 P) (BT.node (o104 P) (BT.node (o170 P) (BT.node (o304 P) BT.nil BT.nil) BT.nil) (BT.node (o236 P) (BT.node (o370 P) BT.nil BT.nil) BT.nil)) (BT.node (o136 P) (BT.node (o204 P) (BT.node (o338 P) BT.nil BT.nil) BT.nil) (BT.node (o270 P) BT.nil BT.nil))) (BT.node (o88 P) (BT.node (o120 P) (BT.node (o186 P) (BT.node (o320 P) BT.nil BT.nil) BT.nil) (BT.node (o254 P) (BT.node (o386 P) BT.nil BT.nil) BT.nil)) (BT.node (o154 P) (BT.node (o220 P) (BT.node (o354 P) BT.nil BT.nil) BT.nil) (BT.node (o286 P) BT.nil BT.nil)))) (BT.node (o62 P) (BT.node (o78 P) (BT.node (o112 P) (BT.node (o178 P) (BT.node (o312 P) BT.nil BT.nil) BT.nil) (BT.node (o246 P) (BT.node (o378 P) BT.nil BT.nil) BT.nil)) (BT.node (o146 P) (BT.node (o212 P) (BT.node (o346 P) BT.nil BT.nil) BT.nil) (BT.node (o278 P) BT.nil BT.nil))) (BT.node (o96 P) (BT.node (o128 P) (BT.node (o196 P) (BT.node (o328 P) BT.nil BT.nil) BT.nil) (BT.node (o262 P) (BT.node (o396 P) BT.nil BT.nil) BT.nil)) (BT.node (o162 P) (BT.node (o228 P) (BT.node (o362 P) BT.nil BT.nil) BT.nil) (BT.node (o296 P) BT.nil BT.nil))))) (BT.node (o46 P) (BT.node (o58 P) (BT.node (o74 P) (BT.node (o108 P) (BT.node (o174 P) (BT.node (o308 P) BT.nil BT.nil) BT.nil) (BT.node (o240 P) (BT.node (o374 P) BT.nil BT.nil) BT.nil)) (BT.node (o140 P) (BT.node (o208 P) (BT.node (o342 P) BT.nil BT.nil) BT.nil) (BT.node (o274 P) BT.nil BT.nil))) (BT.node (o92 P) (BT.node (o124 P) (BT.node (o192 P) (BT.node (o324 P) BT.nil BT.nil) BT.nil) (BT.node (o258 P) (BT.node (o390 P) BT.nil BT.nil) BT.nil)) (BT.node (o158 P) (BT.node (o224 P) (BT.node (o358 P) BT.nil BT.nil) BT.nil) (BT.node (o290 P) BT.nil BT.nil)))) (BT.node (o66 P) (BT.node (o82 P) (BT.node (o116 P) (BT.node (o182 P) (BT.node (o316 P) BT.nil BT.nil) BT.nil) (BT.node (o250 P) (BT.node (o382 P) BT.nil BT.nil) BT.nil)) (BT.node (o150 P) (BT.node (o216 P) (BT.node (o350 P) BT.nil BT.nil) BT.nil) (BT.node (o282 P) BT.nil BT.nil))) (BT.node (o100 P) (BT.node (o132 P) (BT.node (o200 P) (BT.node (o332 P) BT.nil BT.nil) BT.nil) (BT.node (o266 P) (BT.node (o400 P) BT.nil BT.nil) BT.nil)) (BT.node (o166 P) (BT.node (o232 P) (BT.node (o366 P) BT.nil BT.nil) BT.nil) (BT.node (o300 P) BT.nil BT.nil)))))))
noncomputable def sts0 : List Stmt := cell 0 :: cell 1 :: cell 2 :: cell 3 :: cell 4 :: cell 5 :: cell 6 :: []
noncomputable def sts1 : List Stmt := cell 7 :: cell 8 :: cell 9 :: cell 10 :: cell 11 :: cell 12 :: []
noncomputable def sts2 : List Stmt := cell 13 :: cell 14 :: cell 15 :: []
noncomputable def sts3 : List Stmt := cell 16 :: cell 17 :: []
noncomputable def sts4 : List Stmt := cell 18 :: cell 19 :: []
noncomputable def sts5 : List Stmt := cell 20 :: cell 21 :: cell 22 :: cell 23 :: cell 24 :: []
noncomputable def sts6 : List Stmt := cell 25 :: cell 26 :: cell 27 :: []
noncomputable def sts7 : List Stmt := cell 28 :: cell 29 :: []
noncomputable def topEnv : Env := { scope := prog.main.scope, locals := mainNs, globals := mainNs, cells := [], code := Value.ref 13, frame := some 14 }
noncomputable def topCode : Code := Code.body (behindTheImports prog) topEnv
abbrev pos0 : Pos := { line := 0, col := 0, endLine := 0, endCol := 0 }
set_option maxHeartbeats 8000000 in
theorem gPre (w : World) (os : OsState) : topGo treeTable prog w 11 (some (Value.ref 6)) 12 ({ heap := boot_heap w.params, gens := { toList := [] }, drawn := boot_drawn, toks := boot_toks, os := os } : Shared) (topStub prog) = some (({ heap := heap46 w.params, toks := 187, os := os } : Shared), { cur := denote treeTable topCode, code := topCode, pos := pos0, stack := [topFrame pos0] }) := by kernel_rfl
set_option maxHeartbeats 8000000 in
theorem gBlock (w : World) (os : OsState) : segRun treeTable prog w 11 (some (Value.ref 6)) 1 1 ({ heap := heap46 w.params, toks := 187, os := os } : Shared) (blockOf (behindTheImports prog) topEnv topCode pos0 [topFrame pos0]) = some (Flow.next, ({ tree := tree47 w.params, n := 15, life := { }, gens := { toList := [] }, drawn := { }, toks := 187, os := os } : SharedT).abs, topCode, pos0) := by kernel_rfl
set_option maxHeartbeats 8000000 in
theorem g0 (w : World) (os : OsState) : segRunT treeTable prog w 11 (some (Value.ref 6)) 1 331 ({ tree := tree47 w.params, n := 15, life := { }, gens := { toList := [] }, drawn := { }, toks := 187, os := os } : SharedT) (piecesOf sts0 topEnv topCode { line := 0, col := 0, endLine := 0, endCol := 0 } [topFrame pos0]) = some (Flow.next, ({ tree := tree83 w.params, n := 48, life := { }, gens := { toList := [] }, drawn := { }, toks := 245, os := os } : SharedT), topCode, { line := 9, col := 0, endLine := 19, endCol := 91 }) := by (first | rw [Fast.te10110043849684766642, Fast.te14364793385576792824] | skip); kernel_rfl
set_option maxHeartbeats 8000000 in
theorem g1 (w : World) (os : OsState) : segRunT treeTable prog w 11 (some (Value.ref 6)) 1 387 ({ tree := tree83 w.params, n := 48, life := { }, gens := { toList := [] }, drawn := { }, toks := 245, os := os } : SharedT) (piecesOf sts1 topEnv topCode { line := 9, col := 0, endLine := 19, endCol := 91 } [topFrame pos0]) = some (Flow.next, ({ tree := tree142 w.params, n := 105, life := { }, gens := { toList := [] }, drawn := { }, toks := 327, os := os } : SharedT), topCode, { line := 46, col := 0, endLine := 47, endCol := 82 }) := by (first | rw [Fast.te10110043849684766642, Fast.te14364793385576792824] | skip); kernel_rfl
set_option maxHeartbeats 8000000 in
theorem g2 (w : World) (os : OsState) : segRunT treeTable prog w 11 (some (Value.ref 6)) 1 342 ({ tree := tree142 w.params, n := 105, life := { }, gens := { toList := [] }, drawn := { }, toks := 327, os := os } : SharedT) (piecesOf sts2 topEnv topCode { line := 46, col := 0, endLine := 47, endCol := 82 } [topFrame pos0]) = some (Flow.next, ({ tree := tree186 w.params, n := 147, life := { }, gens := { toList := [] }, drawn := { }, toks := 398, os := os } : SharedT), topCode, { line := 55, col := 0, endLine := 79, endCol := 103 }) := by (first | rw [Fast.te10110043849684766642, Fast.te14364793385576792824] | skip); kernel_rfl
set_option maxHeartbeats 8000000 in
theorem g3 (w : World) (os : OsState) : segRunT treeTable prog w 11 (some (Value.ref 6)) 1 386 ({ tree := tree186 w.params, n := 147, life := { }, gens := { toList := [] }, drawn := { }, toks := 398, os := os } : SharedT) (piecesOf sts3 topEnv topCode { line := 55, col := 0, endLine := 79, endCol := 103 } [topFrame pos0]) = some (Flow.next, ({ tree := tree241 w.params, n := 200, life := { }, gens := { toList := [] }, drawn := { }, toks := 466, os := os } : SharedT), topCode, { line := 102, col := 0, endLine := 102, endCol := 8 }) := by (first | rw [Fast.te10110043849684766642, Fast.te14364793385576792824] | skip); kernel_rfl
set_option maxHeartbeats 8000000 in
theorem g4 (w : World) (os : OsState) : segRunT treeTable prog w 11 (some (Value.ref 6)) 1 357 ({ tree := tree241 w.params, n := 200, life := { }, gens := { toList := [] }, drawn := { }, toks := 466, os := os } : SharedT) (piecesOf sts4 topEnv topCode { line := 102, col := 0, endLine := 102, endCol := 8 } [topFrame pos0]) = some (Flow.next, ({ tree := tree290 w.params, n := 247, life := { }, gens := { toList := [] }, drawn := { }, toks := 528, os := os } : SharedT), topCode, { line := 122, col := 0, endLine := 122, endCol := 8 }) := by (first | rw [Fast.te10110043849684766642, Fast.te14364793385576792824] | skip); kernel_rfl
set_option maxHeartbeats 8000000 in
theorem g5 (w : World) (os : OsState) : segRunT treeTable prog w 11 (some (Value.ref 6)) 1 357 ({ tree := tree290 w.params, n := 247, life := { }, gens := { toList := [] }, drawn := { }, toks := 528, os := os } : SharedT) (piecesOf sts5 topEnv topCode { line := 122, col := 0, endLine := 122, endCol := 8 } [topFrame pos0]) = some (Flow.next, ({ tree := tree334 w.params, n := 289, life := { }, gens := { toList := [] }, drawn := { }, toks := 591, os := os } : SharedT), topCode, { line := 149, col := 0, endLine := 149, endCol := 9 }) := by (first | rw [Fast.te10110043849684766642, Fast.te14364793385576792824] | skip); kernel_rfl
set_option maxHeartbeats 8000000 in
theorem g6 (w : World) (os : OsState) : segRunT treeTable prog w 11 (some (Value.ref 6)) 1 399 ({ tree := tree334 w.params, n := 289, life := { }, gens := { toList := [] }, drawn := { }, toks := 591, os := os } : SharedT) (piecesOf sts6 topEnv topCode { line := 149, col := 0, endLine := 149, endCol := 9 } [topFrame pos0]) = some (Flow.next, ({ tree := tree391 w.params, n := 344, life := { }, gens := { toList := [] }, drawn := { }, toks := 672, os := os } : SharedT), topCode, { line := 174, col := 0, endLine := 178, endCol := 77 }) := by (first | rw [Fast.te10110043849684766642, Fast.te14364793385576792824] | skip); kernel_rfl
set_option maxHeartbeats 8000000 in
theorem g7 (w : World) (os : OsState) : segRunT treeTable prog w 11 (some (Value.ref 6)) 1 53 ({ tree := tree391 w.params, n := 344, life := { }, gens := { toList := [] }, drawn := { }, toks := 672, os := os } : SharedT) (piecesOf sts7 topEnv topCode { line := 174, col := 0, endLine := 178, endCol := 77 } [topFrame pos0]) = some (Flow.next, ({ tree := tree403 w.params, n := 354, life := { }, gens := { toList := [] }, drawn := { }, toks := 684, os := os } : SharedT), topCode, { line := 181, col := 0, endLine := 214, endCol := 133 }) := by (first | rw [Fast.te10110043849684766642, Fast.te14364793385576792824] | skip); kernel_rfl
set_option maxHeartbeats 8000000 in
theorem gFin (w : World) (os : OsState) : topRun treeTable prog w 11 (some (Value.ref 6)) 2 ({ tree := tree403 w.params, n := 354, life := { }, gens := { toList := [] }, drawn := { }, toks := 684, os := os } : SharedT).abs { cur := doneF Flow.next, code := topCode, pos := { line := 181, col := 0, endLine := 214, endCol := 133 }, stack := [topFrame pos0] } = some ({ heap := heap404 w.params, toks := 684, os := os } : Shared) := by kernel_rfl
theorem bodyIs : behindTheImports prog = sts0 ++ (sts1 ++ (sts2 ++ (sts3 ++ (sts4 ++ (sts5 ++ (sts6 ++ (sts7 ++ ([])))))))) := by kernel_rfl
theorem gAll (w : World) (os : OsState) : topRun treeTable prog w 11 (some (Value.ref 6)) (12 + (1 + (331 + (387 + (342 + (386 + (357 + (357 + (399 + (53 + (2))))))))))) ({ heap := boot_heap w.params, gens := { toList := [] }, drawn := boot_drawn, toks := boot_toks, os := os } : Shared) (topStub prog) = some ({ heap := heap404 w.params, toks := 684, os := os } : Shared) := by
  refine go_top (gPre w os) (piece_block (gBlock w os) ?_)
  rw [show restOf (behindTheImports prog) topEnv topCode pos0 [topFrame pos0] = restOf (sts0 ++ (sts1 ++ (sts2 ++ (sts3 ++ (sts4 ++ (sts5 ++ (sts6 ++ (sts7 ++ ([]))))))))) topEnv topCode pos0 [topFrame pos0] from congrArg (fun b => restOf b topEnv topCode pos0 [topFrame pos0]) bodyIs]
  exact piece_app (segRun_of (g0 w os)) (piece_app (segRun_of (g1 w os)) (piece_app (segRun_of (g2 w os)) (piece_app (segRun_of (g3 w os)) (piece_app (segRun_of (g4 w os)) (piece_app (segRun_of (g5 w os)) (piece_app (segRun_of (g6 w os)) (piece_app (segRun_of (g7 w os)) (piece_nil (gFin w os)))))))))
end Mine
end
section
open PySem PySem.W PyProof.Rows
namespace Mine
set_option maxRecDepth 100000
noncomputable abbrev xt (s : Shared) : Bool := xlAt view [] s && recOk (RowW.records PySem.Challenge.rw_pb0187_01.row.toRowW) s
noncomputable abbrev endAs (w : World) (os : OsState) : Shared := { heap := heap404 w.params, gens := { toList := [] }, drawn := { }, toks := 684, os := os }
set_option maxHeartbeats 8000000 in
theorem lSize (w : World) : ((boot_heap w.params).isNs mainGlobals && (Array.mk [] : Array GenState).size == 0, (boot_heap w.params).objs.size, (boot_heap w.params).nsMap mainGlobals "__annotations__") = (true, 11, some (Value.ref 6)) := by kernel_rfl
set_option maxHeartbeats 8000000 in
theorem lTop (w : World) (os : OsState) : (staticsOk (importedModules prog.main.body) (boot_heap w.params) (heap404 w.params) && namesBound prog (heap404 w.params) && gensDone (endAs w os) && laidKept (boot_heap w.params) (heap404 w.params)) = true := by kernel_rfl
set_option maxHeartbeats 8000000 in
theorem lSeen (w : World) (os : OsState) : openSeen view [] (importedModules prog.main.body) xt true (endAs w os) = openGood view [] := by
  unfold openSeen openGood
  refine looks_pair ?_ (looks_pair ?_ (looks_pair ?_ (looks_pair ?_ (looks_pair ?_ (looks_pair ?_ (looks_pair ?_ (looks_pair ?_ ?_)))))))
  · kernel_rfl
  · kernel_rfl
  · kernel_rfl
  · kernel_rfl
  · kernel_rfl
  · kernel_rfl
  · kernel_rfl
  · kernel_rfl
  · kernel_rfl
set_option maxHeartbeats 8000000 in
theorem lKept (w : World) (os : OsState) : Hook.obs kH (endAs w os) = Hook.val kH w := by kernel_rfl
theorem lOpen (w : World) : (fencedOpening treeTable PySem.Challenge.pw_pb0187_01 w 5334).map (fun s => (s.heap, s.gens, s.drawn, s.toks)) = some (boot_heap w.params, Array.mk [], boot_drawn, boot_toks) :=
  boot_open (by kernel_rfl) (by rfl) (fun _ => by rfl) w
theorem left : LeftO PySem.Challenge.pw_pb0187_01 view [] xt (Hook.obs kH) (Hook.val kH) 5334 :=
  LeftO.of_pieces lOpen lSize gAll (by rfl) fun w => funext fun os => looks_pair (lTop w os) (looks_pair (lSeen w os) (lKept w os))
end Mine
end
section
open PySem PySem.W PyProof.Rows PySem.Calls PySem.Spec
set_option maxRecDepth 100000
namespace Mine
theorem resetP5 : True := by w_top off; trivial
theorem list_keys_miss : typeLookup (.type "list") "keys" = pure none := by rw [typeLookup_type, builtinLookup_eq_fast]; kernel_rfl
theorem list_no_keys {prog : Program} {w : World} {A : Around} {E : Value → Shared → Prop} {s : Shared} {a : Addr} {o : Obj} {xs : Array Value} {k : Nat} {Q : Option Value → Shared → Prop}
    (hx : s.heap.get? a = some o) (hc : o.cls = .type "list") (hdat : o.data = .seq xs k) (hd : o.dict = none) (hA : A.handled = none)
    (h : ∀ h' tk, (∀ b o, s.heap.get? b = some o → h'.get? b = some o) → Q none { s with heap := h', toks := tk }) :
    wpAny (model prog w) A (getAttr? (.ref a) "keys") Q E s := by
  obtain ⟨c, dct, dat, sl⟩ := o
  simp only at hc hdat hd
  subst hc hdat hd
  obtain ⟨hp, g, d, tk, os⟩ := s
  have hT : ∀ tk', (⟨hp, g, d, tk', os⟩ : Shared).TypeIs (.ref a) "list" := fun _ => ⟨_, hx, rfl⟩
  have f1 := sub_AttributeError
  have f3 := F.slot_list_getattribute.lookup
  have f4 := F.slot_list_getattribute.bind (.ref a)
  have f5 := am_list_getattr_none
  unfold getAttr? getAttrBy? getAttrBy
  repeat (any_goals (first | assumption | exact hT _ | ((with_reducible show wpAny _ _ (call (Value.builtin "list.__getattribute__") _ _) _ _ _); refine call_meets F.slot_list_getattribute (hT _) am_entry_list_getattribute (F.args_list_getattribute_2 _ _) (meets_getattribute_miss_list a xs k sl _ _ list_keys_miss (by decide) (by size_fits)) ⟨hx, hA, fun h' tk' e hx' => ?_⟩) | wp_step))
  obtain ⟨t', u', he⟩ := hx'.there
  show wpAny _ _ (getattributeRaised _ _ _ _ _ _ _) _ _ _
  unfold getattributeRaised
  repeat (any_goals (first | assumption | wp_step))
  exact h _ _ hx'.keeps
theorem plain_update_loop : plainId "dict.update.loop" = true := by decide +kernel
theorem entry_update_loop : entryFor table "dict.update.loop" = some Builtin.«dict.update.loop» := entryFor_of_fast (by kernel_rfl)
section
variable {prog : Program} {w : World} {K : Type} [DecidableEq K] {knd : KeyKind prog w K} {A : Around} {R : Result → Shared → Prop} {E : Value → Shared → Prop}
def PairsAt (knd : KeyKind prog w K) (H0 : Heap) (I d : Addr) (ys : Array Value) (kvs : List (K × Value)) : Prop :=
  ∀ (i : Nat) (kv : K × Value), kvs[i]? = some kv → ∃ t key ep, ys[i]? = some (.ref t) ∧ H0.get? t = some { cls := .type "tuple", data := .seq #[key, kv.2] ep } ∧ t ≠ I ∧ t ≠ d ∧ knd.is kv.1 key = true
theorem pairItems_tuple {s : Shared} {t : Addr} {o : Obj} {xs : Array Value} {ep : Nat} {Q : List Value → Shared → Prop} (ho : s.heap.get? t = some o) (hc : o.cls = .type "tuple") (hd : o.data = .seq xs ep) (h : Q xs.toList s) :
    wpAny (model prog w) A (Builtin.Dict.pairItems (.ref t)) Q E s := by
  unfold Builtin.Dict.pairItems
  refine wpAny_bind (wpAny_typeOf (T := "tuple") ⟨_, ho, hc⟩ ?_)
  rw [if_pos (by decide)]
  exact wpAny_bind (wpAny_seqItems ho hd (wpAny_pure h))
theorem pairs_loop (hh : A.handled = none) {I l d : Addr} {ys : Array Value} {kvs : List (K × Value)} {H0 : Heap} (hIl : l ≠ I) (hId : I ≠ d) (hld : l ≠ d) (hys : ys.size = kvs.length) (hP : PairsAt knd H0 I d ys kvs) (hn : (kvs.map (·.1)).Nodup) (hsz : kvs.length ≤ sizeLine) :
    ∀ (k i : Nat) (s : Shared) (u : Tok), kvs.length - i = k → i ≤ kvs.length → s.heap.IsListIter I l i → s.heap.IsList l ys → s.heap.DictOf knd d (kvs.take i) → (∀ b o, b ≠ I → b ≠ d → H0.get? b = some o → s.heap.get? b = some o) →
      (∀ h' tk, h'.DictOf knd d kvs → (∀ b o, b ≠ I → b ≠ d → H0.get? b = some o → h'.get? b = some o) → R (.ok (.ret .none)) { s with heap := h', toks := tk }) →
      codeAny (model prog w) A (.builtin "dict.update.loop" ⟨[.ref d, .ref I, .int (i : Int) u, .none], []⟩) R s := by
  have hh' : A.in1.handled = none := hh
  have W := Walks.list (prog := prog) (w := w) hh' I l hIl ys
  intro k
  induction k with
  | zero =>
    intro i s u hk hi hit hl hd hkeep hR
    have hin : i = kvs.length := by omega
    subst hin
    refine codeAny_builtin entry_update_loop ?_
    rw [Around.under_plainId plain_update_loop _]
    show wpAny _ A.in1 (pyNext (.ref I) >>= _) _ _ s
    refine wpAny_bind (W.done s _ _ (by rw [hys]; exact ⟨hit, hl⟩) fun h' tk hm => ?_)
    show wpAny _ A.in1 (Builtin.Dict.addKeywords d [] >>= _) _ _ _
    refine wpAny_bind (wpAny_pure (wpAny_pure ?_))
    refine hR h' tk ?_ (fun b o h1 h2 e => hm b o (by simpa using h1) (hkeep b o h1 h2 e))
    rw [List.take_length] at hd
    obtain ⟨o, es, ep, ho, r⟩ := hd
    exact ⟨o, es, ep, hm d o (by simpa using Ne.symm hId) ho, r⟩
  | succ k ih =>
    intro i s u hk hi hit hl hd hkeep hR
    have hlt : i < kvs.length := by omega
    obtain ⟨t, key, ep, hy, ht, htI, htd, hkey⟩ := hP i kvs[i] (List.getElem?_eq_getElem hlt)
    refine codeAny_builtin entry_update_loop ?_
    rw [Around.under_plainId plain_update_loop _]
    show wpAny _ A.in1 (pyNext (.ref I) >>= _) _ _ s
    refine wpAny_bind (W.item i s _ _ (by rw [hys]; exact hlt) ⟨hit, hl⟩ fun v h₁ tk₁ hv hst hm => ?_)
    have hv' : v = .ref t := by rw [hy] at hv; exact (Option.some.inj hv).symm
    subst hv'
    have ht₁ : h₁.get? t = some { cls := .type "tuple", data := .seq #[key, kvs[i].2] ep } := hm t _ (by simpa using htI) (hkeep t _ htI htd ht)
    have hd₁ : h₁.DictOf knd d (kvs.take i) := by
      obtain ⟨o, es, ep', ho, r⟩ := hd
      exact ⟨o, es, ep', hm d o (by simpa using Ne.symm hId) ho, r⟩
    show wpAny _ A.in1 (holding [Value.ref t] _ >>= _) _ _ _
    refine wpAny_bind (wpAny_holding (wpAny_bind (wpAny_tryCatch (pairItems_tuple ht₁ rfl rfl ?_))))
    show wpAny _ A.in1 (holding [key, kvs[i].2] (dictSet d key kvs[i].2)) _ _ _
    have hlen : (kvs.take i).length ≤ sizeLine := by rw [List.length_take]; omega
    refine wpAny_holding (wpAny_dictSet_pairs hkey hd₁ (fun h₂ hd₂ hs₂ => ?_) hlen)
    have hnone : valueAt (kvs.take i) kvs[i].1 = none := by
      unfold valueAt
      rw [List.find?_eq_none.mpr ?_]
      · rfl
      · intro q hq
        simp only [decide_eq_true_eq]
        intro e
        obtain ⟨j, hj, hjq⟩ := List.mem_take_iff_getElem.mp hq
        have hjlt : j < kvs.length := by omega
        have h1 : (kvs.map (·.1))[j]'(by rw [List.length_map]; exact hjlt) = (kvs.map (·.1))[i]'(by rw [List.length_map]; exact hlt) := by
          simp only [List.getElem_map]; rw [← e, ← hjq]
        exact (List.pairwise_iff_getElem.mp hn) j i (by rw [List.length_map]; exact hjlt) (by rw [List.length_map]; exact hlt) (by omega) h1
    rw [PyProof.Rows.stored_absent hnone] at hd₂
    have htk : kvs.take i ++ [(kvs[i].1, kvs[i].2)] = kvs.take (i + 1) := by
      rw [List.take_succ_eq_append_getElem hlt]
    rw [htk] at hd₂
    refine wpAny_pure ⟨plainId_quiet plain_update_loop _, ?_⟩
    refine ih (i + 1) _ 0 (by omega) hlt ?_ ?_ hd₂ (fun b o h1 h2 e => ?_) (fun h' tk hd' hk' => hR h' tk hd' hk')
    · exact hst.1.at fun o e => (hs₂.2 I hId).trans e
    · exact hst.2.at fun o e => (hs₂.2 l hld).trans e
    · exact (hs₂.2 b h2).trans (hm b o (by simpa using h1) (hkeep b o h1 h2 e))
theorem call_dict_pairs {s : Shared} {h₀ : Heap} {L l : Addr} {m : Str → Option Value} {news : List (Addr × Obj)} {ys : List Value} {c : Nat} {kvs : List (K × Value)} {Q : Value → Shared → Prop} (hh : A.handled = none)
    (FF : Fr h₀ L s.heap m) (N : News h₀ L s.heap news) (hl : (l, ({ cls := .type "list", data := .seq ys.toArray c } : Obj)) ∈ news) (hys : ys.length = kvs.length)
    (hP : ∀ (i : Nat) (kv : K × Value), kvs[i]? = some kv → ∃ t key ep, ys[i]? = some (.ref t) ∧ (t, ({ cls := .type "tuple", data := .seq #[key, kv.2] ep } : Obj)) ∈ news ∧ knd.is kv.1 key = true)
    (hn : (kvs.map (·.1)).Nodup) (hsz : kvs.length ≤ sizeLine)
    (h : ∀ h' tk o, Fr h₀ L h' m → News h₀ L h' ((s.heap.objs.size, o) :: news) → o.IsDictOf knd kvs → (∀ p ∈ news, p.1 < s.heap.objs.size) → Q (.ref s.heap.objs.size) { s with heap := h', toks := tk }) :
    wpAny (model prog w) A (call (.type "dict") [.ref l]) Q E s := by
  refine callType_codes (Q₁ := fun obj s₁ => obj = .ref s.heap.objs.size ∧ s₁ = { s with heap := s.heap.push { cls := .type "dict", data := .dict #[] } }) F.kt_called_dict (F.kt_typeCall_dict_1 _) F.entry_dict_init (kt_code_dict_new _ ⟨rfl, rfl⟩) ?_
  rintro obj s₁ ⟨rfl, rfl⟩
  generalize hdd : s.heap.objs.size = d
  have hsame : (s.heap.push { cls := .type "dict", data := .dict #[] }).DictOf knd d [] := hdd ▸ Heap.DictOf.new s.heap
  refine ⟨hsame.typeIs, F.args_dict_init_2 _ _, ?_⟩
  have keep0 : ∀ b o, s.heap.get? b = some o → (s.heap.push { cls := .type "dict", data := .dict #[] }).get? b = some o := fun b o e => Heap.get?_push_of_some _ e
  have hlo := keep0 _ _ (N _ hl).1
  have hT : ({ s with heap := s.heap.push { cls := .type "dict", data := .dict #[] } } : Shared).TypeIs (.ref l) "list" := ⟨_, hlo, rfl⟩
  have hh2 : A.in1.in1.handled = none := hh
  have hh1 : A.in1.handled = none := hh
  unfold Builtin.«dict.__init__»
  refine wpAny_bind ?_
  unfold Builtin.Dict.selfAndRest
  refine wpAny_bind (wpAny_notOrdered_dict hsame.typeIs ?_)
  show wpAny _ _ (pure (d, [Value.ref l])) _ _ _
  refine wpAny_pure ?_
  show wpAny _ _ (Builtin.Dict.updateFrom "dict.__init__" d (.ref l) [] .none) _ _ _
  unfold Builtin.Dict.updateFrom
  refine wpAny_bind (wpAny_typeOf hT ?_)
  rw [if_pos (by decide)]
  refine wpAny_bind (list_no_keys hlo rfl rfl rfl hh2 fun h₁ tk₁ hk₁ => ?_)
  simp only [Option.isNone_none, if_true]
  have hl₁ := hk₁ _ _ hlo
  have hlI : h₁.IsList l ys.toArray := ⟨_, hl₁, rfl, _, rfl⟩
  have old : ∀ b o, s.heap.get? b = some o → h₁.get? b = some o := fun b o e => hk₁ _ _ (keep0 b o e)
  refine wpAny_bind (wpAny_rule (wpAny_bind (wpAny_pyIter_list hlI ?_)))
  have hdlt : d < h₁.objs.size := by
    obtain ⟨o, es, ep, ho, _⟩ := hsame
    exact Heap.lt_size (hk₁ _ _ ho)
  have hId : h₁.objs.size ≠ d := Ne.symm (Nat.ne_of_lt hdlt)
  have hlt : ∀ b o, s.heap.get? b = some o → b < d := fun b o e => hdd ▸ Heap.lt_size e
  have hld : l ≠ d := Nat.ne_of_lt (hlt _ _ (N _ hl).1)
  have hlI' : l ≠ h₁.objs.size := Nat.ne_of_lt (Heap.lt_size hl₁)
  generalize hH : h₁.push { cls := .type "list_iterator", data := .fields #[.ref l, .int 0 0] } = H0
  have hk2 : ∀ b o, h₁.get? b = some o → H0.get? b = some o := fun b o e => hH ▸ Heap.get?_push_of_some _ e
  have hPA : PairsAt knd H0 h₁.objs.size d ys.toArray kvs := by
    intro i kv e
    obtain ⟨t, key, ep, h1, h2, h3⟩ := hP i kv e
    have h4 := (N _ h2).1
    refine ⟨t, key, ep, by simpa using h1, hk2 _ _ (old _ _ h4), Nat.ne_of_lt (Heap.lt_size (old _ _ h4)), Nat.ne_of_lt (hlt _ _ h4), h3⟩
  refine wpAny_pure ⟨plainId_quiet plain_update_loop _, ?_⟩
  refine pairs_loop hh1 hlI' hId hld (by simpa using hys) hPA hn hsz kvs.length 0 _ 0 (by omega) (Nat.zero_le _) (hH ▸ ⟨_, Heap.get?_push_size _ rfl, rfl, rfl⟩) (hH ▸ hlI.push _) ?_ (fun b o _ _ e => e) fun h' tk hd' hk' => ⟨rfl, ?_⟩
  · obtain ⟨o, es, ep, ho, r⟩ := hsame
    exact ⟨o, es, ep, hk2 _ _ (hk₁ _ _ ho), r⟩
  · obtain ⟨o, ho, hod⟩ := Heap.dictOf_iff.mp hd'
    have hkeep : ∀ b o, s.heap.get? b = some o → h'.get? b = some o := fun b o e => hk' b o (Nat.ne_of_lt (Heap.lt_size (old _ _ e))) (Nat.ne_of_lt (hlt _ _ e)) (hk2 _ _ (old _ _ e))
    have hfr : h₀.get? d = none := by
      cases e : h₀.get? d with
      | none => rfl
      | some o' => exact absurd (hlt _ _ (FF.keep _ _ e)) (Nat.lt_irrefl _)
    have hdL : d ≠ L := by
      have := FF.ns.lt
      rw [hdd] at this
      exact Ne.symm (Nat.ne_of_lt this)
    subst hdd
    refine h h' tk o (FF.keeps hkeep) (fun p hp => ?_) hod fun p hp => Heap.lt_size (N p hp).1
    rcases List.mem_cons.mp hp with rfl | hp
    · exact ⟨ho, hdL, hfr⟩
    · exact ⟨hkeep _ _ (N p hp).1, (N p hp).2⟩
end
end Mine
end
section
open PySem PySem.W PyProof.Rows PySem.Calls PySem.Spec
namespace Mine
theorem resetB1a : True := by w_top off; trivial
theorem my_item {prog : Program} {w : World} {A : Around} {E : Value → Shared → Prop} {s : Shared} {h₀ : Heap} {L l : Addr} {news : List (Addr × Obj)} {its : Array Value} {c : Nat} {value slice : PySem.Expr} {k : Int} {u : Tok} {v : Value} {Q : Value → Shared → Prop}
    (N : News h₀ L s.heap news) (hm : (l, listOf its c) ∈ news) (h0 : 0 ≤ k) (hhi : k < 100) (hx : its[k.toNat]? = some v) (h : Q v s)
    (hs : subscripted slice false (.ref l) (.int k u) = operate [.ref l, .int k u] (getItem (.ref l) (.int k u)) := by with_unfolding_all rfl) :
    wpAny (model prog w) A (subscriptTail value slice (.ref l) (.int k u)) Q E s :=
  have hl : s.heap.IsList l its := News.isList N hm
  tail_any hl.typeIs slot_list_getitem.lookup (wpAny_getItem_list hl h0 (by omega) hx h) hs
abbrev ent (w : World) (n : String) (k : Tok) (v : Value) : DictEntry := ⟨PyData.keyHash w.params (Str.ofString n), .str (Str.ofString n) k, v⟩
abbrev IK (w : World) : KeyKind PySem.Challenge.rw_pb0187_01.row.prog w Int := PySem.intKind PySem.Challenge.rw_pb0187_01.row.prog w
inductive SceneAt (w : World) (news : List (Addr × Obj)) (sc bf gf lks lk st : Addr) (mask dep : Int) : Prop
  | mk {dsc : Addr} {tm td k1 k2 k3 k4 k5 k6 k7 : Tok} {nd : Nat} : (sc, instObj 65 dsc) ∈ news →
    (dsc, dictOf [ent w "buffer" k1 (.ref bf), ent w "gdef" k2 (.ref gf), ent w "lookups" k3 (.ref lks), ent w "lookup" k4 (.ref lk), ent w "mask" k5 (.int mask tm), ent w "depth" k6 (.int dep td), ent w "steps" k7 (.ref st)] nd) ∈ news →
    SceneAt w news sc bf gf lks lk st mask dep
inductive BufAt (w : World) (news : List (Addr × Obj)) (bf rw : Addr) : Prop
  | mk {dbf : Addr} {j1 j2 j3 j4 : Tok} {v2 v3 v4 : Value} {nb : Nat} : (bf, instObj 195 dbf) ∈ news →
    (dbf, dictOf [ent w "row" j1 (.ref rw), ent w "is_backward" j2 v2, ent w "last_lig" j3 v3, ent w "last_split" j4 v4] nb) ∈ news → BufAt w news bf rw
inductive InfoAt (w : World) (news : List (Addr × Obj)) (inf : Addr) (gl mk : Int) : Prop
  | mk {dinf : Addr} {q1 q2 q3 q4 tg tm : Tok} {v1 v3 : Value} {es : List DictEntry} {ni : Nat} : (inf, instObj 142 dinf) ∈ news →
    (dinf, dictOf (ent w "code" q1 v1 :: ent w "glyph" q2 (.int gl tg) :: ent w "cluster" q3 v3 :: ent w "mask" q4 (.int mk tm) :: es) ni) ∈ news → InfoAt w news inf gl mk
inductive LookAt (w : World) (news : List (Addr × Obj)) (lk : Addr) (flag ms : Int) : Prop
  | mk {dlk : Addr} {y1 y2 y3 y4 tfl tms : Tok} {v1 v4 : Value} {nlk : Nat} : (lk, instObj 43 dlk) ∈ news →
    (dlk, dictOf [ent w "kind" y1 v1, ent w "flag" y2 (.int flag tfl), ent w "mark_set" y3 (.int ms tms), ent w "tables" y4 v4] nlk) ∈ news → LookAt w news lk flag ms
inductive ClassAt (w : World) (news : List (Addr × Obj)) (kn : Addr) (kvs : List (Int × Value)) : Prop
  | mk {dkn kd : Addr} {p6 : Tok} {nkn : Nat} {okd : Obj} : (kn, instObj 242 dkn) ∈ news → (dkn, dictOf [ent w "classes" p6 (.ref kd)] nkn) ∈ news → (kd, okd) ∈ news → (kd == sysModules) = false → okd.IsDictOf (IK w) kvs → ClassAt w news kn kvs
inductive GdefAt (w : World) (news : List (Addr × Obj)) (gf : Addr) (kvs : List (Int × Value)) : Prop
  | mk {dgf kn at1 ss cv dcv gt : Addr} {p1 p2 p3 p4 p5 r1 x1 x3 x5 ta tb : Tok} {v4 v5 : Value} {ng nss ncv ngt : Nat} : (gf, instObj 332 dgf) ∈ news →
    (dgf, dictOf [ent w "classes" p1 (.ref kn), ent w "attach" p2 (.ref at1), ent w "sets" p3 (.ref ss), ent w "points" p4 v4, ent w "carets" p5 v5] ng) ∈ news →
    ClassAt w news kn kvs → ClassAt w news at1 [(4, .int 1 ta), (5, .int 2 tb)] →
    (ss, listOf #[.ref cv] nss) ∈ news → (cv, instObj 284 dcv) ∈ news → (dcv, dictOf [ent w "glyphs" r1 (.ref gt)] ncv) ∈ news → (gt, ({ cls := .type "tuple", data := .seq #[.int 1 x1, .int 3 x3, .int 5 x5] ngt } : Obj)) ∈ news → GdefAt w news gf kvs
theorem SceneAt.mono {w : World} {news news' : List (Addr × Obj)} {sc bf gf lks lk st : Addr} {mask dep : Int} (h : SceneAt w news sc bf gf lks lk st mask dep) (hs : ∀ p ∈ news, p ∈ news') : SceneAt w news' sc bf gf lks lk st mask dep := by
  cases h with | mk a b => exact .mk (hs _ a) (hs _ b)
theorem BufAt.mono {w : World} {news news' : List (Addr × Obj)} {bf rw : Addr} (h : BufAt w news bf rw) (hs : ∀ p ∈ news, p ∈ news') : BufAt w news' bf rw := by
  cases h with | mk a b => exact .mk (hs _ a) (hs _ b)
theorem InfoAt.mono {w : World} {news news' : List (Addr × Obj)} {inf : Addr} {gl mk : Int} (h : InfoAt w news inf gl mk) (hs : ∀ p ∈ news, p ∈ news') : InfoAt w news' inf gl mk := by
  cases h with | mk a b => exact .mk (hs _ a) (hs _ b)
theorem LookAt.mono {w : World} {news news' : List (Addr × Obj)} {lk : Addr} {flag ms : Int} (h : LookAt w news lk flag ms) (hs : ∀ p ∈ news, p ∈ news') : LookAt w news' lk flag ms := by
  cases h with | mk a b => exact .mk (hs _ a) (hs _ b)
theorem ClassAt.mono {w : World} {news news' : List (Addr × Obj)} {kn : Addr} {kvs : List (Int × Value)} (h : ClassAt w news kn kvs) (hs : ∀ p ∈ news, p ∈ news') : ClassAt w news' kn kvs := by
  cases h with | mk a b c d e => exact .mk (hs _ a) (hs _ b) (hs _ c) d e
theorem GdefAt.mono {w : World} {news news' : List (Addr × Obj)} {gf : Addr} {kvs : List (Int × Value)} (h : GdefAt w news gf kvs) (hs : ∀ p ∈ news, p ∈ news') : GdefAt w news' gf kvs := by
  cases h with | mk a b c d e f g i => exact .mk (hs _ a) (hs _ b) (c.mono hs) (d.mono hs) (hs _ e) (hs _ f) (hs _ g) (hs _ i)
def bitOf (c : Int) : Int := if c = 1 then 2 else if c = 2 then 4 else if c = 3 then 8 else 0
def setHas (g : Int) : Bool := decide (g = 1) || decide (g = 3) || decide (g = 5)
def attOf (g : Int) : Int := if g = 4 then 1 else if g = 5 then 2 else 0
def inSet (ms g : Int) : Bool := decide (ms = 0) && setHas g
def wantOf (flag : Int) : Int := (flag.fdiv 256).fmod 256
def pOf (flag ms c g : Int) : Bool :=
  if Builtin.bitAnd flag (bitOf c) ≠ 0 then true
  else if c ≠ 3 then false
  else if Builtin.bitAnd flag 16 ≠ 0 then !inSet ms g
  else decide (0 < wantOf flag) && decide (attOf g ≠ wantOf flag)
def clsOf (kvs : List (Int × Value)) (g : Int) : Int := match valueAt kvs g with
  | some (.int c _) => c
  | _ => 0
def KvOk (kvs : List (Int × Value)) : Prop := ∀ g v, valueAt kvs g = some v → ∃ c t, v = .int c t ∧ 1 ≤ c ∧ c ≤ 3
theorem att_val (g : Int) (a b : Tok) : (valueAt [(4, Value.int 1 a), (5, Value.int 2 b)] g = some (.int 1 a) ∧ attOf g = 1) ∨ (valueAt [(4, Value.int 1 a), (5, Value.int 2 b)] g = some (.int 2 b) ∧ attOf g = 2) ∨ (valueAt [(4, Value.int 1 a), (5, Value.int 2 b)] g = none ∧ attOf g = 0) := by
  by_cases h4 : g = 4
  · subst h4; exact .inl ⟨rfl, rfl⟩
  · by_cases h5 : g = 5
    · subst h5; exact .inr (.inl ⟨rfl, rfl⟩)
    · refine .inr (.inr ⟨?_, ?_⟩)
      · simp [valueAt, Ne.symm h4, Ne.symm h5, h4, h5]
      · simp [attOf, h4, h5]
end Mine
end
open PySem PySem.W PyProof.Rows PySem.Calls PySem.Spec Mine
local macro_rules | `(tactic| k_mem) => `(tactic| first | exact List.mem_cons_self | (refine List.mem_cons_of_mem _ ?_; k_mem) | ktr_member)
local macro_rules | `(tactic| k_room) => `(tactic| first | exact Nat.le_of_ble_eq_true rfl | ktr_room)
local macro_rules | `(tactic| k_units) => `(tactic| first | exact Nat.le_of_ble_eq_true rfl | ktr_units)
local macro_rules | `(tactic| kbo_bools) => `(tactic| first | assumption | decide | exact rfl | exact SceneAt.mono (by assumption) (by lcg_sub) | exact BufAt.mono (by assumption) (by lcg_sub) | exact InfoAt.mono (by assumption) (by lcg_sub) | exact LookAt.mono (by assumption) (by lcg_sub) | exact GdefAt.mono (by assumption) (by lcg_sub) | k_asm | omega)
section
local macro_rules | `(tactic| lcg_sub) => `(tactic| (intro p hp; (repeat (first | exact hp | refine List.mem_cons_of_mem _ ?_)); done))
local macro_rules | `(tactic| walk_at "subscriptTail") => `(tactic| (k_here; (with_reducible show wpAny _ _ (subscriptTail _ _ (Value.ref _) (Value.int _ _)) _ _ _); (with_unfolding_all (refine' my_item ?k0 ?k1 ?k2 ?k3 ?k4 ?_ ?k6; (case k0 => k_asm); (case k1 => k_mem); (case k2 => first | assumption | decide); (case k3 => first | assumption | decide | omega); (case k4 => first | assumption | exact (rfl : _ = some (Value.ref _)) | exact (rfl : _ = some (Value.int _ _))); (case k6 => with_unfolding_all rfl); k_whole))))
local macro_rules | `(tactic| k_get) => `(tactic| with_unfolding_all exact (rfl : _ = some (some (Value.int _ _))))
local macro_rules | `(tactic| walk_at "call builtin:dict.get") => `(tactic| (k_here; k_dflt ((refine kdg_get2 (knd := PySem.intKind _ _) (by k_asm) (by k_mem) (by k_asm) (by k_asm) (intKind_is _ _ _ _) _ (by assumption) ?_); (try dsimp only [Option.getD]))))
local macro_rules | `(tactic| walk_at "getMethod ref") => `(tactic| (k_here; (with_reducible show wpAny _ _ (getMethod (Value.ref _) (Str.ofString "get") _) _ _ _); k_dflt (refine kdg_method (knd := PySem.intKind _ _) (by k_asm) (by k_mem) (by k_asm) ?_)))
section
open PySem PySem.W PyProof.Rows PySem.Calls PySem.Spec
namespace Mine
theorem resetB1b : True := by w_top off; trivial
section
variable {w : World} {mean : ExcName → Option Value} {mg mb : Str → Option Value} {dp un : Nat} {gd : Option (List Code)} {cn : Str} {cs : Scope} {a : Addr} {ccd : Value} {cl : List (Str × Addr)} {outer : List Env} {A₀ : Around} {base h₀ : Heap} {L : Addr} {m : Str → Option Value}
    {news : List (Addr × Obj)} {s : Shared} {Q E : Value → Shared → Prop}
set_option maxRecDepth 100000 in
set_option maxHeartbeats 8000000 in
theorem att_ok {gf : Addr} {kvs : List (Int × Value)} {g : Int} {tg : Tok}
    (B : Below A₀ base outer h₀) (F : Fr h₀ L s.heap m) (X : (Mine.kFrag w.params).In h₀) (N : News h₀ L s.heap news) (T : Top Mine.view (looseW Mine.view []) mean mg mb h₀) (hk : cs.kind = .function)
    (hd : dp + 4 < recursionLimit) (hu : un + 32 < cLine) (hG : GdefAt w news gf kvs) 
    (hret : ∀ t h' tk', Fr h₀ L h' m → News h₀ L h' news → Q (.int (attOf g) t) { s with heap := h', toks := tk' }) :
    wpAny (model PySem.Challenge.rw_pb0187_01.row.prog w) (ktrTop dp un gd cn cs L a ccd cl outer) (call (.ref 317) [.ref gf, .int g tg]) Q E s := by
  revert X; k_fill; intro X
  cases hG with | @mk dgf kn at1 ss cv dcv gt p1 p2 p3 p4 p5 r1 x1 x3 x5 ta tb v4 v5 ng nss ncv ngt h1 h2 h3 h4 h5 h6 h7 h8 =>
  cases h4 with | @mk dkn kd p6 nkn okd i1 i2 i3 i4 i5 =>
  obtain ⟨hv, hw⟩ | ⟨hv, hw⟩ | ⟨hv, hw⟩ := att_val g ta tb <;> rw [hw] at hret
  all_goals (
    refine wpAny_call ?_
    k_dflt ktr_enter
    k_steps
    refine hret _ _ _ ?_ ?_
    · assumption
    · assumption)
set_option maxRecDepth 100000 in
set_option maxHeartbeats 8000000 in
theorem inset_ok {gf : Addr} {kvs : List (Int × Value)} {ms g : Int} {tm tg : Tok}
    (B : Below A₀ base outer h₀) (F : Fr h₀ L s.heap m) (X : (Mine.kFrag w.params).In h₀) (N : News h₀ L s.heap news) (T : Top Mine.view (looseW Mine.view []) mean mg mb h₀) (hk : cs.kind = .function)
    (hd : dp + 6 < recursionLimit) (hu : un + 48 < cLine) (hG : GdefAt w news gf kvs) (hm0 : 0 ≤ ms) (hm1 : ms ≤ 1) (hg0 : 0 ≤ g) (hg1 : g ≤ 5)
    (hret : ∀ h' tk', Fr h₀ L h' m → News h₀ L h' news → Q (.bool (inSet ms g)) { s with heap := h', toks := tk' }) :
    wpAny (model PySem.Challenge.rw_pb0187_01.row.prog w) (ktrTop dp un gd cn cs L a ccd cl outer) (call (.ref 324) [.ref gf, .int ms tm, .int g tg]) Q E s := by
  revert X; k_fill; intro X
  cases hG with | @mk dgf kn at1 ss cv dcv gt p1 p2 p3 p4 p5 r1 x1 x3 x5 ta tb v4 v5 ng nss ncv ngt h1 h2 h3 h4 h5 h6 h7 h8 =>
  clear h3 h4
  obtain rfl | rfl : ms = 0 ∨ ms = 1 := by omega
  · obtain rfl | rfl | rfl | rfl | rfl | rfl : g = 0 ∨ g = 1 ∨ g = 2 ∨ g = 3 ∨ g = 4 ∨ g = 5 := by omega
    all_goals (
      refine wpAny_call ?_
      k_dflt ktr_enter
      k_steps
      refine hret _ _ ?_ ?_
      · assumption
      · assumption)
  · refine wpAny_call ?_
    k_dflt ktr_enter
    k_steps
    refine hret _ _ ?_ ?_
    · assumption
    · assumption
end
end Mine
end
section
open PySem PySem.W PyProof.Rows PySem.Calls PySem.Spec
namespace Mine
theorem resetB2 : True := by w_top off; trivial
theorem cls_cases {kvs : List (Int × Value)} {g : Int} (h : KvOk kvs) : (valueAt kvs g = none ∧ clsOf kvs g = 0) ∨ ∃ c t, valueAt kvs g = some (.int c t) ∧ clsOf kvs g = c ∧ 1 ≤ c ∧ c ≤ 3 := by
  cases e : valueAt kvs g with
  | none => exact .inl ⟨rfl, by simp [clsOf, e]⟩
  | some v =>
    obtain ⟨c, t, rfl, h1, h3⟩ := h g v e
    exact .inr ⟨c, t, rfl, by simp [clsOf, e], h1, h3⟩
theorem pOf_t {flag ms c g : Int} (h : Builtin.bitAnd flag (bitOf c) ≠ 0) : true = pOf flag ms c g := by
  unfold pOf; rw [if_pos h]
theorem pOf_f {flag ms c g : Int} (h : Builtin.bitAnd flag (bitOf c) = 0) (hc : c ≠ 3) : false = pOf flag ms c g := by
  unfold pOf; rw [if_neg (fun x => x h), if_pos hc]
theorem pOf_s {flag ms c g : Int} (h : Builtin.bitAnd flag (bitOf c) = 0) (hc : c = 3) (h2 : Builtin.bitAnd flag 16 ≠ 0) : (!inSet ms g) = pOf flag ms c g := by
  unfold pOf; rw [if_neg (fun x => x h), if_neg (fun x => x hc), if_pos h2]
theorem pOf_w {flag ms c g : Int} (h : Builtin.bitAnd flag (bitOf c) = 0) (hc : c = 3) (h2 : Builtin.bitAnd flag 16 = 0) (h3 : 0 < (flag.fdiv 256).fmod 256) : (attOf g != (flag.fdiv 256).fmod 256) = pOf flag ms c g := by
  unfold pOf wantOf; rw [if_neg (fun x => x h), if_neg (fun x => x hc), if_neg (fun x => x h2), decide_eq_true h3, Bool.true_and]
  simp [bne, Bool.beq_eq_decide_eq]
theorem pOf_n {flag ms c g : Int} (h : Builtin.bitAnd flag (bitOf c) = 0) (hc : c = 3) (h2 : Builtin.bitAnd flag 16 = 0) (h3 : ¬ 0 < (flag.fdiv 256).fmod 256) : decide (0 < (flag.fdiv 256).fmod 256) = pOf flag ms c g := by
  unfold pOf wantOf; rw [if_neg (fun x => x h), if_neg (fun x => x hc), if_neg (fun x => x h2), decide_eq_false h3, Bool.false_and]
theorem drop1 {h₀ h : Heap} {L : Addr} {p : Addr × Obj} {news : List (Addr × Obj)} (N : News h₀ L h (p :: news)) : News h₀ L h news := fun q hq => N q (List.mem_cons_of_mem _ hq)
section
variable {w : World} {mean : ExcName → Option Value} {mg mb : Str → Option Value} {dp un : Nat} {gd : Option (List Code)} {cn : Str} {cs : Scope} {a : Addr} {ccd : Value} {cl : List (Str × Addr)} {outer : List Env} {A₀ : Around} {base h₀ : Heap} {L : Addr} {m : Str → Option Value}
    {news : List (Addr × Obj)} {s : Shared} {Q E : Value → Shared → Prop}
local macro_rules | `(tactic| walk_at "call ref") => `(tactic| (k_here; (with_reducible show wpAny _ _ (call (Value.ref 317) _) _ _ _); k_dflt (refine att_ok (by k_asm) (by k_asm) (by k_asm) (by k_asm) (by k_asm) rfl (by k_room) (by k_units) (by kbo_bools) ?_); intro t' h' tk' F' N'))
local macro_rules | `(tactic| walk_at "call ref") => `(tactic| (k_here; (with_reducible show wpAny _ _ (call (Value.ref 324) _) _ _ _); k_dflt (refine inset_ok (by k_asm) (by k_asm) (by k_asm) (by k_asm) (by k_asm) rfl (by k_room) (by k_units) (by kbo_bools) (by k_asm) (by k_asm) (by k_asm) (by k_asm) ?_); intro h' tk' F' N'))
set_option maxRecDepth 100000 in
set_option maxHeartbeats 8000000 in
theorem passes_ok {sc bf gf lks lk st rw inf : Addr} {mask dep gl mk flag ms : Int} {its : Array Value} {c : Nat} {kvs : List (Int × Value)} {i : Int} {ti : Tok}
    (B : Below A₀ base outer h₀) (F : Fr h₀ L s.heap m) (X : (Mine.kFrag w.params).In h₀) (N : News h₀ L s.heap news) (T : Top Mine.view (looseW Mine.view []) mean mg mb h₀) (hk : cs.kind = .function)
    (hd : dp + 10 < recursionLimit) (hu : un + 80 < cLine) (hS : SceneAt w news sc bf gf lks lk st mask dep) (hB : BufAt w news bf rw) (hR : (rw, listOf its c) ∈ news) (hi0 : 0 ≤ i) (hi1 : i < 100) (hit : its[i.toNat]? = some (.ref inf))
    (hI : InfoAt w news inf gl mk) (hL : LookAt w news lk flag ms) (hG : GdefAt w news gf kvs) (hKv : KvOk kvs) (hg0 : 0 ≤ gl) (hg1 : gl ≤ 5) (hm0 : 0 ≤ ms) (hm1 : ms ≤ 1)
    (hret : ∀ b h' tk', b = pOf flag ms (clsOf kvs gl) gl → Fr h₀ L h' m → News h₀ L h' news → Q (.bool b) { s with heap := h', toks := tk' }) :
    wpAny (model PySem.Challenge.rw_pb0187_01.row.prog w) (ktrTop dp un gd cn cs L a ccd cl outer) (call (.ref 97) [.ref sc, .int i ti]) Q E s := by
  revert X; k_fill; intro X
  cases hS with | @mk dsc tm td k1 k2 k3 k4 k5 k6 k7 nd s1 s2 =>
  cases hB with | @mk dbf j1 j2 j3 j4 v2 v3 v4 nb b1 b2 =>
  cases hI with | @mk dinf q1 q2 q3 q4 tg tm' v1 v3' es ni i1 i2 =>
  cases hL with | @mk dlk y1 y2 y3 y4 tfl tms v1' v4' nlk l1 l2 =>
  have hG' := hG
  cases hG with | @mk dgf kn at1 ss cv dcv gt p1 p2 p3 p4 p5 r1 x1 x3 x5 ta tb v4'' v5 ng nss ncv ngt h1 h2 h3 h4 h5 h6 h7 h8 =>
  cases h3 with | @mk dkn kd p6 nkn okd i1' i2' i3' i4' i5' =>
  clear h4 h5 h6 h7 h8
  obtain ⟨hv, hc⟩ | ⟨c', t', hv, hc, hc1, hc3⟩ := cls_cases (g := gl) hKv
  · rw [hc] at hret
    refine wpAny_call ?_
    k_dflt ktr_enter
    k_steps
    all_goals (refine hret _ _ _ ?_ (by assumption) (drop1 (by assumption)); first | exact pOf_t (by assumption) | exact pOf_f (by assumption) (by decide))
  · rw [hc] at hret
    obtain rfl | rfl | rfl : c' = 1 ∨ c' = 2 ∨ c' = 3 := by omega
    all_goals (
      refine wpAny_call ?_
      k_dflt ktr_enter
      k_steps
      all_goals (refine hret _ _ _ ?_ (by assumption) (drop1 (by assumption)); first | exact pOf_t (by assumption) | exact pOf_f (by assumption) (by decide) | exact pOf_s (by assumption) rfl (by assumption) | exact pOf_w (by assumption) rfl (by assumption) (by assumption) | exact pOf_n (by assumption) rfl (by assumption) (by first | assumption | omega)))
end
end Mine
end
section
open PySem PySem.W PyProof.Rows PySem.Calls PySem.Spec Mine
local macro_rules | `(tactic| walk_at "call ref") => `(tactic| (k_here; (with_reducible show wpAny _ _ (call (Value.ref 97) _) _ _ _); k_dflt (refine passes_ok (by k_asm) (by k_asm) (by k_asm) (by k_asm) (by k_asm) rfl (by k_room) (by k_units) (by kbo_bools) (by kbo_bools) (by k_mem) (by kbo_bools) (by kbo_bools) (by kbo_bools) (by kbo_bools) (by kbo_bools) (by kbo_bools) (by k_asm) (by k_asm) (by k_asm) (by k_asm) (by k_asm) ?_); intro b' h' tk' hb' F' N'))
section
open PySem PySem.W PyProof.Rows PySem.Calls PySem.Spec
namespace Mine
theorem resetB3 : True := by w_top off; trivial
def tOf (mk mask : Int) (p : Bool) : Bool := decide (Builtin.bitAnd mk mask ≠ 0) && !p
section
variable {w : World} {mean : ExcName → Option Value} {mg mb : Str → Option Value} {dp un : Nat} {gd : Option (List Code)} {cn : Str} {cs : Scope} {a : Addr} {ccd : Value} {cl : List (Str × Addr)} {outer : List Env} {A₀ : Around} {base h₀ : Heap} {L : Addr} {m : Str → Option Value}
    {news : List (Addr × Obj)} {s : Shared} {Q E : Value → Shared → Prop}
set_option maxRecDepth 100000 in
set_option maxHeartbeats 8000000 in
theorem takes_ok {sc bf gf lks lk st rw inf : Addr} {mask dep gl mk flag ms : Int} {its : Array Value} {c : Nat} {kvs : List (Int × Value)} {i : Int} {ti : Tok}
    (B : Below A₀ base outer h₀) (F : Fr h₀ L s.heap m) (X : (Mine.kFrag w.params).In h₀) (N : News h₀ L s.heap news) (T : Top Mine.view (looseW Mine.view []) mean mg mb h₀) (hk : cs.kind = .function)
    (hd : dp + 12 < recursionLimit) (hu : un + 96 < cLine) (hS : SceneAt w news sc bf gf lks lk st mask dep) (hB : BufAt w news bf rw) (hR : (rw, listOf its c) ∈ news) (hi0 : 0 ≤ i) (hi1 : i < 100) (hit : its[i.toNat]? = some (.ref inf))
    (hI : InfoAt w news inf gl mk) (hL : LookAt w news lk flag ms) (hG : GdefAt w news gf kvs) (hKv : KvOk kvs) (hg0 : 0 ≤ gl) (hg1 : gl ≤ 5) (hm0 : 0 ≤ ms) (hm1 : ms ≤ 1)
    (hret : ∀ b h' tk', b = tOf mk mask (pOf flag ms (clsOf kvs gl) gl) → Fr h₀ L h' m → News h₀ L h' news → Q (.bool b) { s with heap := h', toks := tk' }) :
    wpAny (model PySem.Challenge.rw_pb0187_01.row.prog w) (ktrTop dp un gd cn cs L a ccd cl outer) (call (.ref 104) [.ref sc, .int i ti]) Q E s := by
  revert X; k_fill; intro X
  have hS' := hS
  have hB' := hB
  have hI' := hI
  cases hS with | @mk dsc tm td k1 k2 k3 k4 k5 k6 k7 nd s1 s2 =>
  cases hB with | @mk dbf j1 j2 j3 j4 v2 v3 v4 nb b1 b2 =>
  cases hI with | @mk dinf q1 q2 q3 q4 tg tm' v1 v3' es ni i1 i2 =>
  refine wpAny_call ?_
  k_dflt ktr_enter
  k_steps
  all_goals (refine hret _ _ _ ?_ (by assumption) (by assumption))
  · rename (_ = pOf _ _ _ _) => hb; subst hb
    unfold tOf
    rw [decide_eq_true (by assumption), Bool.true_and]
  · unfold tOf
    rename (Builtin.bitAnd _ _ = 0) => hz
    simp [hz]
end
end Mine
end
section
open PySem PySem.W PyProof.Rows PySem.Calls PySem.Spec
namespace Mine
theorem resetB4 : True := by w_top off; trivial
abbrev tupOf (vs : Array Value) : Obj := { cls := .type "tuple", data := .seq vs }
theorem drop6 {h₀ h : Heap} {L : Addr} {a b c d e p : Addr × Obj} {news : List (Addr × Obj)} (N : News h₀ L h (a :: b :: c :: d :: e :: p :: news)) : News h₀ L h (a :: b :: c :: d :: e :: news) := fun q hq => N q (by
  simp only [List.mem_cons] at hq ⊢
  rcases hq with h | h | h | h | h | h <;> simp [h])
theorem ne3I {I C D a : Addr} {o : Obj} {l : List (Addr × Obj)} (h : LCg.Off3 I C D l) (hm : (a, o) ∈ l) : @Ne Nat a I := (LCg.Off3.mem h _ hm).1
theorem ne3C {I C D a : Addr} {o : Obj} {l : List (Addr × Obj)} (h : LCg.Off3 I C D l) (hm : (a, o) ∈ l) : @Ne Nat a C := (LCg.Off3.mem h _ hm).2.1
theorem ne3D {I C D a : Addr} {o : Obj} {l : List (Addr × Obj)} (h : LCg.Off3 I C D l) (hm : (a, o) ∈ l) : @Ne Nat a D := (LCg.Off3.mem h _ hm).2.2
theorem ce1 {h₀ : Heap} {L I C D : Addr} {m : Str → Option Value} {s₁ : Shared} {oI oC oD : Obj} {S : List (Addr × Obj) → Prop} {rest : Value → List (Addr × Obj) → Prop} {y : Value} {h' : Heap} {tk : Nat} {q : Addr × Obj} {tl : List (Addr × Obj)}
    (F : Fr h₀ L h' m) (N : News h₀ L h' (q :: (I, oI) :: (C, oC) :: (D, oD) :: tl)) (hI : @Ne Nat q.1 I) (hC : @Ne Nat q.1 C) (hD : @Ne Nat q.1 D) (off : LCg.Off3 I C D tl) (hS : S (q :: tl)) (r : rest y (q :: tl)) :
    LCg.CompEnd h₀ L m s₁ I oI C oC D oD S rest y { s₁ with heap := h', toks := tk } :=
  LCg.CompEnd.intro F N (q :: tl) (fun p hp => by
    rcases List.mem_cons.mp hp with rfl | hp
    · exact .tail _ (.head _)
    · rcases List.mem_cons.mp hp with rfl | hp
      · exact .tail _ (.tail _ (.head _))
      · rcases List.mem_cons.mp hp with rfl | hp
        · exact .tail _ (.tail _ (.tail _ (.head _)))
        · rcases List.mem_cons.mp hp with rfl | hp
          · exact .head _
          · exact .tail _ (.tail _ (.tail _ (.tail _ hp)))) ⟨⟨hI, hC, hD⟩, off⟩ hS r
section
variable {w : World} {mean : ExcName → Option Value} {mg mb : Str → Option Value} {dp un : Nat} {gd : Option (List Code)} {cn : Str} {cs : Scope} {a : Addr} {ccd : Value} {cl : List (Str × Addr)} {outer : List Env} {A₀ : Around} {base h₀ : Heap} {L : Addr} {m : Str → Option Value}
    {news : List (Addr × Obj)} {s : Shared} {Q E : Value → Shared → Prop}
local macro_rules | `(tactic| walk_at "CompSrc") => `(tactic| (k_here; k_dflt (refine LCg.CompSrc.range (by rfl) (by k_asm) (by k_asm) (by assumption) (by first | decide | rfl) (by first | rfl | decide) (by first | size_fits | exact Nat.le_of_ble_eq_true rfl) ?_; intro g'; lcg_lit)))
local macro_rules | `(tactic| walk_at "CompRest") => `(tactic| (with_unfolding_all first | (refine LCg.CompRest.succ ?_; intro v' I' oI' C' oC' D' m' h' tk' E' hv' hC' hx' F' N' off' ne'; (obtain ⟨t9', hv9'⟩ := hv'; subst hv9')) | refine LCg.CompRest.zero ?_))
local macro_rules | `(tactic| walk_at "CompEnd") => `(tactic| (refine ce1 (by assumption) (by assumption) (by k_ne) (by k_ne) (by k_ne) (by assumption) trivial ?_))
local macro_rules | `(tactic| walk_at "call ref") => `(tactic| (k_here; (with_reducible show wpAny _ _ (call (Value.ref 104) _) _ _ _); k_dflt (refine takes_ok (by k_asm) (by k_asm) (by k_asm) (by k_asm) (by k_asm) rfl (by k_room) (by k_units) (by kbo_bools) (by kbo_bools) (by k_mem) (by kbo_bools) (by kbo_bools) (by kbo_bools) (by kbo_bools) (by kbo_bools) (by kbo_bools) (by k_asm) (by k_asm) (by k_asm) (by k_asm) (by k_asm) ?_); intro b' h' tk' hb' F' N'))
set_option maxRecDepth 100000 in
set_option maxHeartbeats 8000000 in
theorem seen_ok {sc bf gf lks lk st rw i0 i1 i2 i3 : Addr} {mask dep g0 g1 g2 g3 m0 m1 m2 m3 flag ms : Int} {c : Nat} {kvs : List (Int × Value)}
    (B : Below A₀ base outer h₀) (F : Fr h₀ L s.heap m) (X : (Mine.kFrag w.params).In h₀) (N : News h₀ L s.heap news) (T : Top Mine.view (looseW Mine.view []) mean mg mb h₀) (hk : cs.kind = .function)
    (hd : dp + 14 < recursionLimit) (hu : un + 112 < cLine) (hS : SceneAt w news sc bf gf lks lk st mask dep) (hB : BufAt w news bf rw) (hR : (rw, listOf #[.ref i0, .ref i1, .ref i2, .ref i3] c) ∈ news)
    (hI0 : InfoAt w news i0 g0 m0) (hI1 : InfoAt w news i1 g1 m1) (hI2 : InfoAt w news i2 g2 m2) (hI3 : InfoAt w news i3 g3 m3) (hL : LookAt w news lk flag ms) (hG : GdefAt w news gf kvs) (hKv : KvOk kvs)
    (hg00 : 0 ≤ g0) (hg05 : g0 ≤ 5) (hg10 : 0 ≤ g1) (hg15 : g1 ≤ 5) (hg20 : 0 ≤ g2) (hg25 : g2 ≤ 5) (hg30 : 0 ≤ g3) (hg35 : g3 ≤ 5) (hm0 : 0 ≤ ms) (hm1 : ms ≤ 1)
    (hret : ∀ D t0 t1 t2 t3 p0 p1 p2 p3 q0 q1 q2 q3 h' tk', p0 = pOf flag ms (clsOf kvs g0) g0 → q0 = tOf m0 mask (pOf flag ms (clsOf kvs g0) g0) → p1 = pOf flag ms (clsOf kvs g1) g1 → q1 = tOf m1 mask (pOf flag ms (clsOf kvs g1) g1) →
      p2 = pOf flag ms (clsOf kvs g2) g2 → q2 = tOf m2 mask (pOf flag ms (clsOf kvs g2) g2) → p3 = pOf flag ms (clsOf kvs g3) g3 → q3 = tOf m3 mask (pOf flag ms (clsOf kvs g3) g3) →
      Fr h₀ L h' m → News h₀ L h' ((D, listOf #[.ref t0, .ref t1, .ref t2, .ref t3] 4) :: (t3, tupOf #[.bool p3, .bool q3]) :: (t2, tupOf #[.bool p2, .bool q2]) :: (t1, tupOf #[.bool p1, .bool q1]) :: (t0, tupOf #[.bool p0, .bool q0]) :: news) → Q (.ref D) { s with heap := h', toks := tk' }) :
    wpAny (model PySem.Challenge.rw_pb0187_01.row.prog w) (ktrTop dp un gd cn cs L a ccd cl outer) (call (.ref 348) [.ref sc]) Q E s := by
  revert X; k_fill; intro X
  refine wpAny_call ?_
  k_dflt ((refine' code_defC ?k1 ?k2 ?k3 ?k4 ?k5 ?kA ?kF ?kK ?k6 ?k7 ?k8 ?k9 ?kB ?kD ?_ ?c2 ?c3 ?c4; (case kA => exact rfl); (case kF => exact rfl); (case kK => assumption); (case k1 => k_asm); (case k2 => k_asm); (case k3 => k_asm); (case k4 => k_asm); (case k5 => k_asm); (case k6 => k_is); (case k7 => k_is); (case k8 => ktr_room); (case k9 => exact BindsTo.of_eq rfl); (case kB => exact rfl); (case kD => decide +kernel); (case c2 => exact rfl); (case c3 => exact rfl); (case c4 => exact rfl); k_whole; intro g' L' h' tk' cells' FG' F' N' Y' B' X' T' l1; (try k_lt l1); k_cells Y'; (try simp only [List.cons_append, List.nil_append] at N'); (try dsimp only); (try k_fold)))
  k_steps
  refine hret _ _ _ _ _ _ _ _ _ _ _ _ _ _ _ ?_ ?_ ?_ ?_ ?_ ?_ ?_ ?_ (by assumption) (drop6 (by assumption))
  all_goals assumption
end
end Mine
end
end
end
section
open PySem PySem.W PyProof.Rows PySem.Calls PySem.Spec
namespace Mine
theorem resetB5 : True := by w_top off; trivial
local macro_rules | `(tactic| k_all) => `(tactic| assumption)
set_option maxRecDepth 100000 in
set_option maxHeartbeats 8000000 in
theorem draw_core (w : World) {mean : ExcName → Option Value} {mg mb : Str → Option Value} {dp un : Nat} {gd : Option (List Code)} {cn : Str} {cs : Scope} {a : Addr} {ccd : Value} {cl : List (Str × Addr)} {outer : List Env} {A₀ : Around} {base h₀ : Heap} {L : Addr} {m : Str → Option Value}
    {rest : List (Addr × Obj)} {s : Shared} {tp cp : Addr} {i lim : Int} {t tl : Tok} {ep c : Nat} {ws : List Value} {ns : List Int} {Q E : Value → Shared → Prop}
    (B : Below A₀ base outer h₀) (F : Fr h₀ L s.heap m) (X : (Mine.kFrag w.params).In h₀) (N : News h₀ L s.heap ((tp, listOf #[.ref cp, .int i t] ep) :: (cp, listOf ws.toArray c) :: rest)) (T : Top Mine.view (looseW Mine.view []) mean mg mb h₀) (hk : cs.kind = .function)
    (hne : ∀ p ∈ (cp, listOf ws.toArray c) :: rest, p.1 ≠ tp) (hi : IntsAre ws ns) (hn0 : 0 < ns.length) (hn1 : ns.length ≤ 40) (ha : 0 ≤ i) (ha' : i ≤ 100) (hl : 0 < lim) (hl' : lim ≤ 100)
    (hd : dp + 2 < recursionLimit) (hu : un + 16 < cLine)
    (hret : ∀ r t₁ t₂ ep' h' tk', 0 ≤ r → r < lim → Fr h₀ L h' m → News h₀ L h' ((tp, listOf #[.ref cp, .int (i + 1) t₁] ep') :: (cp, listOf ws.toArray c) :: rest) → Q (.int r t₂) { s with heap := h', toks := tk' }) :
    wpAny (model PySem.Challenge.rw_pb0187_01.row.prog w) (ktrTop dp un gd cn cs L a ccd cl outer) (call (.ref 343) [.ref tp, .int lim tl]) Q E s := by
  revert X; k_fill; intro X
  refine wpAny_call ?_
  k_dflt ktr_enter
  k_steps
  refine hret _ _ _ _ _ _ ?_ ?_ (by assumption) (by assumption)
  · exact Int.fmod_nonneg_of_pos _ hl
  · exact Int.fmod_lt_of_pos _ hl
theorem draw_ok {w : World} {mean : ExcName → Option Value} {mg mb : Str → Option Value} {dp un : Nat} {gd : Option (List Code)} {cn : Str} {cs : Scope} {a : Addr} {ccd : Value} {cl : List (Str × Addr)} {outer : List Env} {A₀ : Around} {base h₀ : Heap} {L : Addr} {m : Str → Option Value}
    {news : List (Addr × Obj)} {g : Obj → List (Addr × Obj)} {s : Shared} {tp cp : Addr} {i lim : Int} {t tl : Tok} {ep c : Nat} {ws : List Value} {ns : List Int} {Q E : Value → Shared → Prop}
    (B : Below A₀ base outer h₀) (F : Fr h₀ L s.heap m) (X : (Mine.kFrag w.params).In h₀) (N : News h₀ L s.heap news) (T : Top Mine.view (looseW Mine.view []) mean mg mb h₀) (hk : cs.kind = .function)
    (hd : dp + 2 < recursionLimit) (hu : un + 16 < cLine)
    (U : UpdF tp (listOf #[.ref cp, .int i t] ep) news g) (hc : (cp, listOf ws.toArray c) ∈ news) (hcp : @LT.lt Nat _ cp tp) (hi : IntsAre ws ns) (hn0 : 0 < ns.length) (hn1 : ns.length ≤ 40) (ha : 0 ≤ i) (ha' : i ≤ 100) (hl : 0 < lim) (hl' : lim ≤ 100)
    (hret : ∀ r t₁ t₂ ep' h' tk', 0 ≤ r → r < lim → Fr h₀ L h' m → News h₀ L h' (g (listOf #[.ref cp, .int (i + 1) t₁] ep')) → Q (.int r t₂) { s with heap := h', toks := tk' }) :
    wpAny (model PySem.Challenge.rw_pb0187_01.row.prog w) (ktrTop dp un gd cn cs L a ccd cl outer) (call (.ref 343) [.ref tp, .int lim tl]) Q E s := by
  obtain ⟨pre, post, hn, hg, h1, h2⟩ := U.split
  have hm : ∀ p ∈ (cp, listOf ws.toArray c) :: (pre ++ post), p.1 ≠ tp := by
    intro p hp
    rcases List.mem_cons.mp hp with rfl | hp
    · exact Nat.ne_of_lt hcp
    · rcases List.mem_append.mp hp with hp | hp
      · exact h1 p hp
      · exact h2 p hp
  subst hn
  refine draw_core w (rest := pre ++ post) (c := c) (ep := ep) (t := t) (ws := ws) (ns := ns) B F X (fun p hp => ?_) T hk hm hi hn0 hn1 ha ha' hl hl' hd hu (fun r t₁ t₂ ep' h' tk' hr0 hr1 F' N' => hret r t₁ t₂ ep' h' tk' hr0 hr1 F' ?_)
  · refine N p ?_
    rcases List.mem_cons.mp hp with rfl | hp
    · exact List.mem_append.mpr (.inr (List.mem_cons_self))
    · rcases List.mem_cons.mp hp with rfl | hp
      · exact hc
      · rcases List.mem_append.mp hp with hp | hp
        · exact List.mem_append.mpr (.inl hp)
        · exact List.mem_append.mpr (.inr (List.mem_cons_of_mem _ hp))
  · rw [hg]
    intro p hp
    refine N' p ?_
    rcases List.mem_append.mp hp with hp | hp
    · exact List.mem_cons_of_mem _ (List.mem_cons_of_mem _ (List.mem_append.mpr (.inl hp)))
    · rcases List.mem_cons.mp hp with rfl | hp
      · exact List.mem_cons_self
      · exact List.mem_cons_of_mem _ (List.mem_cons_of_mem _ (List.mem_append.mpr (.inr hp)))
end Mine
end
section
open PySem PySem.W PyProof.Rows PySem.Calls PySem.Spec
set_option maxRecDepth 100000
namespace Mine
theorem resetB6 : True := by w_top off; trivial
theorem dict6 {w : World} {A : Around} {E : Value → Shared → Prop} {s : Shared} {h₀ : Heap} {L l : Addr} {m : Str → Option Value} {news : List (Addr × Obj)} {c : Nat} {Q : Value → Shared → Prop}
    {t0 t1 t2 t3 t4 t5 : Addr} {a0 a1 a2 a3 a4 a5 v0 v1 v2 v3 v4 v5 : Int} {x0 x1 x2 x3 x4 x5 y0 y1 y2 y3 y4 y5 : Tok} {e0 e1 e2 e3 e4 e5 : Nat}
    (hh : A.handled = none) (FF : Fr h₀ L s.heap m) (N : News h₀ L s.heap news) (hbig : h₀.NoLimit)
    (hl : (l, ({ cls := .type "list", data := .seq [Value.ref t0, .ref t1, .ref t2, .ref t3, .ref t4, .ref t5].toArray c } : Obj)) ∈ news)
    (h0 : (t0, ({ cls := .type "tuple", data := .seq #[.int a0 x0, .int v0 y0] e0 } : Obj)) ∈ news) (h1 : (t1, ({ cls := .type "tuple", data := .seq #[.int a1 x1, .int v1 y1] e1 } : Obj)) ∈ news)
    (h2 : (t2, ({ cls := .type "tuple", data := .seq #[.int a2 x2, .int v2 y2] e2 } : Obj)) ∈ news) (h3 : (t3, ({ cls := .type "tuple", data := .seq #[.int a3 x3, .int v3 y3] e3 } : Obj)) ∈ news)
    (h4 : (t4, ({ cls := .type "tuple", data := .seq #[.int a4 x4, .int v4 y4] e4 } : Obj)) ∈ news) (h5 : (t5, ({ cls := .type "tuple", data := .seq #[.int a5 x5, .int v5 y5] e5 } : Obj)) ∈ news)
    (ha : [a0, a1, a2, a3, a4, a5] = [0, 1, 2, 3, 4, 5])
    (h : ∀ d h' tk o, Fr h₀ L h' m → News h₀ L h' ((d, o) :: news) → o.IsDictOf (IK w) [(0, .int v0 y0), (1, .int v1 y1), (2, .int v2 y2), (3, .int v3 y3), (4, .int v4 y4), (5, .int v5 y5)] → (d == sysModules) = false → (∀ p ∈ news, p.1 < d) → Q (.ref d) { s with heap := h', toks := tk }) :
    wpAny (model PySem.Challenge.rw_pb0187_01.row.prog w) A (call (.type "dict") [.ref l]) Q E s := by
  injection ha with q0 ha; injection ha with q1 ha; injection ha with q2 ha; injection ha with q3 ha; injection ha with q4 ha; injection ha with q5 ha
  subst q0 q1 q2 q3 q4 q5
  refine call_dict_pairs (knd := IK w) (kvs := [(0, .int v0 y0), (1, .int v1 y1), (2, .int v2 y2), (3, .int v3 y3), (4, .int v4 y4), (5, .int v5 y5)]) hh FF N hl rfl ?_ (show ([0, 1, 2, 3, 4, 5] : List Int).Nodup by decide) (by rw [sizeLine_eq]; show 6 ≤ 16777216; decide) fun h' tk o F' N' hd hlt => h _ h' tk o F' N' hd (FF.notModules (modules_low hbig)) hlt
  intro i kv e
  match i, e with
  | 0, e => obtain rfl := (Option.some.inj e); exact ⟨t0, _, _, rfl, h0, intKind_is _ _ _ _⟩
  | 1, e => obtain rfl := (Option.some.inj e); exact ⟨t1, _, _, rfl, h1, intKind_is _ _ _ _⟩
  | 2, e => obtain rfl := (Option.some.inj e); exact ⟨t2, _, _, rfl, h2, intKind_is _ _ _ _⟩
  | 3, e => obtain rfl := (Option.some.inj e); exact ⟨t3, _, _, rfl, h3, intKind_is _ _ _ _⟩
  | 4, e => obtain rfl := (Option.some.inj e); exact ⟨t4, _, _, rfl, h4, intKind_is _ _ _ _⟩
  | 5, e => obtain rfl := (Option.some.inj e); exact ⟨t5, _, _, rfl, h5, intKind_is _ _ _ _⟩
  | n + 6, e => simp at e
end Mine
end
section
open PySem PySem.W PyProof.Rows PySem.Calls PySem.Spec PyProof.Rows.LCg PyProof.Rows.LCt
set_option maxRecDepth 100000
namespace Mine
theorem resetB7 : True := by w_top off; trivial
theorem comp_keys {prog : Program} {w : World} {K : Type} [DecidableEq K] {knd : KeyKind prog w K} {A : Around} {E : Value → Shared → Prop} {s : Shared} {h₀ : Heap} {L : Addr} {m : Str → Option Value} {env : Env}
    {ct elt iter : PySem.Expr} {x : Str} {px : Pos} {scope : Scope} {cl : List (Str × Addr)} {pos : Pos} {Q : Value → Shared → Prop} {news : List (Addr × Obj)} {d : Addr} {od : Obj} {kvs : List (K × Value)}
    (hclos : closureFor scope env = pure cl) (hcell : ∀ y ∈ scope.names, y.2 ≠ .cell) (hkind : scope.kind = .function)
    (hnames : ∀ y ∈ scope.names, y.2 = .local → scope.names.lookup y.1 = some .local) (hx : scope.names.lookup x = some .local)
    (hiter : ∀ Q' : Value → Shared → Prop, Q' (.ref d) s → wpAny (model prog w) A (eval iter env) Q' E s)
    (hs : ∀ x, foldedSetIterable iter env x = pure x)
    (hh : A.handled = none) (F : Fr h₀ L s.heap m) (N : News h₀ L s.heap news) (lo : (d == sysModules) = false) (hd : (d, od) ∈ news) (hD : od.IsDictOf knd kvs) (hsz : kvs.length ≤ sizeLine)
    (R : ∀ g : Heap, CompRestT prog w A h₀ L m env ct elt x scope cl { s with heap := g } (fun nw => (d, od) ∈ nw) (fun i v => ∃ k x, kvs[i]? = some (k, x) ∧ knd.is k v = true) (FinE h₀ L m { s with heap := g } Q) kvs.length 0 [] news) :
    wpAny (model prog w) A (eval (.ListComp elt [⟨.Name x px, iter, [ct], 0⟩] scope pos) env) Q E s := by
  rw [eval_ListComp]
  refine wpAny_comprehension_free (use := none) rfl hs hclos hkind hnames (hiter _ ?_)
  obtain ⟨ep, hK⟩ := KdkAt.of hD
  have hat : s.heap.DictAt knd d kvs ep := hK.dictAt (N _ hd).1
  have hlt : d < s.heap.objs.size := Heap.lt_size (N _ hd).1
  refine wpAny_pyIter_dict lo hat ?_
  have up : ∀ (o' : Obj), ∀ b o, s.heap.get? b = some o → (s.heap.push o').get? b = some o := fun o' b o e => Heap.get?_push_of_some _ e
  refine block_T (Walks.dictKeys (knd := knd) hh s.heap.objs.size d (Nat.ne_of_lt hlt) kvs ep) hsz (fun i h st => by obtain ⟨o, e, _⟩ := st.1; exact ⟨o, e⟩) ?_ hcell hkind hx ⟨⟨_, Heap.get?_push_size _ rfl, rfl, rfl⟩, hat.push _⟩ (fun b hb => ?_)
    (F.keeps (up _)) (N.grown (up _)) (Nat.ne_of_lt F.ns.lt) (next_is_new F) (fun p hp => Nat.ne_of_lt (Heap.lt_size (N p hp).1)) hd (R _) ?_
  · intro i h h' o nw st e e' k N' S'
    refine ⟨?_, hK.dictAt (N' _ S').1⟩
    obtain ⟨o', q, r⟩ := st.1
    rw [e] at q
    cases q
    exact ⟨o, e', r⟩
  · show b < (s.heap.push _).objs.size
    rw [Heap.size_push]
    rcases List.mem_cons.mp hb with rfl | hb
    · exact Nat.lt_succ_self _
    · rw [List.mem_singleton.mp hb]; exact Nat.lt_succ_of_lt hlt
  · intro D C h tk m' ys news' F' N' o1 hn hC₀ hD₀ hCL hDL hCD offC fin
    refine ⟨m', hn, fun h'' hs'' => fin D h'' tk (F'.change hs'' hCL hC₀) (fun p hp => ?_) o1⟩
    refine ⟨hs''.extBut _ _ ?_ (N' p hp).1, (N' p hp).2⟩
    rcases List.mem_cons.mp hp with rfl | hp
    · exact Ne.symm hCD
    · exact offC p hp
end Mine
end
section
open PySem PySem.W PyProof.Rows PySem.Calls PySem.Spec
namespace Mine
theorem resetB8 : True := by w_top off; trivial
def InfoD (w : World) (o : Obj) (g mk : Int) : Prop := ∃ (q1 q2 q3 q4 tg tm : Tok) (v1 v3 : Value) (es : List DictEntry) (n : Nat), es.length ≤ 100 ∧ o = dictOf (ent w "code" q1 v1 :: ent w "glyph" q2 (.int g tg) :: ent w "cluster" q3 v3 :: ent w "mask" q4 (.int mk tm) :: es) n
section
variable {w : World} {mean : ExcName → Option Value} {mg mb : Str → Option Value} {dp un : Nat} {gd : Option (List Code)} {cn : Str} {cs : Scope} {a : Addr} {ccd : Value} {cl : List (Str × Addr)} {outer : List Env} {A₀ : Around} {base h₀ : Heap} {L : Addr} {m : Str → Option Value}
    {news : List (Addr × Obj)} {s : Shared} {Q E : Value → Shared → Prop}
set_option maxRecDepth 100000 in
set_option maxHeartbeats 8000000 in
theorem mkInfo_ok {g : Int} {v1 v3 : Value} {tg : Tok}
    (B : Below A₀ base outer h₀) (F : Fr h₀ L s.heap m) (X : (Mine.kFrag w.params).In h₀) (N : News h₀ L s.heap news) (T : Top Mine.view (looseW Mine.view []) mean mg mb h₀) (hk : cs.kind = .function)
    (hd : dp + 4 < recursionLimit) (hu : un + 32 < cLine)
    (hret : ∀ x dx ox h' tk', Fr h₀ L h' m → News h₀ L h' ((x, instObj 142 dx) :: (dx, ox) :: news) → (∀ p ∈ news, p.1 < dx) → dx < x → InfoD w ox g 0 → Q (.ref x) { s with heap := h', toks := tk' }) :
    wpAny (model PySem.Challenge.rw_pb0187_01.row.prog w) (ktrTop dp un gd cn cs L a ccd cl outer) (call (.ref 142) [v1, .int g tg, v3]) Q E s := by
  revert X; k_fill; intro X
  k_dflt (refine' call_cls ?k1 ?k2 ?k3 ?k4 ?k5 ?k6 ?_; (case k1 => k_asm); (case k2 => k_asm); (case k3 => k_asm); (case k4 => k_is); (case k5 => k_is); (case k6 => k_is); k_whole)
  intro x' d' h' F' N' l1 l2
  have l1' := l1
  have l2' := l2
  (try k_lt l1)
  (try k_lt2 l2)
  clear F N
  k_dflt (refine' code_def ?k1 ?k2 ?k3 ?k4 ?k5 ?kA ?kF ?kK ?k6 ?k7 ?k8 ?k9 ?kB ?_ ?c2 ?c3 ?c4 ?c5; (case kA => exact rfl); (case kF => exact rfl); (case kK => assumption); (case k1 => k_asm); (case k2 => k_asm); (case k3 => k_asm); (case k4 => k_asm); (case k5 => k_asm); (case k6 => k_is); (case k7 => k_is); (case k8 => k_room); (case k9 => first | exact BindsTo.of_eq rfl | exact binds_K (by k_in) rfl (by k_is) rfl rfl rfl); (case c5 => decide); (case kB => exact locs rfl); (case c2 => exact rfl); (case c3 => exact rfl); (case c4 => exact rfl); k_whole; intro g' L' h' FG' F' N' B' X' T'; (try dsimp only); (try k_fold))
  k_steps
  exact hret _ _ _ _ _ (by assumption) (by assumption) l1' l2' ⟨_, _, _, _, _, _, _, _, _, _, Nat.le_of_ble_eq_true rfl, rfl⟩
set_option maxRecDepth 100000 in
set_option maxHeartbeats 8000000 in
theorem mkLookup_ok {flag ms : Int} {v1 v4 : Value} {tf tms : Tok}
    (B : Below A₀ base outer h₀) (F : Fr h₀ L s.heap m) (X : (Mine.kFrag w.params).In h₀) (N : News h₀ L s.heap news) (T : Top Mine.view (looseW Mine.view []) mean mg mb h₀) (hk : cs.kind = .function)
    (hd : dp + 4 < recursionLimit) (hu : un + 32 < cLine)
    (hret : ∀ x dx ox h' tk', Fr h₀ L h' m → News h₀ L h' ((x, instObj 43 dx) :: (dx, ox) :: news) → (∀ p ∈ news, p.1 < dx) → dx < x → LookAt w [(x, instObj 43 dx), (dx, ox)] x flag ms → Q (.ref x) { s with heap := h', toks := tk' }) :
    wpAny (model PySem.Challenge.rw_pb0187_01.row.prog w) (ktrTop dp un gd cn cs L a ccd cl outer) (call (.ref 43) [v1, .int flag tf, .int ms tms, v4]) Q E s := by
  revert X; k_fill; intro X
  k_dflt (refine' call_cls ?k1 ?k2 ?k3 ?k4 ?k5 ?k6 ?_; (case k1 => k_asm); (case k2 => k_asm); (case k3 => k_asm); (case k4 => k_is); (case k5 => k_is); (case k6 => k_is); k_whole)
  intro x' d' h' F' N' l1 l2
  have l1' := l1
  have l2' := l2
  (try k_lt l1)
  (try k_lt2 l2)
  clear F N
  k_dflt (refine' code_def ?k1 ?k2 ?k3 ?k4 ?k5 ?kA ?kF ?kK ?k6 ?k7 ?k8 ?k9 ?kB ?_ ?c2 ?c3 ?c4 ?c5; (case kA => exact rfl); (case kF => exact rfl); (case kK => assumption); (case k1 => k_asm); (case k2 => k_asm); (case k3 => k_asm); (case k4 => k_asm); (case k5 => k_asm); (case k6 => k_is); (case k7 => k_is); (case k8 => k_room); (case k9 => first | exact BindsTo.of_eq rfl | exact binds_K (by k_in) rfl (by k_is) rfl rfl rfl); (case c5 => decide); (case kB => exact locs rfl); (case c2 => exact rfl); (case c3 => exact rfl); (case c4 => exact rfl); k_whole; intro g' L' h' FG' F' N' B' X' T'; (try dsimp only); (try k_fold))
  k_steps
  exact hret _ _ _ _ _ (by assumption) (by assumption) l1' l2' (.mk (.head _) (.tail _ (.head _)))
set_option maxRecDepth 100000 in
set_option maxHeartbeats 8000000 in
theorem mkBuffer_ok {rw : Addr}
    (B : Below A₀ base outer h₀) (F : Fr h₀ L s.heap m) (X : (Mine.kFrag w.params).In h₀) (N : News h₀ L s.heap news) (T : Top Mine.view (looseW Mine.view []) mean mg mb h₀) (hk : cs.kind = .function)
    (hd : dp + 4 < recursionLimit) (hu : un + 32 < cLine)
    (hret : ∀ x dx ox h' tk', Fr h₀ L h' m → News h₀ L h' ((x, instObj 195 dx) :: (dx, ox) :: news) → (∀ p ∈ news, p.1 < dx) → dx < x → BufAt w [(x, instObj 195 dx), (dx, ox)] x rw → Q (.ref x) { s with heap := h', toks := tk' }) :
    wpAny (model PySem.Challenge.rw_pb0187_01.row.prog w) (ktrTop dp un gd cn cs L a ccd cl outer) (call (.ref 195) [.ref rw]) Q E s := by
  revert X; k_fill; intro X
  k_dflt (refine' call_cls ?k1 ?k2 ?k3 ?k4 ?k5 ?k6 ?_; (case k1 => k_asm); (case k2 => k_asm); (case k3 => k_asm); (case k4 => k_is); (case k5 => k_is); (case k6 => k_is); k_whole)
  intro x' d' h' F' N' l1 l2
  have l1' := l1
  have l2' := l2
  (try k_lt l1)
  (try k_lt2 l2)
  clear F N
  k_dflt (refine' code_def ?k1 ?k2 ?k3 ?k4 ?k5 ?kA ?kF ?kK ?k6 ?k7 ?k8 ?k9 ?kB ?_ ?c2 ?c3 ?c4 ?c5; (case kA => exact rfl); (case kF => exact rfl); (case kK => assumption); (case k1 => k_asm); (case k2 => k_asm); (case k3 => k_asm); (case k4 => k_asm); (case k5 => k_asm); (case k6 => k_is); (case k7 => k_is); (case k8 => k_room); (case k9 => first | exact BindsTo.of_eq rfl | exact binds_K (by k_in) rfl (by k_is) rfl rfl rfl); (case c5 => decide); (case kB => exact locs rfl); (case c2 => exact rfl); (case c3 => exact rfl); (case c4 => exact rfl); k_whole; intro g' L' h' FG' F' N' B' X' T'; (try dsimp only); (try k_fold))
  k_steps
  exact hret _ _ _ _ _ (by assumption) (by assumption) l1' l2' (.mk (.head _) (.tail _ (.head _)))
set_option maxRecDepth 100000 in
set_option maxHeartbeats 8000000 in
theorem mkScene_ok {bf gf lks lk : Addr} {mask : Int} {tm : Tok}
    (B : Below A₀ base outer h₀) (F : Fr h₀ L s.heap m) (X : (Mine.kFrag w.params).In h₀) (N : News h₀ L s.heap news) (T : Top Mine.view (looseW Mine.view []) mean mg mb h₀) (hk : cs.kind = .function)
    (hd : dp + 4 < recursionLimit) (hu : un + 32 < cLine)
    (hret : ∀ st x dx ox t ep h' tk', Fr h₀ L h' m → News h₀ L h' ((st, listOf #[.int 0 t] ep) :: (x, instObj 65 dx) :: (dx, ox) :: news) → (∀ p ∈ news, p.1 < dx) → dx < x → @LT.lt Nat _ x st → SceneAt w [(x, instObj 65 dx), (dx, ox)] x bf gf lks lk st mask 0 → Q (.ref x) { s with heap := h', toks := tk' }) :
    wpAny (model PySem.Challenge.rw_pb0187_01.row.prog w) (ktrTop dp un gd cn cs L a ccd cl outer) (call (.ref 65) [.ref bf, .ref gf, .ref lks, .ref lk, .int mask tm]) Q E s := by
  revert X; k_fill; intro X
  k_dflt (refine' call_cls ?k1 ?k2 ?k3 ?k4 ?k5 ?k6 ?_; (case k1 => k_asm); (case k2 => k_asm); (case k3 => k_asm); (case k4 => k_is); (case k5 => k_is); (case k6 => k_is); k_whole)
  intro x' d' h' F' N' l1 l2
  have l1' := l1
  have l2' := l2
  (try k_lt l1)
  (try k_lt2 l2)
  clear F N
  k_dflt (refine' code_def ?k1 ?k2 ?k3 ?k4 ?k5 ?kA ?kF ?kK ?k6 ?k7 ?k8 ?k9 ?kB ?_ ?c2 ?c3 ?c4 ?c5; (case kA => exact rfl); (case kF => exact rfl); (case kK => assumption); (case k1 => k_asm); (case k2 => k_asm); (case k3 => k_asm); (case k4 => k_asm); (case k5 => k_asm); (case k6 => k_is); (case k7 => k_is); (case k8 => k_room); (case k9 => first | exact BindsTo.of_eq rfl | exact binds_K (by k_in) rfl (by k_is) rfl rfl rfl); (case c5 => decide); (case kB => exact locs rfl); (case c2 => exact rfl); (case c3 => exact rfl); (case c4 => exact rfl); k_whole; intro g' L' h' FG' F' N' B' X' T'; (try dsimp only); (try k_fold))
  k_steps
  exact hret _ _ _ _ _ _ _ _ (by assumption) (by assumption) l1' l2' (by omega) (.mk (.head _) (.tail _ (.head _)))
end
end Mine
end
section
open PySem PySem.W PyProof.Rows PySem.Calls PySem.Spec
namespace Mine
theorem resetB9 : True := by w_top off; trivial
section
variable {w : World} {mean : ExcName → Option Value} {mg mb : Str → Option Value} {dp un : Nat} {gd : Option (List Code)} {cn : Str} {cs : Scope} {a : Addr} {ccd : Value} {cl : List (Str × Addr)} {outer : List Env} {A₀ : Around} {base h₀ : Heap} {L : Addr} {m : Str → Option Value}
    {news : List (Addr × Obj)} {s : Shared} {Q E : Value → Shared → Prop}
local macro_rules | `(tactic| walk_at "subscriptTail") => `(tactic| (k_here; (with_reducible show wpAny _ _ (subscriptTail _ _ (Value.ref _) (Value.int _ _)) _ _ _); (with_unfolding_all (refine' my_item ?k0 ?k1 ?k2 ?k3 ?k4 ?_ ?k6; (case k0 => k_asm); (case k1 => k_mem); (case k2 => first | assumption | decide); (case k3 => first | assumption | decide | omega); (case k4 => first | assumption | exact (rfl : _ = some (Value.ref _)) | exact (rfl : _ = some (Value.int _ _))); (case k6 => with_unfolding_all rfl); k_whole))))
set_option maxRecDepth 100000 in
set_option maxHeartbeats 8000000 in
theorem nested_in {sc bf gf lks lk st lk' : Addr} {mask dep n : Int} {tn : Tok} {its : Array Value} {c : Nat}
    (B : Below A₀ base outer h₀) (F : Fr h₀ L s.heap m) (X : (Mine.kFrag w.params).In h₀) (N : News h₀ L s.heap news) (T : Top Mine.view (looseW Mine.view []) mean mg mb h₀) (hk : cs.kind = .function)
    (hd : dp + 6 < recursionLimit) (hu : un + 48 < cLine) (hS : SceneAt w news sc bf gf lks lk st mask dep) (hl : (lks, listOf its c) ∈ news) (hz : its.size = 3) (hn0 : 0 ≤ n) (hn2 : n ≤ 2) (hit : its[n.toNat]? = some (.ref lk'))
    (hret : ∀ x dx ox h' tk', Fr h₀ L h' m → News h₀ L h' ((x, instObj 65 dx) :: (dx, ox) :: news) → (∀ p ∈ news, p.1 < dx) → dx < x → SceneAt w [(x, instObj 65 dx), (dx, ox)] x bf gf lks lk' st mask (dep + 1) → Q (.ref x) { s with heap := h', toks := tk' }) :
    wpAny (model PySem.Challenge.rw_pb0187_01.row.prog w) (ktrTop dp un gd cn cs L a ccd cl outer) (call (.ref 111) [.ref sc, .int n tn]) Q E s := by
  revert X; k_fill; intro X
  cases hS with | @mk dsc tm td k1 k2 k3 k4 k5 k6 k7 nd s1 s2 =>
  refine wpAny_call ?_
  k_dflt ktr_enter
  k_steps
  exact hret _ _ _ _ _ (by assumption) (drop1 (by assumption)) (by assumption) (by assumption) (.mk (.head _) (.tail _ (.head _)))
set_option maxRecDepth 100000 in
set_option maxHeartbeats 8000000 in
theorem nested_none {sc bf gf lks lk st : Addr} {mask dep n : Int} {tn : Tok} {its : Array Value} {c : Nat}
    (B : Below A₀ base outer h₀) (F : Fr h₀ L s.heap m) (X : (Mine.kFrag w.params).In h₀) (N : News h₀ L s.heap news) (T : Top Mine.view (looseW Mine.view []) mean mg mb h₀) (hk : cs.kind = .function)
    (hd : dp + 6 < recursionLimit) (hu : un + 48 < cLine) (hS : SceneAt w news sc bf gf lks lk st mask dep) (hl : (lks, listOf its c) ∈ news) (hz : its.size = 3) (hn : n < 0 ∨ 3 ≤ n)
    (hret : ∀ h' tk', Fr h₀ L h' m → News h₀ L h' news → Q .none { s with heap := h', toks := tk' }) :
    wpAny (model PySem.Challenge.rw_pb0187_01.row.prog w) (ktrTop dp un gd cn cs L a ccd cl outer) (call (.ref 111) [.ref sc, .int n tn]) Q E s := by
  revert X; k_fill; intro X
  cases hS with | @mk dsc tm td k1 k2 k3 k4 k5 k6 k7 nd s1 s2 =>
  rcases hn with hn | hn
  · refine wpAny_call ?_
    k_dflt ktr_enter
    k_steps
    exact hret _ _ (by assumption) (by assumption)
  · refine wpAny_call ?_
    k_dflt ktr_enter
    k_steps
    exact hret _ _ (by assumption) (by assumption)
theorem set_mask {prog : Program} {A : Around} {E : Value → Shared → Prop} {x dx : Addr} {ox : Obj} {g mk v : Int} {t : Tok} {gf : Obj → List (Addr × Obj)} {Q : Unit → Shared → Prop}
    (F : Fr h₀ L s.heap m) (X : (Mine.kFrag w.params).In h₀) (N : News h₀ L s.heap news) (hx : (x, instObj 142 dx) ∈ news) (U : UpdF dx ox news gf) (hD : InfoD w ox g mk)
    (h1 : findIn (Mine.kFrag w.params) (.ref 142) "__setattr__" = some (some (.builtin "object.__setattr__"))) (h2 : plainOver (Mine.kFrag w.params) 142 = true) (h3 : takerIn (Mine.kFrag w.params) 142 (Str.ofString "mask") = some none) (h4 : hasDictIn (Mine.kFrag w.params) 142 = true)
    (h : ∀ h' ox' tk, Fr h₀ L h' m → News h₀ L h' (gf ox') → InfoD w ox' g v → Q () { s with heap := h', toks := tk }) :
    wpAny (model prog w) A (setAttr (.ref x) (Str.ofString "mask") (.int v t)) Q E s := by
  obtain ⟨q1, q2, q3, q4, tg, tm, v1, v3, es, n, hes, rfl⟩ := hD
  obtain ⟨pre, post, hn, hg, ha, hb⟩ := U.split
  have hU : Upd dx (dictOf (ent w "code" q1 v1 :: ent w "glyph" q2 (.int g tg) :: ent w "cluster" q3 v3 :: ent w "mask" q4 (.int mk tm) :: es) n) (dictOf (ent w "code" q1 v1 :: ent w "glyph" q2 (.int g tg) :: ent w "cluster" q3 v3 :: ent w "mask" q4 (.int v t) :: es) n) news (gf (dictOf (ent w "code" q1 v1 :: ent w "glyph" q2 (.int g tg) :: ent w "cluster" q3 v3 :: ent w "mask" q4 (.int v t) :: es) n)) := by
    rw [hg, hn]
    clear hn N hx U hg
    induction pre with
    | nil => exact .head hb
    | cons p r ih => exact .tail (ha p (.head _)) (ih (fun q hq => ha q (.tail _ hq)))
  have hmem : (dx, dictOf (ent w "code" q1 v1 :: ent w "glyph" q2 (.int g tg) :: ent w "cluster" q3 v3 :: ent w "mask" q4 (.int mk tm) :: es) n) ∈ news := by rw [hn]; exact List.mem_append.mpr (.inr (.head _))
  refine set_dict F X N (InstAt.of_news N hx hmem) rfl h1 h2 h3 h4 rfl rfl hU ?_ fun h' F' N' => h h' _ _ F' N' ⟨q1, q2, q3, q4, tg, t, v1, v3, es, n, hes, rfl⟩
  show es.length + 4 ≤ 1000
  omega
theorem set_glyph {prog : Program} {A : Around} {E : Value → Shared → Prop} {x dx : Addr} {ox : Obj} {g mk v : Int} {t : Tok} {gf : Obj → List (Addr × Obj)} {Q : Unit → Shared → Prop}
    (F : Fr h₀ L s.heap m) (X : (Mine.kFrag w.params).In h₀) (N : News h₀ L s.heap news) (hx : (x, instObj 142 dx) ∈ news) (U : UpdF dx ox news gf) (hD : InfoD w ox g mk)
    (h1 : findIn (Mine.kFrag w.params) (.ref 142) "__setattr__" = some (some (.builtin "object.__setattr__"))) (h2 : plainOver (Mine.kFrag w.params) 142 = true) (h3 : takerIn (Mine.kFrag w.params) 142 (Str.ofString "glyph") = some none) (h4 : hasDictIn (Mine.kFrag w.params) 142 = true)
    (h : ∀ h' ox' tk, Fr h₀ L h' m → News h₀ L h' (gf ox') → InfoD w ox' v mk → Q () { s with heap := h', toks := tk }) :
    wpAny (model prog w) A (setAttr (.ref x) (Str.ofString "glyph") (.int v t)) Q E s := by
  obtain ⟨q1, q2, q3, q4, tg, tm, v1, v3, es, n, hes, rfl⟩ := hD
  obtain ⟨pre, post, hn, hg, ha, hb⟩ := U.split
  have hU : Upd dx (dictOf (ent w "code" q1 v1 :: ent w "glyph" q2 (.int g tg) :: ent w "cluster" q3 v3 :: ent w "mask" q4 (.int mk tm) :: es) n) (dictOf (ent w "code" q1 v1 :: ent w "glyph" q2 (.int v t) :: ent w "cluster" q3 v3 :: ent w "mask" q4 (.int mk tm) :: es) n) news (gf (dictOf (ent w "code" q1 v1 :: ent w "glyph" q2 (.int v t) :: ent w "cluster" q3 v3 :: ent w "mask" q4 (.int mk tm) :: es) n)) := by
    rw [hg, hn]
    clear hn N hx U hg
    induction pre with
    | nil => exact .head hb
    | cons p r ih => exact .tail (ha p (.head _)) (ih (fun q hq => ha q (.tail _ hq)))
  have hmem : (dx, dictOf (ent w "code" q1 v1 :: ent w "glyph" q2 (.int g tg) :: ent w "cluster" q3 v3 :: ent w "mask" q4 (.int mk tm) :: es) n) ∈ news := by rw [hn]; exact List.mem_append.mpr (.inr (.head _))
  refine set_dict F X N (InstAt.of_news N hx hmem) rfl h1 h2 h3 h4 rfl rfl hU ?_ fun h' F' N' => h h' _ _ F' N' ⟨q1, q2, q3, q4, t, tm, v1, v3, es, n, hes, rfl⟩
  show es.length + 4 ≤ 1000
  omega
end
end Mine
end
section
open PySem PySem.W PyProof.Rows PySem.Calls PySem.Spec Mine
local macro_rules | `(tactic| walk_at "eval Name") => `(tactic| (k_here; k_dflt (refine' nameX_L ?F ?v ?_ ?a ?b; (case F => k_asm); (case a => rfl); (case b => rfl); (case v => first | exact rfl | assumption); k_whole)))
section
open PySem PySem.W PyProof.Rows PySem.Calls PySem.Spec
namespace Mine
theorem resetL0 : True := by w_top off; trivial
def lawStmt : Stmt := (PySem.Challenge.pw_pb0187_01.main.body.getLast?).getD (Stmt.Pass ⟨0, 0, 0, 0⟩)
def lawBody : List Stmt := match lawStmt with
  | .FunctionDef _ _ body _ _ _ _ _ _ _ => body
  | _ => []
def lawScope : Scope := match lawStmt with
  | .FunctionDef _ _ _ _ _ _ scope _ _ _ => scope
  | _ => default
abbrev lawEnv (L fa cd : Addr) : Env := envOfC (Str.ofString "law") lawScope L fa (.ref cd)
theorem News.sub {h₀ h : Heap} {L : Addr} {news small : List (Addr × Obj)} (N : News h₀ L h news) (hs : ∀ p ∈ small, p ∈ news) : News h₀ L h small := fun p hp => N p (hs p hp)
section
variable {w : World} {mean : ExcName → Option Value} {mg mb : Str → Option Value} {h₀ : Heap} {L fa cd : Addr} {m : Str → Option Value} {news : List (Addr × Obj)} {s : Shared} {Q : Flow → Shared → Prop} {E : Value → Shared → Prop}
local macro_rules | `(tactic| walk_at "pad1") => `(tactic| skip)
set_option maxRecDepth 100000 in
set_option maxHeartbeats 8000000 in
theorem chunkA {rest : List Stmt} {sp : Addr} {vs : List Value} {ns : List Int} {o1 o2 o3 : Obj}
    (K0 : Below callerA h₀ [] h₀) (F : Fr h₀ L s.heap m) (X : (Mine.kFrag w.params).In h₀) (N : News h₀ L s.heap [(L + 1 + 1 + 1, o3), (L + 1 + 1, o2), (L + 1, o1)]) (T : Top Mine.view (looseW Mine.view []) mean mg mb h₀)
    (hs : m (Str.ofString "script") = some (.ref sp)) (hL : h₀.IsList sp vs.toArray) (hI : IntsAre vs ns) (hlen : ¬ (63 : Int) < (ns.length : Int)) (hd1 : o1.data = .cell none) (hd2 : o2.data = .cell none) (hd3 : o3.data = .cell none)
    (next : ∀ tp cp t ep c ws cs o1' h' tk, Fr h₀ L h' m → News h₀ L h' [(tp, listOf #[.ref cp, .int 0 t] ep), (cp, listOf ws.toArray c), (L + 1 + 1 + 1, o3), (L + 1 + 1, o2), (L + 1, o1')] → o1'.data = .cell (some (.ref tp)) → IntsAre ws cs → 0 < cs.length → cs.length ≤ 40 →
      @LT.lt Nat _ (L + 1 + 1 + 1) cp → @LT.lt Nat _ cp tp → wpAny (model PySem.Challenge.rw_pb0187_01.row.prog w) (callerA.deeper (lawEnv L fa cd)) (execs rest (lawEnv L fa cd)) Q E { s with heap := h', toks := tk }) :
    wpAny (model PySem.Challenge.rw_pb0187_01.row.prog w) (callerA.deeper (lawEnv L fa cd)) (execs ((lawBody.drop 0).take 1 ++ rest) (lawEnv L fa cd)) Q E s := by
  revert X; k_fill; intro X
  show wpAny _ (callerA.deeper (envOfC (Str.ofString "law") (Scope.mk _ _ _ _ _) L fa (.ref cd))) (execs (_ :: rest) (envOfC (Str.ofString "law") (Scope.mk _ _ _ _ _) L fa (.ref cd))) _ _ _
  w_strict k_steps
  · rename (List.take 40 ns).length = min 40 ns.length => hc40
    exact next _ _ _ _ _ _ (List.take 40 ns) _ _ _ (by assumption) (News.sub (by assumption) (by lcg_sub)) (by assumption) (by assumption) (by assumption) (by omega) (by omega) (by omega)
  · exact next _ _ _ _ _ [.int 0 _] [0] _ _ _ (by assumption) (News.sub (by assumption) (by lcg_sub)) (by assumption) (.cons 0 _ .nil) (by decide) (by decide) (by omega) (by omega)
end
end Mine
end
section
open PySem PySem.W PyProof.Rows PySem.Calls PySem.Spec Mine
local macro_rules | `(tactic| walk_at "call ref") => `(tactic| (k_here; (with_reducible show wpAny _ _ (call (Value.ref 343) _) _ _ _); k_dflt (refine draw_ok (by k_asm) (by k_asm) (by k_asm) (by k_asm) (by k_asm) rfl (by k_room) (by k_units) (by k_updF) (by k_mem) (by kbo_bools) (by k_asm) (by k_asm) (by k_asm) (by kbo_bools) (by kbo_bools) (by decide) (by decide) ?_); intro r' t1' t2' ep' h' tk' hr0' hr1' F' N'; (try dsimp only at N')))
section
open PySem PySem.W PyProof.Rows PySem.Calls PySem.Spec
namespace Mine
theorem resetL1 : True := by w_top off; trivial
section
variable {w : World} {mean : ExcName → Option Value} {mg mb : Str → Option Value} {h₀ : Heap} {L fa cd : Addr} {m : Str → Option Value} {news : List (Addr × Obj)} {s : Shared} {Q : Flow → Shared → Prop} {E : Value → Shared → Prop}
local macro_rules | `(tactic| k_ne) => `(tactic| (refine neN ?_; (try dsimp only); first | assumption | exact Ne.symm (by assumption) | exact ne3D (by assumption) (by k_mem) | exact Ne.symm (ne3D (by assumption) (by k_mem)) | exact ne3I (by assumption) (by k_mem) | exact Ne.symm (ne3I (by assumption) (by k_mem)) | exact ne3C (by assumption) (by k_mem) | exact Ne.symm (ne3C (by assumption) (by k_mem)) | omega))
local macro_rules | `(tactic| walk_at "CompSrc") => `(tactic| (k_here; k_dflt (refine LCg.CompSrc.range (by rfl) (by k_asm) (by k_asm) (by assumption) (by first | decide | rfl) (by first | rfl | decide) (by first | size_fits | exact Nat.le_of_ble_eq_true rfl) ?_; intro g'; lcg_lit)))
local macro_rules | `(tactic| walk_at "CompRest") => `(tactic| (with_unfolding_all first | (refine LCg.CompRest.succ ?_; intro v' I' oI' C' oC' D' m' h' tk' E' hv' hC' hx' F' N' off' ne'; (obtain ⟨t9', hv9'⟩ := hv'; subst hv9'); (have off2' := off'; simp only [LCg.Off3, and_true] at off2')) | refine LCg.CompRest.zero ?_))
local macro_rules | `(tactic| walk_at "CompEnd") => `(tactic| (refine ce1 (by assumption) (by assumption) (by k_ne) (by k_ne) (by k_ne) (by assumption) trivial ?_))
local macro_rules | `(tactic| walk_at "call type:dict") => `(tactic| (k_here; k_dflt (refine dict6 (by rfl) (by k_asm) (by k_asm) (Top.nolimit (by k_asm)) (by k_mem) (by k_mem) (by k_mem) (by k_mem) (by k_mem) (by k_mem) (by k_mem) (by rfl) ?_); intro d' h' tk' o' F' N' hd' lo' l1; (try k_lt l1)))
set_option maxRecDepth 100000 in
set_option maxHeartbeats 8000000 in
theorem chunkB {rest : List Stmt} {tp cp : Addr} {t : Tok} {ep c : Nat} {ws : List Value} {ns : List Int} {o1 o2 o3 : Obj}
    (K0 : Below callerA h₀ [] h₀) (F : Fr h₀ L s.heap m) (X : (Mine.kFrag w.params).In h₀) (N : News h₀ L s.heap [(tp, listOf #[.ref cp, .int 0 t] ep), (cp, listOf ws.toArray c), (L + 1 + 1 + 1, o3), (L + 1 + 1, o2), (L + 1, o1)]) (T : Top Mine.view (looseW Mine.view []) mean mg mb h₀)
    (hi : IntsAre ws ns) (hn0 : 0 < ns.length) (hn1 : ns.length ≤ 40) (hd1 : o1.data = .cell (some (.ref tp))) (hd2 : o2.data = .cell none) (hd3 : o3.data = .cell none) (l1 : @LT.lt Nat _ (L + 1 + 1 + 1) cp) (l2 : @LT.lt Nat _ cp tp)
    (next : ∀ dc od t' ep' o2' h' tk v0 v1 v2 v3 v4 v5 y0 y1 y2 y3 y4 y5, Fr h₀ L h' m → News h₀ L h' [(tp, listOf #[.ref cp, .int 6 t'] ep'), (cp, listOf ws.toArray c), (dc, od), (L + 1 + 1 + 1, o3), (L + 1 + 1, o2'), (L + 1, o1)] → o2'.data = .cell (some (.ref dc)) →
      od.IsDictOf (IK w) [(0, .int v0 y0), (1, .int v1 y1), (2, .int v2 y2), (3, .int v3 y3), (4, .int v4 y4), (5, .int v5 y5)] → (dc == sysModules) = false → @LT.lt Nat _ tp dc →
      0 ≤ v0 → v0 < 4 → 0 ≤ v1 → v1 < 4 → 0 ≤ v2 → v2 < 4 → 0 ≤ v3 → v3 < 4 → 0 ≤ v4 → v4 < 4 → 0 ≤ v5 → v5 < 4 →
      wpAny (model PySem.Challenge.rw_pb0187_01.row.prog w) (callerA.deeper (lawEnv L fa cd)) (execs rest (lawEnv L fa cd)) Q E { s with heap := h', toks := tk }) :
    wpAny (model PySem.Challenge.rw_pb0187_01.row.prog w) (callerA.deeper (lawEnv L fa cd)) (execs ((lawBody.drop 1).take 1 ++ rest) (lawEnv L fa cd)) Q E s := by
  revert X; k_fill; intro X
  show wpAny _ (callerA.deeper (envOfC (Str.ofString "law") (Scope.mk _ _ _ _ _) L fa (.ref cd))) (execs (_ :: rest) (envOfC (Str.ofString "law") (Scope.mk _ _ _ _ _) L fa (.ref cd))) _ _ _
  w_strict k_steps
  exact next _ _ _ _ _ _ _ _ _ _ _ _ _ _ _ _ _ _ _ (by assumption) (News.sub (by assumption) (by lcg_sub)) (by assumption) (by assumption) (by assumption) (by omega) (by assumption) (by assumption) (by assumption) (by assumption) (by assumption) (by assumption) (by assumption) (by assumption) (by assumption) (by assumption) (by assumption) (by assumption)
end
end Mine
end
section
open PySem PySem.W PyProof.Rows PySem.Calls PySem.Spec PyProof.Rows.LCg PyProof.Rows.LCt
namespace Mine
theorem resetL2 : True := by w_top off; trivial
theorem CompEnd.monoR {h₀ : Heap} {L : Addr} {m : Str → Option Value} {s₁ : Shared} {I C D : Addr} {oI oC oD : Obj} {S : List (Addr × Obj) → Prop} {r r' : Value → List (Addr × Obj) → Prop} {y : Value} {s₂ : Shared} (h : CompEnd h₀ L m s₁ I oI C oC D oD S r y s₂) (hr : ∀ y nw, r y nw → r' y nw) : CompEnd h₀ L m s₁ I oI C oC D oD S r' y s₂ := by
  obtain ⟨h', tk, nw, e, F, N, o, hS, q⟩ := h
  exact ⟨h', tk, nw, e, F, N, o, hS, hr _ _ q⟩
theorem rest_ind {prog : Program} {w : World} {A : Around} {h₀ : Heap} {L : Addr} {m : Str → Option Value} {env : Env} {ct elt : PySem.Expr} {x : Str} {scope : Scope} {cl : List (Str × Addr)} {s : Shared} {S : List (Addr × Obj) → Prop} {P : Nat → Value → Prop} {Fin : List Value → List (Addr × Obj) → Prop}
    (Inv : Nat → List Value → List (Addr × Obj) → Prop) (n : Nat)
    (step : ∀ i ys news, i < n → Inv i ys news → ∀ v I oI C oC D m₂ h tk (E' : Value → Shared → Prop), P i v → NsObj oC m₂ → m₂ x = some v → Fr h₀ L h m → News h₀ L h ((I, oI) :: (C, oC) :: (D, lst ys) :: news) → Off3 I C D news → ((@Ne Nat I C) ∧ (@Ne Nat I D) ∧ (@Ne Nat C D)) →
      wpAny (model prog w) A (isTrue ct (compEnvC scope cl C env) (eval ct (compEnvC scope cl C env))) (fun ok s' => if ok = true then
        wpAny (model prog w) A (eval elt (compEnvC scope cl C env)) (CompEnd h₀ L m { s with heap := h, toks := tk } I oI C oC D (lst ys) S (fun y news' => Inv (i + 1) (ys ++ [y]) news')) E' s'
        else CompEnd h₀ L m { s with heap := h, toks := tk } I oI C oC D (lst ys) S (fun _ news' => Inv (i + 1) ys news') Value.none s') E' { s with heap := h, toks := tk })
    (fin : ∀ ys news, Inv n ys news → Fin ys news) : ∀ k i ys news, i + k = n → Inv i ys news → CompRestT prog w A h₀ L m env ct elt x scope cl s S P Fin k i ys news := by
  intro k
  induction k with
  | zero => intro i ys news e hI; obtain rfl : i = n := e; exact CompRestT.zero (fin _ _ hI)
  | succ k ih =>
    intro i ys news e hI
    refine CompRestT.succ fun v I oI C oC D m₂ h tk E' a b c d f g j => ?_
    refine wpAny_mono (step i ys news (by omega) hI v I oI C oC D m₂ h tk E' a b c d f g j) (fun ok s' hq => ?_) fun _ _ x => x
    cases ok with
    | true =>
      simp only [if_true] at hq ⊢
      exact wpAny_mono hq (fun y s₂ hc => CompEnd.monoR hc fun y nw hI' => ih (i + 1) _ _ (by omega) hI') fun _ _ x => x
    | false =>
      simp only [Bool.false_eq_true, if_false] at hq ⊢
      exact CompEnd.monoR hq fun y nw hI' => ih (i + 1) _ _ (by omega) hI'
theorem ce0 {h₀ : Heap} {L I C D : Addr} {m : Str → Option Value} {s₁ : Shared} {oI oC oD : Obj} {S : List (Addr × Obj) → Prop} {rest : Value → List (Addr × Obj) → Prop} {y : Value} {h' : Heap} {tk : Nat} {tl : List (Addr × Obj)}
    (F : Fr h₀ L h' m) (N : News h₀ L h' ((I, oI) :: (C, oC) :: (D, oD) :: tl)) (off : LCg.Off3 I C D tl) (hS : S tl) (r : rest y tl) :
    LCg.CompEnd h₀ L m s₁ I oI C oC D oD S rest y { s₁ with heap := h', toks := tk } := LCg.CompEnd.intro F N tl (fun _ hp => hp) off hS r
/-- what the filtered comprehension has made so far -/
structure Sieve (w : World) (kvs : List (Int × Value)) (base : List (Addr × Obj)) (i : Nat) (ys : List Value) (news : List (Addr × Obj)) (acc : List (Int × Value)) : Prop where
  sub : ∀ p ∈ base, p ∈ news
  len : ys.length = acc.length
  pairs : ∀ (j : Nat) (kv : Int × Value), acc[j]? = some kv → ∃ t key ep, ys[j]? = some (.ref t) ∧ (t, ({ cls := .type "tuple", data := .seq #[key, kv.2] ep } : Obj)) ∈ news ∧ (IK w).is kv.1 key = true
  nodup : (acc.map (·.1)).Nodup
  keys : ∀ k ∈ acc.map (·.1), k < (i : Int)
  ok : KvOk acc
  size : acc.length ≤ i
theorem KvOk.snoc {acc : List (Int × Value)} {k c : Int} {t : Tok} (h : KvOk acc) (h1 : 1 ≤ c) (h3 : c ≤ 3) : KvOk (acc ++ [(k, .int c t)]) := by
  intro g v e
  unfold valueAt at e
  rw [List.find?_append] at e
  cases hf : acc.find? (fun kv => kv.1 = g) with
  | some q =>
    rw [hf] at e
    refine h g v ?_
    unfold valueAt
    rw [hf]
    exact e
  | none =>
    rw [hf] at e
    by_cases hk : k = g
    · simp [hk] at e
      exact ⟨c, t, e.symm, h1, h3⟩
    · simp [hk] at e
theorem Sieve.skip {w : World} {kvs : List (Int × Value)} {base news : List (Addr × Obj)} {i : Nat} {ys : List Value} {acc : List (Int × Value)} (h : Sieve w kvs base i ys news acc) : Sieve w kvs base (i + 1) ys news acc :=
  ⟨h.sub, h.len, h.pairs, h.nodup, fun k hk => by have := h.keys k hk; omega, h.ok, Nat.le_succ_of_le h.size⟩
theorem Sieve.take {w : World} {kvs : List (Int × Value)} {base news : List (Addr × Obj)} {i : Nat} {ys : List Value} {acc : List (Int × Value)} (h : Sieve w kvs base i ys news acc) {t : Addr} {k c : Int} {u v : Tok} {ep : Nat} (hk : k = (i : Int)) (h1 : 1 ≤ c) (h3 : c ≤ 3) :
    Sieve w kvs base (i + 1) (ys ++ [.ref t]) ((t, ({ cls := .type "tuple", data := .seq #[.int k u, .int c v] ep } : Obj)) :: news) (acc ++ [(k, .int c v)]) := by
  refine ⟨fun p hp => .tail _ (h.sub p hp), by simp [h.len], ?_, ?_, ?_, h.ok.snoc h1 h3, by simp; have := h.size; omega⟩
  · intro j kv e
    by_cases hj : j < acc.length
    · rw [List.getElem?_append_left hj] at e
      obtain ⟨t', key, ep', a, b, c'⟩ := h.pairs j kv e
      exact ⟨t', key, ep', by rw [List.getElem?_append_left (by rw [h.len]; exact hj)]; exact a, .tail _ b, c'⟩
    · rw [List.getElem?_append_right (by omega)] at e
      obtain rfl : j = acc.length := by
        by_cases hz : j - acc.length = 0
        · omega
        · obtain ⟨z, hz⟩ := Nat.exists_eq_succ_of_ne_zero hz
          rw [hz] at e; simp at e
      simp at e
      subst e
      exact ⟨t, _, _, by rw [← h.len]; simp, .head _, intKind_is _ _ _ _⟩
  · rw [List.map_append]
    refine List.nodup_append.mpr ⟨h.nodup, by simp, ?_⟩
    intro a ha b hb e
    simp at hb
    have := h.keys a ha
    omega
  · intro q hq
    rw [List.map_append] at hq
    rcases List.mem_append.mp hq with hq | hq
    · have := h.keys q hq; omega
    · simp at hq; omega
end Mine
end
section
open PySem PySem.W PyProof.Rows PySem.Calls PySem.Spec PyProof.Rows.LCg PyProof.Rows.LCt
namespace Mine
theorem resetL3 : True := by w_top off; trivial
theorem kv6 {v0 v1 v2 v3 v4 v5 : Int} {y0 y1 y2 y3 y4 y5 : Tok} (a0 : 0 ≤ v0) (b0 : v0 < 4) (a1 : 0 ≤ v1) (b1 : v1 < 4) (a2 : 0 ≤ v2) (b2 : v2 < 4) (a3 : 0 ≤ v3) (b3 : v3 < 4) (a4 : 0 ≤ v4) (b4 : v4 < 4) (a5 : 0 ≤ v5) (b5 : v5 < 4)
    {i : Nat} {k : Int} {x : Value} (e : ([(0, .int v0 y0), (1, .int v1 y1), (2, .int v2 y2), (3, .int v3 y3), (4, .int v4 y4), (5, .int v5 y5)] : List (Int × Value))[i]? = some (k, x)) :
    k = (i : Int) ∧ ∃ c t, x = .int c t ∧ 0 ≤ c ∧ c < 4 ∧ valueAt ([(0, .int v0 y0), (1, .int v1 y1), (2, .int v2 y2), (3, .int v3 y3), (4, .int v4 y4), (5, .int v5 y5)] : List (Int × Value)) k = some (.int c t) := by
  match i, e with
  | 0, e => cases e; exact ⟨rfl, _, _, rfl, a0, b0, rfl⟩
  | 1, e => cases e; exact ⟨rfl, _, _, rfl, a1, b1, rfl⟩
  | 2, e => cases e; exact ⟨rfl, _, _, rfl, a2, b2, rfl⟩
  | 3, e => cases e; exact ⟨rfl, _, _, rfl, a3, b3, rfl⟩
  | 4, e => cases e; exact ⟨rfl, _, _, rfl, a4, b4, rfl⟩
  | 5, e => cases e; exact ⟨rfl, _, _, rfl, a5, b5, rfl⟩
  | n + 6, e => simp at e
def Stop (p : Prop) : Prop := p
theorem Stop.out {p : Prop} (h : Stop p) : p := h
section
variable {w : World} {mean : ExcName → Option Value} {mg mb : Str → Option Value} {h₀ : Heap} {L fa cd : Addr} {m : Str → Option Value} {news : List (Addr × Obj)} {s : Shared} {Q : Flow → Shared → Prop} {E : Value → Shared → Prop}
local macro_rules | `(tactic| walk_at "subscriptTail") => `(tactic| (k_here; (with_reducible show wpAny _ _ (subscriptTail _ _ (Value.ref _) (Value.int _ _)) _ _ _); k_dflt (refine kda_item (knd := PySem.intKind _ _) (by k_asm) (by k_mem) (by k_asm) (intKind_is _ _ _ _) (by assumption) ?_)))
local macro_rules | `(tactic| walk_at "eval ListComp") => `(tactic| refine Stop.out ?_)
set_option maxRecDepth 100000 in
set_option maxHeartbeats 4000000 in
theorem chunkC {rest : List Stmt} {tp cp dc : Addr} {t : Tok} {ep c : Nat} {ws : List Value} {ns : List Int} {o1 o2 o3 od : Obj} {v0 v1 v2 v3 v4 v5 : Int} {y0 y1 y2 y3 y4 y5 : Tok}
    (K0 : Below callerA h₀ [] h₀) (F : Fr h₀ L s.heap m) (X : (Mine.kFrag w.params).In h₀) (N : News h₀ L s.heap [(tp, listOf #[.ref cp, .int 6 t] ep), (cp, listOf ws.toArray c), (dc, od), (L + 1 + 1 + 1, o3), (L + 1 + 1, o2), (L + 1, o1)]) (T : Top Mine.view (looseW Mine.view []) mean mg mb h₀)
    (hd2 : o2.data = .cell (some (.ref dc))) (l1 : @LT.lt Nat _ (L + 1 + 1 + 1) cp) (l2 : @LT.lt Nat _ cp tp) (l3 : @LT.lt Nat _ tp dc)
    (hod : od.IsDictOf (IK w) [(0, .int v0 y0), (1, .int v1 y1), (2, .int v2 y2), (3, .int v3 y3), (4, .int v4 y4), (5, .int v5 y5)]) (lod : (dc == sysModules) = false)
    (a0 : 0 ≤ v0) (b0 : v0 < 4) (a1 : 0 ≤ v1) (b1 : v1 < 4) (a2 : 0 ≤ v2) (b2 : v2 < 4) (a3 : 0 ≤ v3) (b3 : v3 < 4) (a4 : 0 ≤ v4) (b4 : v4 < 4) (a5 : 0 ≤ v5) (b5 : v5 < 4)
    (next : ∀ kn kvs rest' m' h' tk, Fr h₀ L h' m' → m' (Str.ofString "known") = some (.ref kn) → News h₀ L h' ((tp, listOf #[.ref cp, .int 6 t] ep) :: (L + 1 + 1 + 1, o3) :: (cp, listOf ws.toArray c) :: rest') →
      (∀ p ∈ rest', p.1 ≠ tp) → (∀ p ∈ rest', p.1 ≠ L + 1 + 1 + 1) → ClassAt w rest' kn kvs → KvOk kvs → (L + 1, o1) ∈ rest' →
      wpAny (model PySem.Challenge.rw_pb0187_01.row.prog w) (callerA.deeper (lawEnv L fa cd)) (execs rest (lawEnv L fa cd)) Q E { s with heap := h', toks := tk }) :
    wpAny (model PySem.Challenge.rw_pb0187_01.row.prog w) (callerA.deeper (lawEnv L fa cd)) (execs ((lawBody.drop 2).take 1 ++ rest) (lawEnv L fa cd)) Q E s := by
  revert X; k_fill; intro X
  show wpAny _ (callerA.deeper (envOfC (Str.ofString "law") (Scope.mk _ _ _ _ _) L fa (.ref cd))) (execs (_ :: rest) (envOfC (Str.ofString "law") (Scope.mk _ _ _ _ _) L fa (.ref cd))) _ _ _
  w_strict k_steps
  refine comp_keys (knd := IK w) (kvs := [(0, .int v0 y0), (1, .int v1 y1), (2, .int v2 y2), (3, .int v3 y3), (4, .int v4 y4), (5, .int v5 y5)]) (d := dc) (od := od) (news := [(tp, listOf #[.ref cp, .int 6 t] ep), (cp, listOf ws.toArray c), (dc, od), (L + 1 + 1 + 1, o3), (L + 1 + 1, o2), (L + 1, o1)]) (by rfl) (by decide) (by rfl) (by decide) (by rfl) ?hiter (by intro _; rfl) rfl (by assumption) (by assumption) lod (by k_mem) hod (by rw [sizeLine_eq]; show 6 ≤ 16777216; decide) ?R
  case hiter =>
    intro Q' hq
    k_steps
    exact hq
  case R =>
    intro g
    refine rest_ind (fun i ys nw => ∃ acc, Sieve w [] [(tp, listOf #[.ref cp, .int 6 t] ep), (cp, listOf ws.toArray c), (dc, od), (L + 1 + 1 + 1, o3), (L + 1 + 1, o2), (L + 1, o1)] i ys nw acc) 6 ?step ?fin 6 0 [] _ rfl ⟨[], fun _ h => h, rfl, fun j kv e => by simp at e, by simp, by simp, fun g v e => by simp [valueAt] at e, Nat.le_refl _⟩
    case step =>
      rintro i ys nw hi6 ⟨acc, hS⟩ v I oI C oC D m₂ h tk E' ⟨k, x, hkx, hkv⟩ hoC hx Fi Ni off hne
      obtain ⟨rfl, cc, tc, rfl, hc0, hc4, hval⟩ := kv6 a0 b0 a1 b1 a2 b2 a3 b3 a4 b4 a5 b5 hkx
      obtain ⟨tv, rfl⟩ := Value.isInt_shape hkv
      have hm1 : (dc, od) ∈ nw := hS.sub _ (by simp)
      have hm2 : (L + 1 + 1, o2) ∈ nw := hS.sub _ (by simp)
      clear F N
      k_steps
      · exact ce1 (by assumption) (by assumption) (by k_ne) (by k_ne) (by k_ne) off (.tail _ hm1) ⟨_, hS.take rfl (by omega) (by omega)⟩
      · exact ce0 (by assumption) (by assumption) off hm1 ⟨_, hS.skip⟩
    case fin =>
      rintro ys nw ⟨acc, hS⟩ D h' tk' F' N' o1'
      clear F N
      have hP : ∀ (j : Nat) (kv : Int × Value), acc[j]? = some kv → ∃ t key ep, ys[j]? = some (.ref t) ∧ (t, ({ cls := .type "tuple", data := .seq #[key, kv.2] ep } : Obj)) ∈ (D, lst ys) :: nw ∧ (IK w).is kv.1 key = true := fun j kv e => by
        obtain ⟨t, key, ep, a, b, c⟩ := hS.pairs j kv e
        exact ⟨t, key, ep, a, .tail _ b, c⟩
      have hbm : ∀ p ∈ [(tp, listOf #[.ref cp, .int 6 t] ep), (cp, listOf ws.toArray c), (L + 1 + 1 + 1, o3), (L + 1, o1)], p ∈ (D, lst ys) :: nw := by
        intro p hp
        refine .tail _ (hS.sub p ?_)
        simp only [List.mem_cons, List.not_mem_nil, or_false] at hp ⊢
        rcases hp with h | h | h | h <;> simp [h]
      refine wpAny_pure ?_
      k_steps
      refine call_dict_pairs (knd := IK w) (kvs := acc) rfl (by exact F') (by exact N') (.head _) hS.len hP hS.nodup (by rw [sizeLine_eq]; exact Nat.le_trans hS.size (by decide)) fun h'' tk'' ok FF NN hok hlt => ?_
      have hlk : (h'.objs.size == sysModules) = false := F'.notModules (modules_low T.nolimit)
      have hKv := hS.ok
      clear F' hP
      generalize h'.objs.size = kd at NN hlt hlk
      have N2 : News h₀ L h'' [(kd, ok), (tp, listOf #[.ref cp, .int 6 t] ep), (cp, listOf ws.toArray c), (L + 1 + 1 + 1, o3), (L + 1, o1)] := News.sub NN (by
        intro p hp
        rcases List.mem_cons.mp hp with rfl | hp
        · exact .head _
        · exact .tail _ (hbm p hp))
      have lk : @LT.lt Nat _ tp kd := hlt _ (hbm _ (.head _))
      clear NN hlt hbm N' o1' hS
      k_steps
      refine next _ _ [(_, instObj 242 _), (_, dictOf [ent w "classes" _ (.ref kd)] _), (kd, ok), (L + 1, o1)] _ _ _ (by assumption) rfl (News.sub (by assumption) (by lcg_sub)) (by k_all) (by k_all) ?_ hKv (by k_mem)
      exact .mk (by k_mem) (by k_mem) (by k_mem) hlk hok
end
end Mine
end
section
open PySem PySem.W PyProof.Rows PySem.Calls PySem.Spec Mine
local macro_rules | `(tactic| lcg_sub) => `(tactic| (intro p hp; (repeat (first | exact hp | refine List.mem_cons_of_mem _ ?_)); done))
local macro_rules | `(tactic| k_all) => `(tactic| assumption)
section
open PySem PySem.W PyProof.Rows PySem.Calls PySem.Spec PyProof.Rows.LCg PyProof.Rows.LCt
namespace Mine
theorem resetL4 : True := by w_top off; trivial
section
variable {w : World} {mean : ExcName → Option Value} {mg mb : Str → Option Value} {h₀ : Heap} {L fa cd : Addr} {m : Str → Option Value} {news : List (Addr × Obj)} {s : Shared} {Q : Flow → Shared → Prop} {E : Value → Shared → Prop}
set_option maxRecDepth 100000 in
set_option maxHeartbeats 4000000 in
theorem chunkD {rest : List Stmt} {tp cp kn : Addr} {t : Tok} {ep c : Nat} {ws : List Value} {o1 o3 : Obj} {kvs : List (Int × Value)} {tl : List (Addr × Obj)}
    (K0 : Below callerA h₀ [] h₀) (F : Fr h₀ L s.heap m) (X : (Mine.kFrag w.params).In h₀) (N : News h₀ L s.heap ((tp, listOf #[.ref cp, .int 6 t] ep) :: (L + 1 + 1 + 1, o3) :: (cp, listOf ws.toArray c) :: tl)) (T : Top Mine.view (looseW Mine.view []) mean mg mb h₀)
    (l1 : @LT.lt Nat _ (L + 1 + 1 + 1) cp) (l2 : @LT.lt Nat _ cp tp) (n1 : ∀ p ∈ tl, p.1 ≠ tp) (n2 : ∀ p ∈ tl, p.1 ≠ L + 1 + 1 + 1) (hkn : ClassAt w tl kn kvs) (hm : m (Str.ofString "known") = some (.ref kn))
    (next : ∀ gf m' tl' h' tk, Fr h₀ L h' m' → m' (Str.ofString "gdef") = some (.ref gf) → News h₀ L h' ((tp, listOf #[.ref cp, .int 6 t] ep) :: (L + 1 + 1 + 1, o3) :: (cp, listOf ws.toArray c) :: tl') →
      (∀ p ∈ tl', p.1 ≠ tp) → (∀ p ∈ tl', p.1 ≠ L + 1 + 1 + 1) → GdefAt w tl' gf kvs → (∀ p ∈ tl, p ∈ tl') →
      wpAny (model PySem.Challenge.rw_pb0187_01.row.prog w) (callerA.deeper (lawEnv L fa cd)) (execs rest (lawEnv L fa cd)) Q E { s with heap := h', toks := tk }) :
    wpAny (model PySem.Challenge.rw_pb0187_01.row.prog w) (callerA.deeper (lawEnv L fa cd)) (execs ((lawBody.drop 3).take 1 ++ rest) (lawEnv L fa cd)) Q E s := by
  revert X; k_fill; intro X
  show wpAny _ (callerA.deeper (envOfC (Str.ofString "law") (Scope.mk _ _ _ _ _) L fa (.ref cd))) (execs (_ :: rest) (envOfC (Str.ofString "law") (Scope.mk _ _ _ _ _) L fa (.ref cd))) _ _ _
  have ltp : @LT.lt Nat _ tp s.heap.objs.size := Heap.lt_size (N _ (.head _)).1
  have lt3 : @LT.lt Nat _ (L + 1 + 1 + 1) s.heap.objs.size := Heap.lt_size (N _ (.tail _ (.head _))).1
  w_strict k_steps
  have hsub : ∀ (a b c d e f g i j : Addr × Obj), ∀ p ∈ tl, p ∈ a :: b :: c :: d :: e :: f :: g :: i :: j :: tl := fun a b c d e f g i j p hp => by
    repeat (first | exact hp | refine List.mem_cons_of_mem _ ?_)
  refine next _ _ ((_, instObj 332 _) :: (_, dictOf [ent w "classes" _ _, ent w "attach" _ _, ent w "sets" _ _, ent w "points" _ _, ent w "carets" _ _] _) :: (_, listOf #[.ref _] _) :: (_, instObj 284 _) :: (_, dictOf [ent w "glyphs" _ _] _) :: (_, ({ cls := .type "tuple", data := .seq #[.int 1 _, .int 3 _, .int 5 _] _ } : Obj)) :: (_, instObj 242 _) :: (_, dictOf [ent w "classes" _ _] _) :: (s.heap.objs.size, _) :: tl) _ _ (by assumption) rfl (News.sub (by assumption) (by lcg_sub)) (by k_all) (by k_all) ?_ (hsub _ _ _ _ _ _ _ _ _)
  exact .mk (by k_mem) (by k_mem) (hkn.mono (hsub _ _ _ _ _ _ _ _ _)) (ClassAt.mk (by k_mem) (by k_mem) (by k_mem) (by assumption) (by assumption)) (by k_mem) (by k_mem) (by k_mem) (by k_mem)
end
end Mine
end
section
open PySem PySem.W PyProof.Rows PySem.Calls PySem.Spec PyProof.Rows.LCg PyProof.Rows.LCt
namespace Mine
theorem resetL5 : True := by w_top off; trivial
theorem ce3 {h₀ : Heap} {L I C D : Addr} {m : Str → Option Value} {s₁ : Shared} {oI oC oD : Obj} {S : List (Addr × Obj) → Prop} {rest : Value → List (Addr × Obj) → Prop} {y : Value} {h' : Heap} {tk : Nat} {q r u : Addr × Obj} {tl : List (Addr × Obj)}
    (F : Fr h₀ L h' m) (N : News h₀ L h' (q :: r :: u :: (I, oI) :: (C, oC) :: (D, oD) :: tl)) (hI : @Ne Nat q.1 I) (hC : @Ne Nat q.1 C) (hD : @Ne Nat q.1 D) (hI2 : @Ne Nat r.1 I) (hC2 : @Ne Nat r.1 C) (hD2 : @Ne Nat r.1 D) (hI3 : @Ne Nat u.1 I) (hC3 : @Ne Nat u.1 C) (hD3 : @Ne Nat u.1 D)
    (off : LCg.Off3 I C D tl) (hS : S (q :: r :: u :: tl)) (k : rest y (q :: r :: u :: tl)) :
    LCg.CompEnd h₀ L m s₁ I oI C oC D oD S rest y { s₁ with heap := h', toks := tk } :=
  LCg.CompEnd.intro F N (q :: r :: u :: tl) (fun p hp => by
    simp only [List.mem_cons] at hp ⊢
    rcases hp with h | h | h | h | h | h | h <;> simp [h]) ⟨⟨hI, hC, hD⟩, ⟨hI2, hC2, hD2⟩, ⟨hI3, hC3, hD3⟩, off⟩ hS k
theorem perm10 {h₀ h : Heap} {L : Addr} {a1 a2 a3 a4 a5 a6 a7 a8 a9 a10 x y : Addr × Obj} {tl : List (Addr × Obj)} (N : News h₀ L h (a1 :: a2 :: a3 :: a4 :: a5 :: a6 :: a7 :: a8 :: a9 :: a10 :: x :: y :: tl)) :
    News h₀ L h (x :: y :: a1 :: a2 :: a3 :: a4 :: a5 :: a6 :: a7 :: a8 :: a9 :: a10 :: tl) := fun p hp => N p (by
  simp only [List.mem_cons] at hp ⊢
  rcases hp with h | h | h | h | h | h | h | h | h | h | h | h | h <;> simp [h])
section
variable {w : World} {mean : ExcName → Option Value} {mg mb : Str → Option Value} {h₀ : Heap} {L fa cd : Addr} {m : Str → Option Value} {news : List (Addr × Obj)} {s : Shared} {Q : Flow → Shared → Prop} {E : Value → Shared → Prop}
local macro_rules | `(tactic| k_ne) => `(tactic| (refine neN ?_; (try dsimp only); first | assumption | exact Ne.symm (by assumption) | exact ne3D (by assumption) (by k_mem) | exact Ne.symm (ne3D (by assumption) (by k_mem)) | exact ne3I (by assumption) (by k_mem) | exact Ne.symm (ne3I (by assumption) (by k_mem)) | exact ne3C (by assumption) (by k_mem) | exact Ne.symm (ne3C (by assumption) (by k_mem)) | omega))
local macro_rules | `(tactic| walk_at "CompSrc") => `(tactic| (k_here; k_dflt (refine LCg.CompSrc.range (by rfl) (by k_asm) (by k_asm) (by assumption) (by first | decide | rfl) (by first | rfl | decide) (by first | size_fits | exact Nat.le_of_ble_eq_true rfl) ?_; intro g'; lcg_lit)))
local macro_rules | `(tactic| walk_at "CompRest") => `(tactic| (with_unfolding_all first | (refine LCg.CompRest.succ ?_; intro v' I' oI' C' oC' D' m' h' tk' E' hv' hC' hx' F' N' off' ne'; (obtain ⟨t9', hv9'⟩ := hv'; subst hv9'); (have off2' := off'; simp only [LCg.Off3, and_true] at off2')) | refine LCg.CompRest.zero ?_))
local macro_rules | `(tactic| walk_at "CompEnd") => `(tactic| first | (refine ce0 (by assumption) (by assumption) (by assumption) trivial ?_) | (refine ce3 (by assumption) (by assumption) (by k_ne) (by k_ne) (by k_ne) (by k_ne) (by k_ne) (by k_ne) (by k_ne) (by k_ne) (by k_ne) (by assumption) trivial ?_))
local macro_rules | `(tactic| walk_at "eval ListComp") => `(tactic| (k_here; k_dflt (refine LCg.ListComp_U (F₀ := by k_asm) (by with_unfolding_all rfl) (by decide) (by rfl) (by decide) (by rfl) ?_); k_dflt lcg_toSrc))
set_option maxRecDepth 100000 in
set_option maxHeartbeats 4000000 in
theorem chunkE {rest : List Stmt} {tp cp : Addr} {t : Tok} {ep c : Nat} {ws : List Value} {ns : List Int} {o1 o3 : Obj} {tl : List (Addr × Obj)}
    (K0 : Below callerA h₀ [] h₀) (F : Fr h₀ L s.heap m) (X : (Mine.kFrag w.params).In h₀) (N : News h₀ L s.heap ((tp, listOf #[.ref cp, .int 6 t] ep) :: (L + 1 + 1 + 1, o3) :: (cp, listOf ws.toArray c) :: tl)) (T : Top Mine.view (looseW Mine.view []) mean mg mb h₀)
    (hi : IntsAre ws ns) (hn0 : 0 < ns.length) (hn1 : ns.length ≤ 40)
    (l1 : @LT.lt Nat _ (L + 1 + 1 + 1) cp) (l2 : @LT.lt Nat _ cp tp) (n1 : ∀ p ∈ tl, p.1 ≠ tp) (n2 : ∀ p ∈ tl, p.1 ≠ L + 1 + 1 + 1) (hc1 : (L + 1, o1) ∈ tl) (hd1 : o1.data = .cell (some (.ref tp))) (hd3 : o3.data = .cell none)
    (next : ∀ fl f0 f1 f2 u0 u1 u2 c' o3' t' ep' tl' h' tk, Fr h₀ L h' m → News h₀ L h' ((tp, listOf #[.ref cp, .int 12 t'] ep') :: (cp, listOf ws.toArray c) :: tl') → (∀ p ∈ tl', p.1 ≠ tp) → (fl, listOf #[.int f0 u0, .int f1 u1, .int f2 u2] c') ∈ tl' → (L + 1 + 1 + 1, o3') ∈ tl' → o3'.data = .cell (some (.ref fl)) → (∀ p ∈ tl, p ∈ tl') →
      wpAny (model PySem.Challenge.rw_pb0187_01.row.prog w) (callerA.deeper (lawEnv L fa cd)) (execs rest (lawEnv L fa cd)) Q E { s with heap := h', toks := tk }) :
    wpAny (model PySem.Challenge.rw_pb0187_01.row.prog w) (callerA.deeper (lawEnv L fa cd)) (execs ((lawBody.drop 4).take 1 ++ rest) (lawEnv L fa cd)) Q E s := by
  revert X; k_fill; intro X
  show wpAny _ (callerA.deeper (envOfC (Str.ofString "law") (Scope.mk _ _ _ _ _) L fa (.ref cd))) (execs (_ :: rest) (envOfC (Str.ofString "law") (Scope.mk _ _ _ _ _) L fa (.ref cd))) _ _ _
  w_strict k_steps
  refine next _ _ _ _ _ _ _ _ _ _ _ ((_, listOf #[.int _ _, .int _ _, .int _ _] _) :: (L + 1 + 1 + 1, _) :: tl) _ _ (by assumption) (News.sub (by assumption) (by lcg_sub)) (by k_all) (.head _) (.tail _ (.head _)) (by assumption) (fun p hp => .tail _ (.tail _ hp))
local macro_rules | `(tactic| walk_at "subscriptTail") => `(tactic| (k_here; (with_reducible show wpAny _ _ (subscriptTail _ _ (Value.ref _) (Value.int _ _)) _ _ _); (with_unfolding_all (refine' my_item ?k0 ?k1 ?k2 ?k3 ?k4 ?_ ?k6; (case k0 => k_asm); (case k1 => k_mem); (case k2 => first | assumption | decide); (case k3 => first | assumption | decide | omega); (case k4 => first | assumption | exact (rfl : _ = some (Value.ref _)) | exact (rfl : _ = some (Value.int _ _))); (case k6 => with_unfolding_all rfl); k_whole))))
local macro_rules | `(tactic| walk_at "call ref") => `(tactic| (k_here; (with_reducible show wpAny _ _ (call (Value.ref 43) _) _ _ _); k_dflt (refine mkLookup_ok (by k_asm) (by k_asm) (by k_asm) (by k_asm) (by k_asm) rfl (by k_room) (by k_units) ?_); intro x' dx' ox' h' tk' F' N' l1 l2 hLk'; (try k_lt l1); (try k_lt2 l2)))
set_option maxRecDepth 100000 in
set_option maxHeartbeats 4000000 in
theorem chunkE2 {rest : List Stmt} {tp cp fl : Addr} {t : Tok} {ep c c' : Nat} {ws : List Value} {o1 o3 : Obj} {tl : List (Addr × Obj)} {f0 f1 f2 : Int} {u0 u1 u2 : Tok}
    (K0 : Below callerA h₀ [] h₀) (F : Fr h₀ L s.heap m) (X : (Mine.kFrag w.params).In h₀) (N : News h₀ L s.heap ((tp, listOf #[.ref cp, .int 12 t] ep) :: (cp, listOf ws.toArray c') :: tl)) (T : Top Mine.view (looseW Mine.view []) mean mg mb h₀)
    (l2 : @LT.lt Nat _ cp tp) (n1 : ∀ p ∈ tl, p.1 ≠ tp) (hfl : (fl, listOf #[.int f0 u0, .int f1 u1, .int f2 u2] c) ∈ tl) (hc3 : (L + 1 + 1 + 1, o3) ∈ tl) (hd3 : o3.data = .cell (some (.ref fl))) {gf : Addr} (hgd : m (Str.ofString "gdef") = some (.ref gf))
    (next : ∀ lks l0 l1 l2 ms0 ms1 ms2 c m' tl' h' tk, Fr h₀ L h' m' → m' (Str.ofString "lookups") = some (.ref lks) → m' (Str.ofString "gdef") = some (.ref gf) → News h₀ L h' ((tp, listOf #[.ref cp, .int 12 t] ep) :: (cp, listOf ws.toArray c') :: tl') → (∀ p ∈ tl', p.1 ≠ tp) →
      (lks, listOf #[.ref l0, .ref l1, .ref l2] c) ∈ tl' → LookAt w tl' l0 f0 ms0 → LookAt w tl' l1 f1 ms1 → LookAt w tl' l2 f2 ms2 → 0 ≤ ms0 → ms0 ≤ 1 → 0 ≤ ms1 → ms1 ≤ 1 → 0 ≤ ms2 → ms2 ≤ 1 → (∀ p ∈ tl, p ∈ tl') →
      wpAny (model PySem.Challenge.rw_pb0187_01.row.prog w) (callerA.deeper (lawEnv L fa cd)) (execs rest (lawEnv L fa cd)) Q E { s with heap := h', toks := tk }) :
    wpAny (model PySem.Challenge.rw_pb0187_01.row.prog w) (callerA.deeper (lawEnv L fa cd)) (execs ((lawBody.drop 5).take 1 ++ rest) (lawEnv L fa cd)) Q E s := by
  revert X; k_fill; intro X
  show wpAny _ (callerA.deeper (envOfC (Str.ofString "law") (Scope.mk _ _ _ _ _) L fa (.ref cd))) (execs (_ :: rest) (envOfC (Str.ofString "law") (Scope.mk _ _ _ _ _) L fa (.ref cd))) _ _ _
  w_strict k_steps
  refine next _ _ _ _ _ _ _ _ _ _ _ _ (by assumption) (by exact rfl) (by exact hgd) (perm10 (by assumption)) ?_ (.head _) (LookAt.mono (by assumption) (by lcg_sub)) (LookAt.mono (by assumption) (by lcg_sub)) (LookAt.mono (by assumption) (by lcg_sub)) (by decide) (by decide) (by decide) (by decide) (by decide) (by decide) (by lcg_sub)
  k_all
end
end Mine
end
section
open PySem PySem.W PyProof.Rows PySem.Calls PySem.Spec PyProof.Rows.LCg PyProof.Rows.LCt
namespace Mine
theorem resetL6 : True := by w_top off; trivial
theorem perm5 {h₀ h : Heap} {L : Addr} {a1 a2 x y z : Addr × Obj} {tl : List (Addr × Obj)} (N : News h₀ L h (a1 :: a2 :: x :: y :: z :: tl)) : News h₀ L h (x :: y :: z :: a1 :: a2 :: tl) := fun p hp => N p (by
  simp only [List.mem_cons] at hp ⊢
  rcases hp with h | h | h | h | h | h <;> simp [h])
def forBody (i : Nat) : List Stmt := match lawBody.drop i with
  | .For _ _ body _ _ :: _ => body
  | _ => []
section
variable {w : World} {mean : ExcName → Option Value} {mg mb : Str → Option Value} {h₀ : Heap} {L fa cd : Addr} {m : Str → Option Value} {news : List (Addr × Obj)} {s : Shared} {Q : Flow → Shared → Prop} {E : Value → Shared → Prop}
local macro_rules | `(tactic| walk_at "call ref") => `(tactic| (k_here; (with_reducible show wpAny _ _ (call (Value.ref 142) _) _ _ _); k_dflt (refine mkInfo_ok (by k_asm) (by k_asm) (by k_asm) (by k_asm) (by k_asm) rfl (by k_room) (by k_units) ?_); intro x' dx' ox' h' tk' F' N' l1 l2 hId'; (have l3 := l1); (have l4 := l2); (try k_lt l1); (try k_lt2 l2)))
local macro_rules | `(tactic| walk_at "setAttr ref") => `(tactic| (k_here; (with_reducible show wpAny _ _ (setAttr (Value.ref _) (Str.ofString "mask") _) _ _ _); k_dflt (refine' set_mask ?k1 ?k2 ?k3 ?k4 ?k5 ?k6 ?h1 ?h2 ?h3 ?h4 ?_; (case k1 => k_asm); (case k2 => k_asm); (case k3 => k_asm); (case k4 => k_mem); (case k5 => k_updF); (case k6 => k_asm); (case h1 => k_is); (case h2 => k_is); (case h3 => k_is); (case h4 => k_is)); intro h' ox' tk' F' N' hId'; (try dsimp only at N')))
set_option maxRecDepth 100000 in
set_option maxHeartbeats 4000000 in
theorem rowTurn {tp cp rw : Addr} {at' : Int} {t tk₀ : Tok} {k : Int} {ep c c' : Nat} {ws its : List Value} {ns : List Int} {tl : List (Addr × Obj)} {o1 : Obj} {m₁ : Str → Option Value}
    (K0 : Below callerA h₀ [] h₀) (F : Fr h₀ L s.heap (fun y => if y = Str.ofString "k" then some (.int k tk₀) else m₁ y)) (X : (Mine.kFrag w.params).In h₀) (N : News h₀ L s.heap ((tp, listOf #[.ref cp, .int at' t] ep) :: (rw, listOf its.toArray c) :: (cp, listOf ws.toArray c') :: tl)) (T : Top Mine.view (looseW Mine.view []) mean mg mb h₀)
    (hi : IntsAre ws ns) (hn0 : 0 < ns.length) (hn1 : ns.length ≤ 40) (l2 : @LT.lt Nat _ cp tp) (n1 : ∀ p ∈ tl, p.1 ≠ tp) (n2 : ∀ p ∈ tl, p.1 ≠ rw) (l3 : @LT.lt Nat _ tp rw) (hc1 : (L + 1, o1) ∈ tl) (hd1 : o1.data = .cell (some (.ref tp))) (ha0 : 0 ≤ at') (ha1 : at' ≤ 50) (hits : its.length ≤ 100)
    (hrw : m₁ (Str.ofString "row") = some (.ref rw))
    (hret : ∀ inf dinf oi g mk ta' ep' m' h' tk, Fr h₀ L h' m' → (∀ y, y ≠ Str.ofString "k" → y ≠ Str.ofString "info" → m' y = m₁ y) →
      News h₀ L h' ((tp, listOf #[.ref cp, .int (at' + 1 + 1) ta'] ep') :: (rw, listOf (its ++ [Value.ref inf]).toArray (c + 1)) :: (cp, listOf ws.toArray c') :: (inf, instObj 142 dinf) :: (dinf, oi) :: tl) → InfoD w oi g mk → 0 ≤ g → g < 6 →
      (∀ p ∈ tl, p.1 < dinf) → dinf < inf → @LT.lt Nat _ tp dinf → @LT.lt Nat _ rw dinf → Q .next { s with heap := h', toks := tk }) :
    wpAny (model PySem.Challenge.rw_pb0187_01.row.prog w) (callerA.deeper (lawEnv L fa cd)) (execs (forBody 7) (lawEnv L fa cd)) Q E s := by
  revert X; k_fill; intro X
  show wpAny _ (callerA.deeper (envOfC (Str.ofString "law") (Scope.mk _ _ _ _ _) L fa (.ref cd))) (execs (_ :: _) (envOfC (Str.ofString "law") (Scope.mk _ _ _ _ _) L fa (.ref cd))) _ _ _
  w_strict k_steps
  rename (∀ p ∈ (_ : List (Addr × Obj)), p.1 < (_ : Addr)) => hlt
  rename News _ _ _ _ => NN
  rw [List.push_toArray] at NN
  refine hret _ _ _ _ _ _ _ _ _ _ (by assumption) (fun y h1 h2 => by simp [h1, h2]) (perm5 NN) (by assumption) (by assumption) (by assumption) (fun p hp => hlt p (.tail _ (.tail _ (.tail _ hp)))) (by assumption) (hlt _ (.head _)) (hlt _ (.tail _ (.head _)))
end
/-- the Infos made so far, the newest first -/
inductive RowD (w : World) (tp rw : Addr) (tl : List (Addr × Obj)) : List Value → List (Addr × Obj) → Prop
  | nil : RowD w tp rw tl [] []
  | snoc {its : List Value} {D : List (Addr × Obj)} {inf dinf : Addr} {oi : Obj} {g mk : Int} : RowD w tp rw tl its D → InfoD w oi g mk → 0 ≤ g → g < 6 → (∀ p ∈ D ++ tl, p.1 < dinf) → dinf < inf → @LT.lt Nat _ tp dinf → @LT.lt Nat _ rw dinf → RowD w tp rw tl (its ++ [Value.ref inf]) ((inf, instObj 142 dinf) :: (dinf, oi) :: D)
theorem RowD.above {w : World} {tp rw : Addr} {tl : List (Addr × Obj)} {its : List Value} {D : List (Addr × Obj)} (h : RowD w tp rw tl its D) : ∀ p ∈ D, @LT.lt Nat _ tp p.1 ∧ @LT.lt Nat _ rw p.1 := by
  induction h with
  | nil => intro p hp; cases hp
  | snoc _ _ _ _ _ hlt h1 h2 ih =>
    intro p hp
    rcases List.mem_cons.mp hp with rfl | hp
    · exact ⟨Nat.lt_trans h1 hlt, Nat.lt_trans h2 hlt⟩
    · rcases List.mem_cons.mp hp with rfl | hp
      · exact ⟨h1, h2⟩
      · exact ih p hp
def RowJ (w : World) (tp cp rw : Addr) (ws : List Value) (c : Nat) (tl : List (Addr × Obj)) (gf lks : Addr) (i : Nat) (m : Str → Option Value) (nx : List (Addr × Obj)) : Prop :=
  ∃ ta ep' its c' D, nx = (tp, listOf #[.ref cp, .int (12 + 2 * (i : Int)) ta] ep') :: (rw, listOf its.toArray c') :: (cp, listOf ws.toArray c) :: (D ++ tl) ∧ its.length = i ∧ RowD w tp rw tl its D ∧ m (Str.ofString "row") = some (.ref rw) ∧ m (Str.ofString "gdef") = some (.ref gf) ∧ m (Str.ofString "lookups") = some (.ref lks)
section
variable {w : World} {mean : ExcName → Option Value} {mg mb : Str → Option Value} {h₀ : Heap} {L fa cd : Addr} {m : Str → Option Value} {news : List (Addr × Obj)} {s : Shared} {Q : Flow → Shared → Prop} {E : Value → Shared → Prop}
theorem rowLoop {tp cp rw r : Addr} {t : Tok} {ep c : Nat} {ws : List Value} {ns : List Int} {tl : List (Addr × Obj)} {o1 : Obj} {gf lks : Addr} {r1 r2 r3 : Tok}
    (K0 : Below callerA h₀ [] h₀) (F : Fr h₀ L s.heap m) (X : (Mine.kFrag w.params).In h₀) (N : News h₀ L s.heap ((rw, listOf #[] 0) :: (tp, listOf #[.ref cp, .int 12 t] ep) :: (cp, listOf ws.toArray c) :: tl)) (T : Top Mine.view (looseW Mine.view []) mean mg mb h₀)
    (hi : IntsAre ws ns) (hn0 : 0 < ns.length) (hn1 : ns.length ≤ 40) (l2 : @LT.lt Nat _ cp tp) (n1 : ∀ p ∈ tl, p.1 ≠ tp) (n2 : ∀ p ∈ tl, p.1 ≠ rw) (l3 : @LT.lt Nat _ tp rw) (hc1 : (L + 1, o1) ∈ tl) (hd1 : o1.data = .cell (some (.ref tp)))
    (hrw : m (Str.ofString "row") = some (.ref rw)) (hgd : m (Str.ofString "gdef") = some (.ref gf)) (hlk : m (Str.ofString "lookups") = some (.ref lks)) (hr : IsRange s.heap r 0 4 1 r1 r2 r3)
    (done : ∀ m' nx h tk, RowJ w tp cp rw ws c tl gf lks 4 m' nx → Fr h₀ L h m' → News h₀ L h nx → Q .next { s with heap := h, toks := tk }) :
    wpAny (model PySem.Challenge.rw_pb0187_01.row.prog w) (callerA.deeper (lawEnv L fa cd)) (pyIter (.ref r)) (fun it s₂ => LoopAtV PySem.Challenge.rw_pb0187_01.row.prog w (callerA.deeper (lawEnv L fa cd)) h₀ (lawEnv L fa cd) (Str.ofString "k") (forBody 7) Q E it s₂) E s := by
  refine tbr_invG (n := 4) (m₀ := m) (news := (tp, listOf #[.ref cp, .int 12 t] ep) :: (rw, listOf #[] 0) :: (cp, listOf ws.toArray c) :: tl) (RowJ w tp cp rw ws c tl gf lks) (by rfl) hr (by decide) (by decide) F (News.sub N ?_) ⟨t, ep, [], 0, [], rfl, rfl, .nil, hrw, hgd, hlk⟩ ?_ done
  · intro p hp
    simp only [List.mem_cons] at hp ⊢
    rcases hp with h | h | h | h <;> simp [h]
  · rintro i k tk₀ m₁ nx h tk own hki hoff ⟨ta, ep', its, c', D, rfl, hlen, hD, hrw₁, hgd₁, hlk₁⟩ F₁ N₁
    have hi4 : i < 4 := by
      have := List.getElem?_eq_some_iff.mp hki
      obtain ⟨hlt, _⟩ := this
      simpa [rangeKs] using hlt
    have hab := hD.above
    refine rowTurn (tl := (D ++ tl) ++ own) (ns := ns) (o1 := o1) K0 F₁ X N₁ T hi hn0 hn1 l2 ?_ ?_ l3 ?_ hd1 (by omega) (by omega) (by omega) hrw₁ ?_
    · intro p hp
      rcases List.mem_append.mp hp with hp | hp
      · rcases List.mem_append.mp hp with hp | hp
        · exact Nat.ne_of_gt (hab p hp).1
        · exact n1 p hp
      · exact hoff p hp _ (.head _)
    · intro p hp
      rcases List.mem_append.mp hp with hp | hp
      · rcases List.mem_append.mp hp with hp | hp
        · exact Nat.ne_of_gt (hab p hp).2
        · exact n2 p hp
      · exact hoff p hp _ (.tail _ (.head _))
    · exact List.mem_append.mpr (.inl (List.mem_append.mpr (.inr hc1)))
    · intro inf dinf oi g mk ta' ep'' m' h' tk' F' hm' N' hI hg0 hg6 hlt hdi h1 h2
      refine ⟨h', tk', m', _, (tp, listOf #[.ref cp, .int (12 + 2 * (i : Int) + 1 + 1) ta'] ep'') :: (rw, listOf (its ++ [Value.ref inf]).toArray (c' + 1)) :: (cp, listOf ws.toArray c) :: (((inf, instObj 142 dinf) :: (dinf, oi) :: D) ++ tl), rfl, F', N', ?_, ?_, ?_, ?_⟩
      · intro p hp
        simp only [List.mem_cons, List.cons_append, List.mem_append] at hp ⊢
        rcases hp with h | h | h | h | h | h | h <;> simp [h]
      · intro p hp
        simp only [List.mem_cons, List.mem_append]
        simp [hp]
      · intro p hp q hq
        have hpd : p.1 < dinf := hlt p (List.mem_append.mpr (.inr hp))
        rcases List.mem_cons.mp hq with rfl | hq
        · exact hoff p hp (tp, listOf #[.ref cp, .int (12 + 2 * (i : Int)) ta] ep') (.head _)
        rcases List.mem_cons.mp hq with rfl | hq
        · exact hoff p hp (rw, listOf its.toArray c') (.tail _ (.head _))
        rcases List.mem_cons.mp hq with rfl | hq
        · exact hoff p hp _ (.tail _ (.tail _ (.head _)))
        rcases List.mem_cons.mp hq with rfl | hq
        · exact Nat.ne_of_lt (Nat.lt_trans hpd hdi)
        rcases List.mem_cons.mp hq with rfl | hq
        · exact Nat.ne_of_lt hpd
        · exact hoff p hp _ (.tail _ (.tail _ (.tail _ hq)))
      · have e : (12 + 2 * ((i + 1 : Nat) : Int)) = 12 + 2 * (i : Int) + 1 + 1 := by omega
        refine ⟨ta', ep'', its ++ [Value.ref inf], c' + 1, (inf, instObj 142 dinf) :: (dinf, oi) :: D, by rw [e], by simp [hlen], .snoc hD hI hg0 hg6 (fun p hp => hlt p (List.mem_append.mpr (.inl hp))) hdi h1 h2, ?_, ?_, ?_⟩
        · rw [hm' _ (by decide) (by decide)]; exact hrw₁
        · rw [hm' _ (by decide) (by decide)]; exact hgd₁
        · rw [hm' _ (by decide) (by decide)]; exact hlk₁
local macro_rules | `(tactic| walk_at "pyIter ref") => `(tactic| refine Stop.out ?_)
set_option maxRecDepth 100000 in
set_option maxHeartbeats 4000000 in
theorem chunkF {rest : List Stmt} {tp cp : Addr} {t : Tok} {ep c : Nat} {ws : List Value} {ns : List Int} {tl : List (Addr × Obj)} {o1 : Obj} {gf lks : Addr}
    (K0 : Below callerA h₀ [] h₀) (F : Fr h₀ L s.heap m) (X : (Mine.kFrag w.params).In h₀) (N : News h₀ L s.heap ((tp, listOf #[.ref cp, .int 12 t] ep) :: (cp, listOf ws.toArray c) :: tl)) (T : Top Mine.view (looseW Mine.view []) mean mg mb h₀)
    (hi : IntsAre ws ns) (hn0 : 0 < ns.length) (hn1 : ns.length ≤ 40) (l2 : @LT.lt Nat _ cp tp) (n1 : ∀ p ∈ tl, p.1 ≠ tp) (hc1 : (L + 1, o1) ∈ tl) (hd1 : o1.data = .cell (some (.ref tp)))
    (hgd : m (Str.ofString "gdef") = some (.ref gf)) (hlk : m (Str.ofString "lookups") = some (.ref lks))
    (hE : PassesOwn (model PySem.Challenge.rw_pb0187_01.row.prog w) (callerA.deeper (lawEnv L fa cd)) (lawEnv L fa cd) E)
    (next : ∀ rw m' nx h' tk, @LT.lt Nat _ tp rw → (∀ p ∈ tl, p.1 < rw) → RowJ w tp cp rw ws c tl gf lks 4 m' nx → Fr h₀ L h' m' → News h₀ L h' nx →
      wpAny (model PySem.Challenge.rw_pb0187_01.row.prog w) (callerA.deeper (lawEnv L fa cd)) (execs rest (lawEnv L fa cd)) Q E { s with heap := h', toks := tk }) :
    wpAny (model PySem.Challenge.rw_pb0187_01.row.prog w) (callerA.deeper (lawEnv L fa cd)) (execs ((lawBody.drop 6).take 2 ++ rest) (lawEnv L fa cd)) Q E s := by
  revert X; k_fill; intro X
  show wpAny _ (callerA.deeper (envOfC (Str.ofString "law") (Scope.mk _ _ _ _ _) L fa (.ref cd))) (execs (_ :: _ :: rest) (envOfC (Str.ofString "law") (Scope.mk _ _ _ _ _) L fa (.ref cd))) _ _ _
  have hlts : ∀ p ∈ tl, p.1 < s.heap.objs.size := fun p hp => Heap.lt_size (N p (.tail _ (.tail _ hp))).1
  w_strict k_steps
  have n2 : ∀ p ∈ tl, p.1 ≠ _ := fun p hp => Nat.ne_of_lt (ktn_ltOf (by tbn_find) p hp)
  exact rowLoop K0 (by assumption) X (by assumption) T hi hn0 hn1 l2 n1 n2 (by omega) hc1 hd1 (by rfl) (by assumption) (by assumption) (by assumption) (fun m' nx h tk hJ F' N' => next _ _ _ _ _ (by omega) (fun p hp => ktn_ltOf (by tbn_find) p hp) hJ F' N')
end
end Mine
end
section
open PySem PySem.W PyProof.Rows PySem.Calls PySem.Spec PyProof.Rows.LCg PyProof.Rows.LCt
namespace Mine
theorem resetL7 : True := by w_top off; trivial
theorem InfoD.at {w : World} {news : List (Addr × Obj)} {inf d : Addr} {o : Obj} {g mk : Int} (h : InfoD w o g mk) (h1 : (inf, instObj 142 d) ∈ news) (h2 : (d, o) ∈ news) : InfoAt w news inf g mk := by
  obtain ⟨q1, q2, q3, q4, tg, tm, v1, v3, es, n, _, rfl⟩ := h
  exact .mk h1 h2
theorem rowJ4 {w : World} {tp cp rw : Addr} {ws : List Value} {c : Nat} {tl nx : List (Addr × Obj)} {gf lks : Addr} {m : Str → Option Value} (h : RowJ w tp cp rw ws c tl gf lks 4 m nx) (n1 : ∀ p ∈ tl, p.1 ≠ tp) (hrt : @LT.lt Nat _ tp rw) :
    ∃ ta ep' c' i0 i1 i2 i3 d0 o0 g0 k0 g1 k1 g2 k2 g3 k3 tl', (∀ p ∈ (tp, listOf #[.ref cp, .int 20 ta] ep') :: (d0, o0) :: (cp, listOf ws.toArray c) :: tl', p ∈ nx) ∧ (∀ p ∈ tl', p.1 ≠ tp) ∧ (∀ p ∈ tl', p.1 ≠ d0) ∧ @LT.lt Nat _ tp d0 ∧
      (rw, listOf #[.ref i0, .ref i1, .ref i2, .ref i3] c') ∈ tl' ∧ (i0, instObj 142 d0) ∈ tl' ∧ InfoD w o0 g0 k0 ∧ InfoAt w tl' i1 g1 k1 ∧ InfoAt w tl' i2 g2 k2 ∧ InfoAt w tl' i3 g3 k3 ∧
      0 ≤ g0 ∧ g0 < 6 ∧ 0 ≤ g1 ∧ g1 < 6 ∧ 0 ≤ g2 ∧ g2 < 6 ∧ 0 ≤ g3 ∧ g3 < 6 ∧ (∀ p ∈ tl, p ∈ tl') ∧ m (Str.ofString "row") = some (.ref rw) ∧ m (Str.ofString "gdef") = some (.ref gf) ∧ m (Str.ofString "lookups") = some (.ref lks) := by
  obtain ⟨ta, ep', its, c', D, rfl, hlen, hD, hm1, hm2, hm3⟩ := h
  cases hD with
  | nil => simp at hlen
  | @snoc its D i3 d3 o3 g3 k3 hD hI3 a3 b3 hl3 hd3 ht3 hr3 =>
  cases hD with
  | nil => simp at hlen
  | @snoc its D i2 d2 o2 g2 k2 hD hI2 a2 b2 hl2 hd2 ht2 hr2 =>
  cases hD with
  | nil => simp at hlen
  | @snoc its D i1 d1 o1 g1 k1 hD hI1 a1 b1 hl1 hd1 ht1 hr1 =>
  cases hD with
  | nil => simp at hlen
  | @snoc its D i0 d0 o0 g0 k0 hD hI0 a0 b0 hl0 hd0 ht0 hr0 =>
  cases hD with
  | snoc _ _ _ _ _ _ _ _ => simp at hlen
  | nil =>
  have e01 : @LT.lt Nat _ i0 d1 := hl1 _ (.head _)
  have e12 : @LT.lt Nat _ i1 d2 := hl2 _ (.head _)
  have e23 : @LT.lt Nat _ i2 d3 := hl3 _ (.head _)
  have f0 : @LT.lt Nat _ d0 i0 := hd0
  have f1 : @LT.lt Nat _ d1 i1 := hd1
  have f2 : @LT.lt Nat _ d2 i2 := hd2
  have f3 : @LT.lt Nat _ d3 i3 := hd3
  have e0t : ∀ p ∈ tl, p.1 < d0 := fun p hp => hl0 p hp
  refine ⟨ta, ep', c', i0, i1, i2, i3, d0, o0, g0, k0, g1, k1, g2, k2, g3, k3, (rw, listOf #[.ref i0, .ref i1, .ref i2, .ref i3] c') :: (i3, instObj 142 d3) :: (d3, o3) :: (i2, instObj 142 d2) :: (d2, o2) :: (i1, instObj 142 d1) :: (d1, o1) :: (i0, instObj 142 d0) :: tl, ?_, ?_, ?_, ht0, .head _, ?_, hI0, ?_, ?_, ?_, a0, b0, a1, b1, a2, b2, a3, b3, ?_, hm1, hm2, hm3⟩
  · intro p hp
    simp only [List.mem_cons, List.cons_append, List.nil_append] at hp ⊢
    rcases hp with h | h | h | h | h | h | h | h | h | h | h | h <;> simp [h]
  · intro p hp
    refine neN ?_
    simp only [List.mem_cons] at hp
    rcases hp with h | h | h | h | h | h | h | h | h
    · subst h; exact Nat.ne_of_gt hrt
    · subst h; exact Nat.ne_of_gt (Nat.lt_trans ht3 hd3)
    · subst h; exact Nat.ne_of_gt ht3
    · subst h; exact Nat.ne_of_gt (Nat.lt_trans ht2 hd2)
    · subst h; exact Nat.ne_of_gt ht2
    · subst h; exact Nat.ne_of_gt (Nat.lt_trans ht1 hd1)
    · subst h; exact Nat.ne_of_gt ht1
    · subst h; exact Nat.ne_of_gt (Nat.lt_trans ht0 hd0)
    · exact n1 p h
  · intro p hp
    refine neN ?_
    simp only [List.mem_cons] at hp
    rcases hp with h | h | h | h | h | h | h | h | h
    · subst h; exact Nat.ne_of_lt hr0
    · subst h; dsimp only; omega
    · subst h; dsimp only; omega
    · subst h; dsimp only; omega
    · subst h; dsimp only; omega
    · subst h; dsimp only; omega
    · subst h; dsimp only; omega
    · subst h; dsimp only; omega
    · exact Nat.ne_of_lt (e0t p h)
  · repeat (first | exact List.mem_cons_self | refine List.mem_cons_of_mem _ ?_)
  · exact hI1.at (by repeat (first | exact List.mem_cons_self | refine List.mem_cons_of_mem _ ?_)) (by repeat (first | exact List.mem_cons_self | refine List.mem_cons_of_mem _ ?_))
  · exact hI2.at (by repeat (first | exact List.mem_cons_self | refine List.mem_cons_of_mem _ ?_)) (by repeat (first | exact List.mem_cons_self | refine List.mem_cons_of_mem _ ?_))
  · exact hI3.at (by repeat (first | exact List.mem_cons_self | refine List.mem_cons_of_mem _ ?_)) (by repeat (first | exact List.mem_cons_self | refine List.mem_cons_of_mem _ ?_))
  · intro p hp
    simp [hp]
end Mine
end
section
open PySem PySem.W PyProof.Rows PySem.Calls PySem.Spec PyProof.Rows.LCg PyProof.Rows.LCt
namespace Mine
theorem resetL8 : True := by w_top off; trivial
def LoopM (m : Str → Option Value) (rw gf lks sc hr : Addr) (mask num dep : Int) : Prop :=
  m (Str.ofString "row") = some (.ref rw) ∧ m (Str.ofString "gdef") = some (.ref gf) ∧ m (Str.ofString "lookups") = some (.ref lks) ∧ m (Str.ofString "scene") = some (.ref sc) ∧ m (Str.ofString "here") = some (.ref hr) ∧
  (∃ t, m (Str.ofString "mask") = some (.int mask t)) ∧ (∃ t, m (Str.ofString "number") = some (.int num t)) ∧ (∃ t, m (Str.ofString "depth") = some (.int dep t))
theorem perm8 {h₀ h : Heap} {L : Addr} {st a b c d tp d0 cp : Addr × Obj} {tl : List (Addr × Obj)} (N : News h₀ L h (st :: a :: b :: c :: d :: tp :: d0 :: cp :: tl)) : News h₀ L h (tp :: st :: cp :: d0 :: a :: b :: c :: d :: tl) := fun p hp => N p (by
  simp only [List.mem_cons] at hp ⊢
  rcases hp with h | h | h | h | h | h | h | h | h <;> simp [h])
section
variable {w : World} {mean : ExcName → Option Value} {mg mb : Str → Option Value} {h₀ : Heap} {L fa cd : Addr} {m : Str → Option Value} {news : List (Addr × Obj)} {s : Shared} {Q : Flow → Shared → Prop} {E : Value → Shared → Prop}
local macro_rules | `(tactic| walk_at "subscriptTail") => `(tactic| (k_here; (with_reducible show wpAny _ _ (subscriptTail _ _ (Value.ref _) (Value.int _ _)) _ _ _); (with_unfolding_all (refine' my_item ?k0 ?k1 ?k2 ?k3 ?k4 ?_ ?k6; (case k0 => k_asm); (case k1 => k_mem); (case k2 => first | assumption | decide); (case k3 => first | assumption | decide | omega); (case k4 => first | assumption | exact (rfl : _ = some (Value.ref _)) | exact (rfl : _ = some (Value.int _ _))); (case k6 => with_unfolding_all rfl); k_whole))))
local macro_rules | `(tactic| walk_at "call ref") => `(tactic| (k_here; (with_reducible show wpAny _ _ (call (Value.ref 195) _) _ _ _); k_dflt (refine mkBuffer_ok (by k_asm) (by k_asm) (by k_asm) (by k_asm) (by k_asm) rfl (by k_room) (by k_units) ?_); intro x' dx' ox' h' tk' F' N' l1 l2 hBf'; (have l3 := l1); (have l4 := l2); (try k_lt l1); (try k_lt2 l2)))
local macro_rules | `(tactic| walk_at "call ref") => `(tactic| (k_here; (with_reducible show wpAny _ _ (call (Value.ref 65) _) _ _ _); k_dflt (refine mkScene_ok (by k_asm) (by k_asm) (by k_asm) (by k_asm) (by k_asm) rfl (by k_room) (by k_units) ?_); intro st' x' dx' ox' t' ep' h' tk' F' N' l1 l2 l3 hSc'; (have l4 := l1); (try k_lt l1); (try k_lt2 l2)))
set_option maxRecDepth 100000 in
set_option maxHeartbeats 4000000 in
theorem chunkG {rest : List Stmt} {tp cp d0 lks gf rw l0 l1 l2 : Addr} {t : Tok} {ep c c' : Nat} {ws : List Value} {ns : List Int} {tl : List (Addr × Obj)} {o1 o0 : Obj}
    (K0 : Below callerA h₀ [] h₀) (F : Fr h₀ L s.heap m) (X : (Mine.kFrag w.params).In h₀) (N : News h₀ L s.heap ((tp, listOf #[.ref cp, .int 20 t] ep) :: (d0, o0) :: (cp, listOf ws.toArray c) :: tl)) (T : Top Mine.view (looseW Mine.view []) mean mg mb h₀)
    (hi : IntsAre ws ns) (hn0 : 0 < ns.length) (hn1 : ns.length ≤ 40) (q2 : @LT.lt Nat _ cp tp) (q3 : @LT.lt Nat _ tp d0) (n1 : ∀ p ∈ tl, p.1 ≠ tp) (n3 : ∀ p ∈ tl, p.1 ≠ d0) (hc1 : (L + 1, o1) ∈ tl) (hd1 : o1.data = .cell (some (.ref tp)))
    (hlks : (lks, listOf #[.ref l0, .ref l1, .ref l2] c') ∈ tl)
    (hgd : m (Str.ofString "gdef") = some (.ref gf)) (hlk : m (Str.ofString "lookups") = some (.ref lks)) (hrw : m (Str.ofString "row") = some (.ref rw))
    (next : ∀ st sc bf mask ta ep' ts es m' tlr h' tk, Fr h₀ L h' m' → LoopM m' rw gf lks sc sc mask 0 0 → News h₀ L h' ((tp, listOf #[.ref cp, .int 21 ta] ep') :: (st, listOf #[.int 0 ts] es) :: (cp, listOf ws.toArray c) :: (d0, o0) :: tlr) →
      SceneAt w tlr sc bf gf lks l0 st mask 0 → BufAt w tlr bf rw → (∀ p ∈ tl, p ∈ tlr) → (∀ p ∈ tlr, p.1 ≠ tp) → (∀ p ∈ tlr, p.1 ≠ st) → (∀ p ∈ tlr, p.1 ≠ d0) → @LT.lt Nat _ d0 st →
      wpAny (model PySem.Challenge.rw_pb0187_01.row.prog w) (callerA.deeper (lawEnv L fa cd)) (execs rest (lawEnv L fa cd)) Q E { s with heap := h', toks := tk }) :
    wpAny (model PySem.Challenge.rw_pb0187_01.row.prog w) (callerA.deeper (lawEnv L fa cd)) (execs ((lawBody.drop 8).take 5 ++ rest) (lawEnv L fa cd)) Q E s := by
  revert X; k_fill; intro X
  show wpAny _ (callerA.deeper (envOfC (Str.ofString "law") (Scope.mk _ _ _ _ _) L fa (.ref cd))) (execs (_ :: _ :: _ :: _ :: _ :: rest) (envOfC (Str.ofString "law") (Scope.mk _ _ _ _ _) L fa (.ref cd))) _ _ _
  w_strict k_steps
  rename (∀ p ∈ ((_, _) :: (_, _) :: (_, _) :: (_, _) :: (_, _) :: _ : List (Addr × Obj)), p.1 < (_ : Addr)) => hlt
  have n2 : ∀ p ∈ tl, @LT.lt Nat _ p.1 _ := fun p hp => hlt p (.tail _ (.tail _ (.tail _ (.tail _ (.tail _ hp)))))
  refine next _ _ _ _ _ _ _ _ _ _ _ _ (by assumption) ?_ (perm8 (by assumption)) (SceneAt.mono (by assumption) (by lcg_sub)) (BufAt.mono (by assumption) (by lcg_sub)) (by lcg_sub) (by k_all) ?_ (by k_all) (by omega)
  · exact ⟨hrw, hgd, hlk, rfl, rfl, ⟨_, rfl⟩, ⟨_, rfl⟩, ⟨_, rfl⟩⟩
  · intro p hp
    refine neN ?_
    simp only [List.mem_cons] at hp
    rcases hp with h | h | h | h | h
    · subst h; dsimp only; omega
    · subst h; dsimp only; omega
    · subst h; dsimp only; omega
    · subst h; dsimp only; omega
    · have := n2 p h
      omega
end
end Mine
end
section
open PySem PySem.W PyProof.Rows PySem.Calls PySem.Spec PyProof.Rows.LCg PyProof.Rows.LCt
namespace Mine
theorem resetL9 : True := by w_top off; trivial
structure Dat where
  kvs : List (Int × Value)
  rw : Addr
  gf : Addr
  lks : Addr
  bf : Addr
  l0 : Addr
  l1 : Addr
  l2 : Addr
  i0 : Addr
  i1 : Addr
  i2 : Addr
  i3 : Addr
  f0 : Int
  f1 : Int
  f2 : Int
  s0 : Int
  s1 : Int
  s2 : Int
  g0 : Int
  g1 : Int
  g2 : Int
  g3 : Int
  k0 : Int
  k1 : Int
  k2 : Int
  k3 : Int
  cl : Nat
  cr : Nat
def Dat.lk (d : Dat) (n : Int) : Addr := if n = 0 then d.l0 else if n = 1 then d.l1 else d.l2
def Dat.fl (d : Dat) (n : Int) : Int := if n = 0 then d.f0 else if n = 1 then d.f1 else d.f2
def Dat.ms (d : Dat) (n : Int) : Int := if n = 0 then d.s0 else if n = 1 then d.s1 else d.s2
structure Facts (w : World) (tl : List (Addr × Obj)) (d : Dat) : Prop where
  buf : BufAt w tl d.bf d.rw
  row : (d.rw, listOf #[.ref d.i0, .ref d.i1, .ref d.i2, .ref d.i3] d.cr) ∈ tl
  i0 : InfoAt w tl d.i0 d.g0 d.k0
  i1 : InfoAt w tl d.i1 d.g1 d.k1
  i2 : InfoAt w tl d.i2 d.g2 d.k2
  i3 : InfoAt w tl d.i3 d.g3 d.k3
  gdef : GdefAt w tl d.gf d.kvs
  kv : KvOk d.kvs
  lks : (d.lks, listOf #[.ref d.l0, .ref d.l1, .ref d.l2] d.cl) ∈ tl
  look : ∀ n, 0 ≤ n → n ≤ 2 → LookAt w tl (d.lk n) (d.fl n) (d.ms n)
  ms0 : ∀ n, 0 ≤ n → n ≤ 2 → 0 ≤ d.ms n
  ms1 : ∀ n, 0 ≤ n → n ≤ 2 → d.ms n ≤ 1
  a0 : 0 ≤ d.g0
  b0 : d.g0 ≤ 5
  a1 : 0 ≤ d.g1
  b1 : d.g1 ≤ 5
  a2 : 0 ≤ d.g2
  b2 : d.g2 ≤ 5
  a3 : 0 ≤ d.g3
  b3 : d.g3 ≤ 5
theorem Facts.mono {w : World} {tl tl' : List (Addr × Obj)} {d : Dat} (h : Facts w tl d) (hs : ∀ p ∈ tl, p ∈ tl') : Facts w tl' d :=
  { h with buf := h.buf.mono hs, row := hs _ h.row, i0 := h.i0.mono hs, i1 := h.i1.mono hs, i2 := h.i2.mono hs, i3 := h.i3.mono hs, gdef := h.gdef.mono hs, lks := hs _ h.lks, look := fun n a b => (h.look n a b).mono hs }
theorem Dat.item (d : Dat) {n : Int} (h0 : 0 ≤ n) (h2 : n ≤ 2) : (#[Value.ref d.l0, .ref d.l1, .ref d.l2])[n.toNat]? = some (Value.ref (d.lk n)) := by
  obtain rfl | rfl | rfl : n = 0 ∨ n = 1 ∨ n = 2 := by omega
  · rfl
  · rfl
  · rfl
/-- two lists of four pairs of bools, the same bools -/
theorem pairs_ne {prog : Program} {w : World} {A : Around} {E : Value → Shared → Prop} {s : Shared} {h₀ : Heap} {L a b t0 t1 t2 t3 u0 u1 u2 u3 : Addr} {news : List (Addr × Obj)} {c c' : Nat} {p0 p1 p2 p3 q0 q1 q2 q3 : Bool} {Q : Value → Shared → Prop}
    (N : News h₀ L s.heap news) (ha : (a, listOf #[.ref t0, .ref t1, .ref t2, .ref t3] c) ∈ news) (hb : (b, listOf #[.ref u0, .ref u1, .ref u2, .ref u3] c') ∈ news)
    (x0 : (t0, tupOf #[.bool p0, .bool q0]) ∈ news) (x1 : (t1, tupOf #[.bool p1, .bool q1]) ∈ news) (x2 : (t2, tupOf #[.bool p2, .bool q2]) ∈ news) (x3 : (t3, tupOf #[.bool p3, .bool q3]) ∈ news)
    (y0 : (u0, tupOf #[.bool p0, .bool q0]) ∈ news) (y1 : (u1, tupOf #[.bool p1, .bool q1]) ∈ news) (y2 : (u2, tupOf #[.bool p2, .bool q2]) ∈ news) (y3 : (u3, tupOf #[.bool p3, .bool q3]) ∈ news)
    (hu : A.units + 64 < cLine) (h : Q (.bool false) s) : wpAny (model prog w) A (compareOp .NotEq (.ref a) (.ref b)) Q E s := by
  have rt : ∀ (t : Addr) (p q : Bool), (t, tupOf #[.bool p, .bool q]) ∈ news → Reads s.heap (.ref t) (.tuple [.bool p, .bool q]) _ := fun t p q hm => reads_tuple_at (N.get hm) rfl rfl (.cons (.bool _) (.cons (.bool _) .nil))
  have ra := reads_list_at (N.get ha) rfl rfl (.cons (rt _ _ _ x0) (.cons (rt _ _ _ x1) (.cons (rt _ _ _ x2) (.cons (rt _ _ _ x3) .nil))))
  have rb := reads_list_at (N.get hb) rfl rfl (.cons (rt _ _ _ y0) (.cons (rt _ _ _ y1) (.cons (rt _ _ _ y2) (.cons (rt _ _ _ y3) .nil))))
  refine ne_dataH ra rb (by rfl) (by rfl) hu ?_
  simpa [PyData.eqv, PyData.eqvAll] using h
theorem pairs_eq {prog : Program} {w : World} {A : Around} {E : Value → Shared → Prop} {s : Shared} {h₀ : Heap} {L a b t0 t1 t2 t3 u0 u1 u2 u3 : Addr} {news : List (Addr × Obj)} {c c' : Nat} {p0 p1 p2 p3 q0 q1 q2 q3 : Bool} {Q : Value → Shared → Prop}
    (N : News h₀ L s.heap news) (ha : (a, listOf #[.ref t0, .ref t1, .ref t2, .ref t3] c) ∈ news) (hb : (b, listOf #[.ref u0, .ref u1, .ref u2, .ref u3] c') ∈ news)
    (x0 : (t0, tupOf #[.bool p0, .bool q0]) ∈ news) (x1 : (t1, tupOf #[.bool p1, .bool q1]) ∈ news) (x2 : (t2, tupOf #[.bool p2, .bool q2]) ∈ news) (x3 : (t3, tupOf #[.bool p3, .bool q3]) ∈ news)
    (y0 : (u0, tupOf #[.bool p0, .bool q0]) ∈ news) (y1 : (u1, tupOf #[.bool p1, .bool q1]) ∈ news) (y2 : (u2, tupOf #[.bool p2, .bool q2]) ∈ news) (y3 : (u3, tupOf #[.bool p3, .bool q3]) ∈ news)
    (hu : A.units + 64 < cLine) (h : Q (.bool true) s) : wpAny (model prog w) A (compareOp .Eq (.ref a) (.ref b)) Q E s := by
  have rt : ∀ (t : Addr) (p q : Bool), (t, tupOf #[.bool p, .bool q]) ∈ news → Reads s.heap (.ref t) (.tuple [.bool p, .bool q]) _ := fun t p q hm => reads_tuple_at (N.get hm) rfl rfl (.cons (.bool _) (.cons (.bool _) .nil))
  have ra := reads_list_at (N.get ha) rfl rfl (.cons (rt _ _ _ x0) (.cons (rt _ _ _ x1) (.cons (rt _ _ _ x2) (.cons (rt _ _ _ x3) .nil))))
  have rb := reads_list_at (N.get hb) rfl rfl (.cons (rt _ _ _ y0) (.cons (rt _ _ _ y1) (.cons (rt _ _ _ y2) (.cons (rt _ _ _ y3) .nil))))
  refine eq_dataH ra rb (by rfl) (by rfl) hu ?_
  simpa [PyData.eqv, PyData.eqvAll] using h
end Mine
end
section
open PySem PySem.W PyProof.Rows PySem.Calls PySem.Spec Mine
local macro_rules | `(tactic| walk_at "subscriptTail") => `(tactic| (k_here; (with_reducible show wpAny _ _ (subscriptTail _ _ (Value.ref _) (Value.int _ _)) _ _ _); (with_unfolding_all (refine' my_item ?k0 ?k1 ?k2 ?k3 ?k4 ?_ ?k6; (case k0 => k_asm); (case k1 => k_mem); (case k2 => first | assumption | decide); (case k3 => first | assumption | decide | omega); (case k4 => first | assumption | exact (rfl : _ = some (Value.ref _)) | exact (rfl : _ = some (Value.int _ _))); (case k6 => with_unfolding_all rfl); k_whole))))
local macro_rules | `(tactic| walk_at "call ref") => `(tactic| (k_here; (with_reducible show wpAny _ _ (call (Value.ref 65) _) _ _ _); k_dflt (refine mkScene_ok (by k_asm) (by k_asm) (by k_asm) (by k_asm) (by k_asm) rfl (by k_room) (by k_units) ?_); intro st' x' dx' ox' t' ep' h' tk' F' N' l1 l2 l3 hSc'; (try k_lt l1); (try k_lt2 l2)))
local macro_rules | `(tactic| walk_at "call ref") => `(tactic| (k_here; (with_reducible show wpAny _ _ (call (Value.ref 195) _) _ _ _); k_dflt (refine mkBuffer_ok (by k_asm) (by k_asm) (by k_asm) (by k_asm) (by k_asm) rfl (by k_room) (by k_units) ?_); intro x' dx' ox' h' tk' F' N' l1 l2 hBf'; (try k_lt l1); (try k_lt2 l2)))
local macro_rules | `(tactic| walk_at "call ref") => `(tactic| (k_here; (with_reducible show wpAny _ _ (call (Value.ref 348) _) _ _ _); k_dflt (refine seen_ok (by k_asm) (by k_asm) (by k_asm) (by k_asm) (by k_asm) rfl (by k_room) (by k_units) (by kbo_bools) (by kbo_bools) (by k_mem) (by kbo_bools) (by kbo_bools) (by kbo_bools) (by kbo_bools) (by kbo_bools) (by kbo_bools) (by k_asm) (by kbo_bools) (by kbo_bools) (by k_asm) (by k_asm) (by k_asm) (by k_asm) (by k_asm) (by k_asm) (by k_asm) (by k_asm) ?_); intro D' t0' t1' t2' t3' p0' p1' p2' p3' q0' q1' q2' q3' h' tk' e0 e1 e2 e3 e4 e5 e6 e7 F' N'; (subst e0 e1 e2 e3 e4 e5 e6 e7)))
section
open PySem PySem.W PyProof.Rows PySem.Calls PySem.Spec PyProof.Rows.LCg PyProof.Rows.LCt
namespace Mine
theorem resetL10 : True := by w_top off; trivial
theorem ints1_ne {prog : Program} {w : World} {A : Around} {E : Value → Shared → Prop} {s : Shared} {h₀ : Heap} {L a b : Addr} {news : List (Addr × Obj)} {c c' : Nat} {x y : Int} {t u : Tok} {Q : Value → Shared → Prop}
    (N : News h₀ L s.heap news) (ha : (a, listOf #[.int x t] c) ∈ news) (hb : (b, listOf #[.int y u] c') ∈ news) (e : x = y) (hu : A.units + 64 < cLine) (h : Q (.bool false) s) : wpAny (model prog w) A (compareOp .NotEq (.ref a) (.ref b)) Q E s := by
  subst e
  refine ke_ne_ints (xs := [.int x t]) (ys := [.int x u]) (ns := [x]) (ms := [x]) (News.isList N ha) (News.isList N hb) (.cons x t .nil) (.cons x u .nil) hu ?_
  simpa using h
section
variable {w : World} {mean : ExcName → Option Value} {mg mb : Str → Option Value} {h₀ : Heap} {L fa cd : Addr} {m : Str → Option Value} {news : List (Addr × Obj)} {s : Shared} {Q : Flow → Shared → Prop} {E : Value → Shared → Prop}
local macro_rules | `(tactic| walk_at "compareOp NotEq ref ref") => `(tactic| refine Stop.out ?_)
set_option maxRecDepth 100000 in
set_option maxHeartbeats 1500000 in
theorem turnB {rest : List Stmt} {tp cp st lks gf rw bf sc hr lkn i0 i1 i2 i3 : Addr} {at' num dep mask fn msn g0 g1 g2 g3 k0 k1 k2 k3 : Int} {t ts tm tn td : Tok} {ep es c cl cr : Nat} {ws : List Value} {its : Array Value} {tl : List (Addr × Obj)} {kvs : List (Int × Value)}
    (K0 : Below callerA h₀ [] h₀) (F : Fr h₀ L s.heap m) (X : (Mine.kFrag w.params).In h₀) (N : News h₀ L s.heap ((tp, listOf #[.ref cp, .int at' t] ep) :: (st, listOf #[.int dep ts] es) :: (cp, listOf ws.toArray c) :: tl)) (T : Top Mine.view (looseW Mine.view []) mean mg mb h₀)
    (m1 : m (Str.ofString "row") = some (.ref rw)) (m2 : m (Str.ofString "gdef") = some (.ref gf)) (m3 : m (Str.ofString "lookups") = some (.ref lks)) (m4 : m (Str.ofString "scene") = some (.ref sc)) (m5 : m (Str.ofString "here") = some (.ref hr)) (m6 : m (Str.ofString "mask") = some (.int mask tm)) (m7 : m (Str.ofString "number") = some (.int num tn)) (m8 : m (Str.ofString "depth") = some (.int dep td))
    (hS : SceneAt w tl hr bf gf lks lkn st mask dep) {lk0 : Addr} (hS0 : SceneAt w tl sc bf gf lks lk0 st mask 0) (hB : BufAt w tl bf rw) (hR : (rw, listOf #[.ref i0, .ref i1, .ref i2, .ref i3] cr) ∈ tl) (hI0 : InfoAt w tl i0 g0 k0) (hI1 : InfoAt w tl i1 g1 k1) (hI2 : InfoAt w tl i2 g2 k2) (hI3 : InfoAt w tl i3 g3 k3)
    (hG : GdefAt w tl gf kvs) (hKv : KvOk kvs) (hL : LookAt w tl lkn fn msn) (hks : (lks, listOf its cl) ∈ tl) (hn0 : 0 ≤ num) (hn2 : num < 100) (hit : its[num.toNat]? = some (.ref lkn)) (hm0 : 0 ≤ msn) (hm1 : msn ≤ 1)
    (a0 : 0 ≤ g0) (b0 : g0 ≤ 5) (a1 : 0 ≤ g1) (b1 : g1 ≤ 5) (a2 : 0 ≤ g2) (b2 : g2 ≤ 5) (a3 : 0 ≤ g3) (b3 : g3 ≤ 5)
    (next : ∀ m' h' tk, Fr h₀ L h' m' → (∀ y, y ≠ Str.ofString "alone" → m' y = m y) → News h₀ L h' ((tp, listOf #[.ref cp, .int at' t] ep) :: (st, listOf #[.int dep ts] es) :: (cp, listOf ws.toArray c) :: tl) →
      wpAny (model PySem.Challenge.rw_pb0187_01.row.prog w) (callerA.deeper (lawEnv L fa cd)) (execs rest (lawEnv L fa cd)) Q E { s with heap := h', toks := tk }) :
    wpAny (model PySem.Challenge.rw_pb0187_01.row.prog w) (callerA.deeper (lawEnv L fa cd)) (execs (((forBody 13).drop 3).take 2 ++ rest) (lawEnv L fa cd)) Q E s := by
  revert X; k_fill; intro X
  show wpAny _ (callerA.deeper (envOfC (Str.ofString "law") (Scope.mk _ _ _ _ _) L fa (.ref cd))) (execs (_ :: _ :: rest) (envOfC (Str.ofString "law") (Scope.mk _ _ _ _ _) L fa (.ref cd))) _ _ _
  have hS0' := hS0
  have hS' := hS
  cases hS with | @mk dsc tm' td' z1 z2 z3 z4 z5 z6 z7 nd s1 s2 =>
  cases hS0 with | @mk dsc0 tm0 td0 y1 y2 y3 y4 y5 y6 y7 nd0 s01 s02 =>
  w_strict k_steps
  unfold Stop
  k_dflt (refine pairs_ne (by k_asm) (by k_mem) (by k_mem) (by k_mem) (by k_mem) (by k_mem) (by k_mem) (by k_mem) (by k_mem) (by k_mem) (by k_mem) (by ke_room) ?_)
  w_strict k_steps
  · exact absurd rfl (by assumption)
  unfold Stop
  k_dflt (refine ints1_ne (by k_asm) (by k_mem) (by k_mem) rfl (by ke_room) ?_)
  w_strict k_steps
  exact next _ _ _ (by assumption) (fun y hy => by simp [hy]) (News.sub (by assumption) (by lcg_sub))
end
end Mine
end
section
open PySem PySem.W PyProof.Rows PySem.Calls PySem.Spec PyProof.Rows.LCg PyProof.Rows.LCt
namespace Mine
theorem resetL11 : True := by w_top off; trivial
theorem SceneAt.two {w : World} {x dx bf gf lks lk st : Addr} {ox : Obj} {mask dep : Int} (h : SceneAt w [(x, instObj 65 dx), (dx, ox)] x bf gf lks lk st mask dep) (hlt : @LT.lt Nat _ dx x) :
    ∃ (tm td k1 k2 k3 k4 k5 k6 k7 : Tok) (nd : Nat), ox = dictOf [ent w "buffer" k1 (.ref bf), ent w "gdef" k2 (.ref gf), ent w "lookups" k3 (.ref lks), ent w "lookup" k4 (.ref lk), ent w "mask" k5 (.int mask tm), ent w "depth" k6 (.int dep td), ent w "steps" k7 (.ref st)] nd := by
  cases h with | @mk dsc tm' td' z1 z2 z3 z4 z5 z6 z7 nd s1 s2 =>
  have e1 : dsc = dx := by
    rcases List.mem_cons.mp s1 with h | h
    · have := congrArg (fun p : Addr × Obj => p.2.dict) h
      exact Option.some.inj this
    · have := congrArg Prod.fst (List.mem_singleton.mp h)
      exact absurd this (Nat.ne_of_gt hlt)
  subst e1
  rcases List.mem_cons.mp s2 with h | h
  · have := congrArg Prod.fst h
    exact absurd this (Nat.ne_of_lt hlt)
  · exact ⟨tm', td', z1, z2, z3, z4, z5, z6, z7, nd, (congrArg Prod.snd (List.mem_singleton.mp h)).symm⟩
section
variable {w : World} {mean : ExcName → Option Value} {mg mb : Str → Option Value} {dp un : Nat} {gd : Option (List Code)} {cn : Str} {cs : Scope} {a : Addr} {ccd : Value} {cl : List (Str × Addr)} {outer : List Env} {A₀ : Around} {base h₀ : Heap} {L : Addr} {m : Str → Option Value}
    {news : List (Addr × Obj)} {s : Shared} {Q E : Value → Shared → Prop}
theorem nested_any {sc bf gf lks lk st : Addr} {mask dep n : Int} {tn : Tok} {its : Array Value} {c : Nat} {lkF : Int → Addr} (hit : ∀ n : Int, 0 ≤ n → n ≤ 2 → its[n.toNat]? = some (Value.ref (lkF n)))
    (B : Below A₀ base outer h₀) (F : Fr h₀ L s.heap m) (X : (Mine.kFrag w.params).In h₀) (N : News h₀ L s.heap news) (T : Top Mine.view (looseW Mine.view []) mean mg mb h₀) (hk : cs.kind = .function)
    (hd : dp + 6 < recursionLimit) (hu : un + 48 < cLine) (hS : SceneAt w news sc bf gf lks lk st mask dep) (hl : (lks, listOf its c) ∈ news) (hz : its.size = 3)
    (hin : 0 ≤ n → n ≤ 2 → ∀ x dx ox h' tk', Fr h₀ L h' m → News h₀ L h' ((x, instObj 65 dx) :: (dx, ox) :: news) → (∀ p ∈ news, p.1 < dx) → dx < x → SceneAt w [(x, instObj 65 dx), (dx, ox)] x bf gf lks (lkF n) st mask (dep + 1) → Q (.ref x) { s with heap := h', toks := tk' })
    (hlo : n < 0 → ∀ h' tk', Fr h₀ L h' m → News h₀ L h' news → Q .none { s with heap := h', toks := tk' })
    (hhi : 3 ≤ n → ∀ h' tk', Fr h₀ L h' m → News h₀ L h' news → Q .none { s with heap := h', toks := tk' }) :
    wpAny (model PySem.Challenge.rw_pb0187_01.row.prog w) (ktrTop dp un gd cn cs L a ccd cl outer) (call (.ref 111) [.ref sc, .int n tn]) Q E s := by
  by_cases h0 : n < 0
  · exact nested_none B F X N T hk hd hu hS hl hz (.inl h0) (hlo h0)
  · by_cases h2 : 3 ≤ n
    · exact nested_none B F X N T hk hd hu hS hl hz (.inr h2) (hhi h2)
    · exact nested_in B F X N T hk hd hu hS hl hz (by omega) (by omega) (hit n (by omega) (by omega)) (hin (by omega) (by omega))
end
section
variable {w : World} {mean : ExcName → Option Value} {mg mb : Str → Option Value} {h₀ : Heap} {L fa cd : Addr} {m : Str → Option Value} {news : List (Addr × Obj)} {s : Shared} {Q : Flow → Shared → Prop} {E : Value → Shared → Prop}
local macro_rules | `(tactic| walk_at "call ref") => `(tactic| (k_here; (with_reducible show wpAny _ _ (call (Value.ref 111) _) _ _ _); refine Stop.out ?_))
local macro_rules | `(tactic| walk_at "pad2") => `(tactic| skip)
set_option maxRecDepth 100000 in
set_option maxHeartbeats 1500000 in
theorem turnA {rest : List Stmt} {tp cp st lks gf rw bf sc hr : Addr} {at' num dep mask k : Int} {t ts tm tn td tk₀ : Tok} {ep es c cl : Nat} {ws : List Value} {ns : List Int} {its : Array Value} {tl : List (Addr × Obj)} {o1 : Obj} {m₁ : Str → Option Value} {lkF : Int → Addr}
    (K0 : Below callerA h₀ [] h₀) (F : Fr h₀ L s.heap (fun y => if y = Str.ofString "turn_at" then some (.int k tk₀) else m₁ y)) (X : (Mine.kFrag w.params).In h₀) (N : News h₀ L s.heap ((tp, listOf #[.ref cp, .int at' t] ep) :: (st, listOf #[.int dep ts] es) :: (cp, listOf ws.toArray c) :: tl)) (T : Top Mine.view (looseW Mine.view []) mean mg mb h₀)
    (hi : IntsAre ws ns) (hn0 : 0 < ns.length) (hn1 : ns.length ≤ 40) (l2 : @LT.lt Nat _ cp tp) (l3 : @LT.lt Nat _ tp st) (n1 : ∀ p ∈ tl, p.1 ≠ tp) (n2 : ∀ p ∈ tl, p.1 ≠ st) (hc1 : (L + 1, o1) ∈ tl) (hd1 : o1.data = .cell (some (.ref tp))) (ha0 : 0 ≤ at') (ha1 : at' ≤ 50)
    (m5 : m₁ (Str.ofString "here") = some (.ref hr)) (m7 : m₁ (Str.ofString "number") = some (.int num tn)) (m8 : m₁ (Str.ofString "depth") = some (.int dep td))
    (hS : SceneAt w tl hr bf gf lks (lkF num) st mask dep) (hks : (lks, listOf its cl) ∈ tl) (hz : its.size = 3) (hnit : ∀ n : Int, 0 ≤ n → n ≤ 2 → its[n.toNat]? = some (Value.ref (lkF n))) (hb0 : 0 ≤ num) (hb2 : num ≤ 2) (hdep : 0 ≤ dep) (hdep1 : dep ≤ 100)
    (next : ∀ D hr' num' dep' ta ep' ts' es' m' h' tk, Fr h₀ L h' m' → News h₀ L h' ((tp, listOf #[.ref cp, .int (at' + 1) ta] ep') :: (st, listOf #[.int dep' ts'] es') :: (cp, listOf ws.toArray c) :: (D ++ tl)) →
      (∀ y, y ≠ Str.ofString "turn_at" → y ≠ Str.ofString "wanted" → y ≠ Str.ofString "inner" → y ≠ Str.ofString "number" → y ≠ Str.ofString "depth" → y ≠ Str.ofString "here" → m' y = m₁ y) →
      m' (Str.ofString "here") = some (.ref hr') → (∃ t, m' (Str.ofString "number") = some (.int num' t)) → (∃ t, m' (Str.ofString "depth") = some (.int dep' t)) → 0 ≤ num' → num' ≤ 2 → 0 ≤ dep' → dep' ≤ dep + 1 →
      (SceneAt w D hr' bf gf lks (lkF num') st mask dep' ∨ (hr' = hr ∧ num' = num ∧ dep' = dep)) → (∀ p ∈ D, @LT.lt Nat _ st p.1 ∧ ∀ q ∈ tl, @LT.lt Nat _ q.1 p.1) →
      wpAny (model PySem.Challenge.rw_pb0187_01.row.prog w) (callerA.deeper (lawEnv L fa cd)) (execs rest (lawEnv L fa cd)) Q E { s with heap := h', toks := tk }) :
    wpAny (model PySem.Challenge.rw_pb0187_01.row.prog w) (callerA.deeper (lawEnv L fa cd)) (execs (((forBody 13).take 3) ++ rest) (lawEnv L fa cd)) Q E s := by
  revert X; k_fill; intro X
  show wpAny _ (callerA.deeper (envOfC (Str.ofString "law") (Scope.mk _ _ _ _ _) L fa (.ref cd))) (execs (_ :: _ :: _ :: rest) (envOfC (Str.ofString "law") (Scope.mk _ _ _ _ _) L fa (.ref cd))) _ _ _
  w_strict k_steps
  unfold Stop
  k_dflt (refine nested_any hnit (by k_asm) (by k_asm) (by k_asm) (by k_asm) (by k_asm) rfl (by exact Nat.le_of_ble_eq_true rfl) (by exact Nat.le_of_ble_eq_true rfl) (SceneAt.mono (by assumption) (by lcg_sub)) (by k_mem) (by k_asm) ?_ ?_ ?_)
  · intro hw0 hw2 x dx ox h' tk' F' N' hlt hdx hSc
    have l1 := hlt
    have l4 : @LT.lt Nat _ dx x := hdx
    k_lt l1
    obtain ⟨tm', td', z1, z2, z3, z4, z5, z6, z7, nd, rfl⟩ := hSc.two l4
    w_strict k_steps
    refine next [(x, instObj 65 dx), (dx, dictOf [ent w "buffer" z1 (.ref bf), ent w "gdef" z2 (.ref gf), ent w "lookups" z3 (.ref lks), ent w "lookup" z4 (.ref (lkF _)), ent w "mask" z5 (.int mask tm'), ent w "depth" z6 (.int (dep + 1) td'), ent w "steps" z7 (.ref st)] nd)] x _ (dep + 1) _ _ _ _ _ _ _ (by assumption) (perm5 (by assumption)) (fun y h1 h2 h3 h4 h5 h6 => by simp [h1, h2, h3, h4, h5, h6]) (by exact rfl) ⟨_, by exact rfl⟩ ⟨_, by exact rfl⟩ hw0 hw2 (by omega) (by omega) (.inl (.mk (.head _) (.tail _ (.head _)))) ?_
    intro p hp
    rcases List.mem_cons.mp hp with rfl | hp
    · exact ⟨by dsimp only; omega, fun q hq => Nat.lt_trans (hlt q (.tail _ (.tail _ (.tail _ hq)))) l4⟩
    · obtain rfl := List.mem_singleton.mp hp
      exact ⟨by dsimp only; omega, fun q hq => hlt q (.tail _ (.tail _ (.tail _ hq)))⟩
  · intro hw h' tk' F' N'
    w_strict k_steps
    exact next [] hr num dep _ _ _ _ _ _ _ (by assumption) (by assumption) (fun y h1 h2 h3 h4 h5 h6 => by simp [h1, h2, h3]) (by assumption) ⟨_, by assumption⟩ ⟨_, by assumption⟩ hb0 hb2 hdep (by omega) (.inr ⟨rfl, rfl, rfl⟩) (fun p hp => nomatch hp)
  · intro hw h' tk' F' N'
    w_strict k_steps
    exact next [] hr num dep _ _ _ _ _ _ _ (by assumption) (by assumption) (fun y h1 h2 h3 h4 h5 h6 => by simp [h1, h2, h3]) (by assumption) ⟨_, by assumption⟩ ⟨_, by assumption⟩ hb0 hb2 hdep (by omega) (.inr ⟨rfl, rfl, rfl⟩) (fun p hp => nomatch hp)
end
end Mine
end
section
open PySem PySem.W PyProof.Rows PySem.Calls PySem.Spec PyProof.Rows.LCg PyProof.Rows.LCt
namespace Mine
theorem resetL12 : True := by w_top off; trivial
def LoopJ (w : World) (d : Dat) (tp cp st sc : Addr) (ws : List Value) (c : Nat) (mask : Int) (tl : List (Addr × Obj)) (i : Nat) (m : Str → Option Value) (nx : List (Addr × Obj)) : Prop :=
  ∃ ta ep ts es D hr num dep, nx = (tp, listOf #[.ref cp, .int (22 + (i : Int)) ta] ep) :: (st, listOf #[.int dep ts] es) :: (cp, listOf ws.toArray c) :: (D ++ tl) ∧ LoopM m d.rw d.gf d.lks sc hr mask num dep ∧ 0 ≤ num ∧ num ≤ 2 ∧ 0 ≤ dep ∧ dep ≤ (i : Int) ∧
    SceneAt w (D ++ tl) hr d.bf d.gf d.lks (d.lk num) st mask dep ∧ (∀ p ∈ D, @LT.lt Nat _ st p.1)
section
variable {w : World} {mean : ExcName → Option Value} {mg mb : Str → Option Value} {h₀ : Heap} {L fa cd : Addr} {m : Str → Option Value} {news : List (Addr × Obj)} {s : Shared} {Q : Flow → Shared → Prop} {E : Value → Shared → Prop}
theorem mainLoop {d : Dat} {tp cp st sc r : Addr} {t ts : Tok} {ep es c n : Nat} {mask : Int} {ws : List Value} {ns : List Int} {tl : List (Addr × Obj)} {o1 : Obj} {r1 r2 r3 : Tok}
    (K0 : Below callerA h₀ [] h₀) (F : Fr h₀ L s.heap m) (X : (Mine.kFrag w.params).In h₀) (N : News h₀ L s.heap ((tp, listOf #[.ref cp, .int 22 t] ep) :: (st, listOf #[.int 0 ts] es) :: (cp, listOf ws.toArray c) :: tl)) (T : Top Mine.view (looseW Mine.view []) mean mg mb h₀)
    (hi : IntsAre ws ns) (hn0 : 0 < ns.length) (hn1 : ns.length ≤ 40) (l2 : @LT.lt Nat _ cp tp) (l3 : @LT.lt Nat _ tp st) (n1 : ∀ p ∈ tl, p.1 ≠ tp) (n2 : ∀ p ∈ tl, p.1 ≠ st) (hc1 : (L + 1, o1) ∈ tl) (hd1 : o1.data = .cell (some (.ref tp)))
    (hM : LoopM m d.rw d.gf d.lks sc sc mask 0 0) (hS : SceneAt w tl sc d.bf d.gf d.lks d.l0 st mask 0) (hF : Facts w tl d) (hn6 : n ≤ 6)
    (hr : IsRange s.heap r 0 (n : Int) 1 r1 r2 r3) (hsm : Builtin.Range.small 0 (n : Int) 1 = true) (hsz : Builtin.Range.rangeSize 0 (n : Int) 1 = (n : Int))
    (done : ∀ m' nx h tk, LoopJ w d tp cp st sc ws c mask tl n m' nx → Fr h₀ L h m' → News h₀ L h nx → Q .next { s with heap := h, toks := tk }) :
    wpAny (model PySem.Challenge.rw_pb0187_01.row.prog w) (callerA.deeper (lawEnv L fa cd)) (pyIter (.ref r)) (fun it s₂ => LoopAtV PySem.Challenge.rw_pb0187_01.row.prog w (callerA.deeper (lawEnv L fa cd)) h₀ (lawEnv L fa cd) (Str.ofString "turn_at") (forBody 13) Q E it s₂) E s := by
  refine tbr_invG (n := n) (m₀ := m) (news := (tp, listOf #[.ref cp, .int 22 t] ep) :: (st, listOf #[.int 0 ts] es) :: (cp, listOf ws.toArray c) :: tl) (LoopJ w d tp cp st sc ws c mask tl) (by rfl) hr hsm hsz F N ⟨t, ep, ts, es, [], sc, 0, 0, rfl, hM, by decide, by decide, by decide, by decide, hS, fun p hp => nomatch hp⟩ ?_ done
  rintro i k tk₀ m₁ nx h tk own hki hoff ⟨ta, ep', ts', es', D, hr', num, dep, rfl, hM₁, hb0, hb2, hd0, hd1', hS₁, hDst⟩ F₁ N₁
  have hi6 : i < 6 := by
    obtain ⟨hlt, _⟩ := List.getElem?_eq_some_iff.mp hki
    have : i < n := by simpa [rangeKs] using hlt
    omega
  obtain ⟨e1, e2, e3, e4, e5, ⟨tm, e6⟩, ⟨tn, e7⟩, ⟨td, e8⟩⟩ := hM₁
  have hsubT : ∀ p ∈ tl, p ∈ (D ++ tl) ++ own := fun p hp => List.mem_append.mpr (.inl (List.mem_append.mpr (.inr hp)))
  have e : forBody 13 = (forBody 13).take 3 ++ (((forBody 13).drop 3).take 2 ++ []) := by rfl
  rw [e]
  refine turnA (rw := 0) (sc := 0) (tm := 0) (tl := (D ++ tl) ++ own) (ns := ns) (o1 := o1) (lkF := d.lk) (its := #[.ref d.l0, .ref d.l1, .ref d.l2]) (cl := d.cl) K0 F₁ X N₁ T hi hn0 hn1 l2 l3 ?_ ?_ (hsubT _ hc1) hd1 (by omega) (by omega) e5 e7 e8 (hS₁.mono fun p hp => List.mem_append.mpr (.inl hp)) (hsubT _ hF.lks) rfl (fun n h0 h2 => d.item h0 h2) hb0 hb2 hd0 (by omega) ?_
  · intro p hp
    rcases List.mem_append.mp hp with hp | hp
    · rcases List.mem_append.mp hp with hp | hp
      · exact Nat.ne_of_gt (Nat.lt_trans l3 (hDst p hp))
      · exact n1 p hp
    · exact hoff p hp _ (.head _)
  · intro p hp
    rcases List.mem_append.mp hp with hp | hp
    · rcases List.mem_append.mp hp with hp | hp
      · exact Nat.ne_of_gt (hDst p hp)
      · exact n2 p hp
    · exact hoff p hp _ (.tail _ (.head _))
  intro D' hr2 num' dep' ta' ep2 ts2 es2 m' h' tk' F' N' hm' mh ⟨tn', mn⟩ ⟨td', md⟩ hn'0 hn'2 hd'0 hd'1 hSD hfresh
  have hsub2 : ∀ p ∈ (D ++ tl) ++ own, p ∈ D' ++ ((D ++ tl) ++ own) := fun p hp => List.mem_append.mpr (.inr hp)
  have hF2 := hF.mono fun p hp => hsub2 p (hsubT p hp)
  have hSnow : SceneAt w ((D' ++ D) ++ tl) hr2 d.bf d.gf d.lks (d.lk num') st mask dep' := by
    rcases hSD with h | ⟨rfl, rfl, rfl⟩
    · exact h.mono fun p hp => List.mem_append.mpr (.inl (List.mem_append.mpr (.inl hp)))
    · refine hS₁.mono fun p hp => ?_
      rcases List.mem_append.mp hp with hp | hp
      · exact List.mem_append.mpr (.inl (List.mem_append.mpr (.inr hp)))
      · exact List.mem_append.mpr (.inr hp)
  have hSB : SceneAt w (D' ++ ((D ++ tl) ++ own)) hr2 d.bf d.gf d.lks (d.lk num') st mask dep' := hSnow.mono fun p hp => by
    simp only [List.mem_append] at hp ⊢
    rcases hp with (h | h) | h <;> simp [h]
  refine turnB (rest := []) (lk0 := d.l0) (its := #[.ref d.l0, .ref d.l1, .ref d.l2]) (cl := d.cl) (cr := d.cr) (kvs := d.kvs) K0 F' X N' T (by rw [hm' _ (by decide) (by decide) (by decide) (by decide) (by decide) (by decide)]; exact e1) (by rw [hm' _ (by decide) (by decide) (by decide) (by decide) (by decide) (by decide)]; exact e2) (by rw [hm' _ (by decide) (by decide) (by decide) (by decide) (by decide) (by decide)]; exact e3) (by rw [hm' _ (by decide) (by decide) (by decide) (by decide) (by decide) (by decide)]; exact e4) mh (by rw [hm' _ (by decide) (by decide) (by decide) (by decide) (by decide) (by decide)]; exact e6) mn md
    hSB (hS.mono fun p hp => hsub2 p (hsubT p hp)) hF2.buf hF2.row hF2.i0 hF2.i1 hF2.i2 hF2.i3 hF2.gdef hF2.kv (hF2.look num' hn'0 hn'2) hF2.lks hn'0 (by omega) (d.item hn'0 hn'2) (hF2.ms0 num' hn'0 hn'2) (hF2.ms1 num' hn'0 hn'2) hF2.a0 hF2.b0 hF2.a1 hF2.b1 hF2.a2 hF2.b2 hF2.a3 hF2.b3 ?_
  intro m'' h'' tk'' F'' hm'' N''
  show wpAny _ _ (pure Flow.next) _ _ _
  refine wpAny_pure ?_
  refine ⟨h'', tk'', m'', _, (tp, listOf #[.ref cp, .int (22 + (i : Int) + 1) ta'] ep2) :: (st, listOf #[.int dep' ts2] es2) :: (cp, listOf ws.toArray c) :: ((D' ++ D) ++ tl), rfl, F'', N'', ?_, ?_, ?_, ?_⟩
  · intro p hp
    simp only [List.mem_cons, List.mem_append] at hp ⊢
    rcases hp with h | h | h | (h | h) | h <;> simp [h]
  · intro p hp
    simp only [List.mem_cons, List.mem_append]
    simp [hp]
  · intro p hp q hq
    rcases List.mem_cons.mp hq with rfl | hq
    · exact hoff p hp (tp, listOf #[.ref cp, .int (22 + (i : Int)) ta] ep') (.head _)
    rcases List.mem_cons.mp hq with rfl | hq
    · exact hoff p hp (st, listOf #[.int dep ts'] es') (.tail _ (.head _))
    rcases List.mem_cons.mp hq with rfl | hq
    · exact hoff p hp _ (.tail _ (.tail _ (.head _)))
    rcases List.mem_append.mp hq with hq | hq
    · rcases List.mem_append.mp hq with hq | hq
      · exact Nat.ne_of_lt ((hfresh q hq).2 p (List.mem_append.mpr (.inr hp)))
      · exact hoff p hp q (.tail _ (.tail _ (.tail _ (List.mem_append.mpr (.inl hq)))))
    · exact hoff p hp q (.tail _ (.tail _ (.tail _ (List.mem_append.mpr (.inr hq)))))
  · have ee : (22 + ((i + 1 : Nat) : Int)) = 22 + (i : Int) + 1 := by omega
    have back : ∀ y, y ≠ Str.ofString "alone" → y ≠ Str.ofString "turn_at" → y ≠ Str.ofString "wanted" → y ≠ Str.ofString "inner" → y ≠ Str.ofString "number" → y ≠ Str.ofString "depth" → y ≠ Str.ofString "here" → m'' y = m₁ y := fun y a b c d e f g => (hm'' y a).trans (hm' y b c d e f g)
    refine ⟨ta', ep2, ts2, es2, D' ++ D, hr2, num', dep', by rw [ee], ⟨?_, ?_, ?_, ?_, ?_, ⟨tm, ?_⟩, ⟨tn', ?_⟩, ⟨td', ?_⟩⟩, hn'0, hn'2, hd'0, by omega, hSnow, ?_⟩
    · rw [back _ (by decide) (by decide) (by decide) (by decide) (by decide) (by decide) (by decide)]; exact e1
    · rw [back _ (by decide) (by decide) (by decide) (by decide) (by decide) (by decide) (by decide)]; exact e2
    · rw [back _ (by decide) (by decide) (by decide) (by decide) (by decide) (by decide) (by decide)]; exact e3
    · rw [back _ (by decide) (by decide) (by decide) (by decide) (by decide) (by decide) (by decide)]; exact e4
    · rw [hm'' _ (by decide)]; exact mh
    · rw [back _ (by decide) (by decide) (by decide) (by decide) (by decide) (by decide) (by decide)]; exact e6
    · rw [hm'' _ (by decide)]; exact mn
    · rw [hm'' _ (by decide)]; exact md
    · intro p hp
      rcases List.mem_append.mp hp with hp | hp
      · exact (hfresh p hp).1
      · exact hDst p hp
end
end Mine
end
section
open PySem PySem.W PyProof.Rows PySem.Calls PySem.Spec PyProof.Rows.LCg PyProof.Rows.LCt
namespace Mine
theorem resetL13 : True := by w_top off; trivial
theorem rangeN {prog : Program} {w : World} {A : Around} {E : Value → Shared → Prop} {s : Shared} {h₀ : Heap} {L : Addr} {m : Str → Option Value} {news : List (Addr × Obj)} {k : Int} {t : Tok} {Q : Value → Shared → Prop} (h0 : 0 ≤ k) (h7 : k < 7) (F : Fr h₀ L s.heap m) (N : News h₀ L s.heap news)
    (h : ∀ (n : Nat) (r : Addr) (h' : Heap) (tk' : Nat) (r1 r2 r3 : Tok), n < 7 → IsRange h' r 0 (n : Int) 1 r1 r2 r3 → Builtin.Range.small 0 (n : Int) 1 = true → Builtin.Range.rangeSize 0 (n : Int) 1 = (n : Int) → Fr h₀ L h' m → News h₀ L h' news → Q (.ref r) { s with heap := h', toks := tk' }) :
    wpAny (model prog w) A (call (.type "range") [.int k t]) Q E s := by
  refine range1_rows F N ?_
  obtain rfl | rfl | rfl | rfl | rfl | rfl | rfl : k = 0 ∨ k = 1 ∨ k = 2 ∨ k = 3 ∨ k = 4 ∨ k = 5 ∨ k = 6 := by omega
  · exact fun h' tk t1 u1 v1 R F' N' _ => h 0 _ h' tk t1 u1 v1 (by decide) R (by decide) (by decide) F' N'
  · exact fun h' tk t1 u1 v1 R F' N' _ => h 1 _ h' tk t1 u1 v1 (by decide) R (by decide) (by decide) F' N'
  · exact fun h' tk t1 u1 v1 R F' N' _ => h 2 _ h' tk t1 u1 v1 (by decide) R (by decide) (by decide) F' N'
  · exact fun h' tk t1 u1 v1 R F' N' _ => h 3 _ h' tk t1 u1 v1 (by decide) R (by decide) (by decide) F' N'
  · exact fun h' tk t1 u1 v1 R F' N' _ => h 4 _ h' tk t1 u1 v1 (by decide) R (by decide) (by decide) F' N'
  · exact fun h' tk t1 u1 v1 R F' N' _ => h 5 _ h' tk t1 u1 v1 (by decide) R (by decide) (by decide) F' N'
  · exact fun h' tk t1 u1 v1 R F' N' _ => h 6 _ h' tk t1 u1 v1 (by decide) R (by decide) (by decide) F' N'
section
variable {w : World} {mean : ExcName → Option Value} {mg mb : Str → Option Value} {h₀ : Heap} {L fa cd : Addr} {m : Str → Option Value} {news : List (Addr × Obj)} {s : Shared} {Q : Flow → Shared → Prop} {E : Value → Shared → Prop}
local macro_rules | `(tactic| walk_at "call type:range") => `(tactic| refine Stop.out ?_)
local macro_rules | `(tactic| walk_at "pyIter ref") => `(tactic| refine Stop.out ?_)
local macro_rules | `(tactic| walk_at "pad3") => `(tactic| skip)
set_option maxRecDepth 100000 in
set_option maxHeartbeats 1500000 in
theorem chunkH {rest : List Stmt} {d : Dat} {tp cp st sc : Addr} {t ts : Tok} {ep es c : Nat} {mask : Int} {ws : List Value} {ns : List Int} {tl : List (Addr × Obj)} {o1 : Obj}
    (K0 : Below callerA h₀ [] h₀) (F : Fr h₀ L s.heap m) (X : (Mine.kFrag w.params).In h₀) (N : News h₀ L s.heap ((tp, listOf #[.ref cp, .int 21 t] ep) :: (st, listOf #[.int 0 ts] es) :: (cp, listOf ws.toArray c) :: tl)) (T : Top Mine.view (looseW Mine.view []) mean mg mb h₀)
    (hi : IntsAre ws ns) (hn0 : 0 < ns.length) (hn1 : ns.length ≤ 40) (l2 : @LT.lt Nat _ cp tp) (l3 : @LT.lt Nat _ tp st) (n1 : ∀ p ∈ tl, p.1 ≠ tp) (n2 : ∀ p ∈ tl, p.1 ≠ st) (hc1 : (L + 1, o1) ∈ tl) (hd1 : o1.data = .cell (some (.ref tp)))
    (hM : LoopM m d.rw d.gf d.lks sc sc mask 0 0) (hS : SceneAt w tl sc d.bf d.gf d.lks d.l0 st mask 0) (hF : Facts w tl d)
    (hE : PassesOwn (model PySem.Challenge.rw_pb0187_01.row.prog w) (callerA.deeper (lawEnv L fa cd)) (lawEnv L fa cd) E)
    (next : ∀ n m' nx h' tk, LoopJ w d tp cp st sc ws c mask tl n m' nx → Fr h₀ L h' m' → News h₀ L h' nx →
      wpAny (model PySem.Challenge.rw_pb0187_01.row.prog w) (callerA.deeper (lawEnv L fa cd)) (execs rest (lawEnv L fa cd)) Q E { s with heap := h', toks := tk }) :
    wpAny (model PySem.Challenge.rw_pb0187_01.row.prog w) (callerA.deeper (lawEnv L fa cd)) (execs ((lawBody.drop 13).take 1 ++ rest) (lawEnv L fa cd)) Q E s := by
  revert X; k_fill; intro X
  show wpAny _ (callerA.deeper (envOfC (Str.ofString "law") (Scope.mk _ _ _ _ _) L fa (.ref cd))) (execs (_ :: rest) (envOfC (Str.ofString "law") (Scope.mk _ _ _ _ _) L fa (.ref cd))) _ _ _
  w_strict k_steps
  unfold Stop
  rename Fr _ _ _ _ => FF
  rename News _ _ _ _ => NN
  refine rangeN (by assumption) (by assumption) FF NN ?_
  intro n r h' tk' r1 r2 r3 hn7 hr hsm hsz F' N'
  exact mainLoop (n := n) (d := d) (tl := tl) (ns := ns) (o1 := o1) K0 F' X N' T hi hn0 hn1 l2 l3 n1 n2 hc1 hd1 hM hS hF (by omega) hr hsm hsz (fun m' nx h tk hJ F'' N'' => next n m' nx h tk hJ F'' N'')
end
end Mine
end
section
open PySem PySem.W PyProof.Rows PySem.Calls PySem.Spec PyProof.Rows.LCg PyProof.Rows.LCt
namespace Mine
theorem resetL14 : True := by w_top off; trivial
section
variable {w : World} {mean : ExcName → Option Value} {mg mb : Str → Option Value} {h₀ : Heap} {L fa cd : Addr} {m : Str → Option Value} {news : List (Addr × Obj)} {s : Shared} {Q : Flow → Shared → Prop} {E : Value → Shared → Prop}
local macro_rules | `(tactic| walk_at "subscriptTail Name Constant ref int") => `(tactic| walk_at "subscriptTail")
local macro_rules | `(tactic| walk_at "subscriptTail Name Name ref int") => `(tactic| walk_at "subscriptTail")
local macro_rules | `(tactic| kbo_bools) => `(tactic| first | assumption | exact InfoAt.mono (by assumption) (by lcg_sub) | exact InfoD.at (by assumption) (by k_mem) (by k_mem))
local macro_rules | `(tactic| walk_at "compareOp Eq ref ref") => `(tactic| refine Stop.out ?_)
local macro_rules | `(tactic| k_get) => `(tactic| with_unfolding_all exact (rfl : _ = some (some (Value.int _ _))))
local macro_rules | `(tactic| walk_at "setAttr ref") => `(tactic| (k_here; (with_reducible show wpAny _ _ (setAttr (Value.ref _) (Str.ofString "glyph") _) _ _ _); k_dflt (refine' set_glyph ?k1 ?k2 ?k3 ?k4 ?k5 ?k6 ?h1 ?h2 ?h3 ?h4 ?_; (case k1 => k_asm); (case k2 => k_asm); (case k3 => k_asm); (case k4 => k_mem); (case k5 => k_updF); (case k6 => exact ⟨_, _, _, _, _, _, _, _, _, _, (by assumption), rfl⟩); (case h1 => k_is); (case h2 => k_is); (case h3 => k_is); (case h4 => k_is)); intro h' ox' tk' F' N' hId'; (try dsimp only at N')))
set_option maxRecDepth 100000 in
set_option maxHeartbeats 2000000 in
theorem chunkI {rest : List Stmt} {st lks gf rw bf sc hr lkn l0 i0 i1 i2 i3 d0 : Addr} {num dep mask fn msn f0 s0 g0 g1 g2 g3 k0 k1 k2 k3 : Int} {tm tn : Tok} {cl cr : Nat} {tl : List (Addr × Obj)} {o0 : Obj} {kvs : List (Int × Value)}
    (K0 : Below callerA h₀ [] h₀) (F : Fr h₀ L s.heap m) (X : (Mine.kFrag w.params).In h₀) (N : News h₀ L s.heap ((d0, o0) :: tl)) (T : Top Mine.view (looseW Mine.view []) mean mg mb h₀)
    (m1 : m (Str.ofString "row") = some (.ref rw)) (m2 : m (Str.ofString "gdef") = some (.ref gf)) (m3 : m (Str.ofString "lookups") = some (.ref lks)) (m4 : m (Str.ofString "scene") = some (.ref sc)) (m5 : m (Str.ofString "here") = some (.ref hr)) (m6 : m (Str.ofString "mask") = some (.int mask tm)) (m7 : m (Str.ofString "number") = some (.int num tn))
    (n3 : ∀ p ∈ tl, p.1 ≠ d0) (hI0' : (i0, instObj 142 d0) ∈ tl) (hD0 : InfoD w o0 g0 k0)
    (hS : SceneAt w tl hr bf gf lks lkn st mask dep) (hS0 : SceneAt w tl sc bf gf lks l0 st mask 0) (hB : BufAt w tl bf rw) (hR : (rw, listOf #[.ref i0, .ref i1, .ref i2, .ref i3] cr) ∈ tl) (hI1 : InfoAt w tl i1 g1 k1) (hI2 : InfoAt w tl i2 g2 k2) (hI3 : InfoAt w tl i3 g3 k3)
    (hG : GdefAt w tl gf kvs) (hKv : KvOk kvs) (hL : LookAt w tl lkn fn msn) (hL0 : LookAt w tl l0 f0 s0) {its : Array Value} (hks : (lks, listOf its cl) ∈ tl) (hn0 : 0 ≤ num) (hn2 : num < 100) (hit : its[num.toNat]? = some (.ref lkn)) (hit0 : its[(0 : Int).toNat]? = some (.ref l0)) (hm0 : 0 ≤ msn) (hm1 : msn ≤ 1) (hs0 : 0 ≤ s0) (hs1 : s0 ≤ 1)
    (a0 : 0 ≤ g0) (b0 : g0 ≤ 5) (a1 : 0 ≤ g1) (b1 : g1 ≤ 5) (a2 : 0 ≤ g2) (b2 : g2 ≤ 5) (a3 : 0 ≤ g3) (b3 : g3 ≤ 5)
    (hret : ∀ m' h' tk, Fr h₀ L h' m' → Q (.ret (.bool true)) { s with heap := h', toks := tk }) :
    wpAny (model PySem.Challenge.rw_pb0187_01.row.prog w) (callerA.deeper (lawEnv L fa cd)) (execs ((lawBody.drop 14).take 3 ++ rest) (lawEnv L fa cd)) Q E s := by
  revert X; k_fill; intro X
  show wpAny _ (callerA.deeper (envOfC (Str.ofString "law") (Scope.mk _ _ _ _ _) L fa (.ref cd))) (execs (_ :: _ :: _ :: rest) (envOfC (Str.ofString "law") (Scope.mk _ _ _ _ _) L fa (.ref cd))) _ _ _
  obtain ⟨q1, q2, q3, q4, tg, tm', v1, v3, es', n', hes, rfl⟩ := hD0
  w_strict k_steps
  unfold Stop
  k_dflt (refine pairs_eq (by k_asm) (by k_mem) (by k_mem) (by k_mem) (by k_mem) (by k_mem) (by k_mem) (by k_mem) (by k_mem) (by k_mem) (by k_mem) (by ke_room) ?_)
  w_strict k_steps
  unfold Stop
  k_dflt (refine pairs_eq (by k_asm) (by k_mem) (by k_mem) (by k_mem) (by k_mem) (by k_mem) (by k_mem) (by k_mem) (by k_mem) (by k_mem) (by k_mem) (by ke_room) ?_)
  w_strict k_steps
  exact hret _ _ _ (by assumption)
end
end Mine
end
section
open PySem PySem.W PyProof.Rows PySem.Calls PySem.Spec PyProof.Rows.LCg PyProof.Rows.LCt
namespace Mine
theorem resetM1 : True := by w_top off; trivial
theorem cut {α : Type} (l : List α) (i n : Nat) : l.drop i = (l.drop i).take n ++ l.drop (i + n) := by
  rw [← List.drop_drop, List.take_append_drop]
theorem LookAt.three {w : World} {tl : List (Addr × Obj)} {l0 l1 l2 : Addr} {f0 f1 f2 s0 s1 s2 : Int} {d : Dat} (e0 : d.l0 = l0) (e1 : d.l1 = l1) (e2 : d.l2 = l2) (g0 : d.f0 = f0) (g1 : d.f1 = f1) (g2 : d.f2 = f2) (t0 : d.s0 = s0) (t1 : d.s1 = s1) (t2 : d.s2 = s2)
    (h0 : LookAt w tl l0 f0 s0) (h1 : LookAt w tl l1 f1 s1) (h2 : LookAt w tl l2 f2 s2) : ∀ n : Int, 0 ≤ n → n ≤ 2 → LookAt w tl (d.lk n) (d.fl n) (d.ms n) := by
  intro n a b
  subst e0 e1 e2 g0 g1 g2 t0 t1 t2
  obtain rfl | rfl | rfl : n = 0 ∨ n = 1 ∨ n = 2 := by omega
  · exact h0
  · exact h1
  · exact h2
theorem SceneAt.off {w : World} {D tl : List (Addr × Obj)} {d0 : Addr} {o0 : Obj} {g k : Int} {sc bf gf lks lk st : Addr} {mask dep : Int} (h : SceneAt w (D ++ (d0, o0) :: tl) sc bf gf lks lk st mask dep) (hD : InfoD w o0 g k) : SceneAt w (D ++ tl) sc bf gf lks lk st mask dep := by
  obtain ⟨q1, q2, q3, q4, tg, tm, v1, v3, es, n, _, rfl⟩ := hD
  cases h with | @mk dsc tm' td' z1 z2 z3 z4 z5 z6 z7 nd s1 s2 =>
  refine .mk (dsc := dsc) ?_ (tm := tm') (td := td') (k1 := z1) (k2 := z2) (k3 := z3) (k4 := z4) (k5 := z5) (k6 := z6) (k7 := z7) (nd := nd) ?_
  · rcases List.mem_append.mp s1 with h | h
    · exact List.mem_append.mpr (.inl h)
    · rcases List.mem_cons.mp h with h | h
      · have := congrArg (fun p : Addr × Obj => p.2.cls) h
        cases this
      · exact List.mem_append.mpr (.inr h)
  · rcases List.mem_append.mp s2 with h | h
    · exact List.mem_append.mpr (.inl h)
    · rcases List.mem_cons.mp h with h | h
      · exfalso
        have := congrArg (fun p : Addr × Obj => (match p.2.data with | .dict es _ => (match es.toList with | e :: _ => (match e.key with | .str s _ => decide (s = Str.ofString "code") | _ => false) | _ => false) | _ => false)) h
        revert this
        show ¬ (decide (Str.ofString "buffer" = Str.ofString "code") = decide (Str.ofString "code" = Str.ofString "code"))
        decide
      · exact List.mem_append.mpr (.inr h)
end Mine
end
section
open PySem PySem.W PyProof.Rows PySem.Calls PySem.Spec PyProof.Rows.LCg PyProof.Rows.LCt
namespace Mine
theorem resetM2 : True := by w_top off; trivial
theorem lawRun {w : World} {mean : ExcName → Option Value} {mg mb : Str → Option Value} {h₀ : Heap} {L fa cd : Addr} {m : Str → Option Value} {s : Shared} {Q : Flow → Shared → Prop} {E : Value → Shared → Prop}
    {sp : Addr} {vs : List Value} {ns : List Int} {o1 o2 o3 : Obj}
    (K0 : Below callerA h₀ [] h₀) (F : Fr h₀ L s.heap m) (X : (Mine.kFrag w.params).In h₀) (N : News h₀ L s.heap [(L + 1 + 1 + 1, o3), (L + 1 + 1, o2), (L + 1, o1)]) (T : Top Mine.view (looseW Mine.view []) mean mg mb h₀)
    (hs : m (Str.ofString "script") = some (.ref sp)) (hL : h₀.IsList sp vs.toArray) (hI : IntsAre vs ns) (hlen : ¬ (63 : Int) < (ns.length : Int)) (hd1 : o1.data = .cell none) (hd2 : o2.data = .cell none) (hd3 : o3.data = .cell none)
    (hE : PassesOwn (model PySem.Challenge.rw_pb0187_01.row.prog w) (callerA.deeper (lawEnv L fa cd)) (lawEnv L fa cd) E)
    (hret : ∀ m' h' tk, Fr h₀ L h' m' → Q (.ret (.bool true)) { s with heap := h', toks := tk }) :
    wpAny (model PySem.Challenge.rw_pb0187_01.row.prog w) (callerA.deeper (lawEnv L fa cd)) (execs (lawBody.drop 0) (lawEnv L fa cd)) Q E s := by
  rw [cut lawBody 0 1]
  refine chunkA (rest := lawBody.drop 1) K0 F X N T hs hL hI hlen hd1 hd2 hd3 ?_
  clear F N hs
  intro tp cp t ep c ws cs o1' h1 tk1 F N hc1 hi hn0 hn40 q1 q2
  rw [cut lawBody 1 1]
  refine chunkB (rest := lawBody.drop 2) K0 F X N T hi hn0 hn40 hc1 hd2 hd3 q1 q2 ?_
  clear F N
  intro dc od t ep' o2' h2 tk2 v0 v1 v2 v3 v4 v5 y0 y1 y2 y3 y4 y5 F N hc2 hod lod q3 a0 b0 a1 b1 a2 b2 a3 b3 a4 b4 a5 b5
  rw [cut lawBody 2 1]
  refine chunkC (rest := lawBody.drop 3) (ns := cs) K0 F X N T hc2 q1 q2 q3 hod lod a0 b0 a1 b1 a2 b2 a3 b3 a4 b4 a5 b5 ?_
  clear F N
  intro kn kvs tl m3 h3 tk3 F hm3 N n1 n2 hkn hKv hc1m
  rw [cut lawBody 3 1]
  refine chunkD (rest := lawBody.drop 4) (o1 := o1') K0 F X N T q1 q2 n1 n2 hkn hm3 ?_
  clear F N
  intro gf m4 tl4 h4 tk4 F hm4 N n14 n24 hG hsub4
  rw [cut lawBody 4 1]
  refine chunkE (rest := lawBody.drop 5) K0 F X N T hi hn0 hn40 q1 q2 n14 n24 (hsub4 _ hc1m) hc1 hd3 ?_
  clear F N
  intro fl f0 f1 f2 u0 u1 u2 c5 o3' t5 ep5 tl5 h5 tk5 F N n15 hfl hc3 hd3' hsub5
  rw [cut lawBody 5 1]
  refine chunkE2 (rest := lawBody.drop 6) (o1 := o1') K0 F X N T q2 n15 hfl hc3 hd3' hm4 ?_
  clear F N
  intro lks l0 l1 l2 ms0 ms1 ms2 cl m6 tl6 h6 tk6 F hlks hgd6 N n16 hlk hL0 hL1 hL2 z0 z0' z1 z1' z2 z2' hsub6
  rw [cut lawBody 6 2]
  refine chunkF (rest := lawBody.drop 8) K0 F X N T hi hn0 hn40 q2 n16 (hsub6 _ (hsub5 _ (hsub4 _ hc1m))) hc1 hgd6 hlks hE ?_
  clear F N
  intro rw' m7 nx h7 tk7 hrt hrlt hJ F N
  obtain ⟨ta, ep7, cr, i0, i1, i2, i3, d0, o0, g0, k0, g1, k1, g2, k2, g3, k3, tl7, hnx, n17, n37, htd, hrow, hi0, hD0, hI1, hI2, hI3, g00, g06, g10, g16, g20, g26, g30, g36, hsub7, hmrow, hmgd, hmlk⟩ := rowJ4 hJ n16 hrt
  rw [cut lawBody 8 5]
  refine chunkG (rest := lawBody.drop 13) K0 F X (News.sub N hnx) T hi hn0 hn40 q2 htd n17 n37 (hsub7 _ (hsub6 _ (hsub5 _ (hsub4 _ hc1m)))) hc1 (hsub7 _ hlk) hmgd hmlk hmrow ?_
  clear F N
  intro st sc bf mask tb epb tsb esb m8 tl8 h8 tk8 F hM N hS0 hB hsub8 n18 n28 n38 hdst
  have hall : ∀ p ∈ tl4, p ∈ tl8 := fun p hp => hsub8 _ (hsub7 _ (hsub6 _ (hsub5 _ hp)))
  have hall6 : ∀ p ∈ tl6, p ∈ tl8 := fun p hp => hsub8 _ (hsub7 _ hp)
  have htst : @LT.lt Nat _ tp st := Nat.lt_trans htd hdst
  let d : Dat := { kvs := kvs, rw := rw', gf := gf, lks := lks, bf := bf, l0 := l0, l1 := l1, l2 := l2, i0 := i0, i1 := i1, i2 := i2, i3 := i3, f0 := f0, f1 := f1, f2 := f2, s0 := ms0, s1 := ms1, s2 := ms2, g0 := g0, g1 := g1, g2 := g2, g3 := g3, k0 := k0, k1 := k1, k2 := k2, k3 := k3, cl := cl, cr := cr }
  have hcons : ∀ p ∈ tl8, p ∈ (d0, o0) :: tl8 := fun p hp => List.mem_cons_of_mem _ hp
  have hms0 : ∀ n : Int, 0 ≤ n → n ≤ 2 → 0 ≤ d.ms n := by
    intro n a b
    obtain rfl | rfl | rfl : n = 0 ∨ n = 1 ∨ n = 2 := by omega
    · exact z0
    · exact z1
    · exact z2
  have hms1 : ∀ n : Int, 0 ≤ n → n ≤ 2 → d.ms n ≤ 1 := by
    intro n a b
    obtain rfl | rfl | rfl : n = 0 ∨ n = 1 ∨ n = 2 := by omega
    · exact z0'
    · exact z1'
    · exact z2'
  have hlook : ∀ n : Int, 0 ≤ n → n ≤ 2 → LookAt w tl8 (d.lk n) (d.fl n) (d.ms n) := LookAt.three (d := d) rfl rfl rfl rfl rfl rfl rfl rfl rfl (hL0.mono hall6) (hL1.mono hall6) (hL2.mono hall6)
  have hF : Facts w ((d0, o0) :: tl8) d := {
    buf := hB.mono hcons
    row := hcons _ (hsub8 _ hrow)
    i0 := hD0.at (hcons _ (hsub8 _ hi0)) (.head _)
    i1 := (hI1.mono hsub8).mono hcons
    i2 := (hI2.mono hsub8).mono hcons
    i3 := (hI3.mono hsub8).mono hcons
    gdef := (hG.mono hall).mono hcons
    kv := hKv
    lks := hcons _ (hall6 _ hlk)
    look := fun n a b => (hlook n a b).mono hcons
    ms0 := hms0
    ms1 := hms1
    a0 := g00
    b0 := Int.le_of_lt_add_one g06
    a1 := g10
    b1 := Int.le_of_lt_add_one g16
    a2 := g20
    b2 := Int.le_of_lt_add_one g26
    a3 := g30
    b3 := Int.le_of_lt_add_one g36 }
  rw [cut lawBody 13 1]
  refine chunkH (rest := lawBody.drop 14) (d := d) (o1 := o1') K0 F X N T hi hn0 hn40 q2 htst ?_ ?_ (hcons _ (hall _ (hsub4 _ hc1m))) hc1 hM (hS0.mono hcons) hF hE ?_
  · intro p hp
    rcases List.mem_cons.mp hp with rfl | hp
    · exact Nat.ne_of_gt htd
    · exact n18 p hp
  · intro p hp
    rcases List.mem_cons.mp hp with rfl | hp
    · exact Nat.ne_of_lt hdst
    · exact n28 p hp
  clear F N
  intro n m9 nx9 h9 tk9 hJ9 F N
  obtain ⟨t9, ep9, ts9, es9, D, hr, num, dep, rfl, ⟨e1, e2, e3, e4, e5, ⟨tm, e6⟩, ⟨tn, e7⟩, _⟩, hb0, hb2, hdp0, hdpn, hS9, hD9⟩ := hJ9
  have hS9' := hS9.off hD0
  have hD8 : ∀ p ∈ tl8, p ∈ D ++ tl8 := fun p hp => List.mem_append.mpr (.inr hp)
  rw [cut lawBody 14 3]
  refine chunkI (rest := lawBody.drop 17) (d0 := d0) (o0 := o0) (tl := D ++ tl8) (lkn := d.lk num) (fn := d.fl num) (msn := d.ms num) (its := #[.ref l0, .ref l1, .ref l2]) K0 F X (News.sub N ?_) T e1 e2 e3 e4 e5 e6 e7 ?_ (hD8 _ (hsub8 _ hi0)) hD0 hS9' (hS0.mono hD8) (hB.mono hD8) (hD8 _ (hsub8 _ hrow)) ((hI1.mono hsub8).mono hD8) ((hI2.mono hsub8).mono hD8) ((hI3.mono hsub8).mono hD8) ((hG.mono hall).mono hD8) hKv
    ((hlook num hb0 hb2).mono hD8) ((hL0.mono hall6).mono hD8) (hD8 _ (hall6 _ hlk)) hb0 (by omega) (d.item hb0 hb2) rfl (hms0 num hb0 hb2) (hms1 num hb0 hb2) z0 z0' g00 (by omega) g10 (by omega) g20 (by omega) g30 (by omega) hret
  · intro p hp
    simp only [List.mem_cons, List.mem_append] at hp ⊢
    rcases hp with h | h | h <;> simp [h]
  · intro p hp
    rcases List.mem_append.mp hp with hp | hp
    · exact Nat.ne_of_gt (Nat.lt_trans hdst (hD9 p hp))
    · exact n38 p hp
end Mine
end
end
end
end
end
section
open PySem PySem.W PyProof.Rows PySem.Calls PySem.Spec PyProof.Rows.LCg PyProof.Rows.LCt
set_option maxRecDepth 100000 in
set_option maxHeartbeats 8000000 in
theorem PySem.Challenge.cw_pb0187_01_holds : PySem.Challenge.rw_pb0187_01.Holds := by
  w_top off
  w_on
  o_law
  refine holds_open (q := Mine.view) (loose := []) (Xt := Mine.xt) (XP := XL Mine.view []) (Yf := Hook.obs Mine.kH) (Ya := Hook.val Mine.kH) (YP := Hook.says Mine.kH) (N := 5334) Mine.left (Hook.of Mine.kH) (Hook.keeps Mine.kH) (fun s e => xl_of s (Bool.and_eq_true_iff.mp e).1) XL.keeps (by rfl) (by rfl) (by rfl) (fun s e => recFacts_of (Bool.and_eq_true_iff.mp e).2) (by rfl) (by first | assumption | decide +kernel) (by decide +kernel) ⟨rfl, rfl, rfl, rfl, rfl, by decide +kernel⟩ ?hw ?hc
  case hw => w_witness2
  w_strict k_go0
  refine Mine.lawRun (by assumption) (by assumption) (by assumption) (by assumption) (by assumption) (by exact rfl) (by assumption) (by assumption) (by assumption) (Eq.trans (by assumption) (by exact rfl)) (Eq.trans (by assumption) (by exact rfl)) (Eq.trans (by assumption) (by exact rfl)) (by passes_own) ?_
  intro m' h' tk F'
  k_steps
end
