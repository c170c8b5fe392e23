import PyProof.Rows.All
import Wide.All
import OpenK.AllK
import Wide.FinOn
import PySem.Challenge.RW_xw0302_02
open PySem PySem.W PySem.Calls PyProof.Rows
set_option Elab.async false
set_option maxRecDepth 100000
set_option maxHeartbeats 0
set_option linter.unusedVariables false
namespace Mine
def nthS : List Stmt → Nat → Stmt
  | [], _ => .Pass ⟨0, 0, 0, 0⟩
  | s :: _, 0 => s
  | _ :: r, n + 1 => nthS r n
def bodyAt (p : Program) (i : Nat) : Stmt := nthS p.main.body i
def memberAt (p : Program) (i j : Nat) : Stmt := match bodyAt p i with
  | .ClassDef _ _ _ b _ _ _ _ _ _ _ => nthS b j
  | s => s
/-- the function object that a def of the text makes -/
def fnO (s : Stmt) (qual : Str) (doc pm code : Value) : Obj := match s with
  | .FunctionDef n a b _ _ _ sc _ _ _ => { cls := .type "function", data := .func { name := n, qualname := qual, params := a, body := .stmts b, scope := sc, globals := 3, closure := [], defaults := .none, kwdefaults := .none, doc := doc, pyModule := pm, code := code } }
  | _ => { cls := .none, data := .seq #[] }
noncomputable def K : Params → Frag := fun P =>
   (nat_lit 2, { cls := Value.none, data := Data.dict #[{ hash := PyData.keyHash P (Str.ofString "type.__subclasses__.Exception.0"), key := Value.str (Str.ofString "type.__subclasses__.Exception.0") 219, val := Value.int 34 0 }, { hash := PyData.keyHash P (Str.ofString "type.__subclasses__.Exception.n"), key := Value.str (Str.ofString "type.__subclasses__.Exception.n") 220, val := Value.int 1 0 }] 2 })
   :: (nat_lit 3, { cls := Value.type "dict", data := Data.dict #[{ hash := PyData.keyHash P (Str.ofString "__name__"), key := Value.str (Str.ofString "__name__") 165, val := Value.str (Str.ofString "law_xw0302_02") 553 }, { hash := PyData.keyHash P (Str.ofString "__doc__"), key := Value.str (Str.ofString "__doc__") 166, val := Value.none }, { hash := PyData.keyHash P (Str.ofString "__package__"), key := Value.str (Str.ofString "__package__") 167, val := Value.none }, { hash := PyData.keyHash P (Str.ofString "__loader__"), key := Value.str (Str.ofString "__loader__") 168, val := Value.builtin "__main__.__loader__#opaque" }, { hash := PyData.keyHash P (Str.ofString "__spec__"), key := Value.str (Str.ofString "__spec__") 169, val := Value.none }, { hash := PyData.keyHash P (Str.ofString "__annotations__"), key := Value.str (Str.ofString "__annotations__") 170, val := Value.ref 6 }, { hash := PyData.keyHash P (Str.ofString "__builtins__"), key := Value.str (Str.ofString "__builtins__") 171, val := Value.ref 4 }, { hash := PyData.keyHash P (Str.ofString "__file__"), key := Value.str (Str.ofString "__file__") 173, val := Value.str (Str.ofString "/claim/cut.py") 172 }, { hash := PyData.keyHash P (Str.ofString "__cached__"), key := Value.str (Str.ofString "__cached__") 174, val := Value.none }, { hash := PyData.keyHash P (Str.ofString "SnobolError"), key := Value.str (Str.ofString "SnobolError") 222, val := Value.ref 34 }, { hash := PyData.keyHash P (Str.ofString "Pattern"), key := Value.str (Str.ofString "Pattern") 251, val := Value.ref 54 }, { hash := PyData.keyHash P (Str.ofString "Delayed"), key := Value.str (Str.ofString "Delayed") 280, val := Value.ref 75 }, { hash := PyData.keyHash P (Str.ofString "Code"), key := Value.str (Str.ofString "Code") 309, val := Value.ref 96 }, { hash := PyData.keyHash P (Str.ofString "NameRef"), key := Value.str (Str.ofString "NameRef") 342, val := Value.ref 117 }, { hash := PyData.keyHash P (Str.ofString "Holder"), key := Value.str (Str.ofString "Holder") 374, val := Value.ref 138 }, { hash := PyData.keyHash P (Str.ofString "kind_of"), key := Value.str (Str.ofString "kind_of") 381, val := Value.ref 149 }, { hash := PyData.keyHash P (Str.ofString "is_plain"), key := Value.str (Str.ofString "is_plain") 388, val := Value.ref 156 }, { hash := PyData.keyHash P (Str.ofString "fits"), key := Value.str (Str.ofString "fits") 396, val := Value.ref 163 }, { hash := PyData.keyHash P (Str.ofString "whole_of_text"), key := Value.str (Str.ofString "whole_of_text") 407, val := Value.ref 170 }, { hash := PyData.keyHash P (Str.ofString "to_whole"), key := Value.str (Str.ofString "to_whole") 415, val := Value.ref 177 }, { hash := PyData.keyHash P (Str.ofString "need_whole"), key := Value.str (Str.ofString "need_whole") 424, val := Value.ref 184 }, { hash := PyData.keyHash P (Str.ofString "table_key"), key := Value.str (Str.ofString "table_key") 432, val := Value.ref 191 }, { hash := PyData.keyHash P (Str.ofString "Array"), key := Value.str (Str.ofString "Array") 464, val := Value.ref 208 }, { hash := PyData.keyHash P (Str.ofString "Table"), key := Value.str (Str.ofString "Table") 491, val := Value.ref 227 }, { hash := PyData.keyHash P (Str.ofString "size_of_bounds"), key := Value.str (Str.ofString "size_of_bounds") 501, val := Value.ref 236 }, { hash := PyData.keyHash P (Str.ofString "array_place"), key := Value.str (Str.ofString "array_place") 513, val := Value.ref 243 }, { hash := PyData.keyHash P (Str.ofString "table_entry"), key := Value.str (Str.ofString "table_entry") 522, val := Value.ref 250 }, { hash := PyData.keyHash P (Str.ofString "put_entry"), key := Value.str (Str.ofString "put_entry") 531, val := Value.ref 257 }, { hash := PyData.keyHash P (Str.ofString "item_ref"), key := Value.str (Str.ofString "item_ref") 537, val := Value.ref 262 }, { hash := PyData.keyHash P (Str.ofString "slot_get"), key := Value.str (Str.ofString "slot_get") 544, val := Value.ref 269 }, { hash := PyData.keyHash P (Str.ofString "slot_set"), key := Value.str (Str.ofString "slot_set") 552, val := Value.ref 276 }, { hash := PyData.keyHash P (Str.ofString "_law_least"), key := Value.str (Str.ofString "_law_least") 563, val := Value.ref 283 }, { hash := PyData.keyHash P (Str.ofString "_law_table"), key := Value.str (Str.ofString "_law_table") 569, val := Value.ref 288 }, { hash := PyData.keyHash P (Str.ofString "law"), key := Value.str (Str.ofString "law") 575, val := Value.ref 293 }] 34 })
   :: (nat_lit 113, { cls := Value.type "code", data := Data.fields #[Value.str (Str.ofString "__init__") 322, Value.str (Str.ofString "NameRef.__init__") 323, Value.str (Str.ofString "/claim/cut.py") 324, Value.int 22 0, Value.int 4 0, Value.int 0 0, Value.int 0 0, Value.int 3 0, Value.ref 108, Value.bool true, Value.int 181 0, Value.ref 109, Value.none, Value.ref 110, Value.ref 111, Value.ref 112, Value.int 329 0, Value.int 22 0, Value.str (Str.ofString "/claim/cut.py") 330] })
   :: (nat_lit 114, fnO (memberAt PySem.Challenge.pw_xw0302_02 5 0) (Str.ofString "NameRef.__init__") (Value.none) (Value.str (Str.ofString "snobol.values") 187) (Value.ref 113))
   :: (nat_lit 115, { cls := Value.type "tuple", data := Data.seq #[Value.str (Str.ofString "key") 332, Value.str (Str.ofString "kind") 333, Value.str (Str.ofString "owner") 334] })
   :: (nat_lit 116, { cls := Value.type "dict", data := Data.dict #[{ hash := PyData.keyHash P (Str.ofString "__module__"), key := Value.str (Str.ofString "__module__") 317, val := Value.str (Str.ofString "snobol.values") 187 }, { hash := PyData.keyHash P (Str.ofString "__firstlineno__"), key := Value.str (Str.ofString "__firstlineno__") 321, val := Value.int 20 320 }, { hash := PyData.keyHash P (Str.ofString "__init__"), key := Value.str (Str.ofString "__init__") 331, val := Value.ref 114 }, { hash := PyData.keyHash P (Str.ofString "__static_attributes__"), key := Value.str (Str.ofString "__static_attributes__") 335, val := Value.ref 115 }, { hash := PyData.keyHash P (Str.ofString "__dict__"), key := Value.str (Str.ofString "__dict__") 337, val := Value.ref 118 }, { hash := PyData.keyHash P (Str.ofString "__weakref__"), key := Value.str (Str.ofString "__weakref__") 339, val := Value.ref 119 }, { hash := PyData.keyHash P (Str.ofString "__doc__"), key := Value.str (Str.ofString "__doc__") 340, val := Value.none }] 4 })
   :: (nat_lit 117, { cls := Value.type "type", data := Data.cls { name := Str.ofString "NameRef", bases := [Value.type "object"], mro := [Value.ref 117, Value.type "object"], ns := 116, qualname := Str.ofString "NameRef" }, slots := #[none, none, some (Value.str (Str.ofString "NameRef") 310), some (Value.str (Str.ofString "NameRef") 318), some (Value.builtin "object.__new__"), some (Value.bool true)] })
   :: (nat_lit 134, { cls := Value.type "code", data := Data.fields #[Value.str (Str.ofString "__init__") 355, Value.str (Str.ofString "Holder.__init__") 356, Value.str (Str.ofString "/claim/cut.py") 357, Value.int 28 0, Value.int 3 0, Value.int 0 0, Value.int 0 0, Value.int 3 0, Value.ref 129, Value.bool true, Value.int 181 0, Value.ref 130, Value.none, Value.ref 131, Value.ref 132, Value.ref 133, Value.int 361 0, Value.int 28 0, Value.str (Str.ofString "/claim/cut.py") 362] })
   :: (nat_lit 135, fnO (memberAt PySem.Challenge.pw_xw0302_02 6 0) (Str.ofString "Holder.__init__") (Value.none) (Value.str (Str.ofString "snobol.values") 187) (Value.ref 134))
   :: (nat_lit 137, { cls := Value.type "dict", data := Data.dict #[{ hash := PyData.keyHash P (Str.ofString "__module__"), key := Value.str (Str.ofString "__module__") 350, val := Value.str (Str.ofString "snobol.values") 187 }, { hash := PyData.keyHash P (Str.ofString "__firstlineno__"), key := Value.str (Str.ofString "__firstlineno__") 354, val := Value.int 26 353 }, { hash := PyData.keyHash P (Str.ofString "__init__"), key := Value.str (Str.ofString "__init__") 363, val := Value.ref 135 }, { hash := PyData.keyHash P (Str.ofString "__static_attributes__"), key := Value.str (Str.ofString "__static_attributes__") 367, val := Value.ref 136 }, { hash := PyData.keyHash P (Str.ofString "__dict__"), key := Value.str (Str.ofString "__dict__") 369, val := Value.ref 139 }, { hash := PyData.keyHash P (Str.ofString "__weakref__"), key := Value.str (Str.ofString "__weakref__") 371, val := Value.ref 140 }, { hash := PyData.keyHash P (Str.ofString "__doc__"), key := Value.str (Str.ofString "__doc__") 372, val := Value.none }] 4 })
   :: (nat_lit 138, { cls := Value.type "type", data := Data.cls { name := Str.ofString "Holder", bases := [Value.type "object"], mro := [Value.ref 138, Value.type "object"], ns := 137, qualname := Str.ofString "Holder", subclasses := [Value.ref 208, Value.ref 227] }, slots := #[none, none, some (Value.str (Str.ofString "Holder") 343), some (Value.str (Str.ofString "Holder") 351), some (Value.builtin "object.__new__"), some (Value.bool true)] })
   :: (nat_lit 155, { cls := Value.type "code", data := Data.fields #[Value.str (Str.ofString "is_plain") 382, Value.str (Str.ofString "is_plain") 383, Value.str (Str.ofString "/claim/cut.py") 384, Value.int 46 0, Value.int 1 0, Value.int 0 0, Value.int 0 0, Value.int 3 0, Value.ref 150, Value.bool true, Value.int 181 0, Value.ref 151, Value.none, Value.ref 152, Value.ref 153, Value.ref 154, Value.int 386 0, Value.int 46 0, Value.str (Str.ofString "/claim/cut.py") 387] })
   :: (nat_lit 156, fnO (bodyAt PySem.Challenge.pw_xw0302_02 8) (Str.ofString "is_plain") (Value.none) (Value.str (Str.ofString "snobol.values") 187) (Value.ref 155))
   :: (nat_lit 176, { cls := Value.type "code", data := Data.fields #[Value.str (Str.ofString "to_whole") 408, Value.str (Str.ofString "to_whole") 409, Value.str (Str.ofString "/claim/cut.py") 410, Value.int 63 0, Value.int 2 0, Value.int 0 0, Value.int 0 0, Value.int 3 0, Value.ref 171, Value.bool true, Value.int 181 0, Value.ref 172, Value.none, Value.ref 173, Value.ref 174, Value.ref 175, Value.int 413 0, Value.int 63 0, Value.str (Str.ofString "/claim/cut.py") 414] })
   :: (nat_lit 177, fnO (bodyAt PySem.Challenge.pw_xw0302_02 11) (Str.ofString "to_whole") (Value.none) (Value.str (Str.ofString "snobol.values") 187) (Value.ref 176))
   :: (nat_lit 183, { cls := Value.type "code", data := Data.fields #[Value.str (Str.ofString "need_whole") 416, Value.str (Str.ofString "need_whole") 417, Value.str (Str.ofString "/claim/cut.py") 418, Value.int 67 0, Value.int 2 0, Value.int 0 0, Value.int 0 0, Value.int 3 0, Value.ref 178, Value.bool true, Value.int 181 0, Value.ref 179, Value.none, Value.ref 180, Value.ref 181, Value.ref 182, Value.int 422 0, Value.int 67 0, Value.str (Str.ofString "/claim/cut.py") 423] })
   :: (nat_lit 184, fnO (bodyAt PySem.Challenge.pw_xw0302_02 12) (Str.ofString "need_whole") (Value.none) (Value.str (Str.ofString "snobol.values") 187) (Value.ref 183))
   :: (nat_lit 192, { cls := Value.type "tuple", data := Data.seq #[Value.ref 138] })
   :: (nat_lit 204, { cls := Value.type "code", data := Data.fields #[Value.str (Str.ofString "__init__") 447, Value.str (Str.ofString "Array.__init__") 448, Value.str (Str.ofString "/claim/cut.py") 449, Value.int 84 0, Value.int 5 0, Value.int 0 0, Value.int 0 0, Value.int 3 0, Value.ref 199, Value.bool true, Value.int 181 0, Value.ref 200, Value.none, Value.ref 201, Value.ref 202, Value.ref 203, Value.int 455 0, Value.int 84 0, Value.str (Str.ofString "/claim/cut.py") 456] })
   :: (nat_lit 205, fnO (memberAt PySem.Challenge.pw_xw0302_02 15 0) (Str.ofString "Array.__init__") (Value.none) (Value.str (Str.ofString "snobol.aggregates") 433) (Value.ref 204))
   :: (nat_lit 207, { cls := Value.type "dict", data := Data.dict #[{ hash := PyData.keyHash P (Str.ofString "__module__"), key := Value.str (Str.ofString "__module__") 442, val := Value.str (Str.ofString "snobol.aggregates") 433 }, { hash := PyData.keyHash P (Str.ofString "__firstlineno__"), key := Value.str (Str.ofString "__firstlineno__") 446, val := Value.int 82 445 }, { hash := PyData.keyHash P (Str.ofString "__init__"), key := Value.str (Str.ofString "__init__") 457, val := Value.ref 205 }, { hash := PyData.keyHash P (Str.ofString "__static_attributes__"), key := Value.str (Str.ofString "__static_attributes__") 461, val := Value.ref 206 }, { hash := PyData.keyHash P (Str.ofString "__doc__"), key := Value.str (Str.ofString "__doc__") 462, val := Value.none }] 2 })
   :: (nat_lit 208, { cls := Value.type "type", data := Data.cls { name := Str.ofString "Array", bases := [Value.ref 138], mro := [Value.ref 208, Value.ref 138, Value.type "object"], ns := 207, qualname := Str.ofString "Array" }, slots := #[some (Value.ref 192), none, some (Value.str (Str.ofString "Array") 435), some (Value.str (Str.ofString "Array") 443), some (Value.builtin "object.__new__"), some (Value.bool true)] })
   :: (nat_lit 226, { cls := Value.type "dict", data := Data.dict #[{ hash := PyData.keyHash P (Str.ofString "__module__"), key := Value.str (Str.ofString "__module__") 472, val := Value.str (Str.ofString "snobol.aggregates") 433 }, { hash := PyData.keyHash P (Str.ofString "__firstlineno__"), key := Value.str (Str.ofString "__firstlineno__") 476, val := Value.int 89 475 }, { hash := PyData.keyHash P (Str.ofString "__init__"), key := Value.str (Str.ofString "__init__") 484, val := Value.ref 224 }, { hash := PyData.keyHash P (Str.ofString "__static_attributes__"), key := Value.str (Str.ofString "__static_attributes__") 488, val := Value.ref 225 }, { hash := PyData.keyHash P (Str.ofString "__doc__"), key := Value.str (Str.ofString "__doc__") 489, val := Value.none }] 2 })
   :: (nat_lit 227, { cls := Value.type "type", data := Data.cls { name := Str.ofString "Table", bases := [Value.ref 138], mro := [Value.ref 227, Value.ref 138, Value.type "object"], ns := 226, qualname := Str.ofString "Table" }, slots := #[some (Value.ref 211), none, some (Value.str (Str.ofString "Table") 465), some (Value.str (Str.ofString "Table") 473), some (Value.builtin "object.__new__"), some (Value.bool true)] })
   :: (nat_lit 235, { cls := Value.type "code", data := Data.fields #[Value.str (Str.ofString "size_of_bounds") 492, Value.str (Str.ofString "size_of_bounds") 493, Value.str (Str.ofString "/claim/cut.py") 494, Value.int 96 0, Value.int 1 0, Value.int 0 0, Value.int 0 0, Value.int 3 0, Value.ref 230, Value.bool true, Value.int 181 0, Value.ref 231, Value.none, Value.ref 232, Value.ref 233, Value.ref 234, Value.int 499 0, Value.int 96 0, Value.str (Str.ofString "/claim/cut.py") 500] })
   :: (nat_lit 236, fnO (bodyAt PySem.Challenge.pw_xw0302_02 17) (Str.ofString "size_of_bounds") (Value.none) (Value.str (Str.ofString "snobol.aggregates") 433) (Value.ref 235))
   :: (nat_lit 242, { cls := Value.type "code", data := Data.fields #[Value.str (Str.ofString "array_place") 502, Value.str (Str.ofString "array_place") 503, Value.str (Str.ofString "/claim/cut.py") 504, Value.int 101 0, Value.int 2 0, Value.int 0 0, Value.int 0 0, Value.int 3 0, Value.ref 237, Value.bool true, Value.int 181 0, Value.ref 238, Value.none, Value.ref 239, Value.ref 240, Value.ref 241, Value.int 511 0, Value.int 101 0, Value.str (Str.ofString "/claim/cut.py") 512] })
   :: (nat_lit 243, fnO (bodyAt PySem.Challenge.pw_xw0302_02 18) (Str.ofString "array_place") (Value.none) (Value.str (Str.ofString "snobol.aggregates") 433) (Value.ref 242))
   :: (nat_lit 261, { cls := Value.type "code", data := Data.fields #[Value.str (Str.ofString "item_ref") 532, Value.str (Str.ofString "item_ref") 533, Value.str (Str.ofString "/claim/cut.py") 534, Value.int 119 0, Value.int 3 0, Value.int 0 0, Value.int 0 0, Value.int 3 0, Value.ref 258, Value.bool true, Value.int 181 0, Value.ref 259, Value.none, Value.none, Value.none, Value.ref 260, Value.int 535 0, Value.int 119 0, Value.str (Str.ofString "/claim/cut.py") 536] })
   :: (nat_lit 262, fnO (bodyAt PySem.Challenge.pw_xw0302_02 21) (Str.ofString "item_ref") (Value.none) (Value.str (Str.ofString "snobol.aggregates") 433) (Value.ref 261))
   :: (nat_lit 268, { cls := Value.type "code", data := Data.fields #[Value.str (Str.ofString "slot_get") 538, Value.str (Str.ofString "slot_get") 539, Value.str (Str.ofString "/claim/cut.py") 540, Value.int 127 0, Value.int 1 0, Value.int 0 0, Value.int 0 0, Value.int 3 0, Value.ref 263, Value.bool true, Value.int 181 0, Value.ref 264, Value.none, Value.ref 265, Value.ref 266, Value.ref 267, Value.int 542 0, Value.int 127 0, Value.str (Str.ofString "/claim/cut.py") 543] })
   :: (nat_lit 269, fnO (bodyAt PySem.Challenge.pw_xw0302_02 22) (Str.ofString "slot_get") (Value.none) (Value.str (Str.ofString "snobol.aggregates") 433) (Value.ref 268))
   :: (nat_lit 275, { cls := Value.type "code", data := Data.fields #[Value.str (Str.ofString "slot_set") 545, Value.str (Str.ofString "slot_set") 546, Value.str (Str.ofString "/claim/cut.py") 547, Value.int 133 0, Value.int 2 0, Value.int 0 0, Value.int 0 0, Value.int 3 0, Value.ref 270, Value.bool true, Value.int 181 0, Value.ref 271, Value.none, Value.ref 272, Value.ref 273, Value.ref 274, Value.int 550 0, Value.int 133 0, Value.str (Str.ofString "/claim/cut.py") 551] })
   :: (nat_lit 276, fnO (bodyAt PySem.Challenge.pw_xw0302_02 23) (Str.ofString "slot_set") (Value.none) (Value.str (Str.ofString "snobol.aggregates") 433) (Value.ref 275))
   :: (nat_lit 282, { cls := Value.type "code", data := Data.fields #[Value.str (Str.ofString "_law_least") 555, Value.str (Str.ofString "_law_least") 556, Value.str (Str.ofString "/claim/cut.py") 557, Value.int 141 0, Value.int 2 0, Value.int 0 0, Value.int 0 0, Value.int 3 0, Value.ref 277, Value.bool true, Value.int 181 0, Value.ref 278, Value.none, Value.ref 279, Value.ref 280, Value.ref 281, Value.int 561 0, Value.int 141 0, Value.str (Str.ofString "/claim/cut.py") 562] })
   :: (nat_lit 283, fnO (bodyAt PySem.Challenge.pw_xw0302_02 25) (Str.ofString "_law_least") (Value.none) (Value.str (Str.ofString "law_xw0302_02") 553) (Value.ref 282))
   :: (nat_lit 287, { cls := Value.type "code", data := Data.fields #[Value.str (Str.ofString "_law_table") 564, Value.str (Str.ofString "_law_table") 565, Value.str (Str.ofString "/claim/cut.py") 566, Value.int 147 0, Value.int 3 0, Value.int 0 0, Value.int 0 0, Value.int 3 0, Value.ref 284, Value.bool true, Value.int 181 0, Value.ref 285, Value.none, Value.none, Value.none, Value.ref 286, Value.int 567 0, Value.int 147 0, Value.str (Str.ofString "/claim/cut.py") 568] })
   :: (nat_lit 288, fnO (bodyAt PySem.Challenge.pw_xw0302_02 26) (Str.ofString "_law_table") (Value.none) (Value.str (Str.ofString "law_xw0302_02") 553) (Value.ref 287))
   :: (nat_lit 292, { cls := Value.type "code", data := Data.fields #[Value.str (Str.ofString "law") 570, Value.str (Str.ofString "law") 571, Value.str (Str.ofString "/claim/cut.py") 572, Value.int 164 0, Value.int 1 0, Value.int 0 0, Value.int 0 0, Value.int 3 0, Value.ref 289, Value.bool true, Value.int 181 0, Value.ref 290, Value.none, Value.none, Value.none, Value.ref 291, Value.int 573 0, Value.int 164 0, Value.str (Str.ofString "/claim/cut.py") 574] })
   :: (nat_lit 293, fnO (bodyAt PySem.Challenge.pw_xw0302_02 27) (Str.ofString "law") (Value.none) (Value.str (Str.ofString "law_xw0302_02") 553) (Value.ref 292))
   :: []
def addrs : List Addr := [nat_lit 2, nat_lit 3, nat_lit 113, nat_lit 114, nat_lit 115, nat_lit 116, nat_lit 117, nat_lit 134, nat_lit 135, nat_lit 137, nat_lit 138, nat_lit 155, nat_lit 156, nat_lit 176, nat_lit 177, nat_lit 183, nat_lit 184, nat_lit 192, nat_lit 204, nat_lit 205, nat_lit 207, nat_lit 208, nat_lit 226, nat_lit 227, nat_lit 235, nat_lit 236, nat_lit 242, nat_lit 243, nat_lit 261, nat_lit 262, nat_lit 268, nat_lit 269, nat_lit 275, nat_lit 276, nat_lit 282, nat_lit 283, nat_lit 287, nat_lit 288, nat_lit 292, nat_lit 293]
theorem addrs_ok : ∀ P, addrs = (K P).map (·.1) := fun _ => by kernel_rfl
noncomputable def qv : Program := view PySem.Challenge.pw_xw0302_02 [1, 2, 3, 4, 5, 6, 7, 8, 9, 10, 11, 12, 13, 15, 16, 17, 18, 19, 20, 21, 22, 23, 25, 26, 27]
theorem shared_of {s : Shared} {h : Heap} {g : Array GenState} {d : Drawn} {t : Nat} (e : (s.heap, s.gens, s.drawn, s.toks) = (h, g, d, t)) : s = ⟨h, g, d, t, s.os⟩ := by
  cases s
  cases e
  rfl
theorem core (w : World) (os : OsState) : (topFrom treeTable PySem.Challenge.pw_xw0302_02 w 4920 (Shared.mk (boot_heap w.params) #[] boot_drawn boot_toks os)).map
    (fun s => (openSeen qv [Str.ofString "SnobolError"] (importedModules (PySem.Challenge.pw_xw0302_02).main.body) (fun s => xlAt qv [] s && recOk (PySem.Challenge.rw_xw0302_02).row.records s) true s, (kmHook K addrs addrs_ok [285, 290]).obs s)) =
    some (openGood qv [Str.ofString "SnobolError"], (kmHook K addrs addrs_ok [285, 290]).val w) := by
  unfold topFrom
  rw [PySem.W.Fast.te4187177175401517315, PySem.W.Fast.te5923862056798008813, PySem.W.Fast.te14082659384304107361, PySem.W.Fast.te14364793385576792824, PySem.W.Fast.te8920871248978507458]
  kernel_rfl
theorem left : LeftO PySem.Challenge.pw_xw0302_02 qv [Str.ofString "SnobolError"] (fun s => xlAt qv [] s && recOk (PySem.Challenge.rw_xw0302_02).row.records s) (kmHook K addrs addrs_ok [285, 290]).obs (kmHook K addrs addrs_ok [285, 290]).val 4920 := by
  intro w
  have b := boot_open (p := PySem.Challenge.pw_xw0302_02) (N := 4920) (by kernel_rfl) (by kernel_rfl) (fun s => by kernel_rfl) w
  obtain ⟨s, hs, e⟩ := Option.map_eq_some_iff.mp b
  rw [shared_of e] at hs
  unfold openEnds
  rw [hs]
  exact core w s.os

theorem fill1 : PySem.Challenge.rw_xw0302_02 = PySem.Challenge.rw_xw0302_02 ∧ K = K := by
  k_fill
  exact ⟨rfl, rfl⟩
end Mine
namespace Mine
/-- the places of a heap below L -/
def lowH (h : Heap) (L : Nat) : Heap := ⟨h.objs.take L, h.life⟩
theorem lowH_get {h : Heap} {L b : Nat} (hb : b < L) : (lowH h L).get? b = h.get? b := by
  unfold lowH Heap.get?
  have e : (h.objs.take L)[b]? = h.objs[b]? := by
    rw [Array.take_eq_extract, Array.getElem?_extract]
    by_cases hs : b < h.objs.size
    · rw [if_pos (by omega)]; congr 1; omega
    · rw [if_neg (by omega), Array.getElem?_eq_none (by omega)]
  dsimp only
  rw [e]
theorem lowH_size {h : Heap} {L : Nat} : (lowH h L).objs.size ≤ L := by
  unfold lowH
  dsimp only
  rw [Array.take_eq_extract, Array.size_extract]
  omega
theorem lowH_of {h : Heap} {L b : Nat} {o : Obj} (e : (lowH h L).get? b = some o) : h.get? b = some o := by
  have hb : b < L := Nat.lt_of_lt_of_le (Heap.lt_size e) lowH_size
  rwa [lowH_get hb] at e

/-- the part of the ledger that is not named goes into the ground -/
theorem rebase {g h : Heap} {L : Addr} {m : Str → Option Value} {own small all : List (Addr × Obj)} (F : Fr g L h m) (N : News g L h (own ++ all)) (hlt : ∀ p ∈ all, p.1 < L) (hs : ∀ p ∈ small, p ∈ all) :
    ∃ g₂ : Heap, g.StaysIn g₂ ∧ Fr g₂ L h m ∧ News g₂ L h (own ++ small) ∧ (∀ p ∈ all, (∀ q ∈ own ++ small, p.1 ≠ q.1) → g₂.get? p.1 = some p.2) := by
  have hsub : ∀ p ∈ own ++ small, p ∈ own ++ all := fun p hp => List.mem_append.mpr ((List.mem_append.mp hp).imp id (hs p))
  refine ⟨hideAll (lowH h L) ((own ++ small).map (·.1)), fun b o e => ?_, ⟨F.ns, fun b o e => lowH_of (of_hideAll _ e), ?_⟩, fun p hp => ⟨(N p (hsub p hp)).1, (N p (hsub p hp)).2.1, hideAll_none _ (List.mem_map_of_mem hp)⟩, fun p hp hn => ?_⟩
  · refine hideAll_get _ ((lowH_get (Nat.lt_of_lt_of_le (Heap.lt_size e) F.above)).trans (F.keep b o e)) fun q => ?_
    obtain ⟨p, hp, rfl⟩ := List.mem_map.mp q
    rw [(N p (hsub p hp)).2.2] at e
    cases e
  · rw [hideAll_size]; exact lowH_size
  · refine hideAll_get _ ((lowH_get (hlt p hp)).trans (N p (List.mem_append.mpr (.inr hp))).1) fun q => ?_
    obtain ⟨r, hr, e⟩ := List.mem_map.mp q
    exact hn r hr e.symm

theorem below_stays {A : Around} {base g g₂ : Heap} {outer : List Env} (B : Below A base outer g) (st : g.StaysIn g₂) : Below A base outer g₂ :=
  ⟨B.stack, fun b o e => st b o (B.stays b o e), B.frames.of_keeps fun b o e _ => ⟨o, st b o e, rfl⟩⟩

theorem news_one {h₀ h : Heap} {L : Addr} {all : List (Addr × Obj)} (N : News h₀ L h all) {p q : Addr × Obj} (hp : p ∈ all) (hq : q ∈ all) (e : p.1 = q.1) : p = q := by
  have h1 := (N p hp).1
  have h2 := (N q hq).1
  rw [e, h2] at h1
  exact Prod.ext e (Option.some.inj h1).symm

/-- a def is left: what it changed of its small ledger (small to small'), what it made (tl), what it gives back -/
def LeaveT (g : Heap) (L' : Addr) (small : List (Addr × Obj)) (P : Value → List (Addr × Obj) → Prop) (s₁ : Shared) (v : Value) (s' : Shared) : Prop :=
  ∃ h' tk m' tl, s' = { s₁ with heap := h', toks := tk } ∧ Fr g L' h' m' ∧ News g L' h' (tl ++ small) ∧ (∀ p ∈ tl, ∀ q ∈ small, p.1 ≠ q.1) ∧ P v tl
theorem LeaveT.intro {g : Heap} {L' : Addr} {small : List (Addr × Obj)} {P : Value → List (Addr × Obj) → Prop} {s₁ : Shared} {v : Value} {h' : Heap} {tk : Nat} {m' : Str → Option Value} {led : List (Addr × Obj)} (tl : List (Addr × Obj)) (F : Fr g L' h' m') (N : News g L' h' led)
    (ht : SubL tl led) (hs : SubL small led) (hap : OffW tl small) (hp : P v tl) : LeaveT g L' small P s₁ v { s₁ with heap := h', toks := tk } :=
  ⟨h', tk, m', tl, rfl, F, fun p hp => (List.mem_append.mp hp).elim (fun q => N p (ht.mem p q)) fun q => N p (hs.mem p q), fun p hp q hq e => by
    rcases hap.at q hq p hp with h | h
    · exact h e.symm
    · have h1 := (N p (ht.mem p hp)).1
      have h2 := (N q (hs.mem q hq)).1
      rw [e] at h1
      exact h (congrArg Obj.cls (Option.some.inj (h2.symm.trans h1))), hp⟩

theorem leaveT_to {h₀ g g₂ h h₁ : Heap} {L L' : Addr} {m m₁ : Str → Option Value} {own small news : List (Addr × Obj)} {P : Value → List (Addr × Obj) → Prop} {R : Result → Shared → Prop} {v : Value} {s₁ s' : Shared} (N₀ : News h₀ L h news) (F : Fr g L' h₁ m₁) (N : News g L' h₁ (own ++ news)) (hs : ∀ q ∈ small, q ∈ news) (hown : ∀ q ∈ own, L' ≤ q.1) (hlt : ∀ p ∈ news, p.1 < L')
    (st : g.StaysIn g₂) (rest : ∀ p ∈ news, (∀ q ∈ own ++ small, p.1 ≠ q.1) → g₂.get? p.1 = some p.2)
    (hP : ∀ v tl h' tk, Fr h₀ L h' m → News h₀ L h' (tl ++ news) → (∀ p ∈ tl, ∀ q ∈ news, p.1 ≠ q.1) → P v tl → R (.ok (.ret v)) { s₁ with heap := h', toks := tk })
    (l : LeaveT g₂ L' small P s₁ v s') : LeaveK h₀ L m g R v s' := by
  obtain ⟨h', tk, m', tl, rfl, F₂, N₂, ap, hp⟩ := l
  have rest' : ∀ p ∈ news, (∀ q ∈ small, p.1 ≠ q.1) → g₂.get? p.1 = some p.2 := fun p hp hn => rest p hp fun q hq e => by
    rcases List.mem_append.mp hq with hq | hq
    · exact absurd (hlt p hp) (Nat.not_lt.mpr (e ▸ hown q hq))
    · exact hn q hq e
  have ap' : ∀ p ∈ tl, ∀ q ∈ news, p.1 ≠ q.1 := fun p hp q hq e => by
    by_cases c : ∃ r ∈ small, q.1 = r.1
    · obtain ⟨r, hr, c⟩ := c
      exact ap p hp r hr (e.trans c)
    · have h1 := rest' q hq fun r hr e => c ⟨r, hr, e⟩
      have h2 := (N₂ p (List.mem_append_left _ hp)).2.2
      rw [e, h1] at h2
      cases h2
  refine leaveK_ (m' := m') (news' := tl ++ small) ⟨F₂.ns, fun b o e => F₂.keep b o (st b o e), F.above⟩ (fun q hq => ⟨(N₂ q hq).1, (N₂ q hq).2.1, ?_⟩) fun a b => hP _ tl h' tk a (fun p hp => ?_) ap' hp
  · cases e : g.get? q.1 with
    | none => rfl
    | some o => have := (N₂ q hq).2.2; rw [st _ _ e] at this; cases this
  · rcases List.mem_append.mp hp with hp | hp
    · exact b p (List.mem_append_left _ hp)
    · refine ⟨?_, (N₀ p hp).2⟩
      by_cases c : ∃ r ∈ small, p.1 = r.1
      · obtain ⟨r, hr, c⟩ := c
        rw [news_one N₀ hp (hs r hr) c]
        exact (b r (List.mem_append_right _ hr)).1
      · exact F₂.keep _ _ (rest' p hp fun r hr e => c ⟨r, hr, e⟩)

/-- as LeaveT; what it made lies above its frame, so above all that stood -/
def LeaveU (g : Heap) (L' : Addr) (small : List (Addr × Obj)) (P : Value → List (Addr × Obj) → Prop) (s₁ : Shared) (v : Value) (s' : Shared) : Prop :=
  ∃ h' tk m' tl, s' = { s₁ with heap := h', toks := tk } ∧ Fr g L' h' m' ∧ News g L' h' (tl ++ small) ∧ (∀ p ∈ tl, L' ≤ p.1) ∧ P v tl
theorem LeaveU.intro {g : Heap} {L' : Addr} {small : List (Addr × Obj)} {P : Value → List (Addr × Obj) → Prop} {s₁ : Shared} {v : Value} {h' : Heap} {tk : Nat} {m' : Str → Option Value} {led : List (Addr × Obj)} (tl : List (Addr × Obj)) (F : Fr g L' h' m') (N : News g L' h' led)
    (ht : SubL tl led) (hs : SubL small led) (hap : ∀ p ∈ tl, @LE.le Nat _ L' p.1) (hp : P v tl) : LeaveU g L' small P s₁ v { s₁ with heap := h', toks := tk } :=
  ⟨h', tk, m', tl, rfl, F, fun p hp => (List.mem_append.mp hp).elim (fun q => N p (ht.mem p q)) fun q => N p (hs.mem p q), hap, hp⟩
theorem LeaveU.toT {g : Heap} {L' : Addr} {small news : List (Addr × Obj)} {P : Value → List (Addr × Obj) → Prop} {s₁ : Shared} {v : Value} {s' : Shared} (hlt : ∀ p ∈ news, p.1 < L') (hs : ∀ q ∈ small, q ∈ news) (l : LeaveU g L' small P s₁ v s') :
    LeaveT g L' small (fun v tl => P v tl ∧ ∀ p ∈ tl, ∀ q ∈ news, @LT.lt Nat _ q.1 p.1) s₁ v s' := by
  obtain ⟨h', tk, m', tl, e, F, N, ap, hp⟩ := l
  exact ⟨h', tk, m', tl, e, F, N, fun p hp q hq e => Nat.lt_irrefl _ (Nat.lt_of_lt_of_le (e ▸ hlt q (hs q hq)) (ap p hp)), hp, fun p hp q hq => Nat.lt_of_lt_of_le (hlt q hq) (ap p hp)⟩

theorem cells_above {cm : Str → Option Value} {n : Nat} : ∀ {cs : List (Str × Addr)} {cells : List (Addr × Obj)}, CellsAre cm cs cells → (∀ c ∈ cs, n ≤ c.2) → ∀ q ∈ cells, n ≤ q.1
  | _, _, .nil, _, _, hq => nomatch hq
  | _, _, .cons _ Y, h, q, hq => by
    rcases List.mem_cons.mp hq with rfl | hq
    · exact h _ (.head _)
    · exact cells_above Y (fun c hc => h c (.tail _ hc)) q hq
theorem cellsFrom_above {n₀ : Nat} : ∀ (names : List (Str × NameKind)) (n : Nat) (acc : List (Str × Addr)), n₀ ≤ n → (∀ c ∈ acc, n₀ ≤ c.2) → ∀ c ∈ cellsFrom n names acc, n₀ ≤ c.2
  | [], _, _, _, h, c, hc => h c hc
  | (x, k) :: r, n, acc, hn, h, c, hc => by
    unfold cellsFrom at hc
    split at hc
    · exact cellsFrom_above r (n + 1) _ (Nat.le_succ_of_le hn) (fun c hc => by
        rcases List.mem_cons.mp hc with rfl | hc
        · exact hn
        · exact h c hc) c hc
    · exact cellsFrom_above r n acc hn h c hc

section
variable {prog : Program} {w : World} {A A₀ : Around} {E : Value → Shared → Prop} {s : Shared} {K : Frag} {L : Addr} {h₀ base : Heap} {m mg mb : Str → Option Value} {news : List (Addr × Obj)} {p : Program} {loose : List Str} {mean : ExcName → Option Value}

theorem code_defT (small : List (Addr × Obj)) (P : Value → List (Addr × Obj) → Prop) {env : Env} {outer : List Env} {R : Result → Shared → Prop} {name qual : Str} {params : Arguments} {body : List Stmt} {scope : Scope} {dV kV doc pm cdv ct oc : Value} {an od : Option Addr} {osl : Array (Option Value)} {f : Addr} {args : Args} {binds : List (Str × Value)}
    (B : Below A₀ base outer h₀) (F : Fr h₀ L s.heap m) (X₀ : K.In h₀) (N : News h₀ L s.heap news) (T : Top p loose mean mg mb h₀) (hA : A.frames = some (env :: outer)) (hf : env.frame = some L) (hke : env.scope.kind = .function) (hs : ∀ q ∈ small, q ∈ news)
    (hP : ∀ v tl h' tk, Fr h₀ L h' m → News h₀ L h' (tl ++ news) → (∀ p ∈ tl, ∀ q ∈ news, p.1 ≠ q.1) → P v tl → R (.ok (.ret v)) { s with heap := h', toks := tk })
    (ho : K.lookup f = some ⟨oc, od, .func (fnOf name qual params body scope dV kV doc pm an cdv ct), osl⟩) (hcd : codeIn K cdv qual = true) (hroom : A.depth < recursionLimit)
    (hbind : BindsTo s (fnOf name qual params body scope dV kV doc pm an cdv ct) args binds) (hloc : ∀ y ∈ binds, scope.names.lookup y.1 = some .local)
    (h : ∀ g L' h₁ tk, Fr g L' h₁ (fun y => binds.reverse.lookup y) → News g L' h₁ small → Below A base (env :: outer) g → K.In g → Top p loose mean mg mb g → (∀ p ∈ small, p.1 < L') →
      wpAny (model prog w) (A.deeper (envOf qual scope L' f cdv)) (execs body (envOf qual scope L' f cdv))
        (fun fl s' => LeaveT g L' small P s (match fl with | .ret v => v | _ => .none) s') (fun _ _ => False)
        { s with heap := h₁, toks := tk })
    (hco : scope.isCoroutine = false) (hgen : scope.isGenerator = false) (hk : scope.kind = .function) (hcell : ∀ x ∈ scope.names, x.2 ≠ .cell) : codeAny (model prog w) A (.call (.ref f) args) R s := by
  refine callX_plain (cl := []) B F N T.nolimit hA hf hke ((X₀.keeps F.keep) _ _ ho) rfl (codeRec_of (X₀.keeps F.keep) hcd) hroom hbind hloc (fun g L' h₁ FG F' N' B' st l1 => ?_) hcell hco hgen hk
  obtain ⟨g₂, st₂, F₂, N₂, rest⟩ := rebase (own := []) F' N' l1 hs
  refine wpAny_mono (h g₂ L' h₁ _ F₂ N₂ (below_stays B' st₂) (X₀.keeps fun b o e => st₂ b o (st b o e)) (T.keeps fun b o e => st₂ b o (st b o e)) (fun q hq => l1 q (hs q hq))) (fun fl s' hl => ?_) fun _ _ e => e.elim
  exact leaveT_to (own := []) N F' N' hs (fun _ hq => nomatch hq) l1 st₂ rest hP hl

theorem code_defCT (small : List (Addr × Obj)) (P : Value → List (Addr × Obj) → Prop) {env : Env} {outer : List Env} {R : Result → Shared → Prop} {name qual : Str} {params : Arguments} {body : List Stmt} {scope : Scope} {dV kV doc pm cdv ct oc : Value} {an od : Option Addr} {osl : Array (Option Value)} {f : Addr} {args : Args} {binds : List (Str × Value)}
    (B : Below A₀ base outer h₀) (F : Fr h₀ L s.heap m) (X₀ : K.In h₀) (N : News h₀ L s.heap news) (T : Top p loose mean mg mb h₀) (hA : A.frames = some (env :: outer)) (hf : env.frame = some L) (hke : env.scope.kind = .function) (hs : ∀ q ∈ small, q ∈ news)
    (hP : ∀ v tl h' tk, Fr h₀ L h' m → News h₀ L h' (tl ++ news) → (∀ p ∈ tl, ∀ q ∈ news, p.1 ≠ q.1) → P v tl → R (.ok (.ret v)) { s with heap := h', toks := tk })
    (ho : K.lookup f = some ⟨oc, od, .func (fnOf name qual params body scope dV kV doc pm an cdv ct), osl⟩) (hcd : codeIn K cdv qual = true) (hroom : A.depth < recursionLimit)
    (hbind : BindsTo s (fnOf name qual params body scope dV kV doc pm an cdv ct) args binds) (hkind : (binds.all fun y => scope.names.lookup y.1 == some .local || scope.names.lookup y.1 == some .cell) = true)
    (hnd : ((cellsFrom 0 scope.names []).map (·.1)).Nodup)
    (h : ∀ g L' h₁ tk cells, Fr g L' h₁ (bindL (envOfC qual scope L' f cdv).kindOf binds fun _ => none) → News g L' h₁ (cells ++ small) →
      CellsAre (bindC (envOfC qual scope L' f cdv).kindOf binds fun _ => none) (cellsFrom (L' + 1) scope.names []) cells → Below A base (env :: outer) g → K.In g → Top p loose mean mg mb g → (∀ p ∈ small, p.1 < L') →
      wpAny (model prog w) (A.deeper (envOfC qual scope L' f cdv)) (execs body (envOfC qual scope L' f cdv))
        (fun fl s' => LeaveT g L' small P s (match fl with | .ret v => v | _ => .none) s') (fun _ _ => False)
        { s with heap := h₁, toks := tk })
    (hco : scope.isCoroutine = false) (hgen : scope.isGenerator = false) (hk : scope.kind = .function) : codeAny (model prog w) A (.call (.ref f) args) R s := by
  refine code_defC B F X₀ N T hA hf hke ho hcd hroom hbind hkind hnd (fun g L' h₁ tk cells FG F' N' Y B' X' T' l1 => ?_) hco hgen hk
  have hc : ∀ q ∈ cells, L' ≤ q.1 := cells_above Y (fun c hc => cellsFrom_above _ _ _ (Nat.le_succ L') (by intro c h; cases h) c hc)
  obtain ⟨g₂, st₂, F₂, N₂, rest⟩ := rebase (own := cells) F' N' l1 hs
  refine wpAny_mono (h g₂ L' h₁ tk cells F₂ N₂ Y (below_stays B' st₂) (X'.keeps st₂) (T'.keeps st₂) (fun q hq => l1 q (hs q hq))) (fun fl s' hl => ?_) fun _ _ e => e.elim
  exact leaveT_to N F' N' hs hc l1 st₂ rest hP hl
theorem code_defCU (small : List (Addr × Obj)) (P : Value → List (Addr × Obj) → Prop) {env : Env} {outer : List Env} {R : Result → Shared → Prop} {name qual : Str} {params : Arguments} {body : List Stmt} {scope : Scope} {dV kV doc pm cdv ct oc : Value} {an od : Option Addr} {osl : Array (Option Value)} {f : Addr} {args : Args} {binds : List (Str × Value)}
    (B : Below A₀ base outer h₀) (F : Fr h₀ L s.heap m) (X₀ : K.In h₀) (N : News h₀ L s.heap news) (T : Top p loose mean mg mb h₀) (hA : A.frames = some (env :: outer)) (hf : env.frame = some L) (hke : env.scope.kind = .function) (hs : ∀ q ∈ small, q ∈ news)
    (hP : ∀ v tl h' tk, Fr h₀ L h' m → News h₀ L h' (tl ++ news) → (∀ p ∈ tl, ∀ q ∈ news, @LT.lt Nat _ q.1 p.1) → P v tl → R (.ok (.ret v)) { s with heap := h', toks := tk })
    (ho : K.lookup f = some ⟨oc, od, .func (fnOf name qual params body scope dV kV doc pm an cdv ct), osl⟩) (hcd : codeIn K cdv qual = true) (hroom : A.depth < recursionLimit)
    (hbind : BindsTo s (fnOf name qual params body scope dV kV doc pm an cdv ct) args binds) (hkind : (binds.all fun y => scope.names.lookup y.1 == some .local || scope.names.lookup y.1 == some .cell) = true)
    (hnd : ((cellsFrom 0 scope.names []).map (·.1)).Nodup)
    (h : ∀ g L' h₁ tk cells, Fr g L' h₁ (bindL (envOfC qual scope L' f cdv).kindOf binds fun _ => none) → News g L' h₁ (cells ++ small) →
      CellsAre (bindC (envOfC qual scope L' f cdv).kindOf binds fun _ => none) (cellsFrom (L' + 1) scope.names []) cells → Below A base (env :: outer) g → K.In g → Top p loose mean mg mb g → (∀ p ∈ small, p.1 < L') →
      wpAny (model prog w) (A.deeper (envOfC qual scope L' f cdv)) (execs body (envOfC qual scope L' f cdv))
        (fun fl s' => LeaveU g L' small P s (match fl with | .ret v => v | _ => .none) s') (fun _ _ => False)
        { s with heap := h₁, toks := tk })
    (hco : scope.isCoroutine = false) (hgen : scope.isGenerator = false) (hk : scope.kind = .function) : codeAny (model prog w) A (.call (.ref f) args) R s := by
  refine code_defC B F X₀ N T hA hf hke ho hcd hroom hbind hkind hnd (fun g L' h₁ tk cells FG F' N' Y B' X' T' l1 => ?_) hco hgen hk
  have hc : ∀ q ∈ cells, L' ≤ q.1 := cells_above Y (fun c hc => cellsFrom_above _ _ _ (Nat.le_succ L') (by intro c h; cases h) c hc)
  obtain ⟨g₂, st₂, F₂, N₂, rest⟩ := rebase (own := cells) F' N' l1 hs
  refine wpAny_mono (h g₂ L' h₁ tk cells F₂ N₂ Y (below_stays B' st₂) (X'.keeps st₂) (T'.keeps st₂) (fun q hq => l1 q (hs q hq))) (fun fl s' hl => ?_) fun _ _ e => e.elim
  exact leaveT_to N F' N' hs hc l1 st₂ rest (P := fun v tl => P v tl ∧ ∀ p ∈ tl, ∀ q ∈ news, @LT.lt Nat _ q.1 p.1) (fun v tl h' tk a b _ d => hP v tl h' tk a b d.2 d.1) (LeaveU.toT l1 hs hl)
end
end Mine
namespace Mine
/-- as LeaveU, but one entry of the ledger (at a₀) may have changed -/
def LeaveW (g : Heap) (L' : Addr) (small : List (Addr × Obj)) (a₀ : Addr) (P : Value → List (Addr × Obj) → Obj → Prop) (s₁ : Shared) (v : Value) (s' : Shared) : Prop :=
  ∃ h' tk m' tl o₁, s' = { s₁ with heap := h', toks := tk } ∧ Fr g L' h' m' ∧ News g L' h' (tl ++ (a₀, o₁) :: small) ∧ (∀ p ∈ tl, L' ≤ p.1) ∧ P v tl o₁
theorem LeaveW.intro {g : Heap} {L' : Addr} {small : List (Addr × Obj)} {a₀ : Addr} {P : Value → List (Addr × Obj) → Obj → Prop} {s₁ : Shared} {v : Value} {h' : Heap} {tk : Nat} {m' : Str → Option Value} {led : List (Addr × Obj)} (tl : List (Addr × Obj)) (o₁ : Obj) (F : Fr g L' h' m') (N : News g L' h' led)
    (ht : SubL tl led) (hs : SubL ((a₀, o₁) :: small) led) (hap : ∀ p ∈ tl, @LE.le Nat _ L' p.1) (hp : P v tl o₁) : LeaveW g L' small a₀ P s₁ v { s₁ with heap := h', toks := tk } :=
  ⟨h', tk, m', tl, o₁, rfl, F, fun p hp => (List.mem_append.mp hp).elim (fun q => N p (ht.mem p q)) fun q => N p (hs.mem p q), hap, hp⟩

theorem leaveW_to {h₀ g g₂ h h₁ : Heap} {L L' : Addr} {m m₁ : Str → Option Value} {own small news : List (Addr × Obj)} {a₀ : Addr} {o₀ : Obj} {P : Value → List (Addr × Obj) → Obj → Prop} {R : Result → Shared → Prop} {v : Value} {s₁ s' : Shared} (N₀ : News h₀ L h ((a₀, o₀) :: news)) (F : Fr g L' h₁ m₁) (N : News g L' h₁ (own ++ (a₀, o₀) :: news)) (hs : ∀ q ∈ small, q ∈ news) (hne : ∀ q ∈ news, q.1 ≠ a₀) (hown : ∀ q ∈ own, L' ≤ q.1) (hlt : ∀ p ∈ (a₀, o₀) :: news, p.1 < L')
    (st : g.StaysIn g₂) (rest : ∀ p ∈ (a₀, o₀) :: news, (∀ q ∈ own ++ (a₀, o₀) :: small, p.1 ≠ q.1) → g₂.get? p.1 = some p.2)
    (hP : ∀ v tl o₁ h' tk, Fr h₀ L h' m → News h₀ L h' (tl ++ (a₀, o₁) :: news) → (∀ p ∈ tl, ∀ q ∈ (a₀, o₀) :: news, @LT.lt Nat _ q.1 p.1) → P v tl o₁ → R (.ok (.ret v)) { s₁ with heap := h', toks := tk })
    (l : LeaveW g₂ L' small a₀ P s₁ v s') : LeaveK h₀ L m g R v s' := by
  obtain ⟨h', tk, m', tl, o₁, rfl, F₂, N₂, ap, hp⟩ := l
  have rest' : ∀ p ∈ news, (∀ q ∈ small, p.1 ≠ q.1) → g₂.get? p.1 = some p.2 := fun p hp hn => rest p (.tail _ hp) fun q hq e => by
    rcases List.mem_append.mp hq with hq | hq
    · exact absurd (hlt p (.tail _ hp)) (Nat.not_lt.mpr (e ▸ hown q hq))
    · rcases List.mem_cons.mp hq with rfl | hq
      · exact hne p hp e
      · exact hn q hq e
  refine leaveK_ (m' := m') (news' := tl ++ (a₀, o₁) :: small) ⟨F₂.ns, fun b o e => F₂.keep b o (st b o e), F.above⟩ (fun q hq => ⟨(N₂ q hq).1, (N₂ q hq).2.1, ?_⟩) fun a b => hP _ tl o₁ h' tk a (fun p hp => ?_) (fun p hp q hq => Nat.lt_of_lt_of_le (hlt q hq) (ap p hp)) hp
  · cases e : g.get? q.1 with
    | none => rfl
    | some o => have := (N₂ q hq).2.2; rw [st _ _ e] at this; cases this
  · rcases List.mem_append.mp hp with hp | hp
    · exact b p (List.mem_append_left _ hp)
    · rcases List.mem_cons.mp hp with rfl | hp
      · exact b _ (List.mem_append_right _ (.head _))
      · refine ⟨?_, (N₀ p (.tail _ hp)).2⟩
        by_cases c : ∃ r ∈ small, p.1 = r.1
        · obtain ⟨r, hr, c⟩ := c
          rw [news_one N₀ (.tail _ hp) (.tail _ (hs r hr)) c]
          exact (b r (List.mem_append_right _ (.tail _ hr))).1
        · exact F₂.keep _ _ (rest' p hp fun r hr e => c ⟨r, hr, e⟩)

/-- as LeaveT (no order), one entry of the ledger (at a₀) may have changed -/
def LeaveOne (g : Heap) (L' : Addr) (small : List (Addr × Obj)) (a₀ : Addr) (P : Value → List (Addr × Obj) → Obj → Prop) (s₁ : Shared) (v : Value) (s' : Shared) : Prop :=
  ∃ h' tk m' tl o₁, s' = { s₁ with heap := h', toks := tk } ∧ Fr g L' h' m' ∧ News g L' h' (tl ++ (a₀, o₁) :: small) ∧ (∀ p ∈ tl, ∀ q ∈ (a₀, o₁) :: small, p.1 ≠ q.1) ∧ P v tl o₁
theorem LeaveOne.intro {g : Heap} {L' : Addr} {small : List (Addr × Obj)} {a₀ : Addr} {P : Value → List (Addr × Obj) → Obj → Prop} {s₁ : Shared} {v : Value} {h' : Heap} {tk : Nat} {m' : Str → Option Value} {led : List (Addr × Obj)} (tl : List (Addr × Obj)) (o₁ : Obj) (F : Fr g L' h' m') (N : News g L' h' led)
    (ht : SubL tl led) (hs : SubL ((a₀, o₁) :: small) led) (hap : OffW tl ((a₀, o₁) :: small)) (hp : P v tl o₁) : LeaveOne g L' small a₀ P s₁ v { s₁ with heap := h', toks := tk } :=
  ⟨h', tk, m', tl, o₁, rfl, F, fun p hp => (List.mem_append.mp hp).elim (fun q => N p (ht.mem p q)) fun q => N p (hs.mem p q), fun p hp q hq e => by
    rcases hap.at q hq p hp with h | h
    · exact h e.symm
    · have h1 := (N p (ht.mem p hp)).1
      have h2 := (N q (hs.mem q hq)).1
      rw [e] at h1
      exact h (congrArg Obj.cls (Option.some.inj (h2.symm.trans h1))), hp⟩
theorem leaveX_to {h₀ g g₂ h h₁ : Heap} {L L' : Addr} {m m₁ : Str → Option Value} {small news : List (Addr × Obj)} {a₀ : Addr} {o₀ : Obj} {P : Value → List (Addr × Obj) → Obj → Prop} {R : Result → Shared → Prop} {v : Value} {s₁ s' : Shared} (N₀ : News h₀ L h ((a₀, o₀) :: news)) (F : Fr g L' h₁ m₁) (hs : ∀ q ∈ small, q ∈ news) (hne : ∀ q ∈ news, q.1 ≠ a₀)
    (st : g.StaysIn g₂) (rest : ∀ p ∈ (a₀, o₀) :: news, (∀ q ∈ [] ++ (a₀, o₀) :: small, p.1 ≠ q.1) → g₂.get? p.1 = some p.2)
    (hP : ∀ v tl o₁ h' tk, Fr h₀ L h' m → News h₀ L h' (tl ++ (a₀, o₁) :: news) → (∀ p ∈ tl, ∀ q ∈ (a₀, o₀) :: news, p.1 ≠ q.1) → P v tl o₁ → R (.ok (.ret v)) { s₁ with heap := h', toks := tk })
    (l : LeaveOne g₂ L' small a₀ P s₁ v s') : LeaveK h₀ L m g R v s' := by
  obtain ⟨h', tk, m', tl, o₁, rfl, F₂, N₂, ap, hp⟩ := l
  have rest' : ∀ p ∈ news, (∀ q ∈ small, p.1 ≠ q.1) → g₂.get? p.1 = some p.2 := fun p hp hn => rest p (.tail _ hp) fun q hq e => by
    rw [List.nil_append] at hq
    rcases List.mem_cons.mp hq with rfl | hq
    · exact hne p hp e
    · exact hn q hq e
  have ap' : ∀ p ∈ tl, ∀ q ∈ (a₀, o₀) :: news, p.1 ≠ q.1 := fun p hp q hq e => by
    rcases List.mem_cons.mp hq with rfl | hq
    · exact ap p hp (a₀, o₁) (.head _) e
    · by_cases c : ∃ r ∈ small, q.1 = r.1
      · obtain ⟨r, hr, c⟩ := c
        exact ap p hp r (.tail _ hr) (e.trans c)
      · have h1 := rest' q hq fun r hr e => c ⟨r, hr, e⟩
        have h2 := (N₂ p (List.mem_append_left _ hp)).2.2
        rw [e, h1] at h2
        cases h2
  refine leaveK_ (m' := m') (news' := tl ++ (a₀, o₁) :: small) ⟨F₂.ns, fun b o e => F₂.keep b o (st b o e), F.above⟩ (fun q hq => ⟨(N₂ q hq).1, (N₂ q hq).2.1, ?_⟩) fun a b => hP _ tl o₁ h' tk a (fun p hp => ?_) ap' hp
  · cases e : g.get? q.1 with
    | none => rfl
    | some o => have := (N₂ q hq).2.2; rw [st _ _ e] at this; cases this
  · rcases List.mem_append.mp hp with hp | hp
    · exact b p (List.mem_append_left _ hp)
    · rcases List.mem_cons.mp hp with rfl | hp
      · exact b _ (List.mem_append_right _ (.head _))
      · refine ⟨?_, (N₀ p (.tail _ hp)).2⟩
        by_cases c : ∃ r ∈ small, p.1 = r.1
        · obtain ⟨r, hr, c⟩ := c
          rw [news_one N₀ (.tail _ hp) (.tail _ (hs r hr)) c]
          exact (b r (List.mem_append_right _ (.tail _ hr))).1
        · exact F₂.keep _ _ (rest' p hp fun r hr e => c ⟨r, hr, e⟩)

theorem leaveV_to {h₀ g g₂ h h₁ : Heap} {L L' : Addr} {m m₁ : Str → Option Value} {own small news : List (Addr × Obj)} {a₀ : Addr} {o₀ : Obj} {P : Value → List (Addr × Obj) → Obj → Prop} {R : Result → Shared → Prop} {v : Value} {s₁ s' : Shared} (N₀ : News h₀ L h ((a₀, o₀) :: news)) (F : Fr g L' h₁ m₁) (N : News g L' h₁ (own ++ (a₀, o₀) :: news)) (hs : ∀ q ∈ small, q ∈ news) (hne : ∀ q ∈ news, q.1 ≠ a₀) (hown : ∀ q ∈ own, L' ≤ q.1) (hlt : ∀ p ∈ (a₀, o₀) :: news, p.1 < L')
    (st : g.StaysIn g₂) (rest : ∀ p ∈ (a₀, o₀) :: news, (∀ q ∈ own ++ (a₀, o₀) :: small, p.1 ≠ q.1) → g₂.get? p.1 = some p.2)
    (hP : ∀ v tl o₁ h' tk, Fr h₀ L h' m → News h₀ L h' (tl ++ (a₀, o₁) :: news) → (∀ p ∈ tl, ∀ q ∈ (a₀, o₀) :: news, p.1 ≠ q.1) → P v tl o₁ → R (.ok (.ret v)) { s₁ with heap := h', toks := tk })
    (l : LeaveOne g₂ L' small a₀ P s₁ v s') : LeaveK h₀ L m g R v s' := by
  obtain ⟨h', tk, m', tl, o₁, rfl, F₂, N₂, ap, hp⟩ := l
  have rest' : ∀ p ∈ news, (∀ q ∈ small, p.1 ≠ q.1) → g₂.get? p.1 = some p.2 := fun p hp hn => rest p (.tail _ hp) fun q hq e => by
    rcases List.mem_append.mp hq with hq | hq
    · exact absurd (hlt p (.tail _ hp)) (Nat.not_lt.mpr (e ▸ hown q hq))
    · rcases List.mem_cons.mp hq with rfl | hq
      · exact hne p hp e
      · exact hn q hq e
  have ap' : ∀ p ∈ tl, ∀ q ∈ (a₀, o₀) :: news, p.1 ≠ q.1 := fun p hp q hq e => by
    rcases List.mem_cons.mp hq with rfl | hq
    · exact ap p hp (a₀, o₁) (.head _) e
    · by_cases c : ∃ r ∈ small, q.1 = r.1
      · obtain ⟨r, hr, c⟩ := c
        exact ap p hp r (.tail _ hr) (e.trans c)
      · have h1 := rest' q hq fun r hr e => c ⟨r, hr, e⟩
        have h2 := (N₂ p (List.mem_append_left _ hp)).2.2
        rw [e, h1] at h2
        cases h2
  refine leaveK_ (m' := m') (news' := tl ++ (a₀, o₁) :: small) ⟨F₂.ns, fun b o e => F₂.keep b o (st b o e), F.above⟩ (fun q hq => ⟨(N₂ q hq).1, (N₂ q hq).2.1, ?_⟩) fun a b => hP _ tl o₁ h' tk a (fun p hp => ?_) ap' hp
  · cases e : g.get? q.1 with
    | none => rfl
    | some o => have := (N₂ q hq).2.2; rw [st _ _ e] at this; cases this
  · rcases List.mem_append.mp hp with hp | hp
    · exact b p (List.mem_append_left _ hp)
    · rcases List.mem_cons.mp hp with rfl | hp
      · exact b _ (List.mem_append_right _ (.head _))
      · refine ⟨?_, (N₀ p (.tail _ hp)).2⟩
        by_cases c : ∃ r ∈ small, p.1 = r.1
        · obtain ⟨r, hr, c⟩ := c
          rw [news_one N₀ (.tail _ hp) (.tail _ (hs r hr)) c]
          exact (b r (List.mem_append_right _ (.tail _ hr))).1
        · exact F₂.keep _ _ (rest' p hp fun r hr e => c ⟨r, hr, e⟩)

theorem LeaveOne.intro2 {g : Heap} {L' : Addr} {small : List (Addr × Obj)} {a₀ : Addr} {P : Value → List (Addr × Obj) → Obj → Prop} {s₁ : Shared} {v : Value} {h' : Heap} {tk : Nat} {m' : Str → Option Value} {led : List (Addr × Obj)} (tl : List (Addr × Obj)) (o₁ : Obj) (F : Fr g L' h' m') (N : News g L' h' led)
    (ht : ∀ p ∈ tl, p ∈ led) (hs : ∀ p ∈ (a₀, o₁) :: small, p ∈ led) (hap : ∀ p ∈ tl, ∀ q ∈ (a₀, o₁) :: small, p.1 ≠ q.1) (hp : P v tl o₁) : LeaveOne g L' small a₀ P s₁ v { s₁ with heap := h', toks := tk } :=
  ⟨h', tk, m', tl, o₁, rfl, F, fun p hp => (List.mem_append.mp hp).elim (fun q => N p (ht p q)) fun q => N p (hs p q), hap, hp⟩

section
variable {prog : Program} {w : World} {A A₀ : Around} {E : Value → Shared → Prop} {s : Shared} {K : Frag} {L : Addr} {h₀ base : Heap} {m mg mb : Str → Option Value} {news : List (Addr × Obj)} {p : Program} {loose : List Str} {mean : ExcName → Option Value}

theorem code_defCW (small : List (Addr × Obj)) (a₀ : Addr) (o₀ : Obj) (P : Value → List (Addr × Obj) → Obj → Prop) {env : Env} {outer : List Env} {R : Result → Shared → Prop} {name qual : Str} {params : Arguments} {body : List Stmt} {scope : Scope} {dV kV doc pm cdv ct oc : Value} {an od : Option Addr} {osl : Array (Option Value)} {f : Addr} {args : Args} {binds : List (Str × Value)}
    (B : Below A₀ base outer h₀) (F : Fr h₀ L s.heap m) (X₀ : K.In h₀) (N : News h₀ L s.heap ((a₀, o₀) :: news)) (T : Top p loose mean mg mb h₀) (hA : A.frames = some (env :: outer)) (hf : env.frame = some L) (hke : env.scope.kind = .function) (hs : ∀ q ∈ small, q ∈ news) (hne : ∀ q ∈ news, q.1 ≠ a₀)
    (hP : ∀ v tl o₁ h' tk, Fr h₀ L h' m → News h₀ L h' (tl ++ (a₀, o₁) :: news) → (∀ p ∈ tl, ∀ q ∈ (a₀, o₀) :: news, @LT.lt Nat _ q.1 p.1) → P v tl o₁ → R (.ok (.ret v)) { s with heap := h', toks := tk })
    (ho : K.lookup f = some ⟨oc, od, .func (fnOf name qual params body scope dV kV doc pm an cdv ct), osl⟩) (hcd : codeIn K cdv qual = true) (hroom : A.depth < recursionLimit)
    (hbind : BindsTo s (fnOf name qual params body scope dV kV doc pm an cdv ct) args binds) (hkind : (binds.all fun y => scope.names.lookup y.1 == some .local || scope.names.lookup y.1 == some .cell) = true)
    (hnd : ((cellsFrom 0 scope.names []).map (·.1)).Nodup)
    (h : ∀ g L' h₁ tk cells, Fr g L' h₁ (bindL (envOfC qual scope L' f cdv).kindOf binds fun _ => none) → News g L' h₁ (cells ++ (a₀, o₀) :: small) →
      CellsAre (bindC (envOfC qual scope L' f cdv).kindOf binds fun _ => none) (cellsFrom (L' + 1) scope.names []) cells → Below A base (env :: outer) g → K.In g → Top p loose mean mg mb g → (∀ b o, h₀.get? b = some o → g.get? b = some o) → (∀ p ∈ (a₀, o₀) :: small, p.1 < L') →
      wpAny (model prog w) (A.deeper (envOfC qual scope L' f cdv)) (execs body (envOfC qual scope L' f cdv))
        (fun fl s' => LeaveW g L' small a₀ P s (match fl with | .ret v => v | _ => .none) s') (fun _ _ => False)
        { s with heap := h₁, toks := tk })
    (hco : scope.isCoroutine = false) (hgen : scope.isGenerator = false) (hk : scope.kind = .function) : codeAny (model prog w) A (.call (.ref f) args) R s := by
  refine callX_cells B F N T.nolimit hA hf hke ((X₀.keeps F.keep) _ _ ho) rfl (codeRec_of (X₀.keeps F.keep) hcd) hroom hbind (kindsX hkind) hnd (fun g L' h₁ tk cells FG F' N' Y B' st l1 => ?_) hco hgen hk
  have hc : ∀ q ∈ cells, L' ≤ q.1 := cells_above Y (fun c hc => cellsFrom_above _ _ _ (Nat.le_succ L') (by intro c h; cases h) c hc)
  have hs' : ∀ q ∈ (a₀, o₀) :: small, q ∈ (a₀, o₀) :: news := fun q hq => by
    rcases List.mem_cons.mp hq with rfl | hq
    · exact .head _
    · exact .tail _ (hs q hq)
  obtain ⟨g₂, st₂, F₂, N₂, rest⟩ := rebase (own := cells) F' N' l1 hs'
  have st' : ∀ b o, h₀.get? b = some o → g₂.get? b = some o := fun b o e => st₂ b o (st b o e)
  refine wpAny_mono (h g₂ L' h₁ tk cells F₂ N₂ Y (below_stays B' st₂) (X₀.keeps st') (T.keeps st') st' (fun q hq => l1 q (hs' q hq))) (fun fl s' hl => ?_) fun _ _ e => e.elim
  exact leaveW_to N F' N' hs hne hc l1 st₂ rest hP hl
theorem code_defCV (small : List (Addr × Obj)) (a₀ : Addr) (o₀ : Obj) (P : Value → List (Addr × Obj) → Obj → Prop) {env : Env} {outer : List Env} {R : Result → Shared → Prop} {name qual : Str} {params : Arguments} {body : List Stmt} {scope : Scope} {dV kV doc pm cdv ct oc : Value} {an od : Option Addr} {osl : Array (Option Value)} {f : Addr} {args : Args} {binds : List (Str × Value)}
    (B : Below A₀ base outer h₀) (F : Fr h₀ L s.heap m) (X₀ : K.In h₀) (N : News h₀ L s.heap ((a₀, o₀) :: news)) (T : Top p loose mean mg mb h₀) (hA : A.frames = some (env :: outer)) (hf : env.frame = some L) (hke : env.scope.kind = .function) (hs : ∀ q ∈ small, q ∈ news) (hne : ∀ q ∈ news, q.1 ≠ a₀)
    (hP : ∀ v tl o₁ h' tk, Fr h₀ L h' m → News h₀ L h' (tl ++ (a₀, o₁) :: news) → (∀ p ∈ tl, ∀ q ∈ (a₀, o₀) :: news, p.1 ≠ q.1) → P v tl o₁ → R (.ok (.ret v)) { s with heap := h', toks := tk })
    (ho : K.lookup f = some ⟨oc, od, .func (fnOf name qual params body scope dV kV doc pm an cdv ct), osl⟩) (hcd : codeIn K cdv qual = true) (hroom : A.depth < recursionLimit)
    (hbind : BindsTo s (fnOf name qual params body scope dV kV doc pm an cdv ct) args binds) (hkind : (binds.all fun y => scope.names.lookup y.1 == some .local || scope.names.lookup y.1 == some .cell) = true)
    (hnd : ((cellsFrom 0 scope.names []).map (·.1)).Nodup)
    (h : ∀ g L' h₁ tk cells, Fr g L' h₁ (bindL (envOfC qual scope L' f cdv).kindOf binds fun _ => none) → News g L' h₁ (cells ++ (a₀, o₀) :: small) →
      CellsAre (bindC (envOfC qual scope L' f cdv).kindOf binds fun _ => none) (cellsFrom (L' + 1) scope.names []) cells → Below A base (env :: outer) g → K.In g → Top p loose mean mg mb g → (∀ b o, h₀.get? b = some o → g.get? b = some o) → (∀ p ∈ (a₀, o₀) :: small, p.1 < L') →
      wpAny (model prog w) (A.deeper (envOfC qual scope L' f cdv)) (execs body (envOfC qual scope L' f cdv))
        (fun fl s' => LeaveOne g L' small a₀ P s (match fl with | .ret v => v | _ => .none) s') (fun _ _ => False)
        { s with heap := h₁, toks := tk })
    (hco : scope.isCoroutine = false) (hgen : scope.isGenerator = false) (hk : scope.kind = .function) : codeAny (model prog w) A (.call (.ref f) args) R s := by
  refine callX_cells B F N T.nolimit hA hf hke ((X₀.keeps F.keep) _ _ ho) rfl (codeRec_of (X₀.keeps F.keep) hcd) hroom hbind (kindsX hkind) hnd (fun g L' h₁ tk cells FG F' N' Y B' st l1 => ?_) hco hgen hk
  have hc : ∀ q ∈ cells, L' ≤ q.1 := cells_above Y (fun c hc => cellsFrom_above _ _ _ (Nat.le_succ L') (by intro c h; cases h) c hc)
  have hs' : ∀ q ∈ (a₀, o₀) :: small, q ∈ (a₀, o₀) :: news := fun q hq => by
    rcases List.mem_cons.mp hq with rfl | hq
    · exact .head _
    · exact .tail _ (hs q hq)
  obtain ⟨g₂, st₂, F₂, N₂, rest⟩ := rebase (own := cells) F' N' l1 hs'
  have st' : ∀ b o, h₀.get? b = some o → g₂.get? b = some o := fun b o e => st₂ b o (st b o e)
  refine wpAny_mono (h g₂ L' h₁ tk cells F₂ N₂ Y (below_stays B' st₂) (X₀.keeps st') (T.keeps st') st' (fun q hq => l1 q (hs' q hq))) (fun fl s' hl => ?_) fun _ _ e => e.elim
  exact leaveV_to N F' N' hs hne hc l1 st₂ rest hP hl
theorem code_defW (small : List (Addr × Obj)) (a₀ : Addr) (o₀ : Obj) (P : Value → List (Addr × Obj) → Obj → Prop) {env : Env} {outer : List Env} {R : Result → Shared → Prop} {name qual : Str} {params : Arguments} {body : List Stmt} {scope : Scope} {dV kV doc pm cdv ct oc : Value} {an od : Option Addr} {osl : Array (Option Value)} {f : Addr} {args : Args} {binds : List (Str × Value)}
    (B : Below A₀ base outer h₀) (F : Fr h₀ L s.heap m) (X₀ : K.In h₀) (N : News h₀ L s.heap ((a₀, o₀) :: news)) (T : Top p loose mean mg mb h₀) (hA : A.frames = some (env :: outer)) (hf : env.frame = some L) (hke : env.scope.kind = .function) (hs : ∀ q ∈ small, q ∈ news) (hne : ∀ q ∈ news, q.1 ≠ a₀)
    (hP : ∀ v tl o₁ h' tk, Fr h₀ L h' m → News h₀ L h' (tl ++ (a₀, o₁) :: news) → (∀ p ∈ tl, ∀ q ∈ (a₀, o₀) :: news, p.1 ≠ q.1) → P v tl o₁ → R (.ok (.ret v)) { s with heap := h', toks := tk })
    (ho : K.lookup f = some ⟨oc, od, .func (fnOf name qual params body scope dV kV doc pm an cdv ct), osl⟩) (hcd : codeIn K cdv qual = true) (hroom : A.depth < recursionLimit)
    (hbind : BindsTo s (fnOf name qual params body scope dV kV doc pm an cdv ct) args binds) (hloc : ∀ y ∈ binds, scope.names.lookup y.1 = some .local)
    (h : ∀ g L' h₁ tk, Fr g L' h₁ (fun y => binds.reverse.lookup y) → News g L' h₁ ((a₀, o₀) :: small) → Below A base (env :: outer) g → K.In g → Top p loose mean mg mb g → (∀ p ∈ (a₀, o₀) :: small, p.1 < L') →
      wpAny (model prog w) (A.deeper (envOf qual scope L' f cdv)) (execs body (envOf qual scope L' f cdv))
        (fun fl s' => LeaveOne g L' small a₀ P s (match fl with | .ret v => v | _ => .none) s') (fun _ _ => False)
        { s with heap := h₁, toks := tk })
    (hco : scope.isCoroutine = false) (hgen : scope.isGenerator = false) (hk : scope.kind = .function) (hcell : ∀ x ∈ scope.names, x.2 ≠ .cell) : codeAny (model prog w) A (.call (.ref f) args) R s := by
  refine callX_plain (cl := []) B F N T.nolimit hA hf hke ((X₀.keeps F.keep) _ _ ho) rfl (codeRec_of (X₀.keeps F.keep) hcd) hroom hbind hloc (fun g L' h₁ FG F' N' B' st l1 => ?_) hcell hco hgen hk
  have hs' : ∀ q ∈ (a₀, o₀) :: small, q ∈ (a₀, o₀) :: news := fun q hq => by
    rcases List.mem_cons.mp hq with rfl | hq
    · exact .head _
    · exact .tail _ (hs q hq)
  obtain ⟨g₂, st₂, F₂, N₂, rest⟩ := rebase (own := []) F' N' l1 hs'
  refine wpAny_mono (h g₂ L' h₁ _ F₂ N₂ (below_stays B' st₂) (X₀.keeps fun b o e => st₂ b o (st b o e)) (T.keeps fun b o e => st₂ b o (st b o e)) (fun q hq => l1 q (hs' q hq))) (fun fl s' hl => ?_) fun _ _ e => e.elim
  exact leaveX_to N F' hs hne st₂ rest hP hl
end
end Mine
namespace Mine
/-- a word, as the text that it is -/
def S (u : List Nat) : Str := ⟨u.toArray⟩
/-- the words of one to three letters; W0: with the empty one -/
def W : List (List Nat) := [[97], [98], [97, 97], [97, 98], [98, 97], [98, 98], [97, 97, 97], [97, 97, 98], [97, 98, 97], [97, 98, 98], [98, 97, 97], [98, 97, 98], [98, 98, 97], [98, 98, 98]]
def W0 : List (List Nat) := [] :: W
def dif (a b : Nat) : Int := if a = b then 0 else 1
/-- what _law_least reckons -/
def lev : Nat → List Nat → List Nat → Int
  | 0, u, v => u.length + v.length
  | _ + 1, [], v => v.length
  | _ + 1, a :: u, [] => (a :: u).length
  | n + 1, a :: u, b :: v => min (min (lev n u (b :: v) + 1) (lev n (a :: u) v + 1)) (lev n u v + dif a b)
/-- a place of the table -/
def rowNext (u v : List Nat) (i : Nat) (prev : Nat → Int) : Nat → Int
  | 0 => i + 1
  | j + 1 => min (min (prev (j + 1)) (rowNext u v i prev j) + 1) (prev j + dif (u.getD i 0) (v.getD j 0))
def cell (u v : List Nat) : Nat → Nat → Int
  | 0 => fun j => j
  | i + 1 => rowNext u v i (cell u v i)
/-- the table, line by line -/
def tab (u v : List Nat) : List Int := (List.range (u.length + 1)).flatMap fun i => (List.range (v.length + 1)).map fun j => cell u v i j
theorem W_tail : ∀ u ∈ W0, u.tail ∈ W0 := by decide
theorem S_cons_ne (a : Nat) (u : List Nat) : (S (a :: u) == Str.ofString "") = false := by
  rw [beq_eq_false_iff_ne]
  intro e
  have := congrArg (fun s : Str => s.cps.size) e
  rw [show (Str.ofString "").cps.size = 0 from rfl] at this
  simp [S] at this
theorem slice_tail : ∀ u ∈ W0, Txt.slice (S u) (some 1) none = S u.tail := by decide +kernel
theorem item_0 : ∀ u ∈ W0, u ≠ [] → Txt.item (S u) 0 = S [u.headD 0] := by decide +kernel
theorem item_W : ∀ u ∈ W0, ∀ k < 3, k < u.length → Txt.item (S u) ((k : Nat) : Int) = S [u.getD k 0] := by decide +kernel
theorem W0_len : ∀ u ∈ W0, u.length ≤ 3 := by decide
theorem item_eq {u : List Nat} (hu : u ∈ W0) {i : Int} (h0 : 0 ≤ i) (h1 : i < u.length) : Txt.item (S u) i = S [u.getD i.toNat 0] := by
  have e : i = ((i.toNat : Nat) : Int) := (Int.toNat_of_nonneg h0).symm
  have := W0_len u hu
  rw [e, Int.toNat_natCast]
  exact item_W u hu i.toNat (by omega) (by omega)
theorem S_one (a b : Nat) : (S [a] != S [b]) = (a != b) := by
  rw [Bool.eq_iff_iff]
  simp [S]
theorem lev_nil {n : Nat} {v : List Nat} : lev n [] v = v.length := by
  cases n
  · simp [lev]
  · rfl
theorem lev_cons_nil {n a : Nat} {u : List Nat} : lev n (a :: u) [] = ((a :: u).length : Int) + 0 := by
  cases n
  · simp [lev]
  · simp [lev]
theorem lev_of {n a b : Nat} {u v : List Nat} {M : Int}
    (h : M = lev n (a :: u).tail (b :: v) + 1 ∨ M = lev n (a :: u) (b :: v).tail + 1 ∨ M = lev n (a :: u).tail (b :: v).tail + if ((a :: u).getD (Int.toNat 0) 0 != (b :: v).getD (Int.toNat 0) 0) = true then 1 else 0)
    (h' : M ≤ lev n (a :: u).tail (b :: v) + 1 ∧ M ≤ lev n (a :: u) (b :: v).tail + 1 ∧ M ≤ lev n (a :: u).tail (b :: v).tail + if ((a :: u).getD (Int.toNat 0) 0 != (b :: v).getD (Int.toNat 0) 0) = true then 1 else 0) : M = lev (n + 1) (a :: u) (b :: v) := by
  have e : (if ((a :: u).getD (Int.toNat 0) 0 != (b :: v).getD (Int.toNat 0) 0) = true then (1 : Int) else 0) = dif a b := by
    show (if (a != b) = true then (1 : Int) else 0) = dif a b
    unfold dif
    by_cases c : a = b <;> simp [c]
  rw [e] at h h'
  simp only [List.tail_cons] at h h'
  show M = min (min (lev n u (b :: v) + 1) (lev n (a :: u) v + 1)) (lev n u v + dif a b)
  omega
section
variable {prog : Program} {w : World} {A : Around} {E : Value → Shared → Prop} {s : Shared}
theorem len_S {u : List Nat} {t : Tok} {Q : Value → Shared → Prop} (hu : u.length ≤ 100) (h : Q (.int u.length (s.toks + 1)) { s with toks := s.toks + 1 + 1 }) : wpAny (model prog w) A (call (.builtin "len") [.str (S u) t]) Q E s :=
  P.len_str (x := S u) (by show ¬ ((u.length : Int) ≥ 2 ^ 63); omega) h
theorem S_fits {u : List Nat} (hu : u.length ≤ 100) : (S u).length ≤ sizeLine := Nat.le_trans (show u.length ≤ 100 from hu) (by decide)
theorem item_S {u : List Nat} {i : Int} {t v : Tok} {value slice : PySem.Expr} {Q : Value → Shared → Prop} (hu : u ∈ W0) (h0 : 0 ≤ i) (h1 : i < u.length) (h : Q (.str (S [u.getD i.toNat 0]) s.toks) { s with toks := s.toks + 1 })
    (hs : subscripted slice false (.str (S u) t) (.int i v) = operate [.str (S u) t, .int i v] (getItem (.str (S u) t) (.int i v)))
    (ht : ∀ r, letTemporaryGo value (.str (S u) t) r = pure ()) : wpAny (model prog w) A (subscriptTail value slice (.str (S u) t) (.int i v)) Q E s := by
  have := W0_len u hu
  refine item_str (x := S u) (fitsSsize_of (N := 9223372036854775808) (by omega) (by omega) (Int.le_refl _)) (by show -((u.length : Nat) : Int) ≤ i; omega) (by show i < ((u.length : Nat) : Int); omega) (fun _ => ?_) hs ht
  rw [item_eq hu h0 h1]
  exact h
theorem ne_S {a b : Nat} {t v : Tok} {Q : Value → Shared → Prop} (h : Q (.bool (a != b)) s) : wpAny (model prog w) A (compareOp .NotEq (.str (S [a]) t) (.str (S [b]) v)) Q E s := by
  refine ne_str ?_
  rw [S_one]
  exact h
end
end Mine
namespace Mine
theorem W_len : ∀ u ∈ W, 1 ≤ u.length ∧ u.length ≤ 3 := by decide
theorem W_W0 : ∀ u ∈ W, u ∈ W0 := fun u h => List.mem_cons_of_mem _ h
theorem sum_const (c : Nat) : ∀ l : List Nat, (l.map fun _ => c).sum = l.length * c
  | [] => by simp
  | _ :: l => by rw [List.map_cons, List.sum_cons, sum_const c l, List.length_cons, Nat.succ_mul, Nat.add_comm]
theorem tab_len (u v : List Nat) : (tab u v).length = (u.length + 1) * (v.length + 1) := by
  unfold tab
  rw [List.length_flatMap]
  simp only [List.length_map, List.length_range]
  rw [sum_const, List.length_range]
theorem tab_chk : (W.all fun u => W.all fun v => (List.range 4).all fun i => (List.range 4).all fun j => decide (i ≤ u.length) && decide (j ≤ v.length) → (tab u v)[i * (v.length + 1) + j]? == some (cell u v i j)) = true := by decide +kernel
/-- a place of the table, in the list of its items -/
theorem tab_at {u v : List Nat} (hu : u ∈ W) (hv : v ∈ W) {i j : Nat} (hi : i ≤ u.length) (hj : j ≤ v.length) : (tab u v)[i * (v.length + 1) + j]? = some (cell u v i j) := by
  have h := tab_chk
  simp only [List.all_eq_true, List.mem_range, decide_eq_true_eq, Bool.and_eq_true, beq_iff_eq] at h
  have := W_len u hu
  have := W_len v hv
  exact h u hu v hv i (by omega) j (by omega) ⟨hi, hj⟩
structure CellF (u v : List Nat) (i j : Nat) : Prop where
  e : cell u v (i + 1) (j + 1) = min (min (cell u v i (j + 1)) (cell u v (i + 1) j) + 1) (cell u v i j + dif (u.getD i 0) (v.getD j 0))
  a1 : cell u v (i + 1) (j + 1) - cell u v i (j + 1) ≤ 1
  a2 : cell u v i (j + 1) - cell u v (i + 1) (j + 1) ≤ 1
  b1 : cell u v (i + 1) (j + 1) - cell u v (i + 1) j ≤ 1
  b2 : cell u v (i + 1) j - cell u v (i + 1) (j + 1) ≤ 1
  c : cell u v (i + 1) (j + 1) = cell u v i j ∨ cell u v (i + 1) (j + 1) = cell u v i j + 1
theorem step_chk : ∀ u ∈ W, ∀ v ∈ W, ∀ i < 3, ∀ j < 3, cell u v (i + 1) (j + 1) - cell u v i (j + 1) ≤ 1 ∧ cell u v i (j + 1) - cell u v (i + 1) (j + 1) ≤ 1 ∧ cell u v (i + 1) (j + 1) - cell u v (i + 1) j ≤ 1 ∧ cell u v (i + 1) j - cell u v (i + 1) (j + 1) ≤ 1 ∧
    (cell u v (i + 1) (j + 1) = cell u v i j ∨ cell u v (i + 1) (j + 1) = cell u v i j + 1) := by decide +kernel
theorem cellF {u v : List Nat} (hu : u ∈ W) (hv : v ∈ W) {i j : Nat} (hi : i < u.length) (hj : j < v.length) : CellF u v i j := by
  have := W_len u hu
  have := W_len v hv
  have h := step_chk u hu v hv i (by omega) j (by omega)
  exact ⟨rfl, h.1, h.2.1, h.2.2.1, h.2.2.2.1, h.2.2.2.2⟩
theorem cell_0 (u v : List Nat) (j : Nat) : cell u v 0 j = j := rfl
theorem cell_c (u v : List Nat) (i : Nat) : cell u v i 0 = i := by cases i <;> rfl
theorem whole_chk : ∀ u ∈ W, ∀ v ∈ W, lev 6 u v = cell u v u.length v.length ∧ cell v.reverse u.reverse v.length u.length = cell u v u.length v.length ∧ v.reverse ∈ W := by decide +kernel
/-- the items of the table, the first so many told -/
def RowT (u v : List Nat) (vs : List Value) (k : Nat) : Prop := ∃ ns, IntsAre vs ns ∧ ns.length = (u.length + 1) * (v.length + 1) ∧ ns.take k = (tab u v).take k
theorem rowT_zero {u v : List Nat} {vs : List Value} {N : Nat} (h : IntsAre vs (List.replicate N 0)) (e : N = (u.length + 1) * (v.length + 1)) : RowT u v vs 0 := ⟨_, h, by rw [List.length_replicate]; exact e, rfl⟩
theorem rowT_next {u v : List Nat} {vs : List Value} {k : Nat} {x : Int} {t : Tok} (R : RowT u v vs k) (hx : (tab u v)[k]? = some x) : RowT u v (vs.set k (.int x t)) (k + 1) := by
  obtain ⟨ns, hI, hl, ht⟩ := R
  refine ⟨ns.set k x, ints_set hI _, by rw [List.length_set]; exact hl, ?_⟩
  have hk : k < (tab u v).length := (List.getElem?_eq_some_iff.mp hx).1
  have hk' : k < ns.length := by rw [hl, ← tab_len]; exact hk
  rw [List.take_add_one, List.take_add_one, List.take_set_of_le (Nat.le_refl _), ht, List.getElem?_set_self hk', hx]
theorem rowT_at {u v : List Nat} {vs : List Value} {k j : Nat} {x : Int} (R : RowT u v vs k) (hj : j < k) (hx : (tab u v)[j]? = some x) : ∃ ns, IntsAre vs ns ∧ ns.length = (u.length + 1) * (v.length + 1) ∧ ns.getD j 0 = x := by
  obtain ⟨ns, hI, hl, ht⟩ := R
  refine ⟨ns, hI, hl, ?_⟩
  have e := congrArg (fun l => l[j]?) ht
  simp only [List.getElem?_take, if_pos hj] at e
  rw [List.getD_eq_getElem?_getD, e, hx]
  rfl
theorem rowT_full {u v : List Nat} {vs : List Value} {k : Nat} (R : RowT u v vs k) (hk : k = (u.length + 1) * (v.length + 1)) : IntsAre vs (tab u v) := by
  obtain ⟨ns, hI, hl, ht⟩ := R
  rw [List.take_of_length_le (by rw [hl, hk]; exact Nat.le_refl _), List.take_of_length_le (by rw [tab_len, hk]; exact Nat.le_refl _)] at ht
  exact ht ▸ hI
end Mine
namespace Mine

theorem allLt_at {d a : Addr} {o : Obj} : ∀ {l : List (Addr × Obj)}, AllLt d l → (a, o) ∈ l → @LT.lt Nat _ a d
  | [], _, hm => nomatch hm
  | p :: r, h, hm => by
    rcases List.mem_cons.mp hm with e | hm
    · rw [← e] at h; exact h.1
    · exact allLt_at h.2 hm
local macro_rules | `(tactic| k_lt $h:ident) => `(tactic| replace $h := allLt_of $h)
local macro_rules | `(tactic| k_ne) => `(tactic| (refine neN ?_; (try dsimp only); first | exact Nat.ne_of_lt (allLt_at (by with_reducible assumption) (by k_mem)) | exact Nat.ne_of_gt (allLt_at (by with_reducible assumption) (by k_mem)) | ((simp only [AllLt, and_true] at *); omega)))
local macro_rules | `(tactic| k_room) => `(tactic| first | ((try simp only [depth_under_make, depth_under_kw, depth_in1, depth_deeper, depth_caller]); decide) | ((try simp only [depth_under_make, depth_under_kw, depth_in1, depth_deeper, depth_caller]); (try dsimp only [ktrTop]); (simp only [recursionLimit]); omega))
local macro_rules | `(tactic| walk_at "exec For Tuple Call cons nil") => `(tactic| (k_here; (rename Fr _ _ _ _ => lF'); (with_unfolding_all refine' For_turns lF' ?_; k_whole)))
local macro_rules | `(tactic| walk_at "eval ListComp") => `(tactic| (k_here; lcg_look; lcg_calm; k_dflt (refine LCg.ListComp_U (F₀ := by k_asm) (by rfl) (by decide) (by rfl) (by decide) (by rfl) ?_); k_dflt lcg_toSrc))

local macro_rules | `(tactic| walk_at "CompSrc") => `(tactic| (k_here; k_dflt (refine LCg.CompSrc.ledger (by rfl) (by k_asm) (by k_asm) (by k_mem) (by first | size_fits | exact Nat.le_of_ble_eq_true rfl) ?_; intro g'; lcg_lit)))
local macro_rules | `(tactic| walk_at "CompRest") => `(tactic| (with_unfolding_all first | (refine LCg.CompRest.succ ?_; intro v' I' oI' C' oC' D' m' h' tk' E' hv' hC' hx' F' N' off' ne'; lcg_open hv') | refine LCg.CompRest.zero ?_))
local macro_rules | `(tactic| lcg_off) => `(tactic| assumption)
local macro_rules | `(tactic| walk_at "CompEnd") => `(tactic| lcg_end)
theorem mul_small {a b : Int} (ha : a.natAbs < 2 ^ 10) (hb : b.natAbs < 2 ^ 10) : IntMulOk a b := IntMulOk.of_le (intBits_le_iff.mpr ha) (intBits_le_iff.mpr hb) (by decide)
local macro_rules | `(tactic| walk_at "binaryOp Mult int int") => `(tactic| (refine mul_int ?_ (mul_small (by omega) (by omega))))
abbrev arrD (h1 h2 h3 h4 h5 h6 : Int) (t1 t2 t3 t4 t5 t6 : Tok) (v1 v2 v3 v4 : Value) (bl il : Addr) : Obj :=
  dictOf [⟨h1, .str (Str.ofString "word") t1, v1⟩, ⟨h2, .str (Str.ofString "number") t2, v2⟩, ⟨h3, .str (Str.ofString "mark") t3, v3⟩, ⟨h4, .str (Str.ofString "told") t4, v4⟩, ⟨h5, .str (Str.ofString "bounds") t5, .ref bl⟩, ⟨h6, .str (Str.ofString "items") t6, .ref il⟩] 6

abbrev refD (e1 e2 e3 : Int) (f1 f2 f3 f4 f5 : Tok) (x : Addr) (j : Int) : Obj :=
  dictOf [⟨e1, .str (Str.ofString "kind") f1, .str (Str.ofString "item") f2⟩, ⟨e2, .str (Str.ofString "owner") f3, .ref x⟩, ⟨e3, .str (Str.ofString "key") f4, .int j f5⟩] 3
abbrev tup2 (a b : Int) (u v : Tok) (n : Nat) : Obj := { cls := .type "tuple", data := .seq #[.int a u, .int b v] n }
set_option maxHeartbeats 0 in
theorem item2 {prog : Program} {w : World} {p : Program} {loose : List Str} {mean : ExcName → Option Value} {mg mb : Str → Option Value}
  {dp un : Nat} {gd : Option (List Code)} {cn : Str} {cs : Scope} {a : Addr} {ccd : Value} {cl : List (Str × Addr)} {outer : List Env} {A₀ : Around} {base h₀ : Heap} {L : Addr} {m : Str → Option Value} {news : List (Addr × Obj)} {s : Shared} {Q E : Value → Shared → Prop}
  {h1 h2 h3 h4 h5 h6 : Int} {t1 t2 t3 t4 t5 t6 u1 u2 u3 u4 u5 u6 u7 : Tok} {v1 v2 v3 v4 : Value} {x dx bl il bt bu kl : Addr} {l1 g1 l2 g2 k1 k2 : Int} {nb nt nu nk : Nat}
  (B : Below A₀ base outer h₀) (F : Fr h₀ L s.heap m) (X : (K w.params).In h₀) (N : News h₀ L s.heap news) (T : Top p loose mean mg mb h₀) (hk : cs.kind = .function) (hd : dp + 20 < 1000)
  (hs : ∀ q ∈ [(x, instObj 208 dx), (dx, arrD h1 h2 h3 h4 h5 h6 t1 t2 t3 t4 t5 t6 v1 v2 v3 v4 bl il), (bl, W.listOf #[.ref bt, .ref bu] nb), (bt, tup2 l1 g1 u1 u2 nt), (bu, tup2 l2 g2 u3 u4 nu), (kl, W.listOf #[.int k1 u5, .int k2 u6] nk)], q ∈ news)
  (b1 : l1 ≤ k1) (b2 : k1 ≤ g1) (b3 : l2 ≤ k2) (b4 : k2 ≤ g2) (z1 : g1 - l1 ≤ 3) (z2 : g2 - l2 ≤ 3)
  (ret : ∀ r tl h' tk', Fr h₀ L h' m → News h₀ L h' (tl ++ news) → (∀ p ∈ tl, ∀ q ∈ news, @LT.lt Nat _ q.1 p.1) →
    (∃ n dn e1 e2 e3 f1 f2 f3 f4 f5 j, j = (k1 - l1) * (g2 - l2 + 1) + (k2 - l2) ∧ r = .ref n ∧ tl = [(n, instObj 117 dn), (dn, refD e1 e2 e3 f1 f2 f3 f4 f5 x j)]) → Q r { s with heap := h', toks := tk' }) :
  wpAny (model prog w) (ktrTop dp un gd cn cs L a ccd cl outer) (call (.ref 262) [.ref x, .ref kl, .int 32 u7]) Q E s := by
  refine wpAny_call ?_
  k_dflt (refine' code_defCU _ _ ?k1 ?k2 ?k3 ?k4 ?k5 ?kA ?kF ?kK ?kS ?kP ?k6 ?k7 ?k8 ?k9 ?kB ?kN ?kh ?c2 ?c3 ?c4; (case kA => exact rfl); (case kF => exact rfl); (case kK => assumption); (case k1 => k_asm); (case k2 => k_asm); (case k3 => k_asm); (case k4 => k_asm); (case k5 => k_asm); (case kS => exact hs); (case kP => exact ret); (case k6 => k_is); (case k7 => k_is); (case k8 => k_room); (case k9 => exact BindsTo.of_eq rfl); (case kB => rfl); (case kN => decide); (case c2 => rfl); (case c3 => rfl); (case c4 => rfl))
  clear ret hs F N B X T
  intro g' L' h' tk' cells F' N' Y' B' X' T' lA
  k_cells Y'
  simp only [List.nil_append, List.cons_append] at N'
  k_lt lA
  all_goals try k_fold
  k_steps
  all_goals first
    | (exfalso; omega)
    | (refine LeaveU.intro [_, _] (by assumption) (by assumption) ⟨List.Mem.head _, List.Mem.tail _ (List.Mem.head _), trivial⟩ (by k_subL) (by (simp only [AllLt, and_true] at *); (simp only [List.forall_mem_cons, List.not_mem_nil, false_implies, implies_true, and_true]); constructor <;> omega) ⟨_, _, _, _, _, _, _, _, _, _, _, ?_, rfl, rfl⟩)
  all_goals (rw [Int.zero_mul, Int.zero_add, Int.add_sub_assoc])
theorem all6 {α : Type} {P : α → Prop} {a b c d e f : α} (h1 : P a) (h2 : P b) (h3 : P c) (h4 : P d) (h5 : P e) (h6 : P f) : ∀ q ∈ [a, b, c, d, e, f], P q := fun q h => by
  simp only [List.mem_cons, List.not_mem_nil, or_false] at h
  rcases h with rfl | rfl | rfl | rfl | rfl | rfl <;> assumption
end Mine
namespace Mine

local macro_rules | `(tactic| k_room) => `(tactic| first | ((try simp only [depth_under_make, depth_under_kw, depth_in1, depth_deeper, depth_caller]); decide) | ((try simp only [depth_under_make, depth_under_kw, depth_in1, depth_deeper, depth_caller]); (try dsimp only [ktrTop]); (simp only [recursionLimit]); omega))



theorem slot1 {prog : Program} {w : World} {p : Program} {loose : List Str} {mean : ExcName → Option Value} {mg mb : Str → Option Value}
  {dp un : Nat} {gd : Option (List Code)} {cn : Str} {cs : Scope} {a : Addr} {ccd : Value} {cl : List (Str × Addr)} {outer : List Env} {A₀ : Around} {base h₀ : Heap} {L : Addr} {m : Str → Option Value} {news : List (Addr × Obj)} {s : Shared} {Q E : Value → Shared → Prop}
  {h1 h2 h3 h4 h5 h6 e1 e2 e3 : Int} {t1 t2 t3 t4 t5 t6 f1 f2 f3 f4 f5 : Tok} {v1 v2 v3 v4 : Value} {x dx bl il n dn : Addr} {j : Int} {ni : Nat} {vs : List Value} {ns : List Int}
  (B : Below A₀ base outer h₀) (F : Fr h₀ L s.heap m) (X : (K w.params).In h₀) (N : News h₀ L s.heap news) (T : Top p loose mean mg mb h₀) (hk : cs.kind = .function) (hd : dp + 20 < 1000)
  (hs : ∀ q ∈ [(n, instObj 117 dn), (dn, dictOf [⟨e1, .str (Str.ofString "kind") f1, .str (Str.ofString "item") f2⟩, ⟨e2, .str (Str.ofString "owner") f3, .ref x⟩, ⟨e3, .str (Str.ofString "key") f4, .int j f5⟩] 3), (x, instObj 208 dx), (dx, arrD h1 h2 h3 h4 h5 h6 t1 t2 t3 t4 t5 t6 v1 v2 v3 v4 bl il), (il, W.listOf vs.toArray ni)], q ∈ news)
  (hI : IntsAre vs ns) (hj0 : 0 ≤ j) (hj : j < (ns.length : Int)) (hl : ns.length ≤ 31)
  (ret : ∀ r h' tk', Fr h₀ L h' m → News h₀ L h' news → (∃ t, r = .int (ns.getD j.toNat 0) t) → Q r { s with heap := h', toks := tk' }) :
  wpAny (model prog w) (ktrTop dp un gd cn cs L a ccd cl outer) (call (.ref 269) [.ref n]) Q E s := by
  refine wpAny_call ?_
  have ret' : ∀ r tl h' tk', Fr h₀ L h' m → News h₀ L h' (tl ++ news) → (∀ p ∈ tl, ∀ q ∈ news, p.1 ≠ q.1) → (tl = [] ∧ ∃ t, r = .int (ns.getD j.toNat 0) t) → Q r { s with heap := h', toks := tk' } := by
    rintro r tl h' tk' F' N' _ ⟨rfl, hr⟩
    exact ret r h' tk' F' N' hr
  k_dflt (refine' code_defT _ _ ?k1 ?k2 ?k3 ?k4 ?k5 ?kA ?kF ?kK ?kS ?kP ?k6 ?k7 ?k8 ?k9 ?kB ?kh ?c2 ?c3 ?c4 ?c5; (case kA => exact rfl); (case kF => exact rfl); (case kK => assumption); (case k1 => k_asm); (case k2 => k_asm); (case k3 => k_asm); (case k4 => k_asm); (case k5 => k_asm); (case kS => exact hs); (case kP => exact ret'); (case k6 => k_is); (case k7 => k_is); (case k8 => k_room); (case k9 => exact BindsTo.of_eq rfl); (case c5 => decide); (case kB => exact locs rfl); (case c2 => rfl); (case c3 => rfl); (case c4 => rfl))
  clear ret ret' hs F N B X T
  intro g' L' h' tk' F' N' B' X' T' l1
  k_lt l1
  all_goals try k_fold
  k_steps
  all_goals exact LeaveT.intro [] (by assumption) (by assumption) trivial (by k_subL) (by ktu_offL) ⟨rfl, _, rfl⟩
end Mine
namespace Mine
local macro_rules | `(tactic| k_room) => `(tactic| first | ((try simp only [depth_under_make, depth_under_kw, depth_in1, depth_deeper, depth_caller]); decide) | ((try simp only [depth_under_make, depth_under_kw, depth_in1, depth_deeper, depth_caller]); (try dsimp only [ktrTop]); (simp only [recursionLimit]); omega))
/-- what _law_least tells, for the words that are left -/
def LeastAt (n : Nat) : Prop := ∀ {prog : Program} {w : World} {p : Program} {loose : List Str} {mean : ExcName → Option Value} {mg mb : Str → Option Value}
  {dp un : Nat} {gd : Option (List Code)} {cn : Str} {cs : Scope} {a : Addr} {ccd : Value} {cl : List (Str × Addr)} {outer : List Env} {A₀ : Around} {base h₀ : Heap} {L : Addr} {m : Str → Option Value} {news : List (Addr × Obj)} {s : Shared} {Q E : Value → Shared → Prop}
  {u v : List Nat} {x y : Str} {t1 t2 : Tok}
  (_ : Below A₀ base outer h₀) (_ : Fr h₀ L s.heap m) (_ : (K w.params).In h₀) (_ : News h₀ L s.heap news) (_ : Top p loose mean mg mb h₀) (_ : cs.kind = .function) (_ : dp + 20 + 10 * n < 1000)
  (_ : u ∈ W0) (_ : v ∈ W0) (_ : u.length + v.length ≤ n) (_ : x = S u) (_ : y = S v)
  (_ : ∀ t h' tk', Fr h₀ L h' m → News h₀ L h' news → Q (.int (lev n u v) t) { s with heap := h', toks := tk' }),
  wpAny (model prog w) (ktrTop dp un gd cn cs L a ccd cl outer) (call (.ref 283) [.str x t1, .str y t2]) Q E s
local macro_rules | `(tactic| walk_at "call builtin:len") => `(tactic| (k_here; (with_reducible show wpAny _ _ (call (Value.builtin "len") [Value.str (S _) _]) _ _ _); k_dflt (refine' len_S ?jl ?_; (case jl => first | decide | omega))))
local macro_rules | `(tactic| walk_at "compareOp Eq str str") => `(tactic| (k_here; (with_reducible show wpAny _ _ (compareOp _ (Value.str (S (_ :: _)) _) _) _ _ _); (refine eq_str ?_); rw [S_cons_ne]))
local macro_rules | `(tactic| walk_at "call ref") => `(tactic| (k_here; (with_reducible show wpAny _ _ (call (Value.ref 283) [Value.str _ _, Value.str _ _]) _ _ _); (rename LeastAt _ => ih9); k_dflt (refine' ih9 ?jB ?jF ?jX ?jN ?jT ?jk ?jd ?ju ?jv ?jl ?jx ?jy ?_; (case jk => exact rfl); (case jd => (simp only [depth_deeper, depth_caller]; omega)); (case jB => k_asm); (case jF => k_asm); (case jX => k_asm); (case jN => k_asm); (case jT => k_asm); (case jx => first | (with_reducible exact slice_tail _ (by with_reducible assumption)) | with_reducible rfl); (case jy => first | (with_reducible exact slice_tail _ (by with_reducible assumption)) | with_reducible rfl); (case ju => first | with_reducible assumption | exact W_tail _ (by with_reducible assumption)); (case jv => first | with_reducible assumption | exact W_tail _ (by with_reducible assumption)); (case jl => (simp only [List.length_cons, List.tail_cons] at *; omega))); intro t' h' tk' F' N'; (try dsimp only); (try k_sweep)))
local macro_rules | `(tactic| walk_at "subscriptTail Name Constant str int") => `(tactic| (k_here; (with_reducible show wpAny _ _ (subscriptTail _ _ (Value.str (S _) _) _) _ _ _); k_dflt (refine' item_S ?ju ?j0 ?j1 ?_ ?js ?jt; (case ju => with_reducible assumption); (case j0 => omega); (case j1 => ((simp only [List.length_cons]); omega)); (case js => with_unfolding_all rfl); (case jt => intro _; with_unfolding_all rfl))))
local macro_rules | `(tactic| walk_at "compareOp NotEq str str") => `(tactic| (k_here; (with_reducible show wpAny _ _ (compareOp _ (Value.str (S [_]) _) (Value.str (S [_]) _)) _ _ _); k_dflt (refine ne_S ?_)))
local macro_rules | `(tactic| walk_at "subscriptTail Name Slice str ref") => `(tactic| (k_here; (with_reducible show wpAny _ _ (subscriptTail _ (PySem.Expr.Slice (some _) none none _) (Value.str (S _) _) _) _ _ _); k_dflt (refine' slice_strN_sn ?jF ?jN ?_ ?js ?jt ?jz; (case jF => k_asm); (case jN => k_asm); (case js => with_unfolding_all rfl); (case jt => intro _; with_unfolding_all rfl); (case jz => (refine S_fits ?_; (simp only [List.length_cons] at *); omega))); intro h' t' k' F' N'))
theorem least_step {n : Nat} (ih : n = 0 ∨ LeastAt (n - 1)) : LeastAt n := by
  intro prog w p loose mean mg mb dp un gd cn cs a ccd cl outer A₀ base h₀ L m news s Q E u v x y t1 t2 B F X N T hk hd hu hv hn hx hy ret
  subst hx hy
  refine wpAny_call ?_
  have ret' : ∀ r tl h' tk', Fr h₀ L h' m → News h₀ L h' (tl ++ news) → (∀ p ∈ tl, ∀ q ∈ news, p.1 ≠ q.1) → (tl = [] ∧ ∃ t, r = .int (lev n u v) t) → Q r { s with heap := h', toks := tk' } := by
    rintro r tl h' tk' F' N' _ ⟨rfl, t, rfl⟩
    exact ret t h' tk' F' N'
  have hu3 := W0_len u hu
  have hv3 := W0_len v hv
  k_dflt (refine' code_defT [] _ ?k1 ?k2 ?k3 ?k4 ?k5 ?kA ?kF ?kK ?kS ?kP ?k6 ?k7 ?k8 ?k9 ?kB ?kh ?c2 ?c3 ?c4 ?c5; (case kA => exact rfl); (case kF => exact rfl); (case kK => assumption); (case k1 => k_asm); (case k2 => k_asm); (case k3 => k_asm); (case k4 => k_asm); (case k5 => k_asm); (case kS => exact fun _ h => nomatch h); (case kP => exact ret'); (case k6 => k_is); (case k7 => k_is); (case k8 => k_room); (case k9 => exact BindsTo.of_eq rfl); (case kB => exact locs rfl); (case c2 => rfl); (case c3 => rfl); (case c4 => rfl); (case c5 => decide))
  clear ret ret' F N B X T
  intro g' L' h' tk' F' N' B' X' T' l1
  clear l1
  all_goals try k_fold
  cases u with
  | nil =>
    k_steps
    all_goals exact LeaveT.intro [] (by assumption) (by assumption) trivial trivial trivial ⟨rfl, _, by rw [lev_nil]; (show Value.int ((0 : Int) + _) _ = _); rw [Int.zero_add]⟩
  | cons a u =>
    cases v with
    | nil =>
      k_steps
      all_goals exact LeaveT.intro [] (by assumption) (by assumption) trivial trivial trivial ⟨rfl, _, by rw [lev_cons_nil]; rfl⟩
    | cons b v =>
      simp only [List.length_cons] at hn
      obtain ih | ih := ih
      · omega
      obtain ⟨k, rfl⟩ : ∃ k, n = k + 1 := ⟨n - 1, by omega⟩
      rw [Nat.add_sub_cancel] at ih
      k_steps
      all_goals exact LeaveT.intro [] (by assumption) (by assumption) trivial trivial trivial ⟨rfl, _, congrArg (fun z => Value.int z _) (lev_of (by assumption) (by assumption))⟩
theorem least : ∀ n, LeastAt n
  | 0 => least_step (.inl rfl)
  | n + 1 => least_step (.inr (least n))
end Mine
namespace Mine
local macro_rules | `(tactic| k_room) => `(tactic| first | ((try simp only [depth_under_make, depth_under_kw, depth_in1, depth_deeper, depth_caller]); decide) | ((try simp only [depth_under_make, depth_under_kw, depth_in1, depth_deeper, depth_caller]); (try dsimp only [ktrTop]); (simp only [recursionLimit]); omega))
local macro_rules | `(tactic| k_in) => `(tactic| first | with_reducible assumption | exact Frag.In.keeps (by with_reducible assumption) (Fr.keep (by with_reducible assumption)))
local macro_rules | `(tactic| k_lt $h:ident) => `(tactic| replace $h := allLt_of $h)
local macro_rules | `(tactic| k_ne) => `(tactic| (refine neN ?_; (try dsimp only); first | with_reducible assumption | exact Nat.ne_of_lt (allLt_at (by with_reducible assumption) (by k_mem)) | exact Nat.ne_of_gt (allLt_at (by with_reducible assumption) (by k_mem)) | ((simp only [AllLt, and_true] at *); omega)))
local macro_rules | `(tactic| walk_at "exec For Tuple Name cons nil") => `(tactic| (k_here; (rename Fr _ _ _ _ => lF'); (with_unfolding_all refine' For_turns lF' ?_; k_whole)))
local macro_rules | `(tactic| walk_at "binaryOp Mult int int") => `(tactic| (refine mul_int ?_ (mul_small (by omega) (by omega))))
local macro_rules | `(tactic| walk_at "callWith ref nil nil") => `(tactic| (k_here; k_dflt (refine' callWith_K ?k1 ?k2 ?_; (case k1 => k_asm); (case k2 => k_is); k_whole)))
local macro_rules | `(tactic| walk_at "binaryOp Mult ref int") => `(tactic| (k_here; (with_reducible show wpAny _ _ (binaryOp Operator.Mult (Value.ref _) (Value.int _ _)) _ _ _); k_dflt (refine' KM.mul ?jF ?jN ?jl ?ji ?jo ?jh ?jz ?_; (case jF => k_asm); (case jN => k_asm); (case jl => is_list); (case ji => l_ints); (case jo => omega); (case jh => omega); (case jz => ((simp only [List.length_cons, List.length_nil]); omega))); intro D' h' F' N' l1 i1 n1 s1 e1 e2 e3; (try k_lt l1)))
theorem flat_rep (k : Nat) : (List.replicate k [(0 : Int)]).flatten = List.replicate k 0 := by
  induction k with
  | zero => rfl
  | succ k ih => rw [List.replicate_succ, List.flatten_cons, ih, List.replicate_succ]; rfl
theorem array2 {prog : Program} {w : World} {p : Program} {loose : List Str} {mean : ExcName → Option Value} {mg mb : Str → Option Value}
  {dp un : Nat} {gd : Option (List Code)} {cn : Str} {cs : Scope} {a : Addr} {ccd : Value} {cl : List (Str × Addr)} {outer : List Env} {A₀ : Around} {base h₀ : Heap} {L : Addr} {m : Str → Option Value} {news : List (Addr × Obj)} {s : Shared} {Q E : Value → Shared → Prop}
  {nm : Str} {t1 t2 t3 u1 u2 u3 u4 : Tok} {bl bt bu : Addr} {l1 g1 l2 g2 : Int} {nb nt nu : Nat}
  (B : Below A₀ base outer h₀) (F : Fr h₀ L s.heap m) (X : (K w.params).In h₀) (N : News h₀ L s.heap news) (T : Top p loose mean mg mb h₀) (hk : cs.kind = .function) (hd : dp + 40 < 1000)
  (hs : ∀ q ∈ [(bl, W.listOf #[.ref bt, .ref bu] nb), (bt, tup2 l1 g1 u1 u2 nt), (bu, tup2 l2 g2 u3 u4 nu)], q ∈ news)
  (z1 : 0 ≤ g1 - l1) (z2 : g1 - l1 ≤ 3) (z3 : 0 ≤ g2 - l2) (z4 : g2 - l2 ≤ 3)
  (ret : ∀ x dx il nz h1 h2 h3 h4 h5 h6 t1 t2 t3 t4 t5 t6 v1 v2 v3 v4 vs h' tk', IntsAre vs (List.replicate ((g1 - l1 + 1) * (g2 - l2 + 1)).toNat 0) → Fr h₀ L h' m → News h₀ L h' ((il, W.listOf vs.toArray nz) :: (dx, arrD h1 h2 h3 h4 h5 h6 t1 t2 t3 t4 t5 t6 v1 v2 v3 v4 bl il) :: (x, instObj 208 dx) :: news) → (∀ q ∈ news, @LT.lt Nat _ q.1 dx) → @LT.lt Nat _ dx x → (∀ q ∈ (dx, dictOf [] 0) :: (x, instObj 208 dx) :: news, il ≠ q.1) → Q (.ref x) { s with heap := h', toks := tk' }) :
  wpAny (model prog w) (ktrTop dp un gd cn cs L a ccd cl outer) (call (.ref 208) [.int 1 t1, .str nm t2, .ref bl, .int 0 t3]) Q E s := by
  refine call_cls F X N (by k_is) (by k_is) (by k_is) fun x dx h' F' N' lA lB => ?_
  have N2 : News h₀ L h' ((dx, dictOf [] 0) :: (x, instObj 208 dx) :: news) := fun p hp => N' p (by
    simp only [List.mem_cons] at hp ⊢
    rcases hp with h | h | h
    · exact .inr (.inl h)
    · exact .inl h
    · exact .inr (.inr h))
  have hne : ∀ q ∈ (x, instObj 208 dx) :: news, q.1 ≠ dx := fun q hq => by
    rcases List.mem_cons.mp hq with rfl | hq
    · exact Nat.ne_of_gt lB
    · exact Nat.ne_of_lt (lA q hq)
  have hs2 : ∀ q ∈ [(x, instObj 208 dx), (bl, W.listOf #[.ref bt, .ref bu] nb), (bt, tup2 l1 g1 u1 u2 nt), (bu, tup2 l2 g2 u3 u4 nu)], q ∈ (x, instObj 208 dx) :: news := fun q hq => by
    rcases List.mem_cons.mp hq with rfl | hq
    · exact .head _
    · exact .tail _ (hs q hq)
  have ret' : ∀ v tl o₁ h' tk', Fr h₀ L h' m → News h₀ L h' (tl ++ (dx, o₁) :: (x, instObj 208 dx) :: news) → (∀ p ∈ tl, ∀ q ∈ (dx, dictOf [] 0) :: (x, instObj 208 dx) :: news, p.1 ≠ q.1) →
      (v = .none ∧ ∃ il nz h1 h2 h3 h4 h5 h6 t1 t2 t3 t4 t5 t6 v1 v2 v3 v4 vs, IntsAre vs (List.replicate ((g1 - l1 + 1) * (g2 - l2 + 1)).toNat 0) ∧ tl = [(il, W.listOf vs.toArray nz)] ∧ o₁ = arrD h1 h2 h3 h4 h5 h6 t1 t2 t3 t4 t5 t6 v1 v2 v3 v4 bl il) →
      InitBack x (fun r s' => match r with | .ok (.ret v) => Q v s' | .ok _ => False | .error e => E e s') (.ok (.ret v)) { s with heap := h', toks := tk' } := by
    rintro v tl o₁ h' tk' F' N' ap ⟨rfl, il, nz, h1, h2, h3, h4, h5, h6, t1, t2, t3, t4, t5, t6, v1, v2, v3, v4, vs, hI, rfl, rfl⟩
    exact ⟨rfl, ret x dx il nz h1 h2 h3 h4 h5 h6 t1 t2 t3 t4 t5 t6 v1 v2 v3 v4 vs h' tk' hI F' N' lA lB (fun q hq => ap _ (.head _) q hq)⟩
  k_dflt (refine' code_defW (s := { s with heap := h' }) [(x, instObj 208 dx), (bl, W.listOf #[.ref bt, .ref bu] nb), (bt, tup2 l1 g1 u1 u2 nt), (bu, tup2 l2 g2 u3 u4 nu)] dx (dictOf [] 0) _ ?k1 ?k2 ?k3 ?k4 ?k5 ?kA ?kF ?kK ?kS ?kQ ?kP ?k6 ?k7 ?k8 ?k9 ?kB ?kh ?c2 ?c3 ?c4 ?c5; (case kA => exact rfl); (case kF => exact rfl); (case kK => assumption); (case k1 => k_asm); (case k2 => k_asm); (case k3 => k_asm); (case k4 => exact N2); (case k5 => k_asm); (case kS => exact hs2); (case kQ => exact hne); (case kP => exact ret'); (case k6 => k_is); (case k7 => k_is); (case k8 => k_room); (case k9 => exact BindsTo.of_eq rfl); (case kB => exact locs rfl); (case c2 => rfl); (case c3 => rfl); (case c4 => rfl); (case c5 => decide))
  have e1 : @LT.lt Nat _ bl dx := lA _ (hs _ (.head _))
  have e2 : @LT.lt Nat _ bt dx := lA _ (hs _ (.tail _ (.head _)))
  have e3 : @LT.lt Nat _ bu dx := lA _ (hs _ (.tail _ (.tail _ (.head _))))
  have e4 : @LT.lt Nat _ dx x := lB
  clear ret ret' hs hs2 hne N2 N' F' F N B X T lA lB
  intro g' L' h' tk' F' N' B' X' T' lA
  k_lt lA
  have hP : 0 ≤ 1 * (g1 - l1 + 1) * (g2 - l2 + 1) ∧ 1 * (g1 - l1 + 1) * (g2 - l2 + 1) ≤ 16 := by
    rw [Int.one_mul]
    exact ⟨Int.mul_nonneg (by omega) (by omega), Int.mul_le_mul (c := 4) (d := 4) (by omega) (by omega) (by omega) (by omega)⟩
  all_goals try k_fold
  k_steps
  try dsimp only
  k_dflt (refine' LeaveOne.intro [(?jil, W.listOf (List.toArray ?jvs) ?jnz)] ?jo ?jF ?jN ?jt ?js ?ja ⟨rfl, ?jil, ?jnz, ?q1, ?q2, ?q3, ?q4, ?q5, ?q6, ?q7, ?q8, ?q9, ?q10, ?q11, ?q12, ?q13, ?q14, ?q15, ?q16, ?jvs, ?jI, rfl, ?je⟩)
  case jF => assumption
  case jN => assumption
  case js => k_subL
  case je => exact rfl
  case jt => exact ⟨by k_mem, trivial⟩
  case jI =>
    have i2 := ‹IntsAre (List.replicate _ _).flatten (List.replicate _ _).flatten›
    rw [flat_rep, Int.one_mul] at i2
    rw [Int.one_mul]
    exact i2
  case ja => ktu_offL
end Mine
namespace Mine
/-- the code table is empty, or it has the def's code already, which the ledger names -/
def TabHas (ps : Array Value) (small : List (Addr × Obj)) (L : Addr) (news : List (Addr × Obj)) (qual : Str) (pos : Pos) : Prop :=
  (ps = #[] ∧ small = []) ∨ ∃ c₀ oc vs t, small = [(c₀, oc)] ∧ (c₀, oc) ∈ news ∧ @LT.lt Nat _ c₀ L ∧ oc.data = .fields vs ∧ vs[1]? = some (.str qual t) ∧ TriplesOk ps.toList ∧ codeAmong pos ps.toList = some (.ref c₀)
/-- what is apart from the tail is apart from c too -/
def NeFrom (small : List (Addr × Obj)) (c : Addr) (news : List (Addr × Obj)) : Prop := ∀ q ∈ news, (∀ r ∈ small, q.1 ≠ r.1) → q.1 ≠ c
theorem neFrom_at {small news : List (Addr × Obj)} {a c : Addr} {o : Obj} (h : NeFrom small c news) (hm : (a, o) ∈ news) (hr : ∀ r ∈ small, a ≠ r.1) : a ≠ c := h _ hm hr
section
variable {M : Model} {A : Around} {E : Value → Shared → Prop} {s : Shared} {h₀ : Heap} {L a c P : Addr} {m mg mb : Str → Option Value} {cn : Str} {cs : Scope} {ccd : Value} {cl : List (Str × Addr)} {news : List (Addr × Obj)} {g : Obj → List (Addr × Obj)}
  {p : Program} {loose : List Str} {mean : ExcName → Option Value} {name qual : Str} {params : Arguments} {body : List Stmt} {scope : Scope} {ps : Array Value} {pos : Pos} {firstLine : Nat} {clos : List (Str × Addr)}
theorem nest_any {Q : Value → Shared → Prop} (F : Fr h₀ L s.heap m) (N : News h₀ L s.heap news) (T : Top p loose mean mg mb h₀) (C : CodeHd h₀ c P) (hcd : ccd = .ref c) (U : UpdF P (tabObj ps) news g) {small : List (Addr × Obj)} (H : TabHas ps small L news qual pos)
    (hcl : closureFor scope (envX cn cs L a ccd cl) = pure clos)
    (h : ∀ f c' oc vs t ctv doc ps' h' tk, Fr h₀ L h' m →
      News h₀ L h' ((f, fnMade name qual params body scope clos doc ((mg "__name__").getD .none) c' ctv) :: (c', oc) :: g (tabObj ps')) →
      oc.data = .fields vs → vs[1]? = some (.str qual t) → TriplesOk ps'.toList → codeAmong pos ps'.toList = some (.ref c') → (∀ q ∈ news, @LT.lt Nat _ q.1 f) → NeFrom small c' news → (∀ q ∈ small, q = (c', oc)) → Q (.ref f) { s with heap := h', toks := tk }) :
    wpAny M A (makeFunction name qual params (.stmts body) scope (envX cn cs L a ccd cl) [] [] [] pos firstLine) Q E s := by
  obtain ⟨pre, post, e1, e2, _, _⟩ := U.split
  rcases H with ⟨rfl, rfl⟩ | ⟨c₀, oc, vs, t, rfl, hm, hlt, hd, hv, ht, hf⟩
  · refine nest_K F N T C hcd U trivial rfl hcl fun f c' oc vs t ctv doc h' tk F' N' d1 d2 l1 l2 => ?_
    refine h f c' oc vs t ctv doc _ h' tk F' N' d1 d2 trivial ?_ (fun q hq => Nat.lt_trans (l1 q hq) l2) (fun q hq _ => Nat.ne_of_lt (l1 q hq)) (fun _ hq => nomatch hq)
    simp [codeAmong, rawInt]
  · have hmem : (P, tabObj ps) ∈ news := by rw [e1]; exact List.mem_append_right _ (.head _)
    refine nestHit_K F N T C hcd hmem ht hf hcl fun f ctv doc h' tk F' N' l1 => ?_
    refine h f c₀ oc vs t ctv doc ps h' tk F' (fun q hq => ?_) hd hv ht hf l1 (fun q hq hL => hL _ (.head _)) (fun q hq => List.mem_singleton.mp hq)
    rcases List.mem_cons.mp hq with rfl | hq
    · exact N' _ (.head _)
    · rcases List.mem_cons.mp hq with rfl | hq
      · exact N' _ (.tail _ hm)
      · rw [e2, ← e1] at hq
        exact N' _ (.tail _ hq)
end
end Mine
namespace Mine
/-- the ledger in the table's loops: the items and number's cell change -/
abbrev ledT (e1 e2 e4 e5 e6 e7 e8 e9 e11 e12 : Addr × Obj) (il nc : Addr) (nz : Nat) (rest : List (Addr × Obj)) (c : List Value × Obj) : List (Addr × Obj) :=
  e1 :: e2 :: (il, W.listOf c.1.toArray nz) :: e4 :: e5 :: e6 :: e7 :: e8 :: e9 :: (nc, c.2) :: e11 :: e12 :: rest
theorem kst_tab {prog : Program} {w : World} {A : Around} {E : Value → Shared → Prop} {s : Shared} {env : Env} {h₀ : Heap} {y : Str} {body : List Stmt} {Q : Flow → Shared → Prop}
    {r : Addr} {b₀ : Int} {t₀ u₀ v₀ : Tok} {m₀ : Str → Option Value} {e1 e2 e4 e5 e6 e7 e8 e9 e11 e12 : Addr × Obj} {rest : List (Addr × Obj)} {il nc : Addr} {nz : Nat} {vs₀ : List Value} {o₀ : Obj} (stored : List Str) (P : Nat → List Value → Prop) (n : Nat)
    (hh : A.handled = none) (hr : IsRange s.heap r 0 b₀ 1 t₀ u₀ v₀) (hb : b₀ = (n : Int)) (hn : n ≤ 100) (F : Fr h₀ env.locals s.heap m₀)
    (N : News h₀ env.locals s.heap (e1 :: e2 :: (il, W.listOf vs₀.toArray nz) :: e4 :: e5 :: e6 :: e7 :: e8 :: e9 :: (nc, o₀) :: e11 :: e12 :: rest)) (ho : ∃ q, o₀.data = .cell q) (hp : P 0 vs₀)
    (turn : ∀ (c : List Value) (o : Obj) (pre : List Int) (k : Nat) t (u : Str → Option Value) h tk own, pre.length = k → k < n → OwnOff own (e1.1 :: e2.1 :: il :: e4.1 :: e5.1 :: e6.1 :: e7.1 :: e8.1 :: e9.1 :: nc :: e11.1 :: e12.1 :: rest.map (·.1)) → (∃ q, o.data = .cell q) → P k c →
      Fr h₀ env.locals h (fun z => if z = y then some (.int (k : Int) t) else kstB (fun z => if stored.contains z then u z else m₀ z) [] z) → News h₀ env.locals h ((e1 :: e2 :: (il, W.listOf c.toArray nz) :: e4 :: e5 :: e6 :: e7 :: e8 :: e9 :: (nc, o) :: e11 :: e12 :: rest) ++ own) →
      wpAny (model prog w) A (execs body env) (InvPostN h₀ env.locals (KstS (ledT e1 e2 e4 e5 e6 e7 e8 e9 e11 e12 il nc nz rest) (fun _ => []) (fun c => ∃ q, c.2.data = .cell q) y stored m₀ (fun pre c => P pre.length c.1) (pre ++ [(k : Int)])) own (e1.1 :: e2.1 :: il :: e4.1 :: e5.1 :: e6.1 :: e7.1 :: e8.1 :: e9.1 :: nc :: e11.1 :: e12.1 :: rest.map (·.1)) { s with heap := h, toks := tk } Q) E { s with heap := h, toks := tk })
    (done : ∀ (c : List Value) (o : Obj) (u : Str → Option Value) h tk, (∃ q, o.data = .cell q) → P n c → Fr h₀ env.locals h (fun z => if z = y then u z else kstB (fun z => if stored.contains z then u z else m₀ z) [] z) → News h₀ env.locals h (e1 :: e2 :: (il, W.listOf c.toArray nz) :: e4 :: e5 :: e6 :: e7 :: e8 :: e9 :: (nc, o) :: e11 :: e12 :: rest) → Q .next { s with heap := h, toks := tk }) :
    wpAny (model prog w) A (pyIter (.ref r)) (fun it s₂ => LoopAtV prog w A h₀ env y body Q E it s₂) E s := by
  subst hb
  refine kst_range (n := n) (ledT e1 e2 e4 e5 e6 e7 e8 e9 e11 e12 il nc nz rest) (fun _ => []) (fun c => ∃ q, c.2.data = .cell q) stored (fun pre c => P pre.length c.1) (vs₀, o₀) hh hr (small_one (by omega) (by omega) (by omega) (by omega)) (by have := rangeSize_nat 0 n; simpa using this) F N ho (fun p hp => nomatch hp) hp ?_ ?_
  · intro c pre k t u h tk own hk hlt hoff hf hp F' N'
    have e : k = ((pre.length : Nat) : Int) := by omega
    subst e
    exact turn c.1 c.2 pre pre.length t u h tk own rfl hlt hoff hf hp F' N'
  · intro c u h tk hf hp F' N'
    exact done c.1 c.2 u h tk hf (by rw [rangeKs_length] at hp; exact hp) F' N'
/-- the items, where so many lines stand; where so many places of a line stand too -/
def RowO (u v : List Nat) (k : Nat) (vs : List Value) : Prop := RowT u v vs (k * (v.length + 1))
def RowI (u v : List Nat) (l k : Nat) (vs : List Value) : Prop := RowT u v vs (l * (v.length + 1) + k)
theorem rowO_zero {u v : List Nat} {vs : List Value} {x y : Int} (h : IntsAre vs (List.replicate (x * y).toNat 0)) (e : x = (u.length : Int) + 1 ∧ y = (v.length : Int) + 1) : RowO u v 0 vs := by
  show RowT u v vs (0 * (v.length + 1))
  rw [Nat.zero_mul]
  refine rowT_zero h ?_
  rw [e.1, e.2]
  have : ((u.length : Int) + 1) * ((v.length : Int) + 1) = (((u.length + 1) * (v.length + 1) : Nat) : Int) := by
    rw [Int.natCast_mul]; rfl
  rw [this, Int.toNat_natCast]
theorem kst_line {prog : Program} {w : World} {A : Around} {E : Value → Shared → Prop} {s : Shared} {env : Env} {h₀ : Heap} {y : Str} {body : List Stmt} {Q : Flow → Shared → Prop}
    {r : Addr} {b₀ : Int} {t₀ u₀ v₀ : Tok} {m₀ : Str → Option Value} {e1 e2 e4 e5 e6 e7 e8 e9 e11 e12 : Addr × Obj} {rest : List (Addr × Obj)} {il nc : Addr} {nz : Nat} {vs₀ : List Value} {o₀ : Obj} {u v : List Nat}
    (hh : A.handled = none) (hr : IsRange s.heap r 0 b₀ 1 t₀ u₀ v₀) (hb : b₀ = (u.length + 1 : Nat)) (hu3 : u.length ≤ 3) (hv3 : v.length ≤ 3) (F : Fr h₀ env.locals s.heap m₀)
    (N : News h₀ env.locals s.heap (e1 :: e2 :: (il, W.listOf vs₀.toArray nz) :: e4 :: e5 :: e6 :: e7 :: e8 :: e9 :: (nc, o₀) :: e11 :: e12 :: rest)) (ho : ∃ q, o₀.data = .cell q) (hp : RowO u v 0 vs₀)
    (turn : ∀ (c : List Value) (o : Obj) (pre : List Int) (k : Nat) t (z9 : Str → Option Value) h tk own, pre.length = k → k < u.length + 1 → OwnOff own (e1.1 :: e2.1 :: il :: e4.1 :: e5.1 :: e6.1 :: e7.1 :: e8.1 :: e9.1 :: nc :: e11.1 :: e12.1 :: rest.map (·.1)) → (∃ q, o.data = .cell q) → RowO u v k c →
      Fr h₀ env.locals h (fun z => if z = y then some (.int (k : Int) t) else kstB (fun z => if [Str.ofString "place", Str.ofString "beside", Str.ofString "aslant"].contains z then z9 z else m₀ z) [] z) → News h₀ env.locals h ((e1 :: e2 :: (il, W.listOf c.toArray nz) :: e4 :: e5 :: e6 :: e7 :: e8 :: e9 :: (nc, o) :: e11 :: e12 :: rest) ++ own) →
      wpAny (model prog w) A (execs body env) (InvPostN h₀ env.locals (KstS (ledT e1 e2 e4 e5 e6 e7 e8 e9 e11 e12 il nc nz rest) (fun _ => []) (fun c => ∃ q, c.2.data = .cell q) y [Str.ofString "place", Str.ofString "beside", Str.ofString "aslant"] m₀ (fun pre c => RowO u v pre.length c.1) (pre ++ [(k : Int)])) own (e1.1 :: e2.1 :: il :: e4.1 :: e5.1 :: e6.1 :: e7.1 :: e8.1 :: e9.1 :: nc :: e11.1 :: e12.1 :: rest.map (·.1)) { s with heap := h, toks := tk } Q) E { s with heap := h, toks := tk })
    (done : ∀ (c : List Value) (o : Obj) (z9 : Str → Option Value) h tk, (∃ q, o.data = .cell q) → RowO u v (u.length + 1) c → Fr h₀ env.locals h (fun z => if z = y then z9 z else kstB (fun z => if [Str.ofString "place", Str.ofString "beside", Str.ofString "aslant"].contains z then z9 z else m₀ z) [] z) → News h₀ env.locals h (e1 :: e2 :: (il, W.listOf c.toArray nz) :: e4 :: e5 :: e6 :: e7 :: e8 :: e9 :: (nc, o) :: e11 :: e12 :: rest) → Q .next { s with heap := h, toks := tk }) :
    wpAny (model prog w) A (pyIter (.ref r)) (fun it s₂ => LoopAtV prog w A h₀ env y body Q E it s₂) E s :=
  kst_tab [Str.ofString "place", Str.ofString "beside", Str.ofString "aslant"] (RowO u v) (u.length + 1) hh hr hb (by omega) F N ho hp turn done
theorem kst_place {prog : Program} {w : World} {A : Around} {E : Value → Shared → Prop} {s : Shared} {env : Env} {h₀ : Heap} {y : Str} {body : List Stmt} {Q : Flow → Shared → Prop}
    {r : Addr} {b₀ : Int} {t₀ u₀ v₀ : Tok} {m₀ : Str → Option Value} {e1 e2 e4 e5 e6 e7 e8 e9 e11 e12 : Addr × Obj} {rest : List (Addr × Obj)} {il nc : Addr} {nz : Nat} {vs₀ : List Value} {o₀ : Obj} {u v : List Nat} {l : Nat}
    (hh : A.handled = none) (hr : IsRange s.heap r 0 b₀ 1 t₀ u₀ v₀) (hb : b₀ = (v.length + 1 : Nat)) (hu3 : u.length ≤ 3) (hv3 : v.length ≤ 3) (F : Fr h₀ env.locals s.heap m₀)
    (N : News h₀ env.locals s.heap (e1 :: e2 :: (il, W.listOf vs₀.toArray nz) :: e4 :: e5 :: e6 :: e7 :: e8 :: e9 :: (nc, o₀) :: e11 :: e12 :: rest)) (ho : ∃ q, o₀.data = .cell q) (hp : RowI u v l 0 vs₀)
    (turn : ∀ (c : List Value) (o : Obj) (pre : List Int) (k : Nat) t (z9 : Str → Option Value) h tk own, pre.length = k → k < v.length + 1 → OwnOff own (e1.1 :: e2.1 :: il :: e4.1 :: e5.1 :: e6.1 :: e7.1 :: e8.1 :: e9.1 :: nc :: e11.1 :: e12.1 :: rest.map (·.1)) → (∃ q, o.data = .cell q) → RowI u v l k c →
      Fr h₀ env.locals h (fun z => if z = y then some (.int (k : Int) t) else kstB (fun z => if [Str.ofString "beside", Str.ofString "aslant"].contains z then z9 z else m₀ z) [] z) → News h₀ env.locals h ((e1 :: e2 :: (il, W.listOf c.toArray nz) :: e4 :: e5 :: e6 :: e7 :: e8 :: e9 :: (nc, o) :: e11 :: e12 :: rest) ++ own) →
      wpAny (model prog w) A (execs body env) (InvPostN h₀ env.locals (KstS (ledT e1 e2 e4 e5 e6 e7 e8 e9 e11 e12 il nc nz rest) (fun _ => []) (fun c => ∃ q, c.2.data = .cell q) y [Str.ofString "beside", Str.ofString "aslant"] m₀ (fun pre c => RowI u v l pre.length c.1) (pre ++ [(k : Int)])) own (e1.1 :: e2.1 :: il :: e4.1 :: e5.1 :: e6.1 :: e7.1 :: e8.1 :: e9.1 :: nc :: e11.1 :: e12.1 :: rest.map (·.1)) { s with heap := h, toks := tk } Q) E { s with heap := h, toks := tk })
    (done : ∀ (c : List Value) (o : Obj) (z9 : Str → Option Value) h tk, (∃ q, o.data = .cell q) → RowI u v l (v.length + 1) c → Fr h₀ env.locals h (fun z => if z = y then z9 z else kstB (fun z => if [Str.ofString "beside", Str.ofString "aslant"].contains z then z9 z else m₀ z) [] z) → News h₀ env.locals h (e1 :: e2 :: (il, W.listOf c.toArray nz) :: e4 :: e5 :: e6 :: e7 :: e8 :: e9 :: (nc, o) :: e11 :: e12 :: rest) → Q .next { s with heap := h, toks := tk }) :
    wpAny (model prog w) A (pyIter (.ref r)) (fun it s₂ => LoopAtV prog w A h₀ env y body Q E it s₂) E s :=
  kst_tab [Str.ofString "beside", Str.ofString "aslant"] (RowI u v l) (v.length + 1) hh hr hb (by omega) F N ho hp turn done
theorem rowI_of {u v : List Nat} {l : Nat} {vs : List Value} (R : RowO u v l vs) : RowI u v l 0 vs := R
theorem rowO_next {u v : List Nat} {l : Nat} {vs : List Value} (R : RowI u v l (v.length + 1) vs) : RowO u v (l + 1) vs := by
  unfold RowO
  rw [Nat.succ_mul]
  exact R
end Mine
namespace Mine
theorem allLt_tail {d : Addr} {q : Addr × Obj} : ∀ {l : List (Addr × Obj)}, AllLt d l → q ∈ l → @LT.lt Nat _ q.1 d
  | [], _, hm => nomatch hm
  | p :: r, h, hm => by
    rcases List.mem_cons.mp hm with e | hm
    · rw [e]; exact h.1
    · exact allLt_tail h.2 hm
/-- where told stands in the text, and its full name -/
def toldPos : Pos := ⟨150, 4, 151, 71⟩
def toldQ : Str := Str.ofString "_law_table.<locals>.told"
def TabIn (ps : Array Value) (small : List (Addr × Obj)) : Prop :=
  (ps = #[] ∧ small = []) ∨ ∃ c₀ oc vs t, small = [(c₀, oc)] ∧ oc.data = .fields vs ∧ vs[1]? = some (.str toldQ t) ∧ TriplesOk ps.toList ∧ codeAmong toldPos ps.toList = some (.ref c₀)
theorem tabHas_of {ps : Array Value} {small news : List (Addr × Obj)} {L : Addr} {qual : Str} {pos : Pos} (h : TabIn ps small) (hl : AllLt L ((285, tabObj ps) :: small)) (hs : ∀ q ∈ small, q ∈ news) (hq : qual = toldQ) (hp : pos = toldPos) : TabHas ps small L news qual pos := by
  subst hq hp
  refine h.imp id ?_
  rintro ⟨c₀, oc, vs, t, rfl, a, b, c, d⟩
  exact ⟨c₀, oc, vs, t, rfl, hs _ (.head _), allLt_tail hl (.tail _ (.head _)), a, b, c, d⟩
theorem nest_told {M : Model} {A : Around} {E : Value → Shared → Prop} {s : Shared} {h₀ : Heap} {L a c P : Addr} {m mg mb : Str → Option Value} {cn : Str} {cs : Scope} {ccd : Value} {cl : List (Str × Addr)} {news : List (Addr × Obj)} {g : Obj → List (Addr × Obj)}
  {p : Program} {loose : List Str} {mean : ExcName → Option Value} {name qual : Str} {params : Arguments} {body : List Stmt} {scope : Scope} {ps : Array Value} {pos : Pos} {firstLine : Nat} {clos : List (Str × Addr)} {Q : Value → Shared → Prop} (F : Fr h₀ L s.heap m) (N : News h₀ L s.heap news) (T : Top p loose mean mg mb h₀) (C : CodeHd h₀ c P) (hcd : ccd = .ref c) (U : UpdF P (tabObj ps) news g) {small : List (Addr × Obj)}
    (H : TabIn ps small) (hlt : AllLt L ((285, tabObj ps) :: small)) (hs : ∀ q ∈ small, q ∈ news) (hq : qual = toldQ) (hp : pos = toldPos)
    (hcl : closureFor scope (envX cn cs L a ccd cl) = pure clos)
    (h : ∀ f c' oc vs t ctv doc ps' h' tk, Fr h₀ L h' m →
      News h₀ L h' ((f, fnMade name qual params body scope clos doc ((mg "__name__").getD .none) c' ctv) :: (c', oc) :: g (tabObj ps')) →
      oc.data = .fields vs → vs[1]? = some (.str toldQ t) → TriplesOk ps'.toList → codeAmong toldPos ps'.toList = some (.ref c') → (∀ q ∈ news, @LT.lt Nat _ q.1 f) → NeFrom small c' news → (∀ q ∈ small, q = (c', oc)) → Q (.ref f) { s with heap := h', toks := tk }) :
    wpAny M A (makeFunction name qual params (.stmts body) scope (envX cn cs L a ccd cl) [] [] [] pos firstLine) Q E s := by
  refine nest_any F N T C hcd U (tabHas_of H hlt hs hq hp) hcl ?_
  subst hq hp
  exact h
/-- what _law_table tells: a table that is told whole -/
def TabR (u v : List Nat) (low : Int) (small : List (Addr × Obj)) (r : Value) (tl : List (Addr × Obj)) (o₁ : Obj) : Prop :=
  ∃ x dx bl bt bu il c' oc' vs' t' ps' items ex nb nt nu nz h1 h2 h3 h4 h5 h6 t1 t2 t3 t4 t5 t6 v1 v2 v3 v4 u1 u2 u3 u4, r = .ref x ∧
    tl = (x, instObj 208 dx) :: (dx, arrD h1 h2 h3 h4 h5 h6 t1 t2 t3 t4 t5 t6 v1 v2 v3 v4 bl il) :: (bl, W.listOf #[.ref bt, .ref bu] nb) :: (bt, tup2 low (low + (u.length : Int)) u1 u2 nt) :: (bu, tup2 low (low + (v.length : Int)) u3 u4 nu) :: (il, W.listOf (List.toArray items) nz) :: ex ∧
    IntsAre items (tab u v) ∧ o₁ = tabObj ps' ∧ oc'.data = .fields vs' ∧ vs'[1]? = some (.str toldQ t') ∧ TriplesOk ps'.toList ∧ codeAmong toldPos ps'.toList = some (.ref c') ∧
    ((small = [] ∧ ex = [(c', oc')]) ∨ (small = [(c', oc')] ∧ ex = []))
theorem tabR_intro {u v : List Nat} {low : Int} {small : List (Addr × Obj)} {x dx bl bt bu il c' : Addr} {oc' : Obj} {vs' : Array Value} {t' : Tok} {ps' : Array Value} {items : List Value} {ex : List (Addr × Obj)} {nb nt nu nz : Nat} {h1 h2 h3 h4 h5 h6 : Int} {t1 t2 t3 t4 t5 t6 : Tok} {v1 v2 v3 v4 : Value} {u1 u2 u3 u4 : Tok}
    (hI : IntsAre items (tab u v)) (j1 : oc'.data = .fields vs') (j2 : vs'[1]? = some (.str toldQ t')) (j3 : TriplesOk ps'.toList) (j4 : codeAmong toldPos ps'.toList = some (.ref c')) (j5 : (small = [] ∧ ex = [(c', oc')]) ∨ (small = [(c', oc')] ∧ ex = [])) :
    TabR u v low small (.ref x) ((x, instObj 208 dx) :: (dx, arrD h1 h2 h3 h4 h5 h6 t1 t2 t3 t4 t5 t6 v1 v2 v3 v4 bl il) :: (bl, W.listOf #[.ref bt, .ref bu] nb) :: (bt, tup2 low (low + (u.length : Int)) u1 u2 nt) :: (bu, tup2 low (low + (v.length : Int)) u3 u4 nu) :: (il, W.listOf (List.toArray items) nz) :: ex) (tabObj ps') :=
  ⟨x, dx, bl, bt, bu, il, c', oc', vs', t', ps', items, ex, nb, nt, nu, nz, h1, h2, h3, h4, h5, h6, t1, t2, t3, t4, t5, t6, v1, v2, v3, v4, u1, u2, u3, u4, rfl, rfl, hI, rfl, j1, j2, j3, j4, j5⟩
theorem rowO_full {u v : List Nat} {vs : List Value} (R : RowO u v (u.length + 1) vs) : IntsAre vs (tab u v) := rowT_full R rfl
def RowStart (u v : List Nat) : Prop := ∀ vs x y, IntsAre vs (List.replicate (x * y).toNat 0) → x = (u.length : Int) + 1 ∧ y = (v.length : Int) + 1 → RowO u v 0 vs
theorem rowStart (u v : List Nat) : RowStart u v := fun _ _ _ h e => rowO_zero h e
theorem forall_six {P : Addr × Obj → Prop} {a b c d e f : Addr × Obj} {l : List (Addr × Obj)} (h1 : P a) (h2 : P b) (h3 : P c) (h4 : P d) (h5 : P e) (h6 : P f) (h7 : ∀ q ∈ l, P q) : ∀ q ∈ a :: b :: c :: d :: e :: f :: l, P q := fun q h => by
  simp only [List.mem_cons] at h
  rcases h with rfl | rfl | rfl | rfl | rfl | rfl | h
  · exact h1
  · exact h2
  · exact h3
  · exact h4
  · exact h5
  · exact h6
  · exact h7 q h
/-- a place of the table that has a place beside it -/
structure CellG (u v : List Nat) (l k l1 k1 : Nat) : Prop where
  el : l = l1 + 1
  ek : k = k1 + 1
  lu : l1 < u.length
  lv : k1 < v.length
  e : cell u v l k = min (min (cell u v l1 k) (cell u v l k1) + 1) (cell u v l1 k1 + dif (u.getD l1 0) (v.getD k1 0))
  a1 : cell u v l k - cell u v l1 k ≤ 1
  a2 : cell u v l1 k - cell u v l k ≤ 1
  b1 : cell u v l k - cell u v l k1 ≤ 1
  b2 : cell u v l k1 - cell u v l k ≤ 1
  c : cell u v l k = cell u v l1 k1 ∨ cell u v l k = cell u v l1 k1 + 1
theorem cellG {u v : List Nat} (hu : u ∈ W) (hv : v ∈ W) {l1 k1 : Nat} (hi : l1 < u.length) (hj : k1 < v.length) : CellG u v (l1 + 1) (k1 + 1) l1 k1 :=
  have h := cellF hu hv hi hj
  ⟨rfl, rfl, hi, hj, h.e, h.a1, h.a2, h.b1, h.b2, h.c⟩
theorem cell_edge (u v : List Nat) {l k : Nat} (h : l = 0 ∨ k = 0) : cell u v l k = (l : Int) + k := by
  rcases h with rfl | rfl
  · rw [cell_0]; omega
  · rw [cell_c]; omega
theorem kst_place2 {prog : Program} {w : World} {A : Around} {E : Value → Shared → Prop} {s : Shared} {env : Env} {h₀ : Heap} {y : Str} {body : List Stmt} {Q : Flow → Shared → Prop}
    {r : Addr} {b₀ : Int} {t₀ u₀ v₀ : Tok} {m₀ : Str → Option Value} {e1 e2 e4 e5 e6 e7 e8 e9 e11 e12 : Addr × Obj} {rest : List (Addr × Obj)} {il nc : Addr} {nz : Nat} {vs₀ : List Value} {o₀ : Obj} {u v : List Nat} {l : Nat}
    (hh : A.handled = none) (hr : IsRange s.heap r 0 b₀ 1 t₀ u₀ v₀) (hb : b₀ = (v.length + 1 : Nat)) (hu3 : u.length ≤ 3) (hv3 : v.length ≤ 3) (F : Fr h₀ env.locals s.heap m₀)
    (N : News h₀ env.locals s.heap (e1 :: e2 :: (il, W.listOf vs₀.toArray nz) :: e4 :: e5 :: e6 :: e7 :: e8 :: e9 :: (nc, o₀) :: e11 :: e12 :: rest)) (ho : ∃ q, o₀.data = .cell q) (hp : RowI u v l 0 vs₀) (hu : u ∈ W) (hv : v ∈ W) (hl : l < u.length + 1)
    (turn0 : ∀ (c : List Value) (o : Obj) (pre : List Int) (k : Nat) t (z9 : Str → Option Value) h tk own, (l = 0 ∨ k = 0) → cell u v l k = (l : Int) + k → pre.length = k → k < v.length + 1 → OwnOff own (e1.1 :: e2.1 :: il :: e4.1 :: e5.1 :: e6.1 :: e7.1 :: e8.1 :: e9.1 :: nc :: e11.1 :: e12.1 :: rest.map (·.1)) → (∃ q, o.data = .cell q) → RowI u v l k c →
      Fr h₀ env.locals h (fun z => if z = y then some (.int (k : Int) t) else kstB (fun z => if [Str.ofString "beside", Str.ofString "aslant"].contains z then z9 z else m₀ z) [] z) → News h₀ env.locals h ((e1 :: e2 :: (il, W.listOf c.toArray nz) :: e4 :: e5 :: e6 :: e7 :: e8 :: e9 :: (nc, o) :: e11 :: e12 :: rest) ++ own) →
      wpAny (model prog w) A (execs body env) (InvPostN h₀ env.locals (KstS (ledT e1 e2 e4 e5 e6 e7 e8 e9 e11 e12 il nc nz rest) (fun _ => []) (fun c => ∃ q, c.2.data = .cell q) y [Str.ofString "beside", Str.ofString "aslant"] m₀ (fun pre c => RowI u v l pre.length c.1) (pre ++ [(k : Int)])) own (e1.1 :: e2.1 :: il :: e4.1 :: e5.1 :: e6.1 :: e7.1 :: e8.1 :: e9.1 :: nc :: e11.1 :: e12.1 :: rest.map (·.1)) { s with heap := h, toks := tk } Q) E { s with heap := h, toks := tk })
    (turn1 : ∀ (c : List Value) (o : Obj) (pre : List Int) (k l1 k1 : Nat) t (z9 : Str → Option Value) h tk own, CellG u v l k l1 k1 → pre.length = k → k < v.length + 1 → OwnOff own (e1.1 :: e2.1 :: il :: e4.1 :: e5.1 :: e6.1 :: e7.1 :: e8.1 :: e9.1 :: nc :: e11.1 :: e12.1 :: rest.map (·.1)) → (∃ q, o.data = .cell q) → RowI u v l k c →
      Fr h₀ env.locals h (fun z => if z = y then some (.int (k : Int) t) else kstB (fun z => if [Str.ofString "beside", Str.ofString "aslant"].contains z then z9 z else m₀ z) [] z) → News h₀ env.locals h ((e1 :: e2 :: (il, W.listOf c.toArray nz) :: e4 :: e5 :: e6 :: e7 :: e8 :: e9 :: (nc, o) :: e11 :: e12 :: rest) ++ own) →
      wpAny (model prog w) A (execs body env) (InvPostN h₀ env.locals (KstS (ledT e1 e2 e4 e5 e6 e7 e8 e9 e11 e12 il nc nz rest) (fun _ => []) (fun c => ∃ q, c.2.data = .cell q) y [Str.ofString "beside", Str.ofString "aslant"] m₀ (fun pre c => RowI u v l pre.length c.1) (pre ++ [(k : Int)])) own (e1.1 :: e2.1 :: il :: e4.1 :: e5.1 :: e6.1 :: e7.1 :: e8.1 :: e9.1 :: nc :: e11.1 :: e12.1 :: rest.map (·.1)) { s with heap := h, toks := tk } Q) E { s with heap := h, toks := tk })
    (done : ∀ (c : List Value) (o : Obj) (z9 : Str → Option Value) h tk, (∃ q, o.data = .cell q) → RowI u v l (v.length + 1) c → Fr h₀ env.locals h (fun z => if z = y then z9 z else kstB (fun z => if [Str.ofString "beside", Str.ofString "aslant"].contains z then z9 z else m₀ z) [] z) → News h₀ env.locals h (e1 :: e2 :: (il, W.listOf c.toArray nz) :: e4 :: e5 :: e6 :: e7 :: e8 :: e9 :: (nc, o) :: e11 :: e12 :: rest) → Q .next { s with heap := h, toks := tk }) :
    wpAny (model prog w) A (pyIter (.ref r)) (fun it s₂ => LoopAtV prog w A h₀ env y body Q E it s₂) E s := by
  refine kst_place hh hr hb hu3 hv3 F N ho hp ?_ done
  intro c o pre k t z9 h tk own h1 h2 h3 h4 h5 h6 h7
  by_cases e : l = 0 ∨ k = 0
  · exact turn0 c o pre k t z9 h tk own e (cell_edge u v e) h1 h2 h3 h4 h5 h6 h7
  · obtain ⟨l1, el⟩ : ∃ l1, l = l1 + 1 := ⟨l - 1, by omega⟩
    obtain ⟨k1, ek⟩ : ∃ k1, k = k1 + 1 := ⟨k - 1, by omega⟩
    refine turn1 c o pre k l1 k1 t z9 h tk own ?_ h1 h2 h3 h4 h5 h6 h7
    rw [el, ek]
    exact cellG hu hv (by omega) (by omega)
theorem idx_int {A B C j : Int} {a b c : Nat} (hj : j = A * B + C) (hA : A = (a : Int)) (hB : B = (b : Int)) (hC : C = (c : Int)) : j = ((a * b + c : Nat) : Int) := by
  subst hA hB hC hj
  rw [Int.natCast_add, Int.natCast_mul]
theorem idx_lt {l k a c m : Nat} (h : (a < l ∧ c ≤ m) ∨ (a = l ∧ c < k)) : a * (m + 1) + c < l * (m + 1) + k := by
  rcases h with ⟨h1, h2⟩ | ⟨rfl, h2⟩
  · have := Nat.mul_le_mul_right (m + 1) (show a + 1 ≤ l from h1)
    rw [Nat.succ_mul] at this
    omega
  · omega
theorem all5' {α : Type} {P : α → Prop} {a b c d e : α} (h1 : P a) (h2 : P b) (h3 : P c) (h4 : P d) (h5 : P e) : ∀ q ∈ [a, b, c, d, e], P q := fun q h => by
  simp only [List.mem_cons, List.not_mem_nil, or_false] at h
  rcases h with rfl | rfl | rfl | rfl | rfl <;> assumption
theorem slot_tab {prog : Program} {w : World} {p : Program} {loose : List Str} {mean : ExcName → Option Value} {mg mb : Str → Option Value}
  {dp un : Nat} {gd : Option (List Code)} {cn : Str} {cs : Scope} {a : Addr} {ccd : Value} {cl : List (Str × Addr)} {outer : List Env} {A₀ : Around} {base h₀ : Heap} {L : Addr} {m : Str → Option Value} {news : List (Addr × Obj)} {s : Shared} {Q E : Value → Shared → Prop}
  {h1 h2 h3 h4 h5 h6 e1 e2 e3 : Int} {t1 t2 t3 t4 t5 t6 f1 f2 f3 f4 f5 : Tok} {v1 v2 v3 v4 : Value} {x dx bl il n dn : Addr} {j A C D : Int} {ni : Nat} {vs : List Value} {u v : List Nat} {l k : Nat} (ai ci : Nat)
  (B : Below A₀ base outer h₀) (F : Fr h₀ L s.heap m) (X : (K w.params).In h₀) (N : News h₀ L s.heap news) (T : Top p loose mean mg mb h₀) (hk : cs.kind = .function) (hd : dp + 20 < 1000)
  (m1 : (n, instObj 117 dn) ∈ news) (m2 : (dn, refD e1 e2 e3 f1 f2 f3 f4 f5 x j) ∈ news) (m3 : (x, instObj 208 dx) ∈ news) (m4 : (dx, arrD h1 h2 h3 h4 h5 h6 t1 t2 t3 t4 t5 t6 v1 v2 v3 v4 bl il) ∈ news) (m5 : (il, W.listOf vs.toArray ni) ∈ news)
  (hR : RowI u v l k vs) (hu : u ∈ W) (hv : v ∈ W) (hj : j = A * D + C) (hA : A = (ai : Int)) (hD : D = ((v.length + 1 : Nat) : Int)) (hC : C = (ci : Int)) (hi : (ai < l ∧ ci ≤ v.length) ∨ (ai = l ∧ ci < k)) (hai : ai ≤ u.length) (hci : ci ≤ v.length)
  (ret : ∀ t h' tk', Fr h₀ L h' m → News h₀ L h' news → Q (.int (cell u v ai ci) t) { s with heap := h', toks := tk' }) :
  wpAny (model prog w) (ktrTop dp un gd cn cs L a ccd cl outer) (call (.ref 269) [.ref n]) Q E s := by
  have hj' := idx_int hj hA hD hC
  obtain ⟨ns, hI, hl, hx⟩ := rowT_at hR (idx_lt hi) (tab_at hu hv hai hci)
  have hlt : ai * (v.length + 1) + ci < ns.length := by
    rw [hl]
    exact Nat.lt_of_lt_of_le (idx_lt (l := u.length + 1) (k := 0) (.inl ⟨by omega, hci⟩)) (by omega)
  have hu3 := W_len u hu
  have hv3 := W_len v hv
  have h16 : ns.length ≤ 31 := by
    rw [hl]
    exact Nat.le_trans (Nat.mul_le_mul (show u.length + 1 ≤ 4 by omega) (show v.length + 1 ≤ 4 by omega)) (by decide)
  refine slot1 B F X N T hk hd (all5' m1 m2 m3 m4 m5) hI (by rw [hj']; exact Int.natCast_nonneg _) (by rw [hj']; exact Int.ofNat_lt.mpr hlt) h16 fun r h' tk' F' N' hr => ?_
  obtain ⟨t, rfl⟩ := hr
  rw [hj', Int.toNat_natCast, hx]
  exact ret t h' tk' F' N'
/-- told, by the frame of a place: above, beside, aslant -/
theorem slot_up {prog : Program} {w : World} {p : Program} {loose : List Str} {mean : ExcName → Option Value} {mg mb : Str → Option Value}
  {dp un : Nat} {gd : Option (List Code)} {cn : Str} {cs : Scope} {a : Addr} {ccd : Value} {cl : List (Str × Addr)} {outer : List Env} {A₀ : Around} {base h₀ : Heap} {L : Addr} {m : Str → Option Value} {news : List (Addr × Obj)} {s : Shared} {Q E : Value → Shared → Prop}
  {h1 h2 h3 h4 h5 h6 e1 e2 e3 : Int} {t1 t2 t3 t4 t5 t6 f1 f2 f3 f4 f5 : Tok} {v1 v2 v3 v4 : Value} {x dx bl il n dn : Addr} {j A C D : Int} {ni : Nat} {vs : List Value} {u v : List Nat} {l k l1 k1 ai ci : Nat}
  (G : CellG u v l k l1 k1) (way : (ai = l1 ∧ ci = k) ∨ (ai = l ∧ ci = k1) ∨ (ai = l1 ∧ ci = k1))
  (B : Below A₀ base outer h₀) (F : Fr h₀ L s.heap m) (X : (K w.params).In h₀) (N : News h₀ L s.heap news) (T : Top p loose mean mg mb h₀) (hk : cs.kind = .function) (hd : dp + 20 < 1000)
  (m1 : (n, instObj 117 dn) ∈ news) (m2 : (dn, refD e1 e2 e3 f1 f2 f3 f4 f5 x j) ∈ news) (m3 : (x, instObj 208 dx) ∈ news) (m4 : (dx, arrD h1 h2 h3 h4 h5 h6 t1 t2 t3 t4 t5 t6 v1 v2 v3 v4 bl il) ∈ news) (m5 : (il, W.listOf vs.toArray ni) ∈ news)
  (hR : RowI u v l k vs) (hu : u ∈ W) (hv : v ∈ W) (hj : j = A * D + C) (hA : A = (ai : Int)) (hD : D = ((v.length + 1 : Nat) : Int)) (hC : C = (ci : Int))
  (ret : ∀ t h' tk', Fr h₀ L h' m → News h₀ L h' news → Q (.int (cell u v ai ci) t) { s with heap := h', toks := tk' }) :
  wpAny (model prog w) (ktrTop dp un gd cn cs L a ccd cl outer) (call (.ref 269) [.ref n]) Q E s :=
  have h1 := G.el
  have h2 := G.ek
  have h3 := G.lu
  have h4 := G.lv
  slot_tab ai ci B F X N T hk hd m1 m2 m3 m4 m5 hR hu hv hj hA hD hC (by omega) (by omega) (by omega) ret
theorem tab_set {prog : Program} {w : World} {A : Around} {E : Value → Shared → Prop} {s : Shared} {h₀ : Heap} {L D : Addr} {m : Str → Option Value} {news news' : List (Addr × Obj)} {vs : List Value} {n : Nat} {j x a b c : Int} {t t' : Tok} {u v : List Nat} {l k : Nat} {Q : Unit → Shared → Prop}
    (F : Fr h₀ L s.heap m) (N : News h₀ L s.heap news) (R : RowI u v l k vs) (U : Upd D (W.listOf vs.toArray n) (W.listOf (vs.set j.toNat (.int x t')).toArray n) news news') (hu : u ∈ W) (hv : v ∈ W) (hj : j = a * b + c) (ha : a = (l : Int)) (hb : b = ((v.length + 1 : Nat) : Int)) (hc : c = (k : Int)) (hl : l < u.length + 1) (hk : k < v.length + 1) (hx : x = cell u v l k)
    (h : ∀ h', Fr h₀ L h' m → News h₀ L h' news' → RowI u v l (k + 1) (vs.set j.toNat (.int x t')) → Q () { s with heap := h' }) :
    wpAny (model prog w) A (setItem (.ref D) (.int j t) (.int x t')) Q E s := by
  have hj' := idx_int hj ha hb hc
  obtain ⟨ns, hI, hlen, ht⟩ := id R
  have hlt : l * (v.length + 1) + k < ns.length := by
    rw [hlen]
    exact Nat.lt_of_lt_of_le (idx_lt (l := u.length + 1) (k := 0) (m := v.length) (.inl ⟨hl, by omega⟩)) (by omega)
  have hu3 := W_len u hu
  have hv3 := W_len v hv
  have h16 : ns.length ≤ 31 := by
    rw [hlen]
    exact Nat.le_trans (Nat.mul_le_mul (show u.length + 1 ≤ 4 by omega) (show v.length + 1 ≤ 4 by omega)) (by decide)
  refine ksa_set F N U hI (by rw [hj']; exact Int.natCast_nonneg _) (by rw [hj']; exact Int.ofNat_lt.mpr hlt) (by rw [hj']; exact Int.lt_trans (Int.ofNat_lt.mpr (Nat.lt_of_lt_of_le hlt h16)) (by decide)) fun h' F' N' _ _ _ => h h' F' N' ?_
  have e : j.toNat = l * (v.length + 1) + k := by rw [hj', Int.toNat_natCast]
  rw [e]
  refine rowT_next R ?_
  rw [hx]
  exact tab_at hu hv (by omega) (by omega)
theorem rowI_ex {vs : List Value} {u v : List Nat} {l k : Nat} (R : RowI u v l k vs) : ∃ vs', vs' = vs ∧ RowI u v l k vs' := ⟨vs, rfl, R⟩
theorem rowI_len {pre : List Int} {x : Int} {vs : List Value} {u v : List Nat} {l k : Nat} (h : pre.length = k) (R : RowI u v l (k + 1) vs) : RowI u v l (pre ++ [x]).length vs := by
  rw [List.length_append, h]
  exact R
theorem rowO_len {pre : List Int} {x : Int} {vs : List Value} {u v : List Nat} {l : Nat} (h : pre.length = l) (R : RowI u v l (v.length + 1) vs) : RowO u v (pre ++ [x]).length vs := by
  rw [List.length_append, h]
  exact rowO_next R
section
variable {prog : Program} {w : World} {A : Around} {E : Value → Shared → Prop} {s : Shared}
/-- the letters that a place looks at -/
theorem item_l {u v : List Nat} {l k l1 k1 : Nat} {i : Int} {t t' : Tok} {value slice : PySem.Expr} {Q : Value → Shared → Prop} (G : CellG u v l k l1 k1) (hu : u ∈ W) (hi : i = (l1 : Int)) (h : Q (.str (S [u.getD l1 0]) s.toks) { s with toks := s.toks + 1 })
    (hs : subscripted slice false (.str (S u) t) (.int i t') = operate [.str (S u) t, .int i t'] (getItem (.str (S u) t) (.int i t')))
    (ht : ∀ r, letTemporaryGo value (.str (S u) t) r = pure ()) : wpAny (model prog w) A (subscriptTail value slice (.str (S u) t) (.int i t')) Q E s := by
  subst hi
  have := G.lu
  exact item_S (W_W0 u hu) (by omega) (by omega) (by rw [Int.toNat_natCast]; exact h) hs ht
theorem item_k {u v : List Nat} {l k l1 k1 : Nat} {i : Int} {t t' : Tok} {value slice : PySem.Expr} {Q : Value → Shared → Prop} (G : CellG u v l k l1 k1) (hv : v ∈ W) (hi : i = (k1 : Int)) (h : Q (.str (S [v.getD k1 0]) s.toks) { s with toks := s.toks + 1 })
    (hs : subscripted slice false (.str (S v) t) (.int i t') = operate [.str (S v) t, .int i t'] (getItem (.str (S v) t) (.int i t')))
    (ht : ∀ r, letTemporaryGo value (.str (S v) t) r = pure ()) : wpAny (model prog w) A (subscriptTail value slice (.str (S v) t) (.int i t')) Q E s := by
  subst hi
  have := G.lv
  exact item_S (W_W0 v hv) (by omega) (by omega) (by rw [Int.toNat_natCast]; exact h) hs ht
theorem dif_ne (a b : Nat) : (if (a != b) = true then (1 : Int) else 0) = dif a b := by
  unfold dif
  by_cases c : a = b <;> simp [c]
theorem int_ne {a b : Nat} {Q : Value → Shared → Prop} (h : Q (.int (dif a b) s.toks) { s with toks := s.toks + 1 }) : wpAny (model prog w) A (call (.type "int") [.bool (a != b)]) Q E s :=
  call_int_bool (by rw [dif_ne]; exact h)
theorem notin2_no {T : Addr} {a b x : Int} {ta tb u : Tok} {Q : Value → Shared → Prop} (ht : IsTup s.heap T #[.int a ta, .int b tb]) (e : x = a ∨ x = b) (h : Q (.bool false) s) : wpAny (model prog w) A (compareOp .NotIn (.int x u) (.ref T)) Q E s := by
  refine notin_tuple_ints ht (ns := [a, b]) (.cons _ _ (.cons _ _ .nil)) ?_
  have q : ([a, b].any fun z => z == x) = true := by
    simp only [List.any_cons, List.any_nil, Bool.or_false, Bool.or_eq_true, beq_iff_eq]
    omega
  rw [q]
  exact h
theorem eq_no {a b : Int} {t u : Tok} {Q : Value → Shared → Prop} (e : a ≠ b) (h : Q (.bool false) s) : wpAny (model prog w) A (compareOp .Eq (.int a t) (.int b u)) Q E s := by
  refine eq_int ?_
  rw [beq_eq_false_iff_ne.mpr e]
  exact h
theorem min2_cell {h₀ : Heap} {L : Addr} {m : Str → Option Value} {news : List (Addr × Obj)} {a b c : Int} {t u : Tok} {Q : Value → Shared → Prop} (hh : A.handled = none) (F : Fr h₀ L s.heap m) (N : News h₀ L s.heap news) (e : c = min a b)
    (h : ∀ t' h' tk, Fr h₀ L h' m → News h₀ L h' news → Q (.int c t') { s with heap := h', toks := tk }) : wpAny (model prog w) A (call (.builtin "min") [.int a t, .int b u]) Q E s :=
  min_two_N hh F N fun h' tk F' N' => by
    have q : (if b < a then b else a) = c := by
      rw [e]
      split <;> omega
    rw [q]
    exact h _ h' tk F' N'
theorem any2_no {h₀ : Heap} {L l : Addr} {m : Str → Option Value} {news : List (Addr × Obj)} {a b : Bool} {Q : Value → Shared → Prop} (F : Fr h₀ L s.heap m) (N : News h₀ L s.heap news) (hh : A.handled = none) (hl : s.heap.IsList l (List.toArray [.bool a, .bool b])) (ha : a = false) (hb : b = false)
    (h : ∀ h' tk, Fr h₀ L h' m → News h₀ L h' news → Q (.bool false) { s with heap := h', toks := tk }) : wpAny (model prog w) A (call (.builtin "any") [.ref l]) Q E s := by
  subst ha hb
  exact LSm.any_bools F N hh hl (.cons _ (.cons _ .nil)) h
theorem gt_no {x : Int} (h1 : x ≤ 1) (h2 : -x ≤ 1) : decide (1 < if x < 0 then -x else x) = false := by
  refine decide_eq_false ?_
  split <;> omega
end
end Mine
namespace Mine
section
variable {prog : Program} {w : World} {A A₀ : Around} {E : Value → Shared → Prop} {s : Shared} {K : Frag} {L : Addr} {h₀ base : Heap} {m mg mb : Str → Option Value} {news : List (Addr × Obj)} {p : Program} {loose : List Str} {mean : ExcName → Option Value}
/-- as code_defT, for a function that a def in a def has made -/
theorem code_nestP (small : List (Addr × Obj)) (P : Value → List (Addr × Obj) → Prop) {env : Env} {outer : List Env} {R : Result → Shared → Prop} {name qual : Str} {params : Arguments} {body : List Stmt} {scope : Scope} {cl : List (Str × Addr)} {doc pm ctv : Value} {c' : Addr} {f : Addr} {args : Args} {binds : List (Str × Value)}
    (B : Below A₀ base outer h₀) (F : Fr h₀ L s.heap m) (X₀ : K.In h₀) (N : News h₀ L s.heap news) (T : Top p loose mean mg mb h₀) (hA : A.frames = some (env :: outer)) (hf : env.frame = some L) (hke : env.scope.kind = .function) (hs : ∀ q ∈ small, q ∈ news)
    (hP : ∀ v tl h' tk, Fr h₀ L h' m → News h₀ L h' (tl ++ news) → (∀ p ∈ tl, ∀ q ∈ news, p.1 ≠ q.1) → P v tl → R (.ok (.ret v)) { s with heap := h', toks := tk })
    (ho : (f, fnMade name qual params body scope cl doc pm c' ctv) ∈ news) (hcd : s.heap.CodeRec (.ref c') qual) (hroom : A.depth < recursionLimit)
    (hbind : BindsTo s (fnX name qual params body scope cl .none .none doc pm none (.ref c') ctv) args binds) (hloc : ∀ y ∈ binds, scope.names.lookup y.1 = some .local)
    (h : ∀ g L' h₁ tk, Fr g L' h₁ (fun y => binds.reverse.lookup y) → News g L' h₁ small → Below A base (env :: outer) g → K.In g → Top p loose mean mg mb g → (∀ p ∈ small, p.1 < L') →
      wpAny (model prog w) (A.deeper (envX qual scope L' f (.ref c') cl)) (execs body (envX qual scope L' f (.ref c') cl))
        (fun fl s' => LeaveT g L' small P s (match fl with | .ret v => v | _ => .none) s') (fun _ _ => False)
        { s with heap := h₁, toks := tk })
    (hco : scope.isCoroutine = false) (hgen : scope.isGenerator = false) (hk : scope.kind = .function) (hcell : ∀ x ∈ scope.names, x.2 ≠ .cell) : codeAny (model prog w) A (.call (.ref f) args) R s := by
  refine callX_plain (cl := cl) B F N T.nolimit hA hf hke (N _ ho).1 rfl hcd hroom hbind hloc (fun g L' h₁ FG F' N' B' st l1 => ?_) hcell hco hgen hk
  obtain ⟨g₂, st₂, F₂, N₂, rest⟩ := rebase (own := []) F' N' l1 hs
  refine wpAny_mono (h g₂ L' h₁ _ F₂ N₂ (below_stays B' st₂) (X₀.keeps fun b o e => st₂ b o (st b o e)) (T.keeps fun b o e => st₂ b o (st b o e)) (fun q hq => l1 q (hs q hq))) (fun fl s' hl => ?_) fun _ _ e => e.elim
  exact leaveT_to (own := []) N F' N' hs (fun _ hq => nomatch hq) l1 st₂ rest hP hl
end
theorem told_retP {h₀ : Heap} {L : Addr} {m : Str → Option Value} {news : List (Addr × Obj)} {s : Shared} {Q : Value → Shared → Prop} {c : Int} (ret : ∀ t h' tk', Fr h₀ L h' m → News h₀ L h' news → Q (.int c t) { s with heap := h', toks := tk' }) :
    ∀ r tl h' tk', Fr h₀ L h' m → News h₀ L h' (tl ++ news) → (∀ p ∈ tl, ∀ q ∈ news, p.1 ≠ q.1) → (tl = [] ∧ ∃ t, r = .int c t) → Q r { s with heap := h', toks := tk' } := by
  rintro r tl h' tk' F' N' _ ⟨rfl, t, rfl⟩
  exact ret t h' tk' F' N'
/-- the contract of the table's told, while the table grows -/
def ToldP (prog : Program) (w : World) (A : Around) (h₀ : Heap) (L f il : Addr) (nz : Nat) (pre : List (Addr × Obj)) (u v : List Nat) : Prop :=
  ∀ {m : Str → Option Value} {news : List (Addr × Obj)} {s : Shared} {Q E : Value → Shared → Prop} {vs : List Value} {l k l1 k1 : Nat} {a b : Int} {z1 z2 : Tok} {ai ci : Nat}
    (_ : Fr h₀ L s.heap m) (_ : News h₀ L s.heap news) (_ : ∀ q ∈ (il, W.listOf (List.toArray vs) nz) :: pre, q ∈ news) (_ : RowI u v l k vs) (_ : CellG u v l k l1 k1)
    (_ : (ai = l1 ∧ ci = k) ∨ (ai = l ∧ ci = k1) ∨ (ai = l1 ∧ ci = k1)) (_ : a = (ai : Int)) (_ : b = (ci : Int))
    (_ : ∀ t h' tk', Fr h₀ L h' m → News h₀ L h' news → Q (.int (cell u v ai ci) t) { s with heap := h', toks := tk' }),
    wpAny (model prog w) A (call (.ref f) [.int a z1, .int b z2]) Q E s
theorem told_useP {prog : Program} {w : World} {A : Around} {h₀ : Heap} {L f il : Addr} {nz : Nat} {pre : List (Addr × Obj)} {u v : List Nat} {m : Str → Option Value} {news : List (Addr × Obj)} {s : Shared} {Q E : Value → Shared → Prop} {vs : List Value} {l k l1 k1 : Nat} {a b : Int} {z1 z2 : Tok} {ai ci : Nat}
    (H : ToldP prog w A h₀ L f il nz pre u v) (G : CellG u v l k l1 k1) (R : RowI u v l k vs) (way : (ai = l1 ∧ ci = k) ∨ (ai = l ∧ ci = k1) ∨ (ai = l1 ∧ ci = k1)) (F : Fr h₀ L s.heap m) (N : News h₀ L s.heap news) (m1 : (il, W.listOf (List.toArray vs) nz) ∈ news) (m3 : ∀ q ∈ pre, q ∈ news) (ea : a = (ai : Int)) (ec : b = (ci : Int))
    (h : ∀ t h' tk', Fr h₀ L h' m → News h₀ L h' news → Q (.int (cell u v ai ci) t) { s with heap := h', toks := tk' }) :
    wpAny (model prog w) A (call (.ref f) [.int a z1, .int b z2]) Q E s :=
  H F N (List.forall_mem_cons.mpr ⟨m1, m3⟩) R G way ea ec h
structure PMark (u v : List Nat) (l k l1 k1 : Nat) (vs : List Value) (a b : Int) (ai ci : Nat) : Prop where
  hu : u ∈ W
  hv : v ∈ W
  row : RowI u v l k vs
  g : CellG u v l k l1 k1
  way : (ai = l1 ∧ ci = k) ∨ (ai = l ∧ ci = k1) ∨ (ai = l1 ∧ ci = k1)
  ea : a = (ai : Int)
  ec : b = (ci : Int)
  ha : ai ≤ u.length
  hc : ci ≤ v.length
theorem pmark {u v : List Nat} {l k l1 k1 : Nat} {vs : List Value} {a b : Int} {ai ci : Nat} (hu : u ∈ W) (hv : v ∈ W) (row : RowI u v l k vs) (g : CellG u v l k l1 k1) (way : (ai = l1 ∧ ci = k) ∨ (ai = l ∧ ci = k1) ∨ (ai = l1 ∧ ci = k1)) (ea : a = (ai : Int)) (ec : b = (ci : Int)) : PMark u v l k l1 k1 vs a b ai ci := by
  have h1 := g.el
  have h2 := g.ek
  have h3 := g.lu
  have h4 := g.lv
  exact ⟨hu, hv, row, g, way, ea, ec, by omega, by omega⟩
theorem cut_toldP {prog : Program} {w : World} {A : Around} {h₀ h : Heap} {L f c' x dx bl bt bu il : Addr} {fo oc o1 o3 : Obj} {news : List (Addr × Obj)} {u v : List Nat} {α : Type} {y : Sem α} {Q : α → Shared → Prop} {E : Value → Shared → Prop} {s : Shared} {low : Int} {h1 h2 h3 h4 h5 h6 : Int} {t1 t2 t3 t4 t5 t6 u1 u2 u3 u4 : Tok} {v1 v2 v3 v4 : Value} {nb nt nu nz : Nat} {items : List Value}
    (N : News h₀ L h news) (hS : RowStart u v) (mf : (f, fo) ∈ news) (mc : (c', oc) ∈ news) (mx : (x, instObj 208 dx) ∈ news) (md : (dx, arrD h1 h2 h3 h4 h5 h6 t1 t2 t3 t4 t5 t6 v1 v2 v3 v4 bl il) ∈ news) (mb : (bl, W.listOf #[.ref bt, .ref bu] nb) ∈ news) (mt : (bt, tup2 low (low + (u.length : Int)) u1 u2 nt) ∈ news) (mu : (bu, tup2 low (low + (v.length : Int)) u3 u4 nu) ∈ news) (mi : (il, W.listOf (List.toArray items) nz) ∈ news)
    (m5 : (L + 1 + 1 + 1, o3) ∈ news) (m3 : (L + 1, o1) ∈ news)
    (told : ToldP prog w A h₀ L f il nz [(f, fo), (c', oc), (x, instObj 208 dx), (dx, arrD h1 h2 h3 h4 h5 h6 t1 t2 t3 t4 t5 t6 v1 v2 v3 v4 bl il), (bl, W.listOf #[.ref bt, .ref bu] nb), (bt, tup2 low (low + (u.length : Int)) u1 u2 nt), (bu, tup2 low (low + (v.length : Int)) u3 u4 nu), (L + 1 + 1 + 1, o3), (L + 1, o1)] u v)
    (rest : ToldP prog w A h₀ L f il nz [(f, fo), (c', oc), (x, instObj 208 dx), (dx, arrD h1 h2 h3 h4 h5 h6 t1 t2 t3 t4 t5 t6 v1 v2 v3 v4 bl il), (bl, W.listOf #[.ref bt, .ref bu] nb), (bt, tup2 low (low + (u.length : Int)) u1 u2 nt), (bu, tup2 low (low + (v.length : Int)) u3 u4 nu), (L + 1 + 1 + 1, o3), (L + 1, o1)] u v → wpAny (model prog w) A y Q E s) : wpAny (model prog w) A y Q E s :=
  rest told
end Mine
namespace Mine
local macro_rules | `(tactic| k_room) => `(tactic| first | ((try simp only [depth_under_make, depth_under_kw, depth_in1, depth_deeper, depth_caller]); decide) | ((try simp only [depth_under_make, depth_under_kw, depth_in1, depth_deeper, depth_caller]); (try dsimp only [ktrTop]); (simp only [recursionLimit]); omega))
local macro_rules | `(tactic| k_in) => `(tactic| first | with_reducible assumption | exact Frag.In.keeps (by with_reducible assumption) (Fr.keep (by with_reducible assumption)))
local macro_rules | `(tactic| k_lt $h:ident) => `(tactic| replace $h := allLt_of $h)
/-- apart from all of a ledger -/
def NeAll (d : Addr) (l : List (Addr × Obj)) : Prop := ∀ q ∈ l, d ≠ q.1
theorem neAll_of {d : Addr} {l : List (Addr × Obj)} (h : ∀ q ∈ l, d ≠ q.1) : NeAll d l := h
theorem neAll_at {d a : Addr} {o : Obj} {l : List (Addr × Obj)} (h : NeAll d l) (hm : (a, o) ∈ l) : d ≠ a := h _ hm
theorem neAll_at' {d a : Addr} {o : Obj} {l : List (Addr × Obj)} (h : NeAll d l) (hm : (a, o) ∈ l) : a ≠ d := (h _ hm).symm
local macro_rules | `(tactic| k_ne) => `(tactic| (refine neN ?_; (try dsimp only); first | with_reducible assumption | exact Nat.ne_of_lt (allLt_at (by with_reducible assumption) (by k_mem)) | exact Nat.ne_of_gt (allLt_at (by with_reducible assumption) (by k_mem)) | exact neAll_at (by with_reducible assumption) (by k_mem) | exact neAll_at' (by with_reducible assumption) (by k_mem) | ((simp only [AllLt, and_true] at *); omega)))
local macro_rules | `(tactic| k_all) => `(tactic| first | exact List.forall_mem_nil _ | (refine' List.forall_mem_cons.mpr ⟨?jA, ?jB⟩; (case jA => k_ne); (case jB => k_all)) | with_reducible assumption | (refine' List.forall_mem_append.mpr ⟨?jA, ?jB⟩; (case jA => k_all); (case jB => k_all)) | exact OwnOff.ne (by with_reducible assumption) (by k_mem) | (intro q9 hq9; first | exact Nat.ne_of_lt (allLt_tail (by with_reducible assumption) (by repeat (first | exact hq9 | refine List.Mem.tail _ ?_))) | exact Nat.ne_of_gt (allLt_tail (by with_reducible assumption) (by repeat (first | exact hq9 | refine List.Mem.tail _ ?_))) | exact (show NeAll _ _ by with_reducible assumption) _ (by repeat (first | exact hq9 | refine List.Mem.tail _ ?_)) | exact Nat.ne_of_lt (Nat.lt_of_lt_of_le (allLt_tail (by with_reducible assumption : AllLt _ ((285, tabObj _) :: _)) (List.Mem.tail _ hq9)) (by omega)) | exact Nat.ne_of_gt (Nat.lt_of_lt_of_le (allLt_tail (by with_reducible assumption : AllLt _ ((285, tabObj _) :: _)) (List.Mem.tail _ hq9)) (by omega))))
theorem allLt_up {d x : Addr} : ∀ {l : List (Addr × Obj)}, AllLt d l → @LT.lt Nat _ d x → AllLt x l
  | [], _, _ => trivial
  | _ :: _, h, k => ⟨Nat.lt_trans h.1 k, allLt_up h.2 k⟩
theorem all3 {α : Type} {P : α → Prop} {a b c : α} (h1 : P a) (h2 : P b) (h3 : P c) : ∀ q ∈ [a, b, c], P q := fun q h => by
  simp only [List.mem_cons, List.not_mem_nil, or_false] at h
  rcases h with rfl | rfl | rfl <;> assumption
/-- the tail that is a letter goes out of the ledger -/
theorem news_drop {h₀ h : Heap} {L : Addr} {e1 e2 e3 e4 e5 e6 e7 e8 e9 e10 e11 e12 : Addr × Obj} {small : List (Addr × Obj)} (N : News h₀ L h (e1 :: e2 :: e3 :: e4 :: e5 :: e6 :: e7 :: e8 :: e9 :: e10 :: e11 :: e12 :: small)) : News h₀ L h [e1, e2, e3, e4, e5, e6, e7, e8, e9, e10, e11, e12] := fun p hp => N p (by
  simp only [List.mem_cons, List.not_mem_nil, or_false] at hp ⊢
  rcases hp with h | h | h | h | h | h | h | h | h | h | h | h <;> simp [h])
local macro_rules | `(tactic| walk_at "eval ListComp") => `(tactic| (k_here; lcg_look; lcg_calm; k_dflt (refine LCg.ListComp_U (F₀ := by k_asm) (by rfl) (by decide) (by rfl) (by decide) (by rfl) ?_); k_dflt lcg_toSrc))
local macro_rules | `(tactic| walk_at "CompSrc") => `(tactic| (k_here; k_dflt (refine LCg.CompSrc.ledger (by rfl) (by k_asm) (by k_asm) (by k_mem) (by first | size_fits | exact Nat.le_of_ble_eq_true rfl) ?_; intro g'; lcg_lit)))
local macro_rules | `(tactic| walk_at "CompRest") => `(tactic| (with_unfolding_all first | (refine LCg.CompRest.succ ?_; intro v' I' oI' C' oC' D' m' h' tk' E' hv' hC' hx' F' N' off' ne'; lcg_open hv') | refine LCg.CompRest.zero ?_))
local macro_rules | `(tactic| walk_at "CompEnd") => `(tactic| ((rename LCg.Off3 _ _ _ _ => hO9); k_dflt (refine LCg.CompEnd.intro (by k_asm) (by k_asm) _ (fun _ hp => hp) hO9 (by lcg_src) ?_)))
theorem table2 {prog : Program} {w : World} {p : Program} {loose : List Str} {mean : ExcName → Option Value} {mg mb : Str → Option Value}
  {dp un : Nat} {gd : Option (List Code)} {cn : Str} {cs : Scope} {a : Addr} {ccd : Value} {cl : List (Str × Addr)} {outer : List Env} {A₀ : Around} {base h₀ : Heap} {L : Addr} {m : Str → Option Value} {news : List (Addr × Obj)} {s : Shared} {Q E : Value → Shared → Prop}
  {u v : List Nat} {low : Int} {t1 t2 t3 : Tok} {ps : Array Value} {small : List (Addr × Obj)}
  (B : Below A₀ base outer h₀) (F : Fr h₀ L s.heap m) (X : (K w.params).In h₀) (N : News h₀ L s.heap ((285, tabObj ps) :: news)) (T : Top p loose mean mg mb h₀) (C : CodeHd h₀ 287 285) (hk : cs.kind = .function) (hd : dp + 60 < 1000)
  (hu : u ∈ W) (hv : v ∈ W) (hs : ∀ q ∈ small, q ∈ news) (hne : ∀ q ∈ news, q.1 ≠ 285) (hT : TabIn ps small)
  (ret : ∀ r tl o₁ h' tk', Fr h₀ L h' m → News h₀ L h' (tl ++ (285, o₁) :: news) → (∀ p ∈ tl, ∀ q ∈ (285, tabObj ps) :: news, p.1 ≠ q.1) → TabR u v low small r tl o₁ → Q r { s with heap := h', toks := tk' }) :
  wpAny (model prog w) (ktrTop dp un gd cn cs L a ccd cl outer) (call (.ref 288) [.str (S u) t1, .str (S v) t2, .int low t3]) Q E s := by
  refine wpAny_call ?_
  have hu1 : 1 ≤ u.length ∧ u.length ≤ 3 := W_len u hu
  have hv1 : 1 ≤ v.length ∧ v.length ≤ 3 := W_len v hv
  have hst := rowStart u v
  k_dflt (refine' code_defCV small 285 (tabObj ps) _ ?k1 ?k2 ?k3 ?k4 ?k5 ?kA ?kF ?kK ?kS ?kQ ?kP ?k6 ?k7 ?k8 ?k9 ?kB ?kN ?kh ?c2 ?c3 ?c4; (case kA => exact rfl); (case kF => exact rfl); (case kK => assumption); (case k1 => k_asm); (case k2 => k_asm); (case k3 => k_asm); (case k4 => exact N); (case k5 => k_asm); (case kS => exact hs); (case kQ => exact hne); (case kP => exact ret); (case k6 => k_is); (case k7 => k_is); (case k8 => k_room); (case k9 => exact BindsTo.of_eq rfl); (case kB => rfl); (case kN => decide); (case c2 => rfl); (case c3 => rfl); (case c4 => rfl))
  have hsm : ∀ q ∈ small, q.1 ≠ 285 := fun q hq => hne q (hs q hq)
  clear ret hs hne F N B X T
  intro g' L' h' tk' cells F' N' Y' B' X' T' st lA
  replace C := C.keeps st
  clear st
  k_cells Y'
  simp only [List.nil_append, List.cons_append] at N'
  k_lt lA
  all_goals try k_fold
  repeat' (first
    | (k_unfold; (try dsimp only))
    | (k_end; first
      | (with_reducible (show InvEndN ..); (k_dflt ((rename RowI _ _ _ _ _ => hR9); k_dflt (refine' kst_end (_, _) (by k_asm) (by k_asm) (by ((try simp only [ledT]); intro p9 h9; repeat (first | exact List.mem_append_left _ h9 | refine List.Mem.tail _ ?_))) (by (intro p9 h9; repeat (first | exact h9 | exact List.mem_append_right _ h9 | refine List.Mem.tail _ ?_))) (by rfl) (by first | exact ⟨_, rfl⟩ | exact ⟨_, by with_reducible assumption⟩) (by (intro p hp; cases hp)) (by (intro z h1 h2 h3; (simp only [List.contains_cons, List.contains_nil, Bool.or_false, Bool.or_eq_false_iff] at h3); (have h4 := h3); (simp only [beq_eq_false_iff_ne, ne_eq] at h4); (simp only [if_neg h1, h4, kstB, List.contains_cons, List.contains_nil, h3, Bool.or_false, Bool.false_eq_true, if_false]))) (rowO_len (by with_reducible assumption) hR9)))))
      | (with_reducible (show InvEndN ..); (k_dflt ((rename RowI _ _ _ _ _ => hR9); k_dflt (refine' kst_end (_, _) (by k_asm) (by k_asm) (by ((try simp only [ledT]); intro p9 h9; repeat (first | exact List.mem_append_left _ h9 | refine List.Mem.tail _ ?_))) (by (intro p9 h9; repeat (first | exact h9 | exact List.mem_append_right _ h9 | refine List.Mem.tail _ ?_))) (by rfl) (by first | exact ⟨_, rfl⟩ | exact ⟨_, by with_reducible assumption⟩) (by (intro p hp; cases hp)) (by (intro z h1 h2 h3; (simp only [List.contains_cons, List.contains_nil, Bool.or_false, Bool.or_eq_false_iff] at h3); (have h4 := h3); (simp only [beq_eq_false_iff_ne, ne_eq] at h4); (simp only [if_neg h1, h4, kstB, List.contains_cons, List.contains_nil, h3, Bool.or_false, Bool.false_eq_true, if_false]))) (rowI_len (by with_reducible assumption) hR9)))))
      | (with_reducible (show ToldP ..); (k_dflt (intro m' news' s' Q' E' vs' l' k' l1' k1' a' b' z1' z2' ai' ci' F' N' hs' hR' hG' hw' ea' ec' ret'); (have ret2' := told_retP ret'); (have pm' := pmark (by assumption) (by assumption) hR' hG' hw' ea' ec'); (refine wpAny_call ?_); k_dflt (refine' code_nestP _ _ (by k_asm) (by exact F') (by k_asm) (by exact N') (by k_asm) (by exact rfl) (by exact rfl) (by exact rfl) (by exact hs') (by exact ret2') (by exact hs' _ (by (repeat (first | with_reducible exact List.Mem.head _ | refine List.Mem.tail _ ?_)))) (by exact codeRec_news N' (hs' _ (by (repeat (first | with_reducible exact List.Mem.head _ | refine List.Mem.tail _ ?_)))) (by assumption) (by assumption)) (by k_room) (by exact BindsTo.of_eq rfl) (by exact locs rfl) ?_ (by exact rfl) (by exact rfl) (by exact rfl) (by decide)); (clear ret2' ret' hs' F' N'); intro g' L' h' tk' F' N' B' X' T' l1'; (clear l1'); (try dsimp only); (try k_fold)))
      | (with_reducible (show LeaveT ..); (k_dflt (exact LeaveT.intro [] (by k_asm) (by k_asm) trivial (by k_subL) (by ktu_offL) ⟨rfl, _, rfl⟩)))
      | kc_close)
    | (with_reducible ((show wpAny _ _ (call _ _) _ _ _); first
      | ((show wpAny _ _ (call (Value.builtin "any") _) _ _ _); (k_here; (rename CellG _ _ _ _ _ _ => hG9); (have hG1 := hG9.a1); (have hG2 := hG9.a2); (have hG3 := hG9.b1); (have hG4 := hG9.b2); k_dflt (refine' any2_no (by k_asm) (by k_asm) (by rfl) (by lsm_list) (by exact gt_no (by omega) (by omega)) (by exact gt_no (by omega) (by omega)) ?_); intro h' tk' F' N'; (try k_sweep)))
      | ((show wpAny _ _ (call (Value.builtin "min") _) _ _ _); (k_here; (with_reducible show wpAny _ _ (call (Value.builtin _) [Value.int _ _, Value.int _ _]) _ _ _); (rename CellG _ _ _ _ _ _ => hG9); (have hG1 := hG9.e); k_dflt (refine' min2_cell (by rfl) (by k_asm) (by k_asm) (by (refine hG1.trans ?_; omega) : cell _ _ _ _ = _) ?_); intro t' h' tk' F' N'; (try k_sweep)))
      | (k_here; (with_reducible show wpAny _ _ (call (Value.type "int") [Value.bool (_ != _)]) _ _ _); k_dflt (refine int_ne ?_))
      | (k_here; (with_reducible show wpAny _ _ (call (Value.ref _) [Value.int _ _, Value.int _ _]) _ _ _); (rename ToldP _ _ _ _ _ _ _ _ _ _ _ => hT9); (rename CellG _ _ _ _ _ _ => hG9); k_dflt ((first | (refine' told_useP hT9 hG9 (by with_reducible assumption) (by exact .inl ⟨rfl, rfl⟩) (by k_asm) (by k_asm) (by k_mem) (by ((repeat' (first | exact List.forall_mem_nil _ | refine List.forall_mem_cons.mpr ⟨?_, ?_⟩)) <;> (first | ((repeat (first | with_reducible exact List.Mem.head _ | refine List.Mem.tail _ ?_)); done) | k_mem))) (by omega) (by omega) ?_) | (refine' told_useP hT9 hG9 (by with_reducible assumption) (by exact .inr (.inl ⟨rfl, rfl⟩)) (by k_asm) (by k_asm) (by k_mem) (by ((repeat' (first | exact List.forall_mem_nil _ | refine List.forall_mem_cons.mpr ⟨?_, ?_⟩)) <;> (first | ((repeat (first | with_reducible exact List.Mem.head _ | refine List.Mem.tail _ ?_)); done) | k_mem))) (by omega) (by omega) ?_) | (refine' told_useP hT9 hG9 (by with_reducible assumption) (by exact .inr (.inr ⟨rfl, rfl⟩)) (by k_asm) (by k_asm) (by k_mem) (by ((repeat' (first | exact List.forall_mem_nil _ | refine List.forall_mem_cons.mpr ⟨?_, ?_⟩)) <;> (first | ((repeat (first | with_reducible exact List.Mem.head _ | refine List.Mem.tail _ ?_)); done) | k_mem))) (by omega) (by omega) ?_))); intro t' h' tk' F' N'; (try dsimp only); (try k_sweep))
      | (k_here; (with_reducible show wpAny _ _ (call (Value.ref 262) [Value.ref _, Value.ref _, Value.int _ _]) _ _ _); (rename PMark _ _ _ _ _ _ _ _ _ _ _ => pm9); (have pq1 := pm9.ea); (have pq2 := pm9.ec); (have pq3 := pm9.ha); (have pq4 := pm9.hc); k_dflt (refine' item2 (by k_asm) (by k_asm) (by k_asm) (by k_asm) (by k_asm) (by exact rfl) (by first | decide | (simp only [depth_deeper, depth_caller]; omega)) (by refine all6 ?_ ?_ ?_ ?_ ?_ ?_ <;> k_mem) (by omega) (by omega) (by omega) (by omega) (by omega) (by omega) ?_); intro r' tl' h' tk' F' N' ap' hp'; (obtain ⟨n', dn', e1', e2', e3', f1', f2', f3', f4', f5', j', hj', hr', ht'⟩ := hp'); (subst hr' ht'); (clear ap'); (try simp only [List.nil_append, List.cons_append] at N'); (try dsimp only); (try k_sweep))
      | (k_here; (with_reducible show wpAny _ _ (call (Value.ref 269) [Value.ref _]) _ _ _); (rename PMark _ _ _ _ _ _ _ _ _ _ _ => pm9); (have pq1 := pm9.ea); (have pq2 := pm9.ec); k_dflt (refine' slot_up pm9.g pm9.way (by k_asm) (by k_asm) (by k_asm) (by k_asm) (by k_asm) (by exact rfl) (by first | decide | (simp only [depth_deeper, depth_caller]; omega)) (by k_mem) (by k_mem) (by k_mem) (by k_mem) (by k_mem) pm9.row pm9.hu pm9.hv (by with_reducible assumption) (by omega) (by omega) (by omega) ?_); intro t' h' tk' F' N'; (try dsimp only); (try k_sweep))
      | ((show wpAny _ _ (call (Value.builtin "isinstance") _) _ _ _); (k_here; k_dflt (refine' isi_call (by k_in) (by k_types) (by k_is) (by intro e; cases e) ?_; k_whole)))
      | (k_here; (with_reducible show wpAny _ _ (call (Value.ref 262) [Value.ref _, Value.ref _, Value.int _ _]) _ _ _); k_dflt (refine' item2 (by k_asm) (by k_asm) (by k_asm) (by k_asm) (by k_asm) (by exact rfl) (by first | decide | (simp only [depth_deeper, depth_caller]; omega)) (by refine all6 ?_ ?_ ?_ ?_ ?_ ?_ <;> k_mem) (by omega) (by omega) (by omega) (by omega) (by omega) (by omega) ?_); intro r' tl' h' tk' F' N' ap' hp'; (obtain ⟨n', dn', e1', e2', e3', f1', f2', f3', f4', f5', j', hj', hr', ht'⟩ := hp'); (subst hr' ht'); (have oA' := allLt_of (ap' _ (List.Mem.head _))); (have oB' := allLt_of (ap' _ (List.Mem.tail _ (List.Mem.head _)))); (clear ap'); (try simp only [List.nil_append, List.cons_append] at N'); (try dsimp only); (try k_sweep))
      | (k_here; (with_reducible show wpAny _ _ (call (Value.ref 208) [Value.int _ _, Value.str _ _, Value.ref _, Value.int _ _]) _ _ _); k_dflt (refine' array2 (by k_asm) (by k_asm) (by k_asm) (by k_asm) (by k_asm) (by exact rfl) (by first | decide | (simp only [depth_deeper, depth_caller]; omega)) (by refine all3 ?_ ?_ ?_ <;> k_mem) (by omega) (by omega) (by omega) (by omega) ?_); intro x' d' il' nz' h1' h2' h3' h4' h5' h6' t1' t2' t3' t4' t5' t6' v1' v2' v3' v4' vs' h' tk' hI' F' N' o1' o2' o3'; (try dsimp only); (k_lt o1'); (replace o3' := neAll_of o3'); (have o4' := allLt_up o1' o2'); (have o5' := Nat.ne_of_lt o2'); (try k_sweep))
      | (k_here; (with_reducible show wpAny _ _ (call (Value.builtin "len") [Value.str (S _) _]) _ _ _); k_dflt (refine' len_S (by first | decide | omega) ?_))))
    | (with_reducible ((show wpAny _ _ (compareOp ..) _ _ _); first
      | ((show wpAny _ _ (compareOp .Eq (Value.int _ _) (Value.int _ _)) _ _ _); (k_here; (rename CellG _ _ _ _ _ _ => hG9); k_dflt (refine' eq_no (by omega) ?_)))
      | ((show wpAny _ _ (compareOp .NotIn (Value.int _ _) (Value.ref _)) _ _ _); (k_here; (rename CellG _ _ _ _ _ _ => hG9); (have hG1 := hG9.c); (have hG2 := hG9.e); k_dflt (refine' notin2_no (by exact News.isTup (by k_asm) (by k_mem)) (by omega) ?_)))
      | (k_here; (with_reducible show wpAny _ _ (compareOp _ (Value.str (S [_]) _) (Value.str (S [_]) _)) _ _ _); k_dflt (refine ne_S ?_))))
    | (with_reducible ((show wpAny _ _ (eval ..) _ _ _); first
      | ((show wpAny _ _ (eval (PySem.Expr.List ..) _) _ _ _); ((rename (_ = (0 : Nat) ∨ _ = (0 : Nat)) => h9); exfalso; omega))))
    | (with_reducible ((show wpAny _ _ (subscriptTail ..) _ _ _); first
      | ((show wpAny _ _ (subscriptTail (PySem.Expr.Name ..) (PySem.Expr.BinOp ..) (Value.str _ _) _) _ _ _); (k_here; (with_reducible show wpAny _ _ (subscriptTail _ _ (Value.str (S _) _) _) _ _ _); (rename CellG _ _ _ _ _ _ => hG9); k_dflt (first | (refine' item_l hG9 (by with_reducible assumption) (by omega) ?_ (by with_unfolding_all rfl) (by intro _; with_unfolding_all rfl)) | (refine' item_k hG9 (by with_reducible assumption) (by omega) ?_ (by with_unfolding_all rfl) (by intro _; with_unfolding_all rfl)))))))
    | (with_reducible ((show wpAny _ _ (setItem ..) _ _ _); first
      | ((show wpAny _ _ (setItem (Value.ref _) (Value.int _ _) ..) _ _ _); (k_here; (rename RowI _ _ _ _ _ => hR9); k_dflt (refine' tab_set (by k_asm) (by k_asm) hR9 (by k_upd) (by with_reducible assumption) (by with_reducible assumption) (by with_reducible assumption) (by omega) (by omega) (by omega) (by omega) (by omega) (by omega) ?_); intro h' F' N' hR'; (have hE' := rowI_ex hR'); (clear hR' hR9); (obtain ⟨vs', e', hR'⟩ := hE'); (rw [← e'] at N'); (clear e'); (try k_sweep)))))
    | (with_reducible ((show wpAny _ _ (pyIter ..) _ _ _); first
      | ((with_reducible show wpAny _ _ (pyIter (Value.ref _)) (fun it s₂ => LoopAtV _ _ _ _ _ (PySem.Str.ofString "place") _ _ _ it s₂) _ _); k_here; (rename Fr _ _ _ _ => lF'); (rename News _ _ _ _ => lN'); (rename IsRange _ _ _ _ _ _ _ _ => rgX); (rename RowO _ _ _ _ => hR9); (try simp only [List.nil_append, List.cons_append] at lN'); (with_unfolding_all refine' kst_place2 (y := PySem.Str.ofString "place") (by rfl) rgX (by omega) (by omega) (by omega) lF' lN' (by exact ⟨_, by with_reducible assumption⟩) (rowI_of hR9) (by assumption) (by assumption) (by omega) (fun c o pre k t z9 h tk own hE0 hE1 hk1 hk2 hoff ho' hR' F' N' => ?_) (fun c o pre k l1 k1 t z9 h tk own hG hk1 hk2 hoff ho' hR' F' N' => ?_) (fun c o z9 h tk ho' hR' F' N' => ?_)); (all_goals (try simp only [List.nil_append, List.cons_append, List.append_assoc] at N')); (all_goals (try dsimp only at hoff)); (all_goals (try (obtain ⟨q9, ho9⟩ := ho'))); (all_goals (try (have hGel := CellG.el hG; have hGek := CellG.ek hG))); (all_goals (try k_fold)))
      | ((with_reducible show wpAny _ _ (pyIter (Value.ref _)) (fun it s₂ => LoopAtV _ _ _ _ _ _ _ _ _ it s₂) _ _); k_here; (rename Fr _ _ _ _ => lF'); (rename News _ _ _ _ => lN'); (rename IsRange _ _ _ _ _ _ _ _ => rgX); (rename RowStart _ _ => hF9); (k_dflt (have hR9 := hF9 _ _ _ (by assumption) (by omega))); (with_unfolding_all refine' kst_line (y := PySem.Str.ofString "line") (by rfl) rgX (by omega) (by omega) (by omega) lF' lN' ⟨_, by with_reducible assumption⟩ hR9 (fun c o pre k t z9 h tk own hk1 hk2 hoff ho' hR' F' N' => ?_) (fun c o z9 h tk ho' hR' F' N' => ?_)); (all_goals (try simp only [List.nil_append, List.cons_append, List.append_assoc] at N')); (all_goals (try dsimp only at hoff)); (all_goals (try (obtain ⟨q9, ho9⟩ := ho'))); (all_goals (try k_fold)))))
    | (with_reducible ((show wpAny _ _ (exec ..) _ _ _); first
      | ((show wpAny _ _ (exec (PySem.Stmt.FunctionDef ..) _) _ _ _); (k_dflt (k_here; k_dflt (refine' nestDef_K (by exact rfl) (by exact rfl) (by exact rfl) ?_); k_dflt (refine' nest_told (by k_asm) (by k_asm) (by k_asm) (by with_reducible assumption) (by exact rfl) (by k_updF) (by with_reducible assumption) (by with_reducible assumption) (by (intro q9 hq9; repeat (first | exact hq9 | refine List.Mem.tail _ ?_))) (by first | rfl | kernel_rfl) (by first | rfl | kernel_rfl) (by exact rfl) ?_); intro f' c' oc' vs' t' ct' dc' ps' h' tk' F' N' d1' d2' d3' d4' lF lC lS; (try dsimp only at N'); (k_lt lF); (have lC1 := neFrom_at lC (List.Mem.head _) (by k_all)); (have lC2 := neFrom_at lC (List.Mem.tail _ (List.Mem.tail _ (List.Mem.tail _ (List.Mem.tail _ (List.Mem.tail _ (List.Mem.tail _ (List.Mem.tail _ (List.Mem.head _)))))))) (by k_all)); (have lC3 := Ne.symm lC1); (have lC4 := Ne.symm lC2); (replace N' := news_drop N'); (rename RowStart _ _ => hS9); k_dflt (refine' cut_toldP N' hS9 (by exact List.Mem.head _) (by exact List.Mem.tail _ (List.Mem.head _)) (by k_mem) (by k_mem) (by k_mem) (by k_mem) (by k_mem) (by k_mem) (by k_mem) (by k_mem) ?_ (fun hTold' => ?_)))))))
    | (with_reducible ((show wpAny _ _ (callWith ..) _ _ _); first
      | ((show wpAny _ _ (callWith (Value.ref _) ..) _ _ _); (k_here; k_dflt (refine' callWith_K (by k_asm) (by k_is) ?_; k_whole)))))
    | walk1
    | dsimp only
    | (leave1; walk_say "STEP leave1"; (try dsimp only))
    | fail "no step")
  try dsimp only
  rcases hT with ⟨e1, e2⟩ | ⟨c₀, oc, vs₀, t₀, e2, _⟩
  · subst e2
    k_dflt (refine' LeaveOne.intro2 _ _ ?jF ?jN ?jt ?js ?ja (tabR_intro ?jI ?j1 ?j2 ?j3 ?j4 (by exact .inl ⟨rfl, rfl⟩)))
    case jF => k_asm
    case jN => k_asm
    case j4 => with_reducible assumption
    case jt =>
      refine forall_six ?g1 ?g2 ?g3 ?g4 ?g5 ?g6 ?g7
      case g1 => (repeat (first | with_reducible exact List.Mem.head _ | refine List.Mem.tail _ ?_))
      case g2 => (repeat (first | with_reducible exact List.Mem.head _ | refine List.Mem.tail _ ?_))
      case g3 => (repeat (first | with_reducible exact List.Mem.head _ | refine List.Mem.tail _ ?_))
      case g4 => (repeat (first | with_reducible exact List.Mem.head _ | refine List.Mem.tail _ ?_))
      case g5 => (repeat (first | with_reducible exact List.Mem.head _ | refine List.Mem.tail _ ?_))
      case g6 => (repeat (first | with_reducible exact List.Mem.head _ | refine List.Mem.tail _ ?_))
      case g7 => refine List.forall_mem_cons.mpr ⟨?_, List.forall_mem_nil _⟩; (repeat (first | with_reducible exact List.Mem.head _ | refine List.Mem.tail _ ?_))
    case js =>
      refine List.forall_mem_cons.mpr ⟨?g1, ?g2⟩
      case g1 => (repeat (first | with_reducible exact List.Mem.head _ | refine List.Mem.tail _ ?_))
      case g2 => exact List.forall_mem_nil _
    case j3 => with_reducible assumption
    case j1 => with_reducible assumption
    case j2 => with_reducible assumption
    case jI => exact rowO_full (by with_reducible assumption)
    case ja =>
      refine forall_six ?g1 ?g2 ?g3 ?g4 ?g5 ?g6 ?g7
      case g1 => dsimp only; k_all
      case g2 => dsimp only; k_all
      case g3 => dsimp only; k_all
      case g4 => dsimp only; k_all
      case g5 => dsimp only; k_all
      case g6 => dsimp only; k_all
      case g7 => refine List.forall_mem_cons.mpr ⟨?_, List.forall_mem_nil _⟩; refine List.forall_mem_cons.mpr ⟨?_, List.forall_mem_nil _⟩; (rename NeFrom _ _ _ => lC9); exact Ne.symm (neFrom_at (o := tabObj _) lC9 (by (repeat (first | with_reducible exact List.Mem.head _ | refine List.Mem.tail _ ?_))) (fun _ h => nomatch h))
  · subst e2
    rename (∀ q : Addr × Obj, q ∈ [_] → q = _) => lS9
    obtain ⟨e3, e4⟩ := Prod.mk.inj (lS9 _ (List.Mem.head _))
    subst e3 e4
    k_dflt (refine' LeaveOne.intro2 _ _ ?jF ?jN ?jt ?js ?ja (tabR_intro ?jI ?j1 ?j2 ?j3 ?j4 (by exact .inr ⟨rfl, rfl⟩)))
    case jF => k_asm
    case jN => k_asm
    case j4 => with_reducible assumption
    case jt =>
      refine forall_six ?g1 ?g2 ?g3 ?g4 ?g5 ?g6 ?g7
      case g1 => (repeat (first | with_reducible exact List.Mem.head _ | refine List.Mem.tail _ ?_))
      case g2 => (repeat (first | with_reducible exact List.Mem.head _ | refine List.Mem.tail _ ?_))
      case g3 => (repeat (first | with_reducible exact List.Mem.head _ | refine List.Mem.tail _ ?_))
      case g4 => (repeat (first | with_reducible exact List.Mem.head _ | refine List.Mem.tail _ ?_))
      case g5 => (repeat (first | with_reducible exact List.Mem.head _ | refine List.Mem.tail _ ?_))
      case g6 => (repeat (first | with_reducible exact List.Mem.head _ | refine List.Mem.tail _ ?_))
      case g7 => exact List.forall_mem_nil _; (repeat (first | with_reducible exact List.Mem.head _ | refine List.Mem.tail _ ?_))
    case js =>
      refine List.forall_mem_cons.mpr ⟨?g1, ?g2⟩
      case g1 => (repeat (first | with_reducible exact List.Mem.head _ | refine List.Mem.tail _ ?_))
      case g2 => refine List.forall_mem_cons.mpr ⟨?_, List.forall_mem_nil _⟩; (repeat (first | with_reducible exact List.Mem.head _ | refine List.Mem.tail _ ?_))
    case j3 => with_reducible assumption
    case j1 => with_reducible assumption
    case j2 => with_reducible assumption
    case jI => exact rowO_full (by with_reducible assumption)
    case ja =>
      refine forall_six ?g1 ?g2 ?g3 ?g4 ?g5 ?g6 ?g7
      case g1 => dsimp only; k_all
      case g2 => dsimp only; k_all
      case g3 => dsimp only; k_all
      case g4 => dsimp only; k_all
      case g5 => dsimp only; k_all
      case g6 => dsimp only; k_all
      case g7 => exact List.forall_mem_nil _
end Mine
namespace Mine
/-- a letter of a word -/
def AbEl (news : List (Addr × Obj)) (y : Value) (news' : List (Addr × Obj)) : Prop := news' = news ∧ ∃ (c : Nat) (t : Tok), (c = 97 ∨ c = 98) ∧ y = .str (S [c]) t
theorem strs_snoc {y : Str} {t : Tok} : ∀ {vs : List Value} {ys : List Str}, StrsAre vs ys → StrsAre (vs ++ [.str y t]) (ys ++ [y])
  | _, _, .nil => .cons y t .nil
  | _, _, .cons z u r => .cons z u (strs_snoc r)
section
variable {prog : Program} {w : World} {A : Around} {h₀ : Heap} {L : Addr} {m : Str → Option Value} {env : Env} {elt : PySem.Expr} {x : Str} {scope : Scope} {cl : List (Str × Addr)} {s : Shared} {Sx : List (Addr × Obj) → Prop} {Fin : List Value → List (Addr × Obj) → Prop} {news : List (Addr × Obj)}
theorem ab_range {n : Nat} {a : Int}
    (turn : ∀ (k : Int) t I oI C oC D m₂ ys h tk (E' : Value → Shared → Prop), a ≤ k → k < a + (n : Int) → LCg.NsObj oC m₂ → m₂ x = some (.int k t) → Fr h₀ L h m → News h₀ L h ((I, oI) :: (C, oC) :: (D, LCg.lst ys) :: news) → LCg.Off3 I C D news → ((@Ne Nat I C) ∧ (@Ne Nat I D) ∧ (@Ne Nat C D)) →
      wpAny (model prog w) A (eval elt (compEnvC scope cl C env)) (LCg.CompEnd h₀ L m { s with heap := h, toks := tk } I oI C oC D (LCg.lst ys) Sx (fun y news' => AbEl news y news')) E' { s with heap := h, toks := tk })
    (fin : ∀ ys (cs : List Nat), StrsAre ys (cs.map fun c => S [c]) → (∀ c ∈ cs, c = 97 ∨ c = 98) → cs.length = n → Fin ys news) : LCg.CompRest prog w A h₀ L m env elt x scope cl s Sx (fun i v => ∃ t, v = .int (a + (i : Int)) t) Fin n 0 [] news := by
  have key : ∀ (j i : Nat) (ys : List Value) (cs : List Nat), i + j = n → cs.length = i → (∀ c ∈ cs, c = 97 ∨ c = 98) → StrsAre ys (cs.map fun c => S [c]) → LCg.CompRest prog w A h₀ L m env elt x scope cl s Sx (fun i v => ∃ t, v = .int (a + (i : Int)) t) Fin j i ys news := by
    intro j
    induction j with
    | zero =>
      intro i ys cs hi hl hc hy
      exact LCg.CompRest.zero (fin ys cs hy hc (by omega))
    | succ j ih =>
      intro i ys cs hi hl hc hy
      refine LCg.CompRest.succ ?_
      intro v I oI C oC D m₂ h tk E' hv hC hx F N off ne
      obtain ⟨t, hv'⟩ := hv
      rw [hv'] at hx
      refine wpAny_mono (turn (a + (i : Int)) t I oI C oC D m₂ ys h tk E' (by omega) (by omega) hC hx F N off ne) (fun y s₂ hq => ?_) fun _ _ e => e
      obtain ⟨h', tk', nw, e, F', N', off', hS, hn, c, t', hcc, hy'⟩ := hq
      rw [hn] at N' off' hS
      refine ⟨h', tk', news, e, F', N', off', hS, ?_⟩
      rw [hy']
      refine ih (i + 1) _ (cs ++ [c]) (by omega) (by rw [List.length_append, hl]; rfl) (fun z hz => ?_) ?_
      · rcases List.mem_append.mp hz with hz | hz
        · exact hc z hz
        · rw [List.mem_singleton.mp hz]; exact hcc
      · rw [List.map_append]
        exact strs_snoc hy
  exact key n 0 [] [] (by omega) rfl (fun _ h => nomatch h) .nil
end
theorem ab_mem (cs : List Nat) (h1 : 1 ≤ cs.length) (h3 : cs.length ≤ 3) (h : ∀ c ∈ cs, c = 97 ∨ c = 98) : cs ∈ W := by
  match cs, h1, h3, h with
  | [a], _, _, h =>
    rcases h a (.head _) with rfl | rfl <;> decide
  | [a, b], _, _, h =>
    rcases h a (.head _) with rfl | rfl <;> rcases h b (.tail _ (.head _)) with rfl | rfl <;> decide
  | [a, b, c], _, _, h =>
    rcases h a (.head _) with rfl | rfl <;> rcases h b (.tail _ (.head _)) with rfl | rfl <;> rcases h c (.tail _ (.tail _ (.head _))) with rfl | rfl <;> decide
  | _ :: _ :: _ :: _ :: _, _, h3, _ => simp only [List.length_cons] at h3; omega
theorem join_chk : ∀ u ∈ W, Txt.join (Str.ofString "") (u.map fun c => S [c]) = S u ∧ ((u.map fun c => S [c]).map (·.length)).sum + (u.map fun c => S [c]).length ≤ 1048576 := by decide +kernel
theorem ab_item : ∀ k : Nat, k < 2 → Txt.item (Str.ofString "ab") ((k : Nat) : Int) = S [97 + k] := by decide +kernel
section
variable {prog : Program} {w : World} {A : Around} {E : Value → Shared → Prop} {s : Shared}
theorem join_ab {D : Addr} {ys : List Value} {cs : List Nat} {n : Nat} {t : Tok} {Q : Value → Shared → Prop} (hl : s.heap.IsList D ys.toArray) (hS : StrsAre ys (cs.map fun c => S [c])) (hc : ∀ c ∈ cs, c = 97 ∨ c = 98) (hn : cs.length = n) (h1 : 1 ≤ n) (h3 : n ≤ 3)
    (h : ∀ t' k, cs ∈ W → Q (.str (S cs) t') { s with toks := k }) : wpAny (model prog w) A (call (.builtin "str.join") [.str (Str.ofString "") t, .ref D]) Q E s := by
  have hw := ab_mem cs (by omega) (by omega) hc
  have hk := join_chk cs hw
  refine join_listW hl hS (by decide) hk.2 fun t' k => ?_
  rw [hk.1]
  exact h t' k hw
theorem item_ab {i : Int} {t v : Tok} {value slice : PySem.Expr} {Q : Value → Shared → Prop} (h0 : 0 ≤ i) (h1 : i < 2) (h : ∀ c : Nat, (c = 97 ∨ c = 98) → Q (.str (S [c]) s.toks) { s with toks := s.toks + 1 })
    (hs : subscripted slice false (.str (Str.ofString "ab") t) (.int i v) = operate [.str (Str.ofString "ab") t, .int i v] (getItem (.str (Str.ofString "ab") t) (.int i v)))
    (ht : ∀ r, letTemporaryGo value (.str (Str.ofString "ab") t) r = pure ()) : wpAny (model prog w) A (subscriptTail value slice (.str (Str.ofString "ab") t) (.int i v)) Q E s := by
  have hl : (Str.ofString "ab").length = 2 := by decide
  refine item_str (x := Str.ofString "ab") (fitsSsize_of (N := 9223372036854775808) (by omega) (by omega) (Int.le_refl _)) (by rw [hl]; omega) (by rw [hl]; omega) (fun _ => ?_) hs ht
  have e : i = ((i.toNat : Nat) : Int) := (Int.toNat_of_nonneg h0).symm
  rw [e, ab_item i.toNat (by omega)]
  exact h _ (by omega)
theorem mod_abs {a b : Int} {t u : Tok} {Q : Value → Shared → Prop} (hb : 0 < b) (h : ∀ r : Int, 0 ≤ r → r < b → Q (.int r s.toks) { s with toks := s.toks + 1 }) :
    wpAny (model prog w) A (binaryOp .Mod (.int a t) (.int b u)) Q E s :=
  mod_int' (by omega) (h _ (Int.fmod_nonneg_of_pos a hb) (Int.fmod_lt_of_pos a hb))
theorem pow2_abs {b : Int} {t u : Tok} {Q : Value → Shared → Prop} (h0 : 0 ≤ b) (h1 : b ≤ 8) (h : ∀ r : Int, 0 < r → r ≤ 256 → Q (.int r s.toks) { s with toks := s.toks + 1 }) :
    wpAny (model prog w) A (binaryOp .Pow (.int 2 t) (.int b u)) Q E s := by
  obtain ⟨n, rfl⟩ : ∃ n : Nat, b = (n : Int) := ⟨b.toNat, (Int.toNat_of_nonneg h0).symm⟩
  have hn : n < 9 := by omega
  have key : ∀ n < 9, (0 : Int) < 2 ^ n ∧ (2 : Int) ^ n ≤ 256 := by decide
  exact pow_int_small h0 (by omega) (by decide) (by rw [Int.toNat_natCast]; exact h _ (key n hn).1 (key n hn).2)
end
end Mine
namespace Mine
theorem news_pick {h₀ h : Heap} {L : Addr} {l l' : List (Addr × Obj)} (N : News h₀ L h l) (hs : SubL l' l) : News h₀ L h l' := fun p hp => N p (hs.mem p hp)
/-- what is made lies apart from so many entries -/
def Apart7 (x dx bl bt bu il : Addr) (l : List (Addr × Obj)) : Prop := NeAll x l ∧ NeAll dx l ∧ NeAll bl l ∧ NeAll bt l ∧ NeAll bu l ∧ NeAll il l
/-- the first call of _law_table -/
theorem table_first {prog : Program} {w : World} {p : Program} {loose : List Str} {mean : ExcName → Option Value} {mg mb : Str → Option Value}
  {dp un : Nat} {gd : Option (List Code)} {cn : Str} {cs : Scope} {a : Addr} {ccd : Value} {cl : List (Str × Addr)} {outer : List Env} {A₀ : Around} {base h₀ : Heap} {L : Addr} {m : Str → Option Value} {led : List (Addr × Obj)} {s : Shared} {Q E : Value → Shared → Prop}
  {u v : List Nat} {low : Int} {z1 z2 z3 : Tok} {o2 o3 o4 o5 : Obj} {qs : Array Value}
  (B : Below A₀ base outer h₀) (F : Fr h₀ L s.heap m) (X : (K w.params).In h₀) (N : News h₀ L s.heap led) (T : Top p loose mean mg mb h₀) (C : CodeHd h₀ 287 285) (hk : cs.kind = .function) (hd : dp + 60 < 1000)
  (hu : u ∈ W) (hv : v ∈ W) (hL : @LT.lt Nat _ 285 L) (hL2 : @LT.lt Nat _ 290 L)
  (m1 : ((285 : Addr), tabObj #[]) ∈ led) (m2 : (L + 1 + 1 + 1 + 1 + 1, o5) ∈ led) (m3 : (L + 1 + 1 + 1 + 1, o4) ∈ led) (m4 : (L + 1 + 1 + 1, o3) ∈ led) (m5 : (L + 1 + 1, o2) ∈ led) (m6 : ((290 : Addr), tabObj qs) ∈ led)
  (ret : ∀ x dx bl bt bu il c' oc' vs' t' ps' items nb nt nu nz h1 h2 h3 h4 h5 h6 t1 t2 t3 t4 t5 t6 v1 v2 v3 v4 u1 u2 u3 u4 h' tk', Fr h₀ L h' m →
    News h₀ L h' [(x, instObj 208 dx), (dx, arrD h1 h2 h3 h4 h5 h6 t1 t2 t3 t4 t5 t6 v1 v2 v3 v4 bl il), (bl, W.listOf #[.ref bt, .ref bu] nb), (bt, tup2 low (low + (u.length : Int)) u1 u2 nt), (bu, tup2 low (low + (v.length : Int)) u3 u4 nu), (il, W.listOf (List.toArray items) nz), (c', oc'), ((285 : Addr), tabObj ps'), (L + 1 + 1 + 1 + 1 + 1, o5), (L + 1 + 1 + 1 + 1, o4), (L + 1 + 1 + 1, o3), (L + 1 + 1, o2), ((290 : Addr), tabObj qs)] →
    IntsAre items (tab u v) → oc'.data = .fields vs' → vs'[1]? = some (.str toldQ t') → TriplesOk ps'.toList → codeAmong toldPos ps'.toList = some (.ref c') →
    Apart7 x dx bl bt bu il [((285 : Addr), tabObj #[]), (L + 1 + 1 + 1 + 1 + 1, o5), (L + 1 + 1 + 1 + 1, o4), (L + 1 + 1 + 1, o3), (L + 1 + 1, o2), ((290 : Addr), tabObj qs)] → NeAll c' [((285 : Addr), tabObj #[]), (L + 1 + 1 + 1 + 1 + 1, o5), (L + 1 + 1 + 1 + 1, o4), (L + 1 + 1 + 1, o3), (L + 1 + 1, o2), ((290 : Addr), tabObj qs)]  → @LT.lt Nat _ 285 L → @LT.lt Nat _ 290 L → u.length ≤ 3 → v.length ≤ 3 →
    Q (.ref x) { s with heap := h', toks := tk' }) :
  wpAny (model prog w) (ktrTop dp un gd cn cs L a ccd cl outer) (call (.ref 288) [.str (S u) z1, .str (S v) z2, .int low z3]) Q E s := by
  refine table2 (small := []) (ps := #[]) (news := [(L + 1 + 1 + 1 + 1 + 1, o5), (L + 1 + 1 + 1 + 1, o4), (L + 1 + 1 + 1, o3), (L + 1 + 1, o2), ((290 : Addr), tabObj qs)]) B F X (news_pick N ⟨m1, m2, m3, m4, m5, m6, trivial⟩) T C hk hd hu hv (fun _ h => nomatch h) ?_ (.inl ⟨rfl, rfl⟩) ?_
  · intro q hq
    simp only [List.mem_cons, List.not_mem_nil, or_false] at hq
    rcases hq with rfl | rfl | rfl | rfl | rfl
    · exact Nat.ne_of_gt (by show (285 : Nat) < L + 1 + 1 + 1 + 1 + 1; omega)
    · exact Nat.ne_of_gt (by show (285 : Nat) < L + 1 + 1 + 1 + 1; omega)
    · exact Nat.ne_of_gt (by show (285 : Nat) < L + 1 + 1 + 1; omega)
    · exact Nat.ne_of_gt (by show (285 : Nat) < L + 1 + 1; omega)
    · exact (by decide : (290 : Nat) ≠ 285)
  · rintro r tl o₁ h' tk' F' N' ap ⟨x, dx, bl, bt, bu, il, c', oc', vs', t', ps', items, ex, nb, nt, nu, nz, h1, h2, h3, h4, h5, h6, t1, t2, t3, t4, t5, t6, v1, v2, v3, v4, u1, u2, u3, u4, rfl, rfl, hI, rfl, j1, j2, j3, j4, ⟨_, rfl⟩ | ⟨hh, _⟩⟩
    · refine ret x dx bl bt bu il c' oc' vs' t' ps' items nb nt nu nz h1 h2 h3 h4 h5 h6 t1 t2 t3 t4 t5 t6 v1 v2 v3 v4 u1 u2 u3 u4 h' tk' F' N' hI j1 j2 j3 j4 ⟨?_, ?_, ?_, ?_, ?_, ?_⟩ ?_ hL hL2 (W_len u hu).2 (W_len v hv).2
      · exact fun q hq => ap _ (.head _) q hq
      · exact fun q hq => ap _ (.tail _ (.head _)) q hq
      · exact fun q hq => ap _ (.tail _ (.tail _ (.head _))) q hq
      · exact fun q hq => ap _ (.tail _ (.tail _ (.tail _ (.head _)))) q hq
      · exact fun q hq => ap _ (.tail _ (.tail _ (.tail _ (.tail _ (.head _))))) q hq
      · exact fun q hq => ap _ (.tail _ (.tail _ (.tail _ (.tail _ (.tail _ (.head _)))))) q hq
      · exact fun q hq => ap _ (.tail _ (.tail _ (.tail _ (.tail _ (.tail _ (.tail _ (.head _))))))) q hq
    · cases hh
end Mine
namespace Mine
section
variable {prog : Program} {w : World} {A A₀ : Around} {E : Value → Shared → Prop} {s : Shared} {K : Frag} {L : Addr} {h₀ base : Heap} {m mg mb : Str → Option Value} {news : List (Addr × Obj)} {p : Program} {loose : List Str} {mean : ExcName → Option Value}
/-- as code_defT, for a function that a def in a def has made -/
theorem code_nestT (small : List (Addr × Obj)) (P : Value → List (Addr × Obj) → Prop) {env : Env} {outer : List Env} {R : Result → Shared → Prop} {name qual : Str} {params : Arguments} {body : List Stmt} {scope : Scope} {cl : List (Str × Addr)} {doc pm ctv : Value} {c' : Addr} {f : Addr} {args : Args} {binds : List (Str × Value)}
    (B : Below A₀ base outer h₀) (F : Fr h₀ L s.heap m) (X₀ : K.In h₀) (N : News h₀ L s.heap news) (T : Top p loose mean mg mb h₀) (hA : A.frames = some (env :: outer)) (hf : env.frame = some L) (hke : env.scope.kind = .function) (hs : ∀ q ∈ small, q ∈ news)
    (hP : ∀ v tl h' tk, Fr h₀ L h' m → News h₀ L h' (tl ++ news) → (∀ p ∈ tl, ∀ q ∈ news, p.1 ≠ q.1) → P v tl → R (.ok (.ret v)) { s with heap := h', toks := tk })
    (ho : (f, fnMade name qual params body scope cl doc pm c' ctv) ∈ news) (hcd : s.heap.CodeRec (.ref c') qual) (hroom : A.depth < recursionLimit)
    (hbind : BindsTo s (fnX name qual params body scope cl .none .none doc pm none (.ref c') ctv) args binds) (hloc : ∀ y ∈ binds, scope.names.lookup y.1 = some .local)
    (h : ∀ g L' h₁ tk, Fr g L' h₁ (fun y => binds.reverse.lookup y) → News g L' h₁ small → Below A base (env :: outer) g → K.In g → Top p loose mean mg mb g → (∀ p ∈ small, p.1 < L') →
      wpAny (model prog w) (A.deeper (envX qual scope L' f (.ref c') cl)) (execs body (envX qual scope L' f (.ref c') cl))
        (fun fl s' => LeaveT g L' small P s (match fl with | .ret v => v | _ => .none) s') (fun _ _ => False)
        { s with heap := h₁, toks := tk })
    (hco : scope.isCoroutine = false) (hgen : scope.isGenerator = false) (hk : scope.kind = .function) (hcell : ∀ x ∈ scope.names, x.2 ≠ .cell) : codeAny (model prog w) A (.call (.ref f) args) R s := by
  refine callX_plain (cl := cl) B F N T.nolimit hA hf hke (N _ ho).1 rfl hcd hroom hbind hloc (fun g L' h₁ FG F' N' B' st l1 => ?_) hcell hco hgen hk
  obtain ⟨g₂, st₂, F₂, N₂, rest⟩ := rebase (own := []) F' N' l1 hs
  refine wpAny_mono (h g₂ L' h₁ _ F₂ N₂ (below_stays B' st₂) (X₀.keeps fun b o e => st₂ b o (st b o e)) (T.keeps fun b o e => st₂ b o (st b o e)) (fun q hq => l1 q (hs q hq))) (fun fl s' hl => ?_) fun _ _ e => e.elim
  exact leaveT_to (own := []) N F' N' hs (fun _ hq => nomatch hq) l1 st₂ rest hP hl
end
/-- a place of the table that is told whole -/
structure At (u v : List Nat) (i j : Nat) : Prop where
  hu : u ∈ W
  hv : v ∈ W
  hi : i ≤ u.length
  hj : j ≤ v.length
/-- the contract of the law's told -/
def ToldAt (prog : Program) (w : World) (A : Around) (h₀ : Heap) (L : Addr) (f pc lc : Addr) (pre : List (Addr × Obj)) (u v : List Nat) : Prop :=
  ∀ {m : Str → Option Value} {news : List (Addr × Obj)} {s : Shared} {Q E : Value → Shared → Prop} {op ol : Obj} {i j a b : Int} {ti tj z1 z2 : Tok} {ai ci : Nat}
    (_ : Fr h₀ L s.heap m) (_ : News h₀ L s.heap news) (_ : op.data = .cell (some (.int j tj))) (_ : ol.data = .cell (some (.int i ti))) (_ : ∀ q ∈ (pc, op) :: (lc, ol) :: pre, q ∈ news)
    (_ : (ai : Int) = i - a) (_ : (ci : Int) = j - b) (_ : ai ≤ u.length) (_ : ci ≤ v.length)
    (_ : ∀ t h' tk', Fr h₀ L h' m → News h₀ L h' news → Q (.int (cell u v ai ci) t) { s with heap := h', toks := tk' }),
    wpAny (model prog w) A (call (.ref f) [.int a z1, .int b z2]) Q E s
theorem told_use {prog : Program} {w : World} {A : Around} {h₀ : Heap} {L : Addr} {f pc lc : Addr} {pre : List (Addr × Obj)} {u v : List Nat} {m : Str → Option Value} {news : List (Addr × Obj)} {s : Shared} {Q E : Value → Shared → Prop} {op ol : Obj} {i j a b : Int} {ti tj z1 z2 : Tok} {ai ci i0 j0 : Nat}
    (H : ToldAt prog w A h₀ L f pc lc pre u v) (G : At u v i0 j0) (way : (ai = i0 ∧ ci = j0) ∨ (ai = i0 - 1 ∧ ci = j0 - 1) ∨ (ai = i0 - 1 ∧ ci = j0) ∨ (ai = i0 ∧ ci = j0 - 1))
    (F : Fr h₀ L s.heap m) (N : News h₀ L s.heap news) (m1 : (pc, op) ∈ news) (m2 : (lc, ol) ∈ news) (d1 : op.data = .cell (some (.int j tj))) (d2 : ol.data = .cell (some (.int i ti))) (m3 : ∀ q ∈ pre, q ∈ news)
    (ea : (ai : Int) = i - a) (ec : (ci : Int) = j - b)
    (h : ∀ t h' tk', Fr h₀ L h' m → News h₀ L h' news → Q (.int (cell u v ai ci) t) { s with heap := h', toks := tk' }) :
    wpAny (model prog w) A (call (.ref f) [.int a z1, .int b z2]) Q E s :=
  have hi := G.hi
  have hj := G.hj
  H F N d1 d2 (List.forall_mem_cons.mpr ⟨m1, List.forall_mem_cons.mpr ⟨m2, m3⟩⟩) ea ec (by omega) (by omega) h
theorem cut_told {prog : Program} {w : World} {A : Around} {h₀ h : Heap} {L f c' x dx bl bt bu il : Addr} {fo oc o3 o5 : Obj} {news : List (Addr × Obj)} {u v : List Nat} {α : Type} {y : Sem α} {Q : α → Shared → Prop} {E : Value → Shared → Prop} {s : Shared} {low : Int} {h1 h2 h3 h4 h5 h6 : Int} {t1 t2 t3 t4 t5 t6 u1 u2 u3 u4 : Tok} {v1 v2 v3 v4 : Value} {nb nt nu nz : Nat} {items : List Value}
    (N : News h₀ L h news) (hI : IntsAre items (tab u v)) (hu : u ∈ W) (hv : v ∈ W) (mf : (f, fo) ∈ news) (mc : (c', oc) ∈ news) (mx : (x, instObj 208 dx) ∈ news) (md : (dx, arrD h1 h2 h3 h4 h5 h6 t1 t2 t3 t4 t5 t6 v1 v2 v3 v4 bl il) ∈ news) (mb : (bl, W.listOf #[.ref bt, .ref bu] nb) ∈ news) (mt : (bt, tup2 low (low + (u.length : Int)) u1 u2 nt) ∈ news) (mu : (bu, tup2 low (low + (v.length : Int)) u3 u4 nu) ∈ news) (mi : (il, W.listOf (List.toArray items) nz) ∈ news)
    (m5 : (L + 1 + 1 + 1 + 1 + 1, o5) ∈ news) (m3 : (L + 1 + 1 + 1, o3) ∈ news)
    (told : ToldAt prog w A h₀ L f (L + 1 + 1 + 1 + 1) (L + 1 + 1) [(f, fo), (c', oc), (x, instObj 208 dx), (dx, arrD h1 h2 h3 h4 h5 h6 t1 t2 t3 t4 t5 t6 v1 v2 v3 v4 bl il), (bl, W.listOf #[.ref bt, .ref bu] nb), (bt, tup2 low (low + (u.length : Int)) u1 u2 nt), (bu, tup2 low (low + (v.length : Int)) u3 u4 nu), (il, W.listOf (List.toArray items) nz), (L + 1 + 1 + 1 + 1 + 1, o5), (L + 1 + 1 + 1, o3)] u v)
    (rest : ToldAt prog w A h₀ L f (L + 1 + 1 + 1 + 1) (L + 1 + 1) [(f, fo), (c', oc), (x, instObj 208 dx), (dx, arrD h1 h2 h3 h4 h5 h6 t1 t2 t3 t4 t5 t6 v1 v2 v3 v4 bl il), (bl, W.listOf #[.ref bt, .ref bu] nb), (bt, tup2 low (low + (u.length : Int)) u1 u2 nt), (bu, tup2 low (low + (v.length : Int)) u3 u4 nu), (il, W.listOf (List.toArray items) nz), (L + 1 + 1 + 1 + 1 + 1, o5), (L + 1 + 1 + 1, o3)] u v → At u v u.length v.length → wpAny (model prog w) A y Q E s) : wpAny (model prog w) A y Q E s :=
  rest told ⟨hu, hv, Nat.le_refl _, Nat.le_refl _⟩
theorem told_ret {h₀ : Heap} {L : Addr} {m : Str → Option Value} {news : List (Addr × Obj)} {s : Shared} {Q : Value → Shared → Prop} {c : Int} (ret : ∀ t h' tk', Fr h₀ L h' m → News h₀ L h' news → Q (.int c t) { s with heap := h', toks := tk' }) :
    ∀ r tl h' tk', Fr h₀ L h' m → News h₀ L h' (tl ++ news) → (∀ p ∈ tl, ∀ q ∈ news, p.1 ≠ q.1) → (tl = [] ∧ ∃ t, r = .int c t) → Q r { s with heap := h', toks := tk' } := by
  rintro r tl h' tk' F' N' _ ⟨rfl, t, rfl⟩
  exact ret t h' tk' F' N'
/-- what told's own walk looks for -/
structure TMark (u v : List Nat) (i j a b : Int) (ai ci : Nat) : Prop where
  hu : u ∈ W
  hv : v ∈ W
  ea : (ai : Int) = i - a
  ec : (ci : Int) = j - b
  ha : ai ≤ u.length
  hc : ci ≤ v.length
theorem slot_full {prog : Program} {w : World} {p : Program} {loose : List Str} {mean : ExcName → Option Value} {mg mb : Str → Option Value}
  {dp un : Nat} {gd : Option (List Code)} {cn : Str} {cs : Scope} {a : Addr} {ccd : Value} {cl : List (Str × Addr)} {outer : List Env} {A₀ : Around} {base h₀ : Heap} {L : Addr} {m : Str → Option Value} {news : List (Addr × Obj)} {s : Shared} {Q E : Value → Shared → Prop}
  {h1 h2 h3 h4 h5 h6 e1 e2 e3 : Int} {t1 t2 t3 t4 t5 t6 f1 f2 f3 f4 f5 : Tok} {v1 v2 v3 v4 : Value} {x dx bl il n dn : Addr} {j A C D : Int} {ni : Nat} {vs : List Value} {u v : List Nat} {ai ci : Nat} {i0 j0 a0 b0 : Int}
  (G : TMark u v i0 j0 a0 b0 ai ci) (B : Below A₀ base outer h₀) (F : Fr h₀ L s.heap m) (X : (K w.params).In h₀) (N : News h₀ L s.heap news) (T : Top p loose mean mg mb h₀) (hk : cs.kind = .function) (hd : dp + 20 < 1000)
  (m1 : (n, instObj 117 dn) ∈ news) (m2 : (dn, refD e1 e2 e3 f1 f2 f3 f4 f5 x j) ∈ news) (m3 : (x, instObj 208 dx) ∈ news) (m4 : (dx, arrD h1 h2 h3 h4 h5 h6 t1 t2 t3 t4 t5 t6 v1 v2 v3 v4 bl il) ∈ news) (m5 : (il, W.listOf vs.toArray ni) ∈ news)
  (hI : IntsAre vs (tab u v)) (hj : j = A * D + C) (hA : A = i0 - a0) (hD : D = ((v.length + 1 : Nat) : Int)) (hC : C = j0 - b0)
  (ret : ∀ t h' tk', Fr h₀ L h' m → News h₀ L h' news → Q (.int (cell u v ai ci) t) { s with heap := h', toks := tk' }) :
  wpAny (model prog w) (ktrTop dp un gd cn cs L a ccd cl outer) (call (.ref 269) [.ref n]) Q E s := by
  have e1' := G.ea
  have e2' := G.ec
  have hai := G.ha
  have hci := G.hc
  have hj' := idx_int (a := ai) (b := v.length + 1) (c := ci) hj (by omega) hD (by omega)
  have hx := tab_at G.hu G.hv hai hci
  have hu3 := W_len u G.hu
  have hv3 := W_len v G.hv
  have h16 : (tab u v).length ≤ 31 := by
    rw [tab_len]
    exact Nat.le_trans (Nat.mul_le_mul (show u.length + 1 ≤ 4 by omega) (show v.length + 1 ≤ 4 by omega)) (by decide)
  have hlt := (List.getElem?_eq_some_iff.mp hx).1
  refine slot1 B F X N T hk hd (all5' m1 m2 m3 m4 m5) hI (by rw [hj']; exact Int.natCast_nonneg _) (by rw [hj']; exact Int.ofNat_lt.mpr hlt) h16 fun r h' tk' F' N' hr => ?_
  obtain ⟨t, rfl⟩ := hr
  rw [hj', Int.toNat_natCast, List.getD_eq_getElem?_getD, hx]
  exact ret t h' tk' F' N'
/-- the word as it changes -/
def wd (u v : List Nat) (i j : Nat) : List Nat := u.take i ++ v.drop j
theorem take_chk : ∀ u ∈ W, ∀ i < 4, u.take i ∈ W0 ∧ u.drop i ∈ W0 := by decide
theorem slices_chk : ∀ a ∈ W0, ∀ b ∈ W0, Txt.slice (S (a ++ b)) none (some (a.length : Int)) = S a ∧ Txt.slice (S (a ++ b)) (some (a.length : Int)) none = S b ∧ (a ≠ [] → Txt.slice (S (a ++ b)) none (some ((a.length : Int) - 1)) = S a.dropLast) := by decide +kernel
theorem at_len {u v : List Nat} {i j : Nat} (G : At u v i j) : u.take i ∈ W0 ∧ v.drop j ∈ W0 ∧ (u.take i).length = i ∧ (v.drop j).length ≤ 3 ∧ i ≤ 3 := by
  have := W_len u G.hu
  have := W_len v G.hv
  have := G.hi
  have := G.hj
  refine ⟨(take_chk u G.hu i (by omega)).1, (take_chk v G.hv j (by omega)).2, by rw [List.length_take]; omega, by rw [List.length_drop]; omega, by omega⟩
theorem wd_fits {u v : List Nat} {i j : Nat} (G : At u v i j) : (S (wd u v i j)).length ≤ sizeLine := by
  have h := at_len G
  refine S_fits ?_
  unfold wd
  rw [List.length_append, h.2.2.1]
  have h1 := h.2.2.2.1
  have h2 := h.2.2.2.2
  omega
theorem dropLast_at {u : List Nat} {i : Nat} (h : i ≤ u.length) : (u.take i).dropLast = u.take (i - 1) := by
  rw [List.dropLast_eq_take, List.length_take, List.take_take]
  congr 1
  omega
theorem wd_zero (u v : List Nat) : wd u v 0 0 = v := rfl
theorem wd_all (u v : List Nat) : wd u v u.length v.length = u := by simp [wd]
theorem wd_11 {u v : List Nat} {i j : Nat} (G : At u v i j) (h : 0 < j) : (u.take (i - 1) ++ [v.getD (j - 1) 0]) ++ v.drop j = wd u v (i - 1) (j - 1) := by
  have hj := G.hj
  obtain ⟨k, rfl⟩ : ∃ k, j = k + 1 := ⟨j - 1, by omega⟩
  have hk : k < v.length := by omega
  unfold wd
  rw [Nat.add_sub_cancel, List.append_assoc, List.drop_eq_getElem_cons hk, List.getD_eq_getElem?_getD, List.getElem?_eq_getElem hk]
  rfl
theorem wd_01 {u v : List Nat} {i j : Nat} (G : At u v i j) (h : 0 < j) : (u.take i ++ [v.getD (j - 1) 0]) ++ v.drop j = wd u v i (j - 1) := by
  have hj := G.hj
  obtain ⟨k, rfl⟩ : ∃ k, j = k + 1 := ⟨j - 1, by omega⟩
  have hk : k < v.length := by omega
  unfold wd
  rw [Nat.add_sub_cancel, List.append_assoc, List.drop_eq_getElem_cons hk, List.getD_eq_getElem?_getD, List.getElem?_eq_getElem hk]
  rfl
structure CellB (u v : List Nat) (i j : Nat) : Prop where
  f1 : 0 < i → 0 < j → cell u v i j = min (min (cell u v (i - 1) j) (cell u v i (j - 1)) + 1) (cell u v (i - 1) (j - 1) + dif (u.getD (i - 1) 0) (v.getD (j - 1) 0))
  f2 : j = 0 → 0 < i → cell u v i j = cell u v (i - 1) j + 1
  f3 : i = 0 → 0 < j → cell u v i j = cell u v i (j - 1) + 1
  f4 : i = 0 → j = 0 → cell u v i j = 0
theorem cellB {u v : List Nat} {i j : Nat} (G : At u v i j) : CellB u v i j := by
  have hi := G.hi
  have hj := G.hj
  refine ⟨fun h1 h2 => ?_, fun h1 h2 => ?_, fun h1 h2 => ?_, fun h1 h2 => ?_⟩
  · obtain ⟨a, rfl⟩ : ∃ a, i = a + 1 := ⟨i - 1, by omega⟩
    obtain ⟨b, rfl⟩ : ∃ b, j = b + 1 := ⟨j - 1, by omega⟩
    exact (cellF G.hu G.hv (by omega) (by omega)).e
  · rw [cell_edge u v (.inr h1), cell_edge u v (.inr h1)]
    omega
  · rw [cell_edge u v (.inl h1), cell_edge u v (.inl h1)]
    omega
  · rw [cell_edge u v (.inl h1)]
    omega
section
variable {prog : Program} {w : World} {A : Around} {E : Value → Shared → Prop} {s : Shared} {L : Addr} {h₀ : Heap} {m : Str → Option Value} {news : List (Addr × Obj)} {u v : List Nat} {i j : Nat} {value slice : PySem.Expr}
theorem slice_pre {k : Int} {t uj : Tok} {Q : Value → Shared → Prop} (G : At u v i j) (hF : Fr h₀ L s.heap m) (hN : News h₀ L s.heap news) (hk : k = (i : Int)) (h : ∀ h' t' k, Fr h₀ L h' m → News h₀ L h' news → Q (.str (S (u.take i)) t') { s with heap := h', toks := k })
    (hs : subscripted slice false (.str (S (wd u v i j)) t) (.ref s.heap.objs.size) = operate [.ref s.heap.objs.size, .str (S (wd u v i j)) t] (getItem (.str (S (wd u v i j)) t) (.ref s.heap.objs.size))) (ht : ∀ r, letTemporaryGo value (.str (S (wd u v i j)) t) r = pure ()) :
    wpAny (model prog w) A (subscriptTail value slice (.str (S (wd u v i j)) t) (.ref s.heap.objs.size)) Q E { s with heap := s.heap.push { cls := .type "slice", data := .fields #[.none, .int k uj, .none] } } := by
  have l := at_len G
  have e := (slices_chk _ l.1 _ l.2.1).1
  rw [l.2.2.1, ← hk] at e
  exact slice_strN_ns hF hN (fun h' t' c a b => by rw [show wd u v i j = u.take i ++ v.drop j from rfl, e]; exact h h' t' c a b) hs ht (wd_fits G)
theorem slice_pre1 {k : Int} {t uj : Tok} {Q : Value → Shared → Prop} (G : At u v i j) (hF : Fr h₀ L s.heap m) (hN : News h₀ L s.heap news) (hk : k = (i : Int) - 1) (h0 : 0 < i) (h : ∀ h' t' k, Fr h₀ L h' m → News h₀ L h' news → Q (.str (S (u.take (i - 1))) t') { s with heap := h', toks := k })
    (hs : subscripted slice false (.str (S (wd u v i j)) t) (.ref s.heap.objs.size) = operate [.ref s.heap.objs.size, .str (S (wd u v i j)) t] (getItem (.str (S (wd u v i j)) t) (.ref s.heap.objs.size))) (ht : ∀ r, letTemporaryGo value (.str (S (wd u v i j)) t) r = pure ()) :
    wpAny (model prog w) A (subscriptTail value slice (.str (S (wd u v i j)) t) (.ref s.heap.objs.size)) Q E { s with heap := s.heap.push { cls := .type "slice", data := .fields #[.none, .int k uj, .none] } } := by
  have l := at_len G
  have e := (slices_chk _ l.1 _ l.2.1).2.2 (by intro q; have := l.2.2.1; rw [q] at this; simp at this; omega)
  rw [l.2.2.1, ← hk, dropLast_at G.hi] at e
  exact slice_strN_ns hF hN (fun h' t' c a b => by rw [show wd u v i j = u.take i ++ v.drop j from rfl, e]; exact h h' t' c a b) hs ht (wd_fits G)
theorem slice_post {k : Int} {t ui : Tok} {Q : Value → Shared → Prop} (G : At u v i j) (hF : Fr h₀ L s.heap m) (hN : News h₀ L s.heap news) (hk : k = (i : Int)) (h : ∀ h' t' k, Fr h₀ L h' m → News h₀ L h' news → Q (.str (S (v.drop j)) t') { s with heap := h', toks := k })
    (hs : subscripted slice false (.str (S (wd u v i j)) t) (.ref s.heap.objs.size) = operate [.ref s.heap.objs.size, .str (S (wd u v i j)) t] (getItem (.str (S (wd u v i j)) t) (.ref s.heap.objs.size))) (ht : ∀ r, letTemporaryGo value (.str (S (wd u v i j)) t) r = pure ()) :
    wpAny (model prog w) A (subscriptTail value slice (.str (S (wd u v i j)) t) (.ref s.heap.objs.size)) Q E { s with heap := s.heap.push { cls := .type "slice", data := .fields #[.int k ui, .none, .none] } } := by
  have l := at_len G
  have e := (slices_chk _ l.1 _ l.2.1).2.1
  rw [l.2.2.1, ← hk] at e
  exact slice_strN_sn hF hN (fun h' t' c a b => by rw [show wd u v i j = u.take i ++ v.drop j from rfl, e]; exact h h' t' c a b) hs ht (wd_fits G)
theorem add_S {a b : List Nat} {t t1 : Tok} {Q : Value → Shared → Prop} (hl : a.length + b.length ≤ 100) (h : ∀ t' tk, Q (.str (S (a ++ b)) t') { s with toks := tk }) : wpAny (model prog w) A (binaryOp .Add (.str (S a) t) (.str (S b) t1)) Q E s := by
  refine add_str (x := S a) (y := S b) (fun t' tk => ?_) (Nat.le_trans (show a.length + b.length ≤ 100 from hl) (by decide))
  have e : S a ++ S b = S (a ++ b) := by
    show (⟨a.toArray ++ b.toArray⟩ : Str) = ⟨(a ++ b).toArray⟩
    rw [List.append_toArray]
  rw [e]
  exact h t' tk
theorem item_u {k : Int} {t t' : Tok} {Q : Value → Shared → Prop} (G : At u v i j) (hk : k = (i : Int) - 1) (h0 : 0 < i) (h : Q (.str (S [u.getD (i - 1) 0]) s.toks) { s with toks := s.toks + 1 })
    (hs : subscripted slice false (.str (S u) t) (.int k t') = operate [.str (S u) t, .int k t'] (getItem (.str (S u) t) (.int k t')))
    (ht : ∀ r, letTemporaryGo value (.str (S u) t) r = pure ()) : wpAny (model prog w) A (subscriptTail value slice (.str (S u) t) (.int k t')) Q E s := by
  have := G.hi
  have e : k.toNat = i - 1 := by omega
  exact item_S (W_W0 u G.hu) (by omega) (by omega) (by rw [e]; exact h) hs ht
theorem item_v {k : Int} {t t' : Tok} {Q : Value → Shared → Prop} (G : At u v i j) (hk : k = (j : Int) - 1) (h0 : 0 < j) (h : Q (.str (S [v.getD (j - 1) 0]) s.toks) { s with toks := s.toks + 1 })
    (hs : subscripted slice false (.str (S v) t) (.int k t') = operate [.str (S v) t, .int k t'] (getItem (.str (S v) t) (.int k t')))
    (ht : ∀ r, letTemporaryGo value (.str (S v) t) r = pure ()) : wpAny (model prog w) A (subscriptTail value slice (.str (S v) t) (.int k t')) Q E s := by
  have := G.hj
  have e : k.toNat = j - 1 := by omega
  exact item_S (W_W0 v G.hv) (by omega) (by omega) (by rw [e]; exact h) hs ht
theorem ne_same {a b : List Nat} {t t1 : Tok} {Q : Value → Shared → Prop} (e : a = b) (h : Q (.bool false) s) : wpAny (model prog w) A (compareOp .NotEq (.str (S a) t) (.str (S b) t1)) Q E s := by
  refine ne_str ?_
  rw [bne_eq_false_iff_eq.mpr (congrArg S e)]
  exact h
theorem ne_no {a b : Int} {t t1 : Tok} {Q : Value → Shared → Prop} (e : a = b) (h : Q (.bool false) s) : wpAny (model prog w) A (compareOp .NotEq (.int a t) (.int b t1)) Q E s := by
  refine ne_int ?_
  rw [bne_eq_false_iff_eq.mpr e]
  exact h
theorem eq_yes {a b : Int} {t t1 : Tok} {Q : Value → Shared → Prop} (e : a = b) (h : Q (.bool true) s) : wpAny (model prog w) A (compareOp .Eq (.int a t) (.int b t1)) Q E s := by
  refine eq_int ?_
  rw [beq_iff_eq.mpr e]
  exact h
end
end Mine
namespace Mine
/-- the state of the law's way back: line, place, their cells, the tokens of word and changes -/
abbrev BackS := Nat × Nat × Obj × Obj × Tok × Tok
abbrev ledB (e1 e2 e3 e4 e5 e6 e7 e8 e9 e10 e11 e12 e14 e16 : Addr × Obj) (pc lc : Addr) (c : BackS) : List (Addr × Obj) := [e1, e2, e3, e4, e5, e6, e7, e8, e9, e10, e11, e12, (pc, c.2.2.1), e14, (lc, c.2.2.2.1), e16]
abbrev psB (u v : List Nat) (c : BackS) : List (Str × Value) := [(Str.ofString "word", .str (S (wd u v c.1 c.2.1)) c.2.2.2.2.1), (Str.ofString "changes", .int (cell u v u.length v.length - cell u v c.1 c.2.1) c.2.2.2.2.2)]
abbrev FactsB (c : BackS) : Prop := (∃ t, c.2.2.1.data = .cell (some (.int (c.2.1 : Int) t))) ∧ ∃ t, c.2.2.2.1.data = .cell (some (.int (c.1 : Int) t))
abbrev PB (u v : List Nat) (c : BackS) : Prop := At u v c.1 c.2.1
abbrev muB (c : BackS) : Nat := c.1 + c.2.1
theorem kst_back {prog : Program} {w : World} {A : Around} {E : Value → Shared → Prop} {Q : Flow → Shared → Prop} {s : Shared} {env : Env} {h₀ : Heap} {L : Addr} {test : PySem.Expr} {body : List Stmt} {pos : Pos} {m₀ : Str → Option Value}
    {e1 e2 e3 e4 e5 e6 e7 e8 e9 e10 e11 e12 e14 e16 : Addr × Obj} {pc lc : Addr} {o13 o15 : Obj} {u v : List Nat} {tw tc tp tl : Tok}
    (F : Fr h₀ L s.heap m₀) (N : News h₀ L s.heap [e1, e2, e3, e4, e5, e6, e7, e8, e9, e10, e11, e12, (pc, o13), e14, (lc, o15), e16]) (G : At u v u.length v.length) (hw : m₀ (Str.ofString "word") = some (.str (S u) tw)) (hc : m₀ (Str.ofString "changes") = some (.int 0 tc))
    (hp : o13.data = .cell (some (.int (v.length : Int) tp))) (hl : o15.data = .cell (some (.int (u.length : Int) tl)))
    (turn : ∀ (i j : Nat) (op ol : Obj) (tw tc tp tl : Tok) (z9 : Str → Option Value) h tk, At u v i j → CellB u v i j → op.data = .cell (some (.int (j : Int) tp)) → ol.data = .cell (some (.int (i : Int) tl)) →
      Fr h₀ L h (kstB (fun z => if [Str.ofString "here"].contains z then z9 z else m₀ z) [(Str.ofString "word", .str (S (wd u v i j)) tw), (Str.ofString "changes", .int (cell u v u.length v.length - cell u v i j) tc)]) →
      News h₀ L h [e1, e2, e3, e4, e5, e6, e7, e8, e9, e10, e11, e12, (pc, op), e14, (lc, ol), e16] →
      wpAny (model prog w) A (isTrue test env (eval test env)) (fun b s₂ =>
        if b = true then wpAny (model prog w) A (execs body env) (KswPost h₀ L s (ledB e1 e2 e3 e4 e5 e6 e7 e8 e9 e10 e11 e12 e14 e16 pc lc) (psB u v) FactsB [Str.ofString "here"] m₀ (PB u v) muB Q (i, j, op, ol, tw, tc)) E s₂ else Q .next s₂) E { s with heap := h, toks := tk })
    (hE : PassesOwn (model prog w) A env E := by passes_own) :
    wpAny (model prog w) A (exec (.While test body [] pos) env) Q E s := by
  refine ksw_while (σ := BackS) (ledB e1 e2 e3 e4 e5 e6 e7 e8 e9 e10 e11 e12 e14 e16 pc lc) (psB u v) FactsB [Str.ofString "here"] (PB u v) muB (u.length, v.length, o13, o15, tw, tc) F N ⟨⟨tp, hp⟩, ⟨tl, hl⟩⟩ ?_ G ?_ hE
  · intro p hp
    simp only [List.mem_cons, List.not_mem_nil, or_false] at hp
    rcases hp with rfl | rfl
    · show m₀ (Str.ofString "word") = some (.str (S (wd u v u.length v.length)) tw)
      rw [wd_all]
      exact hw
    · show m₀ (Str.ofString "changes") = some (.int (cell u v u.length v.length - cell u v u.length v.length) tc)
      rw [Int.sub_self]
      exact hc
  · rintro ⟨i, j, op, ol, tw, tc⟩ z9 h tk ⟨⟨tp, hp⟩, ⟨tl, hl⟩⟩ hG F' N'
    exact turn i j op ol tw tc tp tl z9 h tk hG (cellB hG) hp hl F' N'
theorem back_close {s : Shared} {h₀ : Heap} {L : Addr} {m₀ m' : Str → Option Value} {e1 e2 e3 e4 e5 e6 e7 e8 e9 e10 e11 e12 e14 e16 : Addr × Obj} {pc lc : Addr} {u v x : List Nat} {i j i' j' : Nat} {op ol op' ol' : Obj} {tw tc tw' tc' t1 t2 : Tok} {y1 y2 y : Int} {h' : Heap} {tk : Nat} {news' : List (Addr × Obj)}
    (G : At u v i j) (way : (i' = i - 1 ∧ j' = j - 1 ∧ 0 < i ∧ 0 < j) ∨ (i' = i - 1 ∧ j' = j ∧ 0 < i) ∨ (i' = i ∧ j' = j - 1 ∧ 0 < j))
    (F : Fr h₀ L h' m') (N : News h₀ L h' news') (hw : m' (Str.ofString "word") = some (.str (S x) tw')) (ex : x = wd u v i' j') (hc : m' (Str.ofString "changes") = some (.int y tc')) (ey : y = cell u v u.length v.length - cell u v i' j')
    (mem : ∀ p ∈ [e1, e2, e3, e4, e5, e6, e7, e8, e9, e10, e11, e12, (pc, op'), e14, (lc, ol'), e16], p ∈ news') (hop : op'.data = .cell (some (.int y1 t1))) (e1' : y1 = (j' : Int)) (hol : ol'.data = .cell (some (.int y2 t2))) (e2' : y2 = (i' : Int))
    (hoff : ∀ z, z ≠ Str.ofString "word" → z ≠ Str.ofString "changes" → z ≠ Str.ofString "here" → m' z = m₀ z) :
    KswEnd h₀ L s (ledB e1 e2 e3 e4 e5 e6 e7 e8 e9 e10 e11 e12 e14 e16 pc lc) (psB u v) FactsB [Str.ofString "here"] m₀ (PB u v) muB (i, j, op, ol, tw, tc) { s with heap := h', toks := tk } := by
  subst ex ey e1' e2'
  have g1 := G.hi
  have g2 := G.hj
  refine ksw_end (i', j', op', ol', tw', tc') F N mem ⟨⟨_, hop⟩, ⟨_, hol⟩⟩ (fun p hp => ?_) (fun z h2 h3 => ?_) ⟨G.hu, G.hv, by show i' ≤ u.length; omega, by show j' ≤ v.length; omega⟩ (by show i' + j' < i + j; omega)
  · simp only [List.mem_cons, List.not_mem_nil, or_false] at hp
    rcases hp with rfl | rfl
    · exact hw
    · exact hc
  · refine hoff z (h2 _ (.head _)) (h2 _ (.tail _ (.head _))) fun e => ?_
    rw [e] at h3
    exact absurd h3 (by decide)
/-- one of the three ways back holds -/
theorem back_noA {u v : List Nat} {i j : Nat} (B : CellB u v i j) (h1 : (0 : Int) < (i : Int)) (h2 : (0 : Int) < (j : Int)) (h3 : cell u v (i - 1) (j - 1) + dif (u.getD (i - 1) 0) (v.getD (j - 1) 0) ≠ cell u v i j) (h4 : cell u v (i - 1) j + 1 ≠ cell u v i j) (h5 : cell u v i (j - 1) + 1 ≠ cell u v i j) : False := by
  have := B.f1 (by omega) (by omega)
  omega
theorem back_noB {u v : List Nat} {i j : Nat} (B : CellB u v i j) (h1 : (0 : Int) < (i : Int)) (h2 : ¬ (0 : Int) < (j : Int)) (h4 : cell u v (i - 1) (j - 1) + 1 ≠ cell u v i j) : False := by
  have e : j = 0 := by omega
  subst e
  exact h4 (B.f2 rfl (by omega)).symm
theorem back_noC {u v : List Nat} {i j : Nat} (B : CellB u v i j) (h1 : ¬ (0 : Int) < (i : Int)) (h2 : (0 : Int) < (j : Int)) (h5 : cell u v (i - 1) (j - 1) + 1 ≠ cell u v i j) : False := by
  have e : i = 0 := by omega
  subst e
  exact h5 (B.f3 rfl (by omega)).symm
theorem wd_end {u v : List Nat} {i j : Nat} (hi : i = 0) (hj : j = 0) : wd u v i j = v := by
  subst hi hj
  rfl
theorem rev_chk : ∀ u ∈ W, Txt.sliceBy (S u) none none (-1, 0) = S u.reverse ∧ u.reverse ∈ W ∧ u.reverse.length = u.length := by decide +kernel
theorem tab_last_chk : ∀ u ∈ W, ∀ v ∈ W, (tab v.reverse u.reverse).getD ((tab v.reverse u.reverse).length - 1) 0 = cell u v u.length v.length ∧ 1 ≤ (tab v.reverse u.reverse).length ∧ (tab v.reverse u.reverse).length ≤ 16 := by decide +kernel
section
variable {prog : Program} {w : World} {A : Around} {E : Value → Shared → Prop} {s : Shared} {L : Addr} {h₀ : Heap} {m : Str → Option Value} {news : List (Addr × Obj)} {value slice : PySem.Expr}
theorem slice_rev {u : List Nat} {t uk : Tok} {Q : Value → Shared → Prop} (hu : u ∈ W) (hF : Fr h₀ L s.heap m) (hN : News h₀ L s.heap news) (h : ∀ h' t' c, Fr h₀ L h' m → News h₀ L h' news → u.reverse ∈ W → Q (.str (S u.reverse) t') { s with heap := h', toks := c })
    (hs : subscripted slice false (.str (S u) t) (.ref s.heap.objs.size) = operate [.ref s.heap.objs.size, .str (S u) t] (getItem (.str (S u) t) (.ref s.heap.objs.size))) (ht : ∀ r, letTemporaryGo value (.str (S u) t) r = pure ()) :
    wpAny (model prog w) A (subscriptTail value slice (.str (S u) t) (.ref s.heap.objs.size)) Q E { s with heap := s.heap.push { cls := .type "slice", data := .fields #[.none, .none, .int (-1) uk] } } := by
  have hc := rev_chk u hu
  have e : Txt.sliceBy (S u) none none (-1, uk) = S u.reverse := hc.1
  have hl := W_len u hu
  exact slice_strK_nn hF hN (by decide) (fun h' t' c a b => by rw [e]; exact h h' t' c a b hc.2.1) hs ht (S_fits (by omega))
theorem item_last2 {u v : List Nat} {l : Addr} {vs : List Value} {t : Tok} {Q : Value → Shared → Prop} (hu : u ∈ W) (hv : v ∈ W) (hl : s.heap.IsList l vs.toArray) (hi : IntsAre vs (tab v.reverse u.reverse)) (h : ∀ t, Q (.int (cell u v u.length v.length) t) s)
    (hs : subscripted slice false (.ref l) (.int (-1) t) = operate [.ref l, .int (-1) t] (getItem (.ref l) (.int (-1) t))) (hg : ∀ r, letTemporaryGo value (.ref l) r = pure ()) :
    wpAny (model prog w) A (subscriptTail value slice (.ref l) (.int (-1) t)) Q E s := by
  have hc := tab_last_chk u hu v hv
  refine item_list_ints_neg hl hi (by decide) (by omega) (by decide) (fun t => ?_) hs hg
  have e : (-1 + ((tab v.reverse u.reverse).length : Int)).toNat = (tab v.reverse u.reverse).length - 1 := by omega
  rw [e, hc.1]
  exact h t
theorem item_last3 {u v : List Nat} {l : Addr} {vs : List Value} {k : Int} {t : Tok} {Q : Value → Shared → Prop} (hk : k = -1) (hl : s.heap.IsList l vs.toArray) (hi : IntsAre vs (tab v.reverse u.reverse)) (hu : u ∈ W) (hv : v ∈ W) (h : ∀ t, Q (.int (cell u v u.length v.length) t) s)
    (hs : subscripted slice false (.ref l) (.int k t) = operate [.ref l, .int k t] (getItem (.ref l) (.int k t))) (hg : ∀ r, letTemporaryGo value (.ref l) r = pure ()) :
    wpAny (model prog w) A (subscriptTail value slice (.ref l) (.int k t)) Q E s := by
  subst hk
  exact item_last2 hu hv hl hi h hs hg
end
/-- the second call of _law_table -/
theorem table_second {prog : Program} {w : World} {p : Program} {loose : List Str} {mean : ExcName → Option Value} {mg mb : Str → Option Value}
  {dp un : Nat} {gd : Option (List Code)} {cn : Str} {cs : Scope} {a : Addr} {ccd : Value} {cl : List (Str × Addr)} {outer : List Env} {A₀ : Around} {base h₀ : Heap} {L : Addr} {m : Str → Option Value} {led : List (Addr × Obj)} {s : Shared} {Q E : Value → Shared → Prop}
  {u v : List Nat} {low : Int} {z1 z2 z3 t' : Tok} {c' : Addr} {oc' : Obj} {ps' vs' qs : Array Value} {l0 : List (Addr × Obj)}
  (B : Below A₀ base outer h₀) (F : Fr h₀ L s.heap m) (X : (K w.params).In h₀) (N : News h₀ L s.heap led) (T : Top p loose mean mg mb h₀) (C : CodeHd h₀ 287 285) (hk : cs.kind = .function) (hd : dp + 60 < 1000)
  (hu : u ∈ W) (hv : v ∈ W)
  (m1 : ((285 : Addr), tabObj ps') ∈ led) (j4 : codeAmong toldPos ps'.toList = some (.ref c')) (m2 : (c', oc') ∈ led) (j1 : oc'.data = .fields vs') (j2 : vs'[1]? = some (.str toldQ t')) (j3 : TriplesOk ps'.toList) (hc : NeAll c' l0) (m3 : ((285 : Addr), tabObj #[]) ∈ l0) (m5 : ((290 : Addr), tabObj qs) ∈ led)
  (ret : ∀ x dx il ps items nz h1 h2 h3 h4 h5 h6 t1 t2 t3 t4 t5 t6 v1 v2 v3 v4 bl h' tk', Fr h₀ L h' m →
    News h₀ L h' [(x, instObj 208 dx), (dx, arrD h1 h2 h3 h4 h5 h6 t1 t2 t3 t4 t5 t6 v1 v2 v3 v4 bl il), (il, W.listOf (List.toArray items) nz), ((285 : Addr), tabObj ps), ((290 : Addr), tabObj qs)] → IntsAre items (tab u v) →
    Q (.ref x) { s with heap := h', toks := tk' }) :
  wpAny (model prog w) (ktrTop dp un gd cn cs L a ccd cl outer) (call (.ref 288) [.str (S u) z1, .str (S v) z2, .int low z3]) Q E s := by
  refine table2 (small := [(c', oc')]) (ps := ps') (news := [(c', oc'), ((290 : Addr), tabObj qs)]) B F X (news_pick N ⟨m1, m2, m5, trivial⟩) T C hk hd hu hv (fun _ h => List.mem_singleton.mp h ▸ .head _) ?_ (.inr ⟨c', oc', vs', t', rfl, j1, j2, j3, j4⟩) ?_
  · intro q hq
    simp only [List.mem_cons, List.not_mem_nil, or_false] at hq
    rcases hq with rfl | rfl
    · exact hc _ m3
    · exact (by decide : (290 : Nat) ≠ 285)
  · rintro r tl o₁ h' tk' F' N' ap ⟨x, dx, bl, bt, bu, il, c', oc', vs', t', ps', items, ex, nb, nt, nu, nz, h1, h2, h3, h4, h5, h6, t1, t2, t3, t4, t5, t6, v1, v2, v3, v4, u1, u2, u3, u4, rfl, rfl, hI, rfl, j1, j2, j3, j4, ⟨hh, _⟩ | ⟨_, rfl⟩⟩
    · cases hh
    · exact ret x dx il ps' items nz h1 h2 h3 h4 h5 h6 t1 t2 t3 t4 t5 t6 v1 v2 v3 v4 bl h' tk' F' (news_pick N' ⟨.head _, .tail _ (.head _), .tail _ (.tail _ (.tail _ (.tail _ (.tail _ (.head _))))), .tail _ (.tail _ (.tail _ (.tail _ (.tail _ (.tail _ (.head _)))))), .tail _ (.tail _ (.tail _ (.tail _ (.tail _ (.tail _ (.tail _ (.tail _ (.head _)))))))), trivial⟩) hI
end Mine
open Mine
local macro_rules | `(tactic| k_in) => `(tactic| first | with_reducible assumption | exact Frag.In.keeps (by with_reducible assumption) (Fr.keep (by with_reducible assumption)))
theorem neAll_off {d : Addr} : ∀ {l : List (Addr × Obj)}, LCg.Off1 d l → NeAll d l
  | [], _ => fun _ h => nomatch h
  | _ :: _, o => fun q h => (List.mem_cons.mp h).elim (fun e => e ▸ Ne.symm o.1) (neAll_off o.2 q)
local macro_rules | `(tactic| k_mem) => `(tactic| ((repeat (first | with_reducible exact List.Mem.head _ | refine List.Mem.tail _ ?_)); done))
local macro_rules | `(tactic| k_lt $h:ident) => `(tactic| replace $h := allLt_of $h)
local macro_rules | `(tactic| k_ne) => `(tactic| (refine neN ?_; (try dsimp only); first | decide | exact Nat.ne_of_lt (allLt_at (by with_reducible assumption) (by k_mem)) | exact Nat.ne_of_gt (allLt_at (by with_reducible assumption) (by k_mem)) | exact neAll_at (by with_reducible assumption) (by k_mem) | exact neAll_at' (by with_reducible assumption) (by k_mem) | exact Nat.ne_of_lt (Nat.lt_of_lt_of_le (allLt_at (by with_reducible assumption : AllLt _ ((285, tabObj _) :: _)) (by k_mem)) (by omega)) | exact Nat.ne_of_gt (Nat.lt_of_lt_of_le (allLt_at (by with_reducible assumption : AllLt _ ((285, tabObj _) :: _)) (by k_mem)) (by omega)) | exact Nat.ne_of_gt (by omega) | exact Nat.ne_of_lt (by omega)))
theorem PySem.Challenge.cw_xw0302_02_holds : PySem.Challenge.rw_xw0302_02.Holds := by
  (w_on; o_law; refine holds_open (q := Mine.qv) (loose := [Str.ofString "SnobolError"]) (Xt := fun s => xlAt Mine.qv [] s && recOk (OpenLaw.row PySem.Challenge.rw_xw0302_02).records s) (XP := XL Mine.qv []) (Yf := Hook.obs (kmHook Mine.K Mine.addrs Mine.addrs_ok [285, 290])) (Ya := Hook.val (kmHook Mine.K Mine.addrs Mine.addrs_ok [285, 290])) (YP := Hook.says (kmHook Mine.K Mine.addrs Mine.addrs_ok [285, 290])) (N := 4920) Mine.left (Hook.of (kmHook Mine.K Mine.addrs Mine.addrs_ok [285, 290])) (Hook.keeps (kmHook Mine.K Mine.addrs Mine.addrs_ok [285, 290])) (fun s e => xl_of s (Bool.and_eq_true_iff.mp e).1) XL.keeps (by rfl) (by rfl) (by rfl) (fun s e => recFacts_of (Bool.and_eq_true_iff.mp e).2) (by rfl) (by first | assumption | decide +kernel) (by decide +kernel) ⟨rfl, rfl, rfl, rfl, rfl, by decide +kernel⟩ ?hw ?hc; (case hw => w_witness2))
  (with_reducible rename ((_ : Bool) = true) => sd9)
  clear sd9
  k_go0
  all_goals try k_fold
  repeat' (first
    | (k_unfold; (try dsimp only))
    | (k_end; first
      | (with_reducible (show LeaveT ..); (k_dflt (exact LeaveT.intro [] (by k_asm) (by k_asm) trivial (by k_subL) (by ktu_offL) ⟨rfl, _, rfl⟩)))
      | (with_reducible (show LCg.FinE ..); ((unfold LCg.FinE); intro D9 h9 tk9 F9 N9 o9; (replace o9 := neAll_off o9); (try simp only [List.nil_append, List.cons_append] at N9); (try dsimp only)))
      | (with_reducible (show ToldAt ..); (k_dflt (intro m' news' s' Q' E' op' ol' i' j' a' b' ti' tj' z1' z2' ai' ci' F' N' d1' d2' hs' ea' ec' ha' hc' ret'); (have ret2' := told_ret ret'); (have tm' : TMark _ _ _ _ _ _ _ _ := ⟨by assumption, by assumption, ea', ec', ha', hc'⟩); (refine wpAny_call ?_); k_dflt (refine' code_nestT _ _ (by k_asm) (by exact F') (by k_asm) (by exact N') (by k_asm) (by exact rfl) (by exact rfl) (by exact rfl) (by exact hs') (by exact ret2') (by exact hs' _ (by (repeat (first | with_reducible exact List.Mem.head _ | refine List.Mem.tail _ ?_)))) (by exact codeRec_news N' (hs' _ (by (repeat (first | with_reducible exact List.Mem.head _ | refine List.Mem.tail _ ?_)))) (by assumption) (by assumption)) (by k_room) (by exact BindsTo.of_eq rfl) (by exact locs rfl) ?_ (by exact rfl) (by exact rfl) (by exact rfl) (by decide)); (clear ret2' ret' hs' F' N'); intro g' L' h' tk' F' N' B' X' T' l1'; (clear l1'); (try dsimp only); (try k_fold)))
      | (with_reducible (show KswEnd ..); ((rename At _ _ _ _ => hG9); k_dflt (first | (refine' back_close hG9 (.inl ⟨rfl, rfl, (by omega), (by omega)⟩) (by k_asm) (by k_asm) (by rfl) (wd_11 hG9 (by omega)) (by rfl) (by omega) (by ((repeat' (first | exact List.forall_mem_nil _ | refine List.forall_mem_cons.mpr ⟨?_, ?_⟩)) <;> (first | ((repeat (first | with_reducible exact List.Mem.head _ | refine List.Mem.tail _ ?_)); done) | k_mem))) (by with_reducible assumption) (by omega) (by with_reducible assumption) (by omega) (by (intro z h1 h2 h3; (have h4 : (z == PySem.Str.ofString "here") = false := beq_eq_false_iff_ne.mpr h3); (simp only [h1, h2, h3, h4, kstB, List.contains_cons, List.contains_nil, Bool.or_false, Bool.false_eq_true, if_false])))) | (refine' back_close hG9 (.inr (.inr ⟨rfl, rfl, (by omega)⟩)) (by k_asm) (by k_asm) (by rfl) (wd_01 hG9 (by omega)) (by rfl) (by omega) (by ((repeat' (first | exact List.forall_mem_nil _ | refine List.forall_mem_cons.mpr ⟨?_, ?_⟩)) <;> (first | ((repeat (first | with_reducible exact List.Mem.head _ | refine List.Mem.tail _ ?_)); done) | k_mem))) (by with_reducible assumption) (by omega) (by with_reducible assumption) (by omega) (by (intro z h1 h2 h3; (have h4 : (z == PySem.Str.ofString "here") = false := beq_eq_false_iff_ne.mpr h3); (simp only [h1, h2, h3, h4, kstB, List.contains_cons, List.contains_nil, Bool.or_false, Bool.false_eq_true, if_false])))) | (refine' back_close hG9 (.inr (.inl ⟨rfl, rfl, (by omega)⟩)) (by k_asm) (by k_asm) (by rfl) rfl (by rfl) (by omega) (by ((repeat' (first | exact List.forall_mem_nil _ | refine List.forall_mem_cons.mpr ⟨?_, ?_⟩)) <;> (first | ((repeat (first | with_reducible exact List.Mem.head _ | refine List.Mem.tail _ ?_)); done) | k_mem))) (by with_reducible assumption) (by omega) (by with_reducible assumption) (by omega) (by (intro z h1 h2 h3; (have h4 : (z == PySem.Str.ofString "here") = false := beq_eq_false_iff_ne.mpr h3); (simp only [h1, h2, h3, h4, kstB, List.contains_cons, List.contains_nil, Bool.or_false, Bool.false_eq_true, if_false])))))))
      | (with_reducible (show AbEl ..); (k_dflt (exact ⟨rfl, _, _, by with_reducible assumption, rfl⟩)))
      | (with_reducible (show LCg.CompEnd ..); ((rename LCg.Off3 _ _ _ _ => hO9); k_dflt (refine LCg.CompEnd.intro (by k_asm) (by k_asm) _ (fun _ hp => hp) hO9 (by lcg_src) ?_)))
      | (with_reducible (show LCg.CompSrc ..); (k_here; (rename IsRange _ _ _ _ _ _ _ _ => rgX); k_dflt (refine' LCg.CompSrc.range (by rfl) (by k_asm) (by k_asm) rgX (small_one (by omega) (by omega) (by omega) (by omega)) (rangeSize_nat _ _) (by rw [PySem.sizeLine_eq]; omega) ?_); intro g'; k_dflt (refine' ab_range (fun k' t' I' oI' C' oC' D' m' ys' h' tk' E' hlo' hhi' hC' hx' F' N' off' ne' => ?_) (fun ys' cs' hS' hcs' hL' => ?_))))
      | kc_close)
    | (with_reducible ((show wpAny _ _ (subscriptTail ..) _ _ _); first
      | ((show wpAny _ _ (subscriptTail (PySem.Expr.Name ..) (PySem.Expr.UnaryOp ..) _ _) _ _ _); (k_here; k_dflt (refine' item_last3 (by rfl) (by exact News.isList (by k_asm) (by k_mem)) (by with_reducible assumption) (by assumption) (by assumption) (fun t' => ?_) (by with_unfolding_all rfl) (by intro _; with_unfolding_all rfl))))
      | ((show wpAny _ _ (subscriptTail (PySem.Expr.Attribute ..) (PySem.Expr.UnaryOp ..) _ _) _ _ _); (k_here; k_dflt (refine kba_turn (value' := PySem.Expr.Name (PySem.Str.ofString "a") ⟨0, 0, 0, 0⟩) (fun _ => rfl) ?_)))
      | ((show wpAny _ _ (subscriptTail (PySem.Expr.Name ..) (PySem.Expr.Slice ..) (Value.str _ _) (Value.ref _)) _ _ _); (k_here; (with_reducible show wpAny _ _ (subscriptTail _ (PySem.Expr.Slice none none (some _) _) (Value.str (S _) _) _) _ _ _); k_dflt (refine' slice_rev (by assumption) (by k_asm) (by k_asm) (fun h' t' k' F' N' hw' => ?_) (by with_unfolding_all rfl) (by intro _; with_unfolding_all rfl))))
      | ((show wpAny _ _ (subscriptTail (PySem.Expr.Name ..) (PySem.Expr.Slice ..) (Value.str _ _) (Value.ref _)) _ _ _); (k_here; (with_reducible show wpAny _ _ (subscriptTail _ _ (Value.str (S _) _) _) _ _ _); (rename At _ _ _ _ => hG9); k_dflt (first | (refine' slice_pre1 hG9 (by k_asm) (by k_asm) (by omega) (by omega) (fun h' t' k' F' N' => ?_) (by with_unfolding_all rfl) (by intro _; with_unfolding_all rfl)) | (refine' slice_pre hG9 (by k_asm) (by k_asm) (by omega) (fun h' t' k' F' N' => ?_) (by with_unfolding_all rfl) (by intro _; with_unfolding_all rfl)) | (refine' slice_post hG9 (by k_asm) (by k_asm) (by omega) (fun h' t' k' F' N' => ?_) (by with_unfolding_all rfl) (by intro _; with_unfolding_all rfl)))))
      | ((show wpAny _ _ (subscriptTail (PySem.Expr.Name ..) (PySem.Expr.BinOp ..) (Value.str _ _) _) _ _ _); (k_here; (with_reducible show wpAny _ _ (subscriptTail _ _ (Value.str (S _) _) _) _ _ _); (rename At _ _ _ _ => hG9); k_dflt (first | (refine' item_u hG9 (by omega) (by omega) ?_ (by with_unfolding_all rfl) (by intro _; with_unfolding_all rfl)) | (refine' item_v hG9 (by omega) (by omega) ?_ (by with_unfolding_all rfl) (by intro _; with_unfolding_all rfl)))))
      | ((show wpAny _ _ (subscriptTail (PySem.Expr.Constant ..) (PySem.Expr.BinOp ..) _ _) _ _ _); (k_here; k_dflt (refine' item_ab (by omega) (by omega) ?_ (by with_unfolding_all rfl) (by intro _; with_unfolding_all rfl)); intro c' hc'))
      | ((show wpAny _ _ (subscriptTail (PySem.Expr.Name ..) (PySem.Expr.Slice ..) (Value.ref _) (Value.ref _)) _ _ _); (k_here; (with_reducible show wpAny _ _ (subscriptTail _ (PySem.Expr.Slice _ _ none _) (Value.ref _) (Value.ref _)) _ _ _); k_dflt (refine' kmk_slice_ints (by k_asm) (by k_asm) (by kmk_list) (by kmk_part) (by kmk_part) (by l_ints) (by first | exact kmk_from (by l_ints) (Int.natCast_nonneg _) | kmk_nums) (by kmk_len) ?_ (by with_unfolding_all rfl) (by kmk_pure) (by kmk_size)); intro D' ws' h' F' N' l1 hI' hC' hL'; (try simp only [Int.reduceNeg, Int.neg_neg, Int.reduceToNat] at hI' hC' hL'); (try k_lt l1); (try k_sweep)))))
    | (with_reducible ((show wpAny _ _ (call _ _) _ _ _); first
      | (k_here; (with_reducible show wpAny _ _ (call (Value.ref 269) [Value.ref _]) _ _ _); (rename TMark _ _ _ _ _ _ _ _ => tm9); k_dflt (refine' slot_full tm9 (by k_asm) (by k_asm) (by k_asm) (by k_asm) (by k_asm) (by exact rfl) (by first | decide | (simp only [depth_deeper, depth_caller]; decide) | (simp only [depth_deeper, depth_caller]; omega)) (by k_mem) (by k_mem) (by k_mem) (by k_mem) (by k_mem) (by assumption) (by with_reducible assumption) (by omega) (by omega) (by omega) ?_); intro t' h' tk' F' N'; (try dsimp only); (try k_sweep))
      | (k_here; (with_reducible show wpAny _ _ (call (Value.ref 262) [Value.ref _, Value.ref _, Value.int _ _]) _ _ _); (rename TMark _ _ _ _ _ _ _ _ => tm9); (have q1 := tm9.ea); (have q2 := tm9.ec); (have q3 := tm9.ha); (have q4 := tm9.hc); k_dflt (refine' item2 (by k_asm) (by k_asm) (by k_asm) (by k_asm) (by k_asm) (by exact rfl) (by first | decide | (simp only [depth_deeper, depth_caller]; decide) | (simp only [depth_deeper, depth_caller]; omega)) (by refine all6 ?_ ?_ ?_ ?_ ?_ ?_ <;> k_mem) (by omega) (by omega) (by omega) (by omega) (by omega) (by omega) ?_); intro r' tl' h' tk' F' N' ap' hp'; (obtain ⟨n', dn', e1', e2', e3', f1', f2', f3', f4', f5', j', hj', hr', ht'⟩ := hp'); (subst hr' ht'); (clear ap'); (try simp only [List.nil_append, List.cons_append] at N'); (try dsimp only); (try k_sweep))
      | ((rename ToldAt _ _ _ _ _ _ _ _ _ _ _ => hT9); k_here; (with_reducible show wpAny _ _ (call (Value.ref 288) [Value.str _ _, Value.str _ _, Value.int _ _]) _ _ _); k_dflt (refine' table_second (by k_asm) (by k_asm) (by k_asm) (by k_asm) (by k_asm) (by with_reducible assumption) (by exact rfl) (by first | decide | (simp only [depth_deeper, depth_caller]; decide)) (by assumption) (by assumption) (by (repeat (first | with_reducible exact List.Mem.head _ | refine List.Mem.tail _ ?_))) (by with_reducible assumption) (by (repeat (first | with_reducible exact List.Mem.head _ | refine List.Mem.tail _ ?_))) (by with_reducible assumption) (by with_reducible assumption) (by with_reducible assumption) (by with_reducible assumption) (by exact List.Mem.head _) (by (repeat (first | with_reducible exact List.Mem.head _ | refine List.Mem.tail _ ?_))) ?_); intro x' dx' il' ps3' items' nz' h1' h2' h3' h4' h5' h6' t1' t2' t3' t4' t5' t6' v1' v2' v3' v4' bl' h' tk' F' N' hI'; (try dsimp only))
      | (k_here; (with_reducible show wpAny _ _ (call (Value.ref 283) [Value.str (S _) _, Value.str (S _) _]) _ _ _); k_dflt (refine' (least 6) (by k_asm) (by k_asm) (by k_asm) (by k_asm) (by k_asm) (by exact rfl) (by first | decide | (simp only [depth_deeper, depth_caller]; decide)) (by exact W_W0 _ (by assumption)) (by exact W_W0 _ (by assumption)) (by omega) rfl rfl ?_); intro t' h' tk' F' N'; (try dsimp only); (try k_sweep))
      | (k_here; (with_reducible show wpAny _ _ (call (Value.type "int") [Value.bool (_ != _)]) _ _ _); k_dflt (refine int_ne ?_))
      | (k_here; (with_reducible show wpAny _ _ (call (Value.ref _) [Value.int _ _, Value.int _ _]) _ _ _); (rename ToldAt _ _ _ _ _ _ _ _ _ _ _ => hT9); (rename At _ _ _ _ => hG9); k_dflt ((first | (refine' told_use hT9 hG9 (by exact .inl ⟨rfl, rfl⟩) (by k_asm) (by k_asm) (by (repeat (first | with_reducible exact List.Mem.head _ | refine List.Mem.tail _ ?_))) (by (repeat (first | with_reducible exact List.Mem.head _ | refine List.Mem.tail _ ?_))) (by with_reducible assumption) (by with_reducible assumption) (by ((repeat' (first | exact List.forall_mem_nil _ | refine List.forall_mem_cons.mpr ⟨?_, ?_⟩)) <;> (first | ((repeat (first | with_reducible exact List.Mem.head _ | refine List.Mem.tail _ ?_)); done) | k_mem))) (by omega) (by omega) ?_) | (refine' told_use hT9 hG9 (by exact .inr (.inl ⟨rfl, rfl⟩)) (by k_asm) (by k_asm) (by (repeat (first | with_reducible exact List.Mem.head _ | refine List.Mem.tail _ ?_))) (by (repeat (first | with_reducible exact List.Mem.head _ | refine List.Mem.tail _ ?_))) (by with_reducible assumption) (by with_reducible assumption) (by ((repeat' (first | exact List.forall_mem_nil _ | refine List.forall_mem_cons.mpr ⟨?_, ?_⟩)) <;> (first | ((repeat (first | with_reducible exact List.Mem.head _ | refine List.Mem.tail _ ?_)); done) | k_mem))) (by omega) (by omega) ?_) | (refine' told_use hT9 hG9 (by exact .inr (.inr (.inl ⟨rfl, rfl⟩))) (by k_asm) (by k_asm) (by (repeat (first | with_reducible exact List.Mem.head _ | refine List.Mem.tail _ ?_))) (by (repeat (first | with_reducible exact List.Mem.head _ | refine List.Mem.tail _ ?_))) (by with_reducible assumption) (by with_reducible assumption) (by ((repeat' (first | exact List.forall_mem_nil _ | refine List.forall_mem_cons.mpr ⟨?_, ?_⟩)) <;> (first | ((repeat (first | with_reducible exact List.Mem.head _ | refine List.Mem.tail _ ?_)); done) | k_mem))) (by omega) (by omega) ?_) | (refine' told_use hT9 hG9 (by exact .inr (.inr (.inr ⟨rfl, rfl⟩))) (by k_asm) (by k_asm) (by (repeat (first | with_reducible exact List.Mem.head _ | refine List.Mem.tail _ ?_))) (by (repeat (first | with_reducible exact List.Mem.head _ | refine List.Mem.tail _ ?_))) (by with_reducible assumption) (by with_reducible assumption) (by ((repeat' (first | exact List.forall_mem_nil _ | refine List.forall_mem_cons.mpr ⟨?_, ?_⟩)) <;> (first | ((repeat (first | with_reducible exact List.Mem.head _ | refine List.Mem.tail _ ?_)); done) | k_mem))) (by omega) (by omega) ?_))); intro t' h' tk' F' N'; (try dsimp only); (try k_sweep))
      | (k_here; (with_reducible show wpAny _ _ (call (Value.ref 288) [Value.str _ _, Value.str _ _, Value.int _ _]) _ _ _); k_dflt (refine' table_first (by k_asm) (by k_asm) (by k_asm) (by k_asm) (by k_asm) (by with_reducible assumption) (by exact rfl) (by first | decide | (simp only [depth_deeper, depth_caller]; omega) | (simp only [depth_deeper, depth_caller]; decide)) (by assumption) (by assumption) (by exact allLt_at (by with_reducible assumption : AllLt _ ((285, tabObj _) :: _)) (List.Mem.head _)) (by exact allLt_at (by with_reducible assumption : AllLt _ ((285, tabObj _) :: _)) (List.Mem.tail _ (List.Mem.head _))) (by k_mem) (by k_mem) (by k_mem) (by k_mem) (by k_mem) (by k_mem) ?_); (repeat (with_reducible (rename (_ ∧ _) => hx9; clear hx9))); intro x' dx' bl' bt' bu' il' c' oc' vs' t' ps' items' nb' nt' nu' nz' h1' h2' h3' h4' h5' h6' t1' t2' t3' t4' t5' t6' v1' v2' v3' v4' u1' u2' u3' u4' h' tk' F' N' hI' e1' e2' e3' e4' n7' nc' q285' q290' hu3' hv3'; k_dflt (obtain ⟨na1', na2', na3', na4', na5', na6'⟩ := n7'); (try dsimp only))
      | (k_here; (with_reducible show wpAny _ _ (call (Value.builtin "len") [Value.str (S _) _]) _ _ _); k_dflt (refine' len_S (by omega) ?_))
      | (k_here; (with_reducible show wpAny _ _ (call (Value.builtin "str.join") [Value.str _ _, Value.ref _]) _ _ _); k_dflt (refine' join_ab (by lsm_list) (by assumption) (by assumption) (by assumption) (by omega) (by omega) ?_); intro t' k' hw'; (try k_sweep))))
    | (with_reducible ((show wpAny _ _ (exec ..) _ _ _); first
      | ((show wpAny _ _ (exec (PySem.Stmt.Return (some _) ..) _) _ _ _); ((rename CellB _ _ _ _ => hB9); exfalso; k_dflt (first | exact back_noA hB9 (by with_reducible assumption) (by with_reducible assumption) (by with_reducible assumption) (by with_reducible assumption) (by with_reducible assumption) | exact back_noB hB9 (by with_reducible assumption) (by with_reducible assumption) (by with_reducible assumption) | exact back_noC hB9 (by with_reducible assumption) (by with_reducible assumption) (by with_reducible assumption))))
      | ((show wpAny _ _ (exec (PySem.Stmt.While ..) _) _ _ _); (k_here; (rename Fr _ _ _ _ => lF'); (rename News _ _ _ _ => lN'); (rename At _ _ _ _ => hG9); k_dflt (refine' kst_back lF' lN' hG9 (by rfl) (by rfl) (by with_reducible assumption) (by with_reducible assumption) (fun i j op ol tw tc tp tl z9 h tk hG hB d1 d2 F' N' => ?_) (by passes_own)); (have gi' := hG.hi); (have gj' := hG.hj); (have f1' := hB.f1); (have f2' := hB.f2); (have f3' := hB.f3); (have f4' := hB.f4); (try k_fold)))
      | ((show wpAny _ _ (exec (PySem.Stmt.FunctionDef ..) _) _ _ _); (k_here; k_dflt (refine' nestDef_K (by exact rfl) (by exact rfl) (by exact rfl) ?_); k_dflt (refine' nest_K (by k_asm) (by k_asm) (by k_asm) (by with_reducible assumption) (by exact rfl) (by k_updF) (by kn_triples) (by kn_among) (by exact rfl) ?_); intro f' c' oc' vs' t' ct' dc' h' tk' F' N' d1' d2' l1' l2'; (try dsimp only at N'); (try k_lt l1'); (have l2n' := (show @LT.lt Nat _ c' f' from l2')); (have l3' := allLt_up l1' l2'); (rename IntsAre _ (tab _ _) => hI9); k_dflt (refine' cut_told N' hI9 (by assumption) (by assumption) (by exact List.Mem.head _) (by exact List.Mem.tail _ (List.Mem.head _)) (by k_mem) (by k_mem) (by k_mem) (by k_mem) (by k_mem) (by k_mem) (by k_mem) (by k_mem) ?_ (fun hTold' hG' => ?_))))))
    | (with_reducible ((show wpAny _ _ (compareOp ..) _ _ _); first
      | ((show wpAny _ _ (compareOp .Eq (Value.int _ _) (Value.int _ _)) _ _ _); (k_here; k_dflt (refine' eq_yes (by with_reducible rfl) ?_)))
      | ((show wpAny _ _ (compareOp .NotEq (Value.int _ _) (Value.int _ _)) _ _ _); (k_here; k_dflt (refine' ne_no (by first | omega | exact (whole_chk _ (by assumption) _ (by assumption)).1.symm) ?_)))
      | (k_here; (with_reducible show wpAny _ _ (compareOp _ (Value.str (S [_]) _) (Value.str (S [_]) _)) _ _ _); k_dflt (refine ne_S ?_))
      | (k_here; (with_reducible show wpAny _ _ (compareOp _ (Value.str (S (wd _ _ _ _)) _) (Value.str (S _) _)) _ _ _); k_dflt (refine' ne_same (wd_end (by omega) (by omega)) ?_))))
    | (with_reducible ((show wpAny _ _ (binaryOp ..) _ _ _); first
      | ((show wpAny _ _ (binaryOp .Add (Value.str _ _) (Value.str _ _)) _ _ _); (k_here; (with_reducible show wpAny _ _ (binaryOp _ (Value.str (S _) _) (Value.str (S _) _)) _ _ _); k_dflt (refine' add_S (by ((simp only [List.length_append, List.length_take, List.length_drop, List.length_cons, List.length_nil]); omega)) (fun t' tk' => ?_))))
      | ((show wpAny _ _ (binaryOp .FloorDiv (Value.int _ _) (Value.int _ _)) _ _ _); (k_here; k_dflt (refine' floordiv_int (by omega) ?_ (Or.inl (PyProof.noPylong_small (by omega))))))
      | ((show wpAny _ _ (binaryOp .Pow (Value.int _ _) (Value.int _ _)) _ _ _); (k_here; k_dflt (refine' pow2_abs (by omega) (by omega) (fun r' hr0 hr1 => ?_))))
      | ((show wpAny _ _ (binaryOp .Mod (Value.int _ _) (Value.int _ _)) _ _ _); (refine mod_abs (by decide) (fun r' hr0 hr1 => ?_)))))
    | (with_reducible ((show wpAny _ _ (callWith ..) _ _ _); first
      | ((show wpAny _ _ (callWith (Value.ref _) ..) _ _ _); (k_here; k_dflt (refine' callWith_K (by k_asm) (by k_is) ?_; k_whole)))))
    | (with_reducible ((show wpAny _ _ (eval ..) _ _ _); first
      | ((show wpAny _ _ (eval (PySem.Expr.ListComp (PySem.Expr.Subscript ..) ..) _) _ _ _); (k_here; k_dflt (refine LCg.ListComp_U (F₀ := by k_asm) (by rfl) (by decide) (by rfl) (by decide) (by rfl) ?_)))))
    | walk1
    | dsimp only
    | (leave1; walk_say "STEP leave1"; (try dsimp only))
    | fail "no step")
