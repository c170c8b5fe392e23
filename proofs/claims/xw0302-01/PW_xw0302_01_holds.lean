import PyProof.Rows.All
import Wide.All
import OpenK.AllK
import Wide.FinOn
import PySem.Challenge.RW_xw0302_01
open PySem PySem.W PySem.Calls PyProof.Rows
set_option Elab.async false
set_option maxRecDepth 100000
set_option maxHeartbeats 0
set_option linter.unusedVariables false
namespace Mine
def nthS : List Stmt → Nat → Stmt
  | [], _ => .Pass ⟨0, 0, 0, 0⟩
  | s :: _, 0 => s
  | _ :: r, n + 1 => nthS r n
def bodyAt (p : Program) (i : Nat) : Stmt := nthS p.main.body i
def memberAt (p : Program) (i j : Nat) : Stmt := match bodyAt p i with
  | .ClassDef _ _ _ b _ _ _ _ _ _ _ => nthS b j
  | s => s
/-- the function object that a def of the text makes -/
def fnO (s : Stmt) (qual : Str) (doc pm code : Value) : Obj := match s with
  | .FunctionDef n a b _ _ _ sc _ _ _ => { cls := .type "function", data := .func { name := n, qualname := qual, params := a, body := .stmts b, scope := sc, globals := 3, closure := [], defaults := .none, kwdefaults := .none, doc := doc, pyModule := pm, code := code } }
  | _ => { cls := .none, data := .seq #[] }
noncomputable def K : Params → Frag := fun P =>
   (nat_lit 2, { cls := Value.none, data := Data.dict #[{ hash := PyData.keyHash P (Str.ofString "type.__subclasses__.Exception.0"), key := Value.str (Str.ofString "type.__subclasses__.Exception.0") 219, val := Value.int 34 0 }, { hash := PyData.keyHash P (Str.ofString "type.__subclasses__.Exception.n"), key := Value.str (Str.ofString "type.__subclasses__.Exception.n") 220, val := Value.int 1 0 }] 2 })
   :: (nat_lit 3, { cls := Value.type "dict", data := Data.dict #[{ hash := PyData.keyHash P (Str.ofString "__name__"), key := Value.str (Str.ofString "__name__") 165, val := Value.str (Str.ofString "law_xw0302_01") 553 }, { hash := PyData.keyHash P (Str.ofString "__doc__"), key := Value.str (Str.ofString "__doc__") 166, val := Value.none }, { hash := PyData.keyHash P (Str.ofString "__package__"), key := Value.str (Str.ofString "__package__") 167, val := Value.none }, { hash := PyData.keyHash P (Str.ofString "__loader__"), key := Value.str (Str.ofString "__loader__") 168, val := Value.builtin "__main__.__loader__#opaque" }, { hash := PyData.keyHash P (Str.ofString "__spec__"), key := Value.str (Str.ofString "__spec__") 169, val := Value.none }, { hash := PyData.keyHash P (Str.ofString "__annotations__"), key := Value.str (Str.ofString "__annotations__") 170, val := Value.ref 6 }, { hash := PyData.keyHash P (Str.ofString "__builtins__"), key := Value.str (Str.ofString "__builtins__") 171, val := Value.ref 4 }, { hash := PyData.keyHash P (Str.ofString "__file__"), key := Value.str (Str.ofString "__file__") 173, val := Value.str (Str.ofString "/claim/cut.py") 172 }, { hash := PyData.keyHash P (Str.ofString "__cached__"), key := Value.str (Str.ofString "__cached__") 174, val := Value.none }, { hash := PyData.keyHash P (Str.ofString "SnobolError"), key := Value.str (Str.ofString "SnobolError") 222, val := Value.ref 34 }, { hash := PyData.keyHash P (Str.ofString "Pattern"), key := Value.str (Str.ofString "Pattern") 251, val := Value.ref 54 }, { hash := PyData.keyHash P (Str.ofString "Delayed"), key := Value.str (Str.ofString "Delayed") 280, val := Value.ref 75 }, { hash := PyData.keyHash P (Str.ofString "Code"), key := Value.str (Str.ofString "Code") 309, val := Value.ref 96 }, { hash := PyData.keyHash P (Str.ofString "NameRef"), key := Value.str (Str.ofString "NameRef") 342, val := Value.ref 117 }, { hash := PyData.keyHash P (Str.ofString "Holder"), key := Value.str (Str.ofString "Holder") 374, val := Value.ref 138 }, { hash := PyData.keyHash P (Str.ofString "kind_of"), key := Value.str (Str.ofString "kind_of") 381, val := Value.ref 149 }, { hash := PyData.keyHash P (Str.ofString "is_plain"), key := Value.str (Str.ofString "is_plain") 388, val := Value.ref 156 }, { hash := PyData.keyHash P (Str.ofString "fits"), key := Value.str (Str.ofString "fits") 396, val := Value.ref 163 }, { hash := PyData.keyHash P (Str.ofString "whole_of_text"), key := Value.str (Str.ofString "whole_of_text") 407, val := Value.ref 170 }, { hash := PyData.keyHash P (Str.ofString "to_whole"), key := Value.str (Str.ofString "to_whole") 415, val := Value.ref 177 }, { hash := PyData.keyHash P (Str.ofString "need_whole"), key := Value.str (Str.ofString "need_whole") 424, val := Value.ref 184 }, { hash := PyData.keyHash P (Str.ofString "table_key"), key := Value.str (Str.ofString "table_key") 432, val := Value.ref 191 }, { hash := PyData.keyHash P (Str.ofString "Array"), key := Value.str (Str.ofString "Array") 464, val := Value.ref 208 }, { hash := PyData.keyHash P (Str.ofString "Table"), key := Value.str (Str.ofString "Table") 491, val := Value.ref 227 }, { hash := PyData.keyHash P (Str.ofString "size_of_bounds"), key := Value.str (Str.ofString "size_of_bounds") 501, val := Value.ref 236 }, { hash := PyData.keyHash P (Str.ofString "array_place"), key := Value.str (Str.ofString "array_place") 513, val := Value.ref 243 }, { hash := PyData.keyHash P (Str.ofString "table_entry"), key := Value.str (Str.ofString "table_entry") 522, val := Value.ref 250 }, { hash := PyData.keyHash P (Str.ofString "put_entry"), key := Value.str (Str.ofString "put_entry") 531, val := Value.ref 257 }, { hash := PyData.keyHash P (Str.ofString "item_ref"), key := Value.str (Str.ofString "item_ref") 537, val := Value.ref 262 }, { hash := PyData.keyHash P (Str.ofString "slot_get"), key := Value.str (Str.ofString "slot_get") 544, val := Value.ref 269 }, { hash := PyData.keyHash P (Str.ofString "slot_set"), key := Value.str (Str.ofString "slot_set") 552, val := Value.ref 276 }, { hash := PyData.keyHash P (Str.ofString "_law_made"), key := Value.str (Str.ofString "_law_made") 563, val := Value.ref 283 }, { hash := PyData.keyHash P (Str.ofString "law"), key := Value.str (Str.ofString "law") 569, val := Value.ref 288 }] 33 })
   :: (nat_lit 113, { cls := Value.type "code", data := Data.fields #[Value.str (Str.ofString "__init__") 322, Value.str (Str.ofString "NameRef.__init__") 323, Value.str (Str.ofString "/claim/cut.py") 324, Value.int 22 0, Value.int 4 0, Value.int 0 0, Value.int 0 0, Value.int 3 0, Value.ref 108, Value.bool true, Value.int 181 0, Value.ref 109, Value.none, Value.ref 110, Value.ref 111, Value.ref 112, Value.int 329 0, Value.int 22 0, Value.str (Str.ofString "/claim/cut.py") 330] })
   :: (nat_lit 114, fnO (memberAt PySem.Challenge.pw_xw0302_01 5 0) (Str.ofString "NameRef.__init__") (Value.none) (Value.str (Str.ofString "snobol.values") 187) (Value.ref 113))
   :: (nat_lit 115, { cls := Value.type "tuple", data := Data.seq #[Value.str (Str.ofString "key") 332, Value.str (Str.ofString "kind") 333, Value.str (Str.ofString "owner") 334] })
   :: (nat_lit 116, { cls := Value.type "dict", data := Data.dict #[{ hash := PyData.keyHash P (Str.ofString "__module__"), key := Value.str (Str.ofString "__module__") 317, val := Value.str (Str.ofString "snobol.values") 187 }, { hash := PyData.keyHash P (Str.ofString "__firstlineno__"), key := Value.str (Str.ofString "__firstlineno__") 321, val := Value.int 20 320 }, { hash := PyData.keyHash P (Str.ofString "__init__"), key := Value.str (Str.ofString "__init__") 331, val := Value.ref 114 }, { hash := PyData.keyHash P (Str.ofString "__static_attributes__"), key := Value.str (Str.ofString "__static_attributes__") 335, val := Value.ref 115 }, { hash := PyData.keyHash P (Str.ofString "__dict__"), key := Value.str (Str.ofString "__dict__") 337, val := Value.ref 118 }, { hash := PyData.keyHash P (Str.ofString "__weakref__"), key := Value.str (Str.ofString "__weakref__") 339, val := Value.ref 119 }, { hash := PyData.keyHash P (Str.ofString "__doc__"), key := Value.str (Str.ofString "__doc__") 340, val := Value.none }] 4 })
   :: (nat_lit 117, { cls := Value.type "type", data := Data.cls { name := Str.ofString "NameRef", bases := [Value.type "object"], mro := [Value.ref 117, Value.type "object"], ns := 116, qualname := Str.ofString "NameRef" }, slots := #[none, none, some (Value.str (Str.ofString "NameRef") 310), some (Value.str (Str.ofString "NameRef") 318), some (Value.builtin "object.__new__"), some (Value.bool true)] })
   :: (nat_lit 134, { cls := Value.type "code", data := Data.fields #[Value.str (Str.ofString "__init__") 355, Value.str (Str.ofString "Holder.__init__") 356, Value.str (Str.ofString "/claim/cut.py") 357, Value.int 28 0, Value.int 3 0, Value.int 0 0, Value.int 0 0, Value.int 3 0, Value.ref 129, Value.bool true, Value.int 181 0, Value.ref 130, Value.none, Value.ref 131, Value.ref 132, Value.ref 133, Value.int 361 0, Value.int 28 0, Value.str (Str.ofString "/claim/cut.py") 362] })
   :: (nat_lit 135, fnO (memberAt PySem.Challenge.pw_xw0302_01 6 0) (Str.ofString "Holder.__init__") (Value.none) (Value.str (Str.ofString "snobol.values") 187) (Value.ref 134))
   :: (nat_lit 137, { cls := Value.type "dict", data := Data.dict #[{ hash := PyData.keyHash P (Str.ofString "__module__"), key := Value.str (Str.ofString "__module__") 350, val := Value.str (Str.ofString "snobol.values") 187 }, { hash := PyData.keyHash P (Str.ofString "__firstlineno__"), key := Value.str (Str.ofString "__firstlineno__") 354, val := Value.int 26 353 }, { hash := PyData.keyHash P (Str.ofString "__init__"), key := Value.str (Str.ofString "__init__") 363, val := Value.ref 135 }, { hash := PyData.keyHash P (Str.ofString "__static_attributes__"), key := Value.str (Str.ofString "__static_attributes__") 367, val := Value.ref 136 }, { hash := PyData.keyHash P (Str.ofString "__dict__"), key := Value.str (Str.ofString "__dict__") 369, val := Value.ref 139 }, { hash := PyData.keyHash P (Str.ofString "__weakref__"), key := Value.str (Str.ofString "__weakref__") 371, val := Value.ref 140 }, { hash := PyData.keyHash P (Str.ofString "__doc__"), key := Value.str (Str.ofString "__doc__") 372, val := Value.none }] 4 })
   :: (nat_lit 138, { cls := Value.type "type", data := Data.cls { name := Str.ofString "Holder", bases := [Value.type "object"], mro := [Value.ref 138, Value.type "object"], ns := 137, qualname := Str.ofString "Holder", subclasses := [Value.ref 208, Value.ref 227] }, slots := #[none, none, some (Value.str (Str.ofString "Holder") 343), some (Value.str (Str.ofString "Holder") 351), some (Value.builtin "object.__new__"), some (Value.bool true)] })
   :: (nat_lit 155, { cls := Value.type "code", data := Data.fields #[Value.str (Str.ofString "is_plain") 382, Value.str (Str.ofString "is_plain") 383, Value.str (Str.ofString "/claim/cut.py") 384, Value.int 46 0, Value.int 1 0, Value.int 0 0, Value.int 0 0, Value.int 3 0, Value.ref 150, Value.bool true, Value.int 181 0, Value.ref 151, Value.none, Value.ref 152, Value.ref 153, Value.ref 154, Value.int 386 0, Value.int 46 0, Value.str (Str.ofString "/claim/cut.py") 387] })
   :: (nat_lit 156, fnO (bodyAt PySem.Challenge.pw_xw0302_01 8) (Str.ofString "is_plain") (Value.none) (Value.str (Str.ofString "snobol.values") 187) (Value.ref 155))
   :: (nat_lit 176, { cls := Value.type "code", data := Data.fields #[Value.str (Str.ofString "to_whole") 408, Value.str (Str.ofString "to_whole") 409, Value.str (Str.ofString "/claim/cut.py") 410, Value.int 63 0, Value.int 2 0, Value.int 0 0, Value.int 0 0, Value.int 3 0, Value.ref 171, Value.bool true, Value.int 181 0, Value.ref 172, Value.none, Value.ref 173, Value.ref 174, Value.ref 175, Value.int 413 0, Value.int 63 0, Value.str (Str.ofString "/claim/cut.py") 414] })
   :: (nat_lit 177, fnO (bodyAt PySem.Challenge.pw_xw0302_01 11) (Str.ofString "to_whole") (Value.none) (Value.str (Str.ofString "snobol.values") 187) (Value.ref 176))
   :: (nat_lit 183, { cls := Value.type "code", data := Data.fields #[Value.str (Str.ofString "need_whole") 416, Value.str (Str.ofString "need_whole") 417, Value.str (Str.ofString "/claim/cut.py") 418, Value.int 67 0, Value.int 2 0, Value.int 0 0, Value.int 0 0, Value.int 3 0, Value.ref 178, Value.bool true, Value.int 181 0, Value.ref 179, Value.none, Value.ref 180, Value.ref 181, Value.ref 182, Value.int 422 0, Value.int 67 0, Value.str (Str.ofString "/claim/cut.py") 423] })
   :: (nat_lit 184, fnO (bodyAt PySem.Challenge.pw_xw0302_01 12) (Str.ofString "need_whole") (Value.none) (Value.str (Str.ofString "snobol.values") 187) (Value.ref 183))
   :: (nat_lit 192, { cls := Value.type "tuple", data := Data.seq #[Value.ref 138] })
   :: (nat_lit 204, { cls := Value.type "code", data := Data.fields #[Value.str (Str.ofString "__init__") 447, Value.str (Str.ofString "Array.__init__") 448, Value.str (Str.ofString "/claim/cut.py") 449, Value.int 84 0, Value.int 5 0, Value.int 0 0, Value.int 0 0, Value.int 3 0, Value.ref 199, Value.bool true, Value.int 181 0, Value.ref 200, Value.none, Value.ref 201, Value.ref 202, Value.ref 203, Value.int 455 0, Value.int 84 0, Value.str (Str.ofString "/claim/cut.py") 456] })
   :: (nat_lit 205, fnO (memberAt PySem.Challenge.pw_xw0302_01 15 0) (Str.ofString "Array.__init__") (Value.none) (Value.str (Str.ofString "snobol.aggregates") 433) (Value.ref 204))
   :: (nat_lit 207, { cls := Value.type "dict", data := Data.dict #[{ hash := PyData.keyHash P (Str.ofString "__module__"), key := Value.str (Str.ofString "__module__") 442, val := Value.str (Str.ofString "snobol.aggregates") 433 }, { hash := PyData.keyHash P (Str.ofString "__firstlineno__"), key := Value.str (Str.ofString "__firstlineno__") 446, val := Value.int 82 445 }, { hash := PyData.keyHash P (Str.ofString "__init__"), key := Value.str (Str.ofString "__init__") 457, val := Value.ref 205 }, { hash := PyData.keyHash P (Str.ofString "__static_attributes__"), key := Value.str (Str.ofString "__static_attributes__") 461, val := Value.ref 206 }, { hash := PyData.keyHash P (Str.ofString "__doc__"), key := Value.str (Str.ofString "__doc__") 462, val := Value.none }] 2 })
   :: (nat_lit 208, { cls := Value.type "type", data := Data.cls { name := Str.ofString "Array", bases := [Value.ref 138], mro := [Value.ref 208, Value.ref 138, Value.type "object"], ns := 207, qualname := Str.ofString "Array" }, slots := #[some (Value.ref 192), none, some (Value.str (Str.ofString "Array") 435), some (Value.str (Str.ofString "Array") 443), some (Value.builtin "object.__new__"), some (Value.bool true)] })
   :: (nat_lit 226, { cls := Value.type "dict", data := Data.dict #[{ hash := PyData.keyHash P (Str.ofString "__module__"), key := Value.str (Str.ofString "__module__") 472, val := Value.str (Str.ofString "snobol.aggregates") 433 }, { hash := PyData.keyHash P (Str.ofString "__firstlineno__"), key := Value.str (Str.ofString "__firstlineno__") 476, val := Value.int 89 475 }, { hash := PyData.keyHash P (Str.ofString "__init__"), key := Value.str (Str.ofString "__init__") 484, val := Value.ref 224 }, { hash := PyData.keyHash P (Str.ofString "__static_attributes__"), key := Value.str (Str.ofString "__static_attributes__") 488, val := Value.ref 225 }, { hash := PyData.keyHash P (Str.ofString "__doc__"), key := Value.str (Str.ofString "__doc__") 489, val := Value.none }] 2 })
   :: (nat_lit 227, { cls := Value.type "type", data := Data.cls { name := Str.ofString "Table", bases := [Value.ref 138], mro := [Value.ref 227, Value.ref 138, Value.type "object"], ns := 226, qualname := Str.ofString "Table" }, slots := #[some (Value.ref 211), none, some (Value.str (Str.ofString "Table") 465), some (Value.str (Str.ofString "Table") 473), some (Value.builtin "object.__new__"), some (Value.bool true)] })
   :: (nat_lit 235, { cls := Value.type "code", data := Data.fields #[Value.str (Str.ofString "size_of_bounds") 492, Value.str (Str.ofString "size_of_bounds") 493, Value.str (Str.ofString "/claim/cut.py") 494, Value.int 96 0, Value.int 1 0, Value.int 0 0, Value.int 0 0, Value.int 3 0, Value.ref 230, Value.bool true, Value.int 181 0, Value.ref 231, Value.none, Value.ref 232, Value.ref 233, Value.ref 234, Value.int 499 0, Value.int 96 0, Value.str (Str.ofString "/claim/cut.py") 500] })
   :: (nat_lit 236, fnO (bodyAt PySem.Challenge.pw_xw0302_01 17) (Str.ofString "size_of_bounds") (Value.none) (Value.str (Str.ofString "snobol.aggregates") 433) (Value.ref 235))
   :: (nat_lit 242, { cls := Value.type "code", data := Data.fields #[Value.str (Str.ofString "array_place") 502, Value.str (Str.ofString "array_place") 503, Value.str (Str.ofString "/claim/cut.py") 504, Value.int 101 0, Value.int 2 0, Value.int 0 0, Value.int 0 0, Value.int 3 0, Value.ref 237, Value.bool true, Value.int 181 0, Value.ref 238, Value.none, Value.ref 239, Value.ref 240, Value.ref 241, Value.int 511 0, Value.int 101 0, Value.str (Str.ofString "/claim/cut.py") 512] })
   :: (nat_lit 243, fnO (bodyAt PySem.Challenge.pw_xw0302_01 18) (Str.ofString "array_place") (Value.none) (Value.str (Str.ofString "snobol.aggregates") 433) (Value.ref 242))
   :: (nat_lit 261, { cls := Value.type "code", data := Data.fields #[Value.str (Str.ofString "item_ref") 532, Value.str (Str.ofString "item_ref") 533, Value.str (Str.ofString "/claim/cut.py") 534, Value.int 119 0, Value.int 3 0, Value.int 0 0, Value.int 0 0, Value.int 3 0, Value.ref 258, Value.bool true, Value.int 181 0, Value.ref 259, Value.none, Value.none, Value.none, Value.ref 260, Value.int 535 0, Value.int 119 0, Value.str (Str.ofString "/claim/cut.py") 536] })
   :: (nat_lit 262, fnO (bodyAt PySem.Challenge.pw_xw0302_01 21) (Str.ofString "item_ref") (Value.none) (Value.str (Str.ofString "snobol.aggregates") 433) (Value.ref 261))
   :: (nat_lit 268, { cls := Value.type "code", data := Data.fields #[Value.str (Str.ofString "slot_get") 538, Value.str (Str.ofString "slot_get") 539, Value.str (Str.ofString "/claim/cut.py") 540, Value.int 127 0, Value.int 1 0, Value.int 0 0, Value.int 0 0, Value.int 3 0, Value.ref 263, Value.bool true, Value.int 181 0, Value.ref 264, Value.none, Value.ref 265, Value.ref 266, Value.ref 267, Value.int 542 0, Value.int 127 0, Value.str (Str.ofString "/claim/cut.py") 543] })
   :: (nat_lit 269, fnO (bodyAt PySem.Challenge.pw_xw0302_01 22) (Str.ofString "slot_get") (Value.none) (Value.str (Str.ofString "snobol.aggregates") 433) (Value.ref 268))
   :: (nat_lit 275, { cls := Value.type "code", data := Data.fields #[Value.str (Str.ofString "slot_set") 545, Value.str (Str.ofString "slot_set") 546, Value.str (Str.ofString "/claim/cut.py") 547, Value.int 133 0, Value.int 2 0, Value.int 0 0, Value.int 0 0, Value.int 3 0, Value.ref 270, Value.bool true, Value.int 181 0, Value.ref 271, Value.none, Value.ref 272, Value.ref 273, Value.ref 274, Value.int 550 0, Value.int 133 0, Value.str (Str.ofString "/claim/cut.py") 551] })
   :: (nat_lit 276, fnO (bodyAt PySem.Challenge.pw_xw0302_01 23) (Str.ofString "slot_set") (Value.none) (Value.str (Str.ofString "snobol.aggregates") 433) (Value.ref 275))
   :: (nat_lit 282, { cls := Value.type "code", data := Data.fields #[Value.str (Str.ofString "_law_made") 555, Value.str (Str.ofString "_law_made") 556, Value.str (Str.ofString "/claim/cut.py") 557, Value.int 141 0, Value.int 1 0, Value.int 0 0, Value.int 0 0, Value.int 3 0, Value.ref 277, Value.bool true, Value.int 181 0, Value.ref 278, Value.none, Value.ref 279, Value.ref 280, Value.ref 281, Value.int 561 0, Value.int 141 0, Value.str (Str.ofString "/claim/cut.py") 562] })
   :: (nat_lit 283, fnO (bodyAt PySem.Challenge.pw_xw0302_01 25) (Str.ofString "_law_made") (Value.none) (Value.str (Str.ofString "law_xw0302_01") 553) (Value.ref 282))
   :: (nat_lit 287, { cls := Value.type "code", data := Data.fields #[Value.str (Str.ofString "law") 564, Value.str (Str.ofString "law") 565, Value.str (Str.ofString "/claim/cut.py") 566, Value.int 146 0, Value.int 1 0, Value.int 0 0, Value.int 0 0, Value.int 3 0, Value.ref 284, Value.bool true, Value.int 181 0, Value.ref 285, Value.none, Value.none, Value.none, Value.ref 286, Value.int 567 0, Value.int 146 0, Value.str (Str.ofString "/claim/cut.py") 568] })
   :: (nat_lit 288, fnO (bodyAt PySem.Challenge.pw_xw0302_01 26) (Str.ofString "law") (Value.none) (Value.str (Str.ofString "law_xw0302_01") 553) (Value.ref 287))
   :: []
def addrs : List Addr := [nat_lit 2, nat_lit 3, nat_lit 113, nat_lit 114, nat_lit 115, nat_lit 116, nat_lit 117, nat_lit 134, nat_lit 135, nat_lit 137, nat_lit 138, nat_lit 155, nat_lit 156, nat_lit 176, nat_lit 177, nat_lit 183, nat_lit 184, nat_lit 192, nat_lit 204, nat_lit 205, nat_lit 207, nat_lit 208, nat_lit 226, nat_lit 227, nat_lit 235, nat_lit 236, nat_lit 242, nat_lit 243, nat_lit 261, nat_lit 262, nat_lit 268, nat_lit 269, nat_lit 275, nat_lit 276, nat_lit 282, nat_lit 283, nat_lit 287, nat_lit 288]
theorem addrs_ok : ∀ P, addrs = (K P).map (·.1) := fun _ => by kernel_rfl
noncomputable def qv : Program := view PySem.Challenge.pw_xw0302_01 [1, 2, 3, 4, 5, 6, 7, 8, 9, 10, 11, 12, 13, 15, 16, 17, 18, 19, 20, 21, 22, 23, 25, 26]
theorem shared_of {s : Shared} {h : Heap} {g : Array GenState} {d : Drawn} {t : Nat} (e : (s.heap, s.gens, s.drawn, s.toks) = (h, g, d, t)) : s = ⟨h, g, d, t, s.os⟩ := by
  cases s
  cases e
  rfl
theorem core (w : World) (os : OsState) : (topFrom treeTable PySem.Challenge.pw_xw0302_01 w 4868 (Shared.mk (boot_heap w.params) #[] boot_drawn boot_toks os)).map
    (fun s => (openSeen qv [Str.ofString "SnobolError"] (importedModules (PySem.Challenge.pw_xw0302_01).main.body) (fun s => xlAt qv [] s && recOk (PySem.Challenge.rw_xw0302_01).row.records s) true s, (kmHook K addrs addrs_ok [285]).obs s)) =
    some (openGood qv [Str.ofString "SnobolError"], (kmHook K addrs addrs_ok [285]).val w) := by
  unfold topFrom
  rw [PySem.W.Fast.te4187177175401517315, PySem.W.Fast.te5923862056798008813, PySem.W.Fast.te14082659384304107361, PySem.W.Fast.te14364793385576792824, PySem.W.Fast.te8920871248978507458]
  kernel_rfl
theorem left : LeftO PySem.Challenge.pw_xw0302_01 qv [Str.ofString "SnobolError"] (fun s => xlAt qv [] s && recOk (PySem.Challenge.rw_xw0302_01).row.records s) (kmHook K addrs addrs_ok [285]).obs (kmHook K addrs addrs_ok [285]).val 4868 := by
  intro w
  have b := boot_open (p := PySem.Challenge.pw_xw0302_01) (N := 4868) (by kernel_rfl) (by kernel_rfl) (fun s => by kernel_rfl) w
  obtain ⟨s, hs, e⟩ := Option.map_eq_some_iff.mp b
  rw [shared_of e] at hs
  unfold openEnds
  rw [hs]
  exact core w s.os

theorem fill1 : PySem.Challenge.rw_xw0302_01 = PySem.Challenge.rw_xw0302_01 ∧ K = K := by
  k_fill
  exact ⟨rfl, rfl⟩
end Mine
namespace Mine
/-- the places of a heap below L -/
def lowH (h : Heap) (L : Nat) : Heap := ⟨h.objs.take L, h.life⟩
theorem lowH_get {h : Heap} {L b : Nat} (hb : b < L) : (lowH h L).get? b = h.get? b := by
  unfold lowH Heap.get?
  have e : (h.objs.take L)[b]? = h.objs[b]? := by
    rw [Array.take_eq_extract, Array.getElem?_extract]
    by_cases hs : b < h.objs.size
    · rw [if_pos (by omega)]; congr 1; omega
    · rw [if_neg (by omega), Array.getElem?_eq_none (by omega)]
  dsimp only
  rw [e]
theorem lowH_size {h : Heap} {L : Nat} : (lowH h L).objs.size ≤ L := by
  unfold lowH
  dsimp only
  rw [Array.take_eq_extract, Array.size_extract]
  omega
theorem lowH_of {h : Heap} {L b : Nat} {o : Obj} (e : (lowH h L).get? b = some o) : h.get? b = some o := by
  have hb : b < L := Nat.lt_of_lt_of_le (Heap.lt_size e) lowH_size
  rwa [lowH_get hb] at e

/-- the part of the ledger that is not named goes into the ground -/
theorem rebase {g h : Heap} {L : Addr} {m : Str → Option Value} {own small all : List (Addr × Obj)} (F : Fr g L h m) (N : News g L h (own ++ all)) (hlt : ∀ p ∈ all, p.1 < L) (hs : ∀ p ∈ small, p ∈ all) :
    ∃ g₂ : Heap, g.StaysIn g₂ ∧ Fr g₂ L h m ∧ News g₂ L h (own ++ small) ∧ (∀ p ∈ all, (∀ q ∈ own ++ small, p.1 ≠ q.1) → g₂.get? p.1 = some p.2) := by
  have hsub : ∀ p ∈ own ++ small, p ∈ own ++ all := fun p hp => List.mem_append.mpr ((List.mem_append.mp hp).imp id (hs p))
  refine ⟨hideAll (lowH h L) ((own ++ small).map (·.1)), fun b o e => ?_, ⟨F.ns, fun b o e => lowH_of (of_hideAll _ e), ?_⟩, fun p hp => ⟨(N p (hsub p hp)).1, (N p (hsub p hp)).2.1, hideAll_none _ (List.mem_map_of_mem hp)⟩, fun p hp hn => ?_⟩
  · refine hideAll_get _ ((lowH_get (Nat.lt_of_lt_of_le (Heap.lt_size e) F.above)).trans (F.keep b o e)) fun q => ?_
    obtain ⟨p, hp, rfl⟩ := List.mem_map.mp q
    rw [(N p (hsub p hp)).2.2] at e
    cases e
  · rw [hideAll_size]; exact lowH_size
  · refine hideAll_get _ ((lowH_get (hlt p hp)).trans (N p (List.mem_append.mpr (.inr hp))).1) fun q => ?_
    obtain ⟨r, hr, e⟩ := List.mem_map.mp q
    exact hn r hr e.symm

theorem below_stays {A : Around} {base g g₂ : Heap} {outer : List Env} (B : Below A base outer g) (st : g.StaysIn g₂) : Below A base outer g₂ :=
  ⟨B.stack, fun b o e => st b o (B.stays b o e), B.frames.of_keeps fun b o e _ => ⟨o, st b o e, rfl⟩⟩

theorem news_one {h₀ h : Heap} {L : Addr} {all : List (Addr × Obj)} (N : News h₀ L h all) {p q : Addr × Obj} (hp : p ∈ all) (hq : q ∈ all) (e : p.1 = q.1) : p = q := by
  have h1 := (N p hp).1
  have h2 := (N q hq).1
  rw [e, h2] at h1
  exact Prod.ext e (Option.some.inj h1).symm

/-- a def is left: what it changed of its small ledger (small to small'), what it made (tl), what it gives back -/
def LeaveT (g : Heap) (L' : Addr) (small : List (Addr × Obj)) (P : Value → List (Addr × Obj) → Prop) (s₁ : Shared) (v : Value) (s' : Shared) : Prop :=
  ∃ h' tk m' tl, s' = { s₁ with heap := h', toks := tk } ∧ Fr g L' h' m' ∧ News g L' h' (tl ++ small) ∧ (∀ p ∈ tl, ∀ q ∈ small, p.1 ≠ q.1) ∧ P v tl
theorem LeaveT.intro {g : Heap} {L' : Addr} {small : List (Addr × Obj)} {P : Value → List (Addr × Obj) → Prop} {s₁ : Shared} {v : Value} {h' : Heap} {tk : Nat} {m' : Str → Option Value} {led : List (Addr × Obj)} (tl : List (Addr × Obj)) (F : Fr g L' h' m') (N : News g L' h' led)
    (ht : SubL tl led) (hs : SubL small led) (hap : OffW tl small) (hp : P v tl) : LeaveT g L' small P s₁ v { s₁ with heap := h', toks := tk } :=
  ⟨h', tk, m', tl, rfl, F, fun p hp => (List.mem_append.mp hp).elim (fun q => N p (ht.mem p q)) fun q => N p (hs.mem p q), fun p hp q hq e => by
    rcases hap.at q hq p hp with h | h
    · exact h e.symm
    · have h1 := (N p (ht.mem p hp)).1
      have h2 := (N q (hs.mem q hq)).1
      rw [e] at h1
      exact h (congrArg Obj.cls (Option.some.inj (h2.symm.trans h1))), hp⟩

theorem leaveT_to {h₀ g g₂ h h₁ : Heap} {L L' : Addr} {m m₁ : Str → Option Value} {own small news : List (Addr × Obj)} {P : Value → List (Addr × Obj) → Prop} {R : Result → Shared → Prop} {v : Value} {s₁ s' : Shared} (N₀ : News h₀ L h news) (F : Fr g L' h₁ m₁) (N : News g L' h₁ (own ++ news)) (hs : ∀ q ∈ small, q ∈ news) (hown : ∀ q ∈ own, L' ≤ q.1) (hlt : ∀ p ∈ news, p.1 < L')
    (st : g.StaysIn g₂) (rest : ∀ p ∈ news, (∀ q ∈ own ++ small, p.1 ≠ q.1) → g₂.get? p.1 = some p.2)
    (hP : ∀ v tl h' tk, Fr h₀ L h' m → News h₀ L h' (tl ++ news) → (∀ p ∈ tl, ∀ q ∈ news, p.1 ≠ q.1) → P v tl → R (.ok (.ret v)) { s₁ with heap := h', toks := tk })
    (l : LeaveT g₂ L' small P s₁ v s') : LeaveK h₀ L m g R v s' := by
  obtain ⟨h', tk, m', tl, rfl, F₂, N₂, ap, hp⟩ := l
  have rest' : ∀ p ∈ news, (∀ q ∈ small, p.1 ≠ q.1) → g₂.get? p.1 = some p.2 := fun p hp hn => rest p hp fun q hq e => by
    rcases List.mem_append.mp hq with hq | hq
    · exact absurd (hlt p hp) (Nat.not_lt.mpr (e ▸ hown q hq))
    · exact hn q hq e
  have ap' : ∀ p ∈ tl, ∀ q ∈ news, p.1 ≠ q.1 := fun p hp q hq e => by
    by_cases c : ∃ r ∈ small, q.1 = r.1
    · obtain ⟨r, hr, c⟩ := c
      exact ap p hp r hr (e.trans c)
    · have h1 := rest' q hq fun r hr e => c ⟨r, hr, e⟩
      have h2 := (N₂ p (List.mem_append_left _ hp)).2.2
      rw [e, h1] at h2
      cases h2
  refine leaveK_ (m' := m') (news' := tl ++ small) ⟨F₂.ns, fun b o e => F₂.keep b o (st b o e), F.above⟩ (fun q hq => ⟨(N₂ q hq).1, (N₂ q hq).2.1, ?_⟩) fun a b => hP _ tl h' tk a (fun p hp => ?_) ap' hp
  · cases e : g.get? q.1 with
    | none => rfl
    | some o => have := (N₂ q hq).2.2; rw [st _ _ e] at this; cases this
  · rcases List.mem_append.mp hp with hp | hp
    · exact b p (List.mem_append_left _ hp)
    · refine ⟨?_, (N₀ p hp).2⟩
      by_cases c : ∃ r ∈ small, p.1 = r.1
      · obtain ⟨r, hr, c⟩ := c
        rw [news_one N₀ hp (hs r hr) c]
        exact (b r (List.mem_append_right _ hr)).1
      · exact F₂.keep _ _ (rest' p hp fun r hr e => c ⟨r, hr, e⟩)

/-- as LeaveT; what it made lies above its frame, so above all that stood -/
def LeaveU (g : Heap) (L' : Addr) (small : List (Addr × Obj)) (P : Value → List (Addr × Obj) → Prop) (s₁ : Shared) (v : Value) (s' : Shared) : Prop :=
  ∃ h' tk m' tl, s' = { s₁ with heap := h', toks := tk } ∧ Fr g L' h' m' ∧ News g L' h' (tl ++ small) ∧ (∀ p ∈ tl, L' ≤ p.1) ∧ P v tl
theorem LeaveU.intro {g : Heap} {L' : Addr} {small : List (Addr × Obj)} {P : Value → List (Addr × Obj) → Prop} {s₁ : Shared} {v : Value} {h' : Heap} {tk : Nat} {m' : Str → Option Value} {led : List (Addr × Obj)} (tl : List (Addr × Obj)) (F : Fr g L' h' m') (N : News g L' h' led)
    (ht : SubL tl led) (hs : SubL small led) (hap : ∀ p ∈ tl, @LE.le Nat _ L' p.1) (hp : P v tl) : LeaveU g L' small P s₁ v { s₁ with heap := h', toks := tk } :=
  ⟨h', tk, m', tl, rfl, F, fun p hp => (List.mem_append.mp hp).elim (fun q => N p (ht.mem p q)) fun q => N p (hs.mem p q), hap, hp⟩
theorem LeaveU.toT {g : Heap} {L' : Addr} {small news : List (Addr × Obj)} {P : Value → List (Addr × Obj) → Prop} {s₁ : Shared} {v : Value} {s' : Shared} (hlt : ∀ p ∈ news, p.1 < L') (hs : ∀ q ∈ small, q ∈ news) (l : LeaveU g L' small P s₁ v s') :
    LeaveT g L' small (fun v tl => P v tl ∧ ∀ p ∈ tl, ∀ q ∈ news, @LT.lt Nat _ q.1 p.1) s₁ v s' := by
  obtain ⟨h', tk, m', tl, e, F, N, ap, hp⟩ := l
  exact ⟨h', tk, m', tl, e, F, N, fun p hp q hq e => Nat.lt_irrefl _ (Nat.lt_of_lt_of_le (e ▸ hlt q (hs q hq)) (ap p hp)), hp, fun p hp q hq => Nat.lt_of_lt_of_le (hlt q hq) (ap p hp)⟩

theorem cells_above {cm : Str → Option Value} {n : Nat} : ∀ {cs : List (Str × Addr)} {cells : List (Addr × Obj)}, CellsAre cm cs cells → (∀ c ∈ cs, n ≤ c.2) → ∀ q ∈ cells, n ≤ q.1
  | _, _, .nil, _, _, hq => nomatch hq
  | _, _, .cons _ Y, h, q, hq => by
    rcases List.mem_cons.mp hq with rfl | hq
    · exact h _ (.head _)
    · exact cells_above Y (fun c hc => h c (.tail _ hc)) q hq
theorem cellsFrom_above {n₀ : Nat} : ∀ (names : List (Str × NameKind)) (n : Nat) (acc : List (Str × Addr)), n₀ ≤ n → (∀ c ∈ acc, n₀ ≤ c.2) → ∀ c ∈ cellsFrom n names acc, n₀ ≤ c.2
  | [], _, _, _, h, c, hc => h c hc
  | (x, k) :: r, n, acc, hn, h, c, hc => by
    unfold cellsFrom at hc
    split at hc
    · exact cellsFrom_above r (n + 1) _ (Nat.le_succ_of_le hn) (fun c hc => by
        rcases List.mem_cons.mp hc with rfl | hc
        · exact hn
        · exact h c hc) c hc
    · exact cellsFrom_above r n acc hn h c hc

section
variable {prog : Program} {w : World} {A A₀ : Around} {E : Value → Shared → Prop} {s : Shared} {K : Frag} {L : Addr} {h₀ base : Heap} {m mg mb : Str → Option Value} {news : List (Addr × Obj)} {p : Program} {loose : List Str} {mean : ExcName → Option Value}

theorem code_defT (small : List (Addr × Obj)) (P : Value → List (Addr × Obj) → Prop) {env : Env} {outer : List Env} {R : Result → Shared → Prop} {name qual : Str} {params : Arguments} {body : List Stmt} {scope : Scope} {dV kV doc pm cdv ct oc : Value} {an od : Option Addr} {osl : Array (Option Value)} {f : Addr} {args : Args} {binds : List (Str × Value)}
    (B : Below A₀ base outer h₀) (F : Fr h₀ L s.heap m) (X₀ : K.In h₀) (N : News h₀ L s.heap news) (T : Top p loose mean mg mb h₀) (hA : A.frames = some (env :: outer)) (hf : env.frame = some L) (hke : env.scope.kind = .function) (hs : ∀ q ∈ small, q ∈ news)
    (hP : ∀ v tl h' tk, Fr h₀ L h' m → News h₀ L h' (tl ++ news) → (∀ p ∈ tl, ∀ q ∈ news, p.1 ≠ q.1) → P v tl → R (.ok (.ret v)) { s with heap := h', toks := tk })
    (ho : K.lookup f = some ⟨oc, od, .func (fnOf name qual params body scope dV kV doc pm an cdv ct), osl⟩) (hcd : codeIn K cdv qual = true) (hroom : A.depth < recursionLimit)
    (hbind : BindsTo s (fnOf name qual params body scope dV kV doc pm an cdv ct) args binds) (hloc : ∀ y ∈ binds, scope.names.lookup y.1 = some .local)
    (h : ∀ g L' h₁ tk, Fr g L' h₁ (fun y => binds.reverse.lookup y) → News g L' h₁ small → Below A base (env :: outer) g → K.In g → Top p loose mean mg mb g → (∀ p ∈ small, p.1 < L') →
      wpAny (model prog w) (A.deeper (envOf qual scope L' f cdv)) (execs body (envOf qual scope L' f cdv))
        (fun fl s' => LeaveT g L' small P s (match fl with | .ret v => v | _ => .none) s') (fun _ _ => False)
        { s with heap := h₁, toks := tk })
    (hco : scope.isCoroutine = false) (hgen : scope.isGenerator = false) (hk : scope.kind = .function) (hcell : ∀ x ∈ scope.names, x.2 ≠ .cell) : codeAny (model prog w) A (.call (.ref f) args) R s := by
  refine callX_plain (cl := []) B F N T.nolimit hA hf hke ((X₀.keeps F.keep) _ _ ho) rfl (codeRec_of (X₀.keeps F.keep) hcd) hroom hbind hloc (fun g L' h₁ FG F' N' B' st l1 => ?_) hcell hco hgen hk
  obtain ⟨g₂, st₂, F₂, N₂, rest⟩ := rebase (own := []) F' N' l1 hs
  refine wpAny_mono (h g₂ L' h₁ _ F₂ N₂ (below_stays B' st₂) (X₀.keeps fun b o e => st₂ b o (st b o e)) (T.keeps fun b o e => st₂ b o (st b o e)) (fun q hq => l1 q (hs q hq))) (fun fl s' hl => ?_) fun _ _ e => e.elim
  exact leaveT_to (own := []) N F' N' hs (fun _ hq => nomatch hq) l1 st₂ rest hP hl

theorem code_defCT (small : List (Addr × Obj)) (P : Value → List (Addr × Obj) → Prop) {env : Env} {outer : List Env} {R : Result → Shared → Prop} {name qual : Str} {params : Arguments} {body : List Stmt} {scope : Scope} {dV kV doc pm cdv ct oc : Value} {an od : Option Addr} {osl : Array (Option Value)} {f : Addr} {args : Args} {binds : List (Str × Value)}
    (B : Below A₀ base outer h₀) (F : Fr h₀ L s.heap m) (X₀ : K.In h₀) (N : News h₀ L s.heap news) (T : Top p loose mean mg mb h₀) (hA : A.frames = some (env :: outer)) (hf : env.frame = some L) (hke : env.scope.kind = .function) (hs : ∀ q ∈ small, q ∈ news)
    (hP : ∀ v tl h' tk, Fr h₀ L h' m → News h₀ L h' (tl ++ news) → (∀ p ∈ tl, ∀ q ∈ news, p.1 ≠ q.1) → P v tl → R (.ok (.ret v)) { s with heap := h', toks := tk })
    (ho : K.lookup f = some ⟨oc, od, .func (fnOf name qual params body scope dV kV doc pm an cdv ct), osl⟩) (hcd : codeIn K cdv qual = true) (hroom : A.depth < recursionLimit)
    (hbind : BindsTo s (fnOf name qual params body scope dV kV doc pm an cdv ct) args binds) (hkind : (binds.all fun y => scope.names.lookup y.1 == some .local || scope.names.lookup y.1 == some .cell) = true)
    (hnd : ((cellsFrom 0 scope.names []).map (·.1)).Nodup)
    (h : ∀ g L' h₁ tk cells, Fr g L' h₁ (bindL (envOfC qual scope L' f cdv).kindOf binds fun _ => none) → News g L' h₁ (cells ++ small) →
      CellsAre (bindC (envOfC qual scope L' f cdv).kindOf binds fun _ => none) (cellsFrom (L' + 1) scope.names []) cells → Below A base (env :: outer) g → K.In g → Top p loose mean mg mb g → (∀ p ∈ small, p.1 < L') →
      wpAny (model prog w) (A.deeper (envOfC qual scope L' f cdv)) (execs body (envOfC qual scope L' f cdv))
        (fun fl s' => LeaveT g L' small P s (match fl with | .ret v => v | _ => .none) s') (fun _ _ => False)
        { s with heap := h₁, toks := tk })
    (hco : scope.isCoroutine = false) (hgen : scope.isGenerator = false) (hk : scope.kind = .function) : codeAny (model prog w) A (.call (.ref f) args) R s := by
  refine code_defC B F X₀ N T hA hf hke ho hcd hroom hbind hkind hnd (fun g L' h₁ tk cells FG F' N' Y B' X' T' l1 => ?_) hco hgen hk
  have hc : ∀ q ∈ cells, L' ≤ q.1 := cells_above Y (fun c hc => cellsFrom_above _ _ _ (Nat.le_succ L') (by intro c h; cases h) c hc)
  obtain ⟨g₂, st₂, F₂, N₂, rest⟩ := rebase (own := cells) F' N' l1 hs
  refine wpAny_mono (h g₂ L' h₁ tk cells F₂ N₂ Y (below_stays B' st₂) (X'.keeps st₂) (T'.keeps st₂) (fun q hq => l1 q (hs q hq))) (fun fl s' hl => ?_) fun _ _ e => e.elim
  exact leaveT_to N F' N' hs hc l1 st₂ rest hP hl
theorem code_defCU (small : List (Addr × Obj)) (P : Value → List (Addr × Obj) → Prop) {env : Env} {outer : List Env} {R : Result → Shared → Prop} {name qual : Str} {params : Arguments} {body : List Stmt} {scope : Scope} {dV kV doc pm cdv ct oc : Value} {an od : Option Addr} {osl : Array (Option Value)} {f : Addr} {args : Args} {binds : List (Str × Value)}
    (B : Below A₀ base outer h₀) (F : Fr h₀ L s.heap m) (X₀ : K.In h₀) (N : News h₀ L s.heap news) (T : Top p loose mean mg mb h₀) (hA : A.frames = some (env :: outer)) (hf : env.frame = some L) (hke : env.scope.kind = .function) (hs : ∀ q ∈ small, q ∈ news)
    (hP : ∀ v tl h' tk, Fr h₀ L h' m → News h₀ L h' (tl ++ news) → (∀ p ∈ tl, ∀ q ∈ news, @LT.lt Nat _ q.1 p.1) → P v tl → R (.ok (.ret v)) { s with heap := h', toks := tk })
    (ho : K.lookup f = some ⟨oc, od, .func (fnOf name qual params body scope dV kV doc pm an cdv ct), osl⟩) (hcd : codeIn K cdv qual = true) (hroom : A.depth < recursionLimit)
    (hbind : BindsTo s (fnOf name qual params body scope dV kV doc pm an cdv ct) args binds) (hkind : (binds.all fun y => scope.names.lookup y.1 == some .local || scope.names.lookup y.1 == some .cell) = true)
    (hnd : ((cellsFrom 0 scope.names []).map (·.1)).Nodup)
    (h : ∀ g L' h₁ tk cells, Fr g L' h₁ (bindL (envOfC qual scope L' f cdv).kindOf binds fun _ => none) → News g L' h₁ (cells ++ small) →
      CellsAre (bindC (envOfC qual scope L' f cdv).kindOf binds fun _ => none) (cellsFrom (L' + 1) scope.names []) cells → Below A base (env :: outer) g → K.In g → Top p loose mean mg mb g → (∀ p ∈ small, p.1 < L') →
      wpAny (model prog w) (A.deeper (envOfC qual scope L' f cdv)) (execs body (envOfC qual scope L' f cdv))
        (fun fl s' => LeaveU g L' small P s (match fl with | .ret v => v | _ => .none) s') (fun _ _ => False)
        { s with heap := h₁, toks := tk })
    (hco : scope.isCoroutine = false) (hgen : scope.isGenerator = false) (hk : scope.kind = .function) : codeAny (model prog w) A (.call (.ref f) args) R s := by
  refine code_defC B F X₀ N T hA hf hke ho hcd hroom hbind hkind hnd (fun g L' h₁ tk cells FG F' N' Y B' X' T' l1 => ?_) hco hgen hk
  have hc : ∀ q ∈ cells, L' ≤ q.1 := cells_above Y (fun c hc => cellsFrom_above _ _ _ (Nat.le_succ L') (by intro c h; cases h) c hc)
  obtain ⟨g₂, st₂, F₂, N₂, rest⟩ := rebase (own := cells) F' N' l1 hs
  refine wpAny_mono (h g₂ L' h₁ tk cells F₂ N₂ Y (below_stays B' st₂) (X'.keeps st₂) (T'.keeps st₂) (fun q hq => l1 q (hs q hq))) (fun fl s' hl => ?_) fun _ _ e => e.elim
  exact leaveT_to N F' N' hs hc l1 st₂ rest (P := fun v tl => P v tl ∧ ∀ p ∈ tl, ∀ q ∈ news, @LT.lt Nat _ q.1 p.1) (fun v tl h' tk a b _ d => hP v tl h' tk a b d.2 d.1) (LeaveU.toT l1 hs hl)
end
end Mine
namespace Mine

local macro_rules | `(tactic| k_room) => `(tactic| first | ((try simp only [depth_under_make, depth_under_kw, depth_in1, depth_deeper, depth_caller]); decide) | ((try simp only [depth_under_make, depth_under_kw, depth_in1, depth_deeper, depth_caller]); (try dsimp only [ktrTop]); (simp only [recursionLimit]); omega))
local macro_rules | `(tactic| walk_at "exec For Tuple Call cons nil") => `(tactic| (k_here; (rename Fr _ _ _ _ => lF'); (with_unfolding_all refine' For_turns lF' ?_; k_whole)))
local macro_rules | `(tactic| walk_at "eval ListComp") => `(tactic| (k_here; lcg_look; lcg_calm; k_dflt (refine LCg.ListComp_U (F₀ := by k_asm) (by rfl) (by decide) (by rfl) (by decide) (by rfl) ?_); k_dflt lcg_toSrc))

local macro_rules | `(tactic| walk_at "CompSrc") => `(tactic| (k_here; k_dflt (refine LCg.CompSrc.ledger (by rfl) (by k_asm) (by k_asm) (by k_mem) (by first | size_fits | exact Nat.le_of_ble_eq_true rfl) ?_; intro g'; lcg_lit)))
local macro_rules | `(tactic| walk_at "CompEnd") => `(tactic| lcg_end)
abbrev arrD (h1 h2 h3 h4 h5 h6 : Int) (t1 t2 t3 t4 t5 t6 : Tok) (v1 v2 v3 v4 : Value) (bl il : Addr) : Obj :=
  dictOf [⟨h1, .str (Str.ofString "word") t1, v1⟩, ⟨h2, .str (Str.ofString "number") t2, v2⟩, ⟨h3, .str (Str.ofString "mark") t3, v3⟩, ⟨h4, .str (Str.ofString "told") t4, v4⟩, ⟨h5, .str (Str.ofString "bounds") t5, .ref bl⟩, ⟨h6, .str (Str.ofString "items") t6, .ref il⟩] 6

set_option maxHeartbeats 0 in
theorem item1 {prog : Program} {w : World} {p : Program} {loose : List Str} {mean : ExcName → Option Value} {mg mb : Str → Option Value}
  {dp un : Nat} {gd : Option (List Code)} {cn : Str} {cs : Scope} {a : Addr} {ccd : Value} {cl : List (Str × Addr)} {outer : List Env} {A₀ : Around} {base h₀ : Heap} {L : Addr} {m : Str → Option Value} {news : List (Addr × Obj)} {s : Shared} {Q E : Value → Shared → Prop}
  {h1 h2 h3 h4 h5 h6 : Int} {t1 t2 t3 t4 t5 t6 u1 u2 u3 u4 : Tok} {v1 v2 v3 v4 : Value} {x dx bl il bt kl : Addr} {low high k : Int} {nb nt nk : Nat}
  (B : Below A₀ base outer h₀) (F : Fr h₀ L s.heap m) (X : (K w.params).In h₀) (N : News h₀ L s.heap news) (T : Top p loose mean mg mb h₀) (hk : cs.kind = .function) (hd : dp + 20 < 1000)
  (hs : ∀ q ∈ [(x, instObj 208 dx), (dx, arrD h1 h2 h3 h4 h5 h6 t1 t2 t3 t4 t5 t6 v1 v2 v3 v4 bl il), (bl, W.listOf #[.ref bt] nb), (bt, ({ cls := .type "tuple", data := .seq #[.int low u1, .int high u2] nt } : Obj)), (kl, W.listOf #[.int k u3] nk)], q ∈ news)
  (ret : ∀ r tl h' tk', Fr h₀ L h' m → News h₀ L h' (tl ++ news) → (∀ p ∈ tl, ∀ q ∈ news, @LT.lt Nat _ q.1 p.1) →
    ((¬ (low ≤ k ∧ k ≤ high) ∧ r = .none ∧ tl = []) ∨ (low ≤ k ∧ k ≤ high ∧ ∃ n dn e1 e2 e3 f1 f2 f3 f4 f5 j, j = k - low ∧ r = .ref n ∧ tl = [(n, instObj 117 dn), (dn, dictOf [⟨e1, .str (Str.ofString "kind") f1, .str (Str.ofString "item") f2⟩, ⟨e2, .str (Str.ofString "owner") f3, .ref x⟩, ⟨e3, .str (Str.ofString "key") f4, .int j f5⟩] 3)] )) → Q r { s with heap := h', toks := tk' }) :
  wpAny (model prog w) (ktrTop dp un gd cn cs L a ccd cl outer) (call (.ref 262) [.ref x, .ref kl, .int 32 u4]) Q E s := by
  refine wpAny_call ?_
  k_dflt (refine' code_defCU _ _ ?k1 ?k2 ?k3 ?k4 ?k5 ?kA ?kF ?kK ?kS ?kP ?k6 ?k7 ?k8 ?k9 ?kB ?kN ?kh ?c2 ?c3 ?c4; (case kA => exact rfl); (case kF => exact rfl); (case kK => assumption); (case k1 => k_asm); (case k2 => k_asm); (case k3 => k_asm); (case k4 => k_asm); (case k5 => k_asm); (case kS => exact hs); (case kP => exact ret); (case k6 => k_is); (case k7 => k_is); (case k8 => k_room); (case k9 => exact BindsTo.of_eq rfl); (case kB => rfl); (case kN => decide); (case c2 => rfl); (case c3 => rfl); (case c4 => rfl))
  clear ret hs F N B X T
  intro g' L' h' tk' cells F' N' Y' B' X' T' l1
  k_cells Y'
  simp only [List.nil_append, List.cons_append] at N'
  k_lt l1
  all_goals try k_fold
  k_steps
  all_goals first
    | (exact LeaveU.intro [] (by assumption) (by assumption) trivial (by k_subL) (fun _ h => nomatch h) (Or.inl ⟨by omega, rfl, rfl⟩))
    | (refine LeaveU.intro [_, _] (by assumption) (by assumption) ⟨List.Mem.head _, List.Mem.tail _ (List.Mem.head _), trivial⟩ (by k_subL) (by (simp only [List.forall_mem_cons, List.not_mem_nil, false_implies, implies_true, and_true]); constructor <;> omega) (Or.inr ⟨by omega, by omega, _, _, _, _, _, _, _, _, _, _, _, ?_, rfl, rfl⟩); omega)
end Mine
namespace Mine

local macro_rules | `(tactic| k_room) => `(tactic| first | ((try simp only [depth_under_make, depth_under_kw, depth_in1, depth_deeper, depth_caller]); decide) | ((try simp only [depth_under_make, depth_under_kw, depth_in1, depth_deeper, depth_caller]); (try dsimp only [ktrTop]); (simp only [recursionLimit]); omega))
local macro_rules | `(tactic| walk_at "exec For Tuple Call cons nil") => `(tactic| (k_here; (rename Fr _ _ _ _ => lF'); (with_unfolding_all refine' For_turns lF' ?_; k_whole)))
local macro_rules | `(tactic| walk_at "eval ListComp") => `(tactic| (k_here; lcg_look; lcg_calm; k_dflt (refine LCg.ListComp_U (F₀ := by k_asm) (by rfl) (by decide) (by rfl) (by decide) (by rfl) ?_); k_dflt lcg_toSrc))

local macro_rules | `(tactic| walk_at "CompSrc") => `(tactic| (k_here; k_dflt (refine LCg.CompSrc.ledger (by rfl) (by k_asm) (by k_asm) (by k_mem) (by first | size_fits | exact Nat.le_of_ble_eq_true rfl) ?_; intro g'; lcg_lit)))
local macro_rules | `(tactic| walk_at "CompEnd") => `(tactic| lcg_end)


theorem slot1 {prog : Program} {w : World} {p : Program} {loose : List Str} {mean : ExcName → Option Value} {mg mb : Str → Option Value}
  {dp un : Nat} {gd : Option (List Code)} {cn : Str} {cs : Scope} {a : Addr} {ccd : Value} {cl : List (Str × Addr)} {outer : List Env} {A₀ : Around} {base h₀ : Heap} {L : Addr} {m : Str → Option Value} {news : List (Addr × Obj)} {s : Shared} {Q E : Value → Shared → Prop}
  {h1 h2 h3 h4 h5 h6 e1 e2 e3 : Int} {t1 t2 t3 t4 t5 t6 f1 f2 f3 f4 f5 : Tok} {v1 v2 v3 v4 : Value} {x dx bl il n dn : Addr} {j : Int} {ni : Nat} {vs : List Value} {ns : List Int}
  (B : Below A₀ base outer h₀) (F : Fr h₀ L s.heap m) (X : (K w.params).In h₀) (N : News h₀ L s.heap news) (T : Top p loose mean mg mb h₀) (hk : cs.kind = .function) (hd : dp + 20 < 1000)
  (hs : ∀ q ∈ [(n, instObj 117 dn), (dn, dictOf [⟨e1, .str (Str.ofString "kind") f1, .str (Str.ofString "item") f2⟩, ⟨e2, .str (Str.ofString "owner") f3, .ref x⟩, ⟨e3, .str (Str.ofString "key") f4, .int j f5⟩] 3), (x, instObj 208 dx), (dx, arrD h1 h2 h3 h4 h5 h6 t1 t2 t3 t4 t5 t6 v1 v2 v3 v4 bl il), (il, W.listOf vs.toArray ni)], q ∈ news)
  (hI : IntsAre vs ns) (hj0 : 0 ≤ j) (hj : j < (ns.length : Int)) (hl : ns.length ≤ 31)
  (ret : ∀ r h' tk', Fr h₀ L h' m → News h₀ L h' news → (∃ t, r = .int (ns.getD j.toNat 0) t) → Q r { s with heap := h', toks := tk' }) :
  wpAny (model prog w) (ktrTop dp un gd cn cs L a ccd cl outer) (call (.ref 269) [.ref n]) Q E s := by
  refine wpAny_call ?_
  have ret' : ∀ r tl h' tk', Fr h₀ L h' m → News h₀ L h' (tl ++ news) → (∀ p ∈ tl, ∀ q ∈ news, p.1 ≠ q.1) → (tl = [] ∧ ∃ t, r = .int (ns.getD j.toNat 0) t) → Q r { s with heap := h', toks := tk' } := by
    rintro r tl h' tk' F' N' _ ⟨rfl, hr⟩
    exact ret r h' tk' F' N' hr
  k_dflt (refine' code_defT _ _ ?k1 ?k2 ?k3 ?k4 ?k5 ?kA ?kF ?kK ?kS ?kP ?k6 ?k7 ?k8 ?k9 ?kB ?kh ?c2 ?c3 ?c4 ?c5; (case kA => exact rfl); (case kF => exact rfl); (case kK => assumption); (case k1 => k_asm); (case k2 => k_asm); (case k3 => k_asm); (case k4 => k_asm); (case k5 => k_asm); (case kS => exact hs); (case kP => exact ret'); (case k6 => k_is); (case k7 => k_is); (case k8 => k_room); (case k9 => exact BindsTo.of_eq rfl); (case c5 => decide); (case kB => exact locs rfl); (case c2 => rfl); (case c3 => rfl); (case c4 => rfl))
  clear ret ret' hs F N B X T
  intro g' L' h' tk' F' N' B' X' T' l1
  k_lt l1
  all_goals try k_fold
  k_steps
  all_goals exact LeaveT.intro [] (by assumption) (by assumption) trivial (by k_subL) (by ktu_offL) ⟨rfl, _, rfl⟩
end Mine
namespace Mine
theorem all5 {α : Type} {P : α → Prop} {a b c d e : α} (h1 : P a) (h2 : P b) (h3 : P c) (h4 : P d) (h5 : P e) : ∀ q ∈ [a, b, c, d, e], P q := fun q h => by
  simp only [List.mem_cons, List.not_mem_nil, or_false] at h
  rcases h with rfl | rfl | rfl | rfl | rfl <;> assumption
abbrev refD (e1 e2 e3 : Int) (f1 f2 f3 f4 f5 : Tok) (x : Addr) (j : Int) : Obj :=
  dictOf [⟨e1, .str (Str.ofString "kind") f1, .str (Str.ofString "item") f2⟩, ⟨e2, .str (Str.ofString "owner") f3, .ref x⟩, ⟨e3, .str (Str.ofString "key") f4, .int j f5⟩] 3
theorem item1_in {prog : Program} {w : World} {p : Program} {loose : List Str} {mean : ExcName → Option Value} {mg mb : Str → Option Value}
  {dp un : Nat} {gd : Option (List Code)} {cn : Str} {cs : Scope} {a : Addr} {ccd : Value} {cl : List (Str × Addr)} {outer : List Env} {A₀ : Around} {base h₀ : Heap} {L : Addr} {m : Str → Option Value} {news : List (Addr × Obj)} {s : Shared} {Q E : Value → Shared → Prop}
  {h1 h2 h3 h4 h5 h6 : Int} {t1 t2 t3 t4 t5 t6 u1 u2 u3 u4 : Tok} {v1 v2 v3 v4 : Value} {x dx bl il bt kl : Addr} {low high k : Int} {nb nt nk : Nat}
  (B : Below A₀ base outer h₀) (F : Fr h₀ L s.heap m) (X : (K w.params).In h₀) (N : News h₀ L s.heap news) (T : Top p loose mean mg mb h₀) (hk : cs.kind = .function) (hd : dp + 20 < 1000)
  (m1 : (kl, W.listOf #[.int k u3] nk) ∈ news) (m2 : (x, instObj 208 dx) ∈ news) (m3 : (dx, arrD h1 h2 h3 h4 h5 h6 t1 t2 t3 t4 t5 t6 v1 v2 v3 v4 bl il) ∈ news) (m4 : (bl, W.listOf #[.ref bt] nb) ∈ news) (m5 : (bt, ({ cls := .type "tuple", data := .seq #[.int low u1, .int high u2] nt } : Obj)) ∈ news)
  (hlo : low ≤ k) (hhi : k ≤ high)
  (ret : ∀ n dn e1 e2 e3 f1 f2 f3 f4 f5 j h' tk', j = k - low → Fr h₀ L h' m → News h₀ L h' ((n, instObj 117 dn) :: (dn, refD e1 e2 e3 f1 f2 f3 f4 f5 x j) :: news) → (∀ q ∈ news, @LT.lt Nat _ q.1 n) → (∀ q ∈ news, @LT.lt Nat _ q.1 dn) → Q (.ref n) { s with heap := h', toks := tk' }) :
  wpAny (model prog w) (ktrTop dp un gd cn cs L a ccd cl outer) (call (.ref 262) [.ref x, .ref kl, .int 32 u4]) Q E s := by
  refine item1 B F X N T hk hd (all5 m2 m3 m4 m5 m1) fun r tl h' tk' F' N' ap hp => ?_
  rcases hp with ⟨h, _⟩ | ⟨_, _, n, dn, e1, e2, e3, f1, f2, f3, f4, f5, j, hj, rfl, rfl⟩
  · exact absurd ⟨hlo, hhi⟩ h
  · exact ret n dn e1 e2 e3 f1 f2 f3 f4 f5 j h' tk' hj F' N' (fun q hq => ap _ (.head _) q hq) (fun q hq => ap _ (.tail _ (.head _)) q hq)
theorem item1_out {prog : Program} {w : World} {p : Program} {loose : List Str} {mean : ExcName → Option Value} {mg mb : Str → Option Value}
  {dp un : Nat} {gd : Option (List Code)} {cn : Str} {cs : Scope} {a : Addr} {ccd : Value} {cl : List (Str × Addr)} {outer : List Env} {A₀ : Around} {base h₀ : Heap} {L : Addr} {m : Str → Option Value} {news : List (Addr × Obj)} {s : Shared} {Q E : Value → Shared → Prop}
  {h1 h2 h3 h4 h5 h6 : Int} {t1 t2 t3 t4 t5 t6 u1 u2 u3 u4 : Tok} {v1 v2 v3 v4 : Value} {x dx bl il bt kl : Addr} {low high k : Int} {nb nt nk : Nat}
  (B : Below A₀ base outer h₀) (F : Fr h₀ L s.heap m) (X : (K w.params).In h₀) (N : News h₀ L s.heap news) (T : Top p loose mean mg mb h₀) (hk : cs.kind = .function) (hd : dp + 20 < 1000)
  (m1 : (kl, W.listOf #[.int k u3] nk) ∈ news) (m2 : (x, instObj 208 dx) ∈ news) (m3 : (dx, arrD h1 h2 h3 h4 h5 h6 t1 t2 t3 t4 t5 t6 v1 v2 v3 v4 bl il) ∈ news) (m4 : (bl, W.listOf #[.ref bt] nb) ∈ news) (m5 : (bt, ({ cls := .type "tuple", data := .seq #[.int low u1, .int high u2] nt } : Obj)) ∈ news)
  (hout : k < low ∨ high < k)
  (ret : ∀ h' tk', Fr h₀ L h' m → News h₀ L h' news → Q .none { s with heap := h', toks := tk' }) :
  wpAny (model prog w) (ktrTop dp un gd cn cs L a ccd cl outer) (call (.ref 262) [.ref x, .ref kl, .int 32 u4]) Q E s := by
  refine item1 B F X N T hk hd (all5 m2 m3 m4 m5 m1) fun r tl h' tk' F' N' ap hp => ?_
  rcases hp with ⟨_, rfl, rfl⟩ | ⟨h1, h2, _⟩
  · exact ret h' tk' F' N'
  · omega
/-- the row as it grows -/
def G : List Int := [1, 2, 2, 3, 3, 4, 4, 4, 5, 5, 5, 6, 6, 6, 6, 7, 7, 7, 7, 8, 8, 8, 8, 9, 9, 9, 9, 9, 10, 10, 10]
def Gv (i : Int) : Int := G.getD (i - 1).toNat 0
/-- the row's list: so many places (sz), the first kn of them told -/
def RowP (vs : List Value) (sz kn : Int) : Prop := ∃ ns, IntsAre vs ns ∧ (ns.length : Int) = sz ∧ 8 ≤ sz ∧ sz ≤ 31 ∧ 0 ≤ kn ∧ kn ≤ sz ∧ ns.take kn.toNat = G.take kn.toNat
theorem getD_of_take {ns ms : List Int} {k i : Nat} (h : ns.take k = ms.take k) (hi : i < k) : ns.getD i 0 = ms.getD i 0 := by
  have e := congrArg (fun l => l[i]?) h
  simp only [List.getElem?_take, if_pos hi] at e
  rw [List.getD_eq_getElem?_getD, List.getD_eq_getElem?_getD, e]
theorem G_len : G.length = 31 := by decide
theorem row_zero {k : Nat} {sz : Int} {t : Tok} (h0 : 8 ≤ sz) (h1 : sz ≤ 31) (hk : (k : Int) = sz) : RowP (List.replicate k [Value.int 0 t]).flatten sz 0 := by
  have f : ∀ k : Nat, IntsAre (List.replicate k [Value.int 0 t]).flatten (List.replicate k 0) := by
    intro k
    induction k with
    | zero => exact .nil
    | succ k ih =>
      rw [List.replicate_succ, List.flatten_cons, List.replicate_succ]
      exact .cons 0 t ih
  exact ⟨List.replicate k 0, f k, by rw [List.length_replicate]; exact hk, h0, h1, Int.le_refl _, by omega, rfl⟩
theorem row_next {vs : List Value} {sz kn j x : Int} {u : Tok} (R : RowP vs sz kn) (hj : j = kn) (hlt : kn < sz) (hx : x = Gv (kn + 1)) : RowP (vs.set j.toNat (.int x u)) sz (kn + 1) := by
  obtain ⟨ns, hI, hl, h8, h31, h0, h1, ht⟩ := R
  subst hj
  refine ⟨ns.set j.toNat x, ints_set hI _, by rw [List.length_set]; exact hl, h8, h31, by omega, by omega, ?_⟩
  have e : (j + 1).toNat = j.toNat + 1 := by omega
  have hlt' : j.toNat < ns.length := by omega
  have hg : j.toNat < G.length := by rw [G_len]; omega
  rw [e, List.take_add_one, List.take_add_one, List.take_set_of_le (Nat.le_refl _), ht, List.getElem?_set_self hlt', List.getElem?_eq_getElem hg]
  congr 2
  rw [hx]
  unfold Gv
  have e2 : (j + 1 - 1).toNat = j.toNat := by omega
  rw [e2, List.getD_eq_getElem?_getD, List.getElem?_eq_getElem hg]
  rfl
/-- told's own look: the place is told by the frame -/
theorem slot1_told {prog : Program} {w : World} {p : Program} {loose : List Str} {mean : ExcName → Option Value} {mg mb : Str → Option Value}
  {dp un : Nat} {gd : Option (List Code)} {cn : Str} {cs : Scope} {a : Addr} {ccd : Value} {cl : List (Str × Addr)} {outer : List Env} {A₀ : Around} {base h₀ : Heap} {L : Addr} {m : Str → Option Value} {news : List (Addr × Obj)} {s : Shared} {Q E : Value → Shared → Prop}
  {h1 h2 h3 h4 h5 h6 e1 e2 e3 : Int} {t1 t2 t3 t4 t5 t6 f1 f2 f3 f4 f5 ti : Tok} {v1 v2 v3 v4 : Value} {x dx bl il n dn : Addr} {j i kn sz : Int} {ni : Nat} {vs : List Value}
  (B : Below A₀ base outer h₀) (F : Fr h₀ L s.heap m) (X : (K w.params).In h₀) (N : News h₀ L s.heap news) (T : Top p loose mean mg mb h₀) (hk : cs.kind = .function) (hd : dp + 20 < 1000)
  (m1 : (n, instObj 117 dn) ∈ news) (m2 : (dn, refD e1 e2 e3 f1 f2 f3 f4 f5 x j) ∈ news) (m3 : (x, instObj 208 dx) ∈ news) (m4 : (dx, arrD h1 h2 h3 h4 h5 h6 t1 t2 t3 t4 t5 t6 v1 v2 v3 v4 bl il) ∈ news) (m5 : (il, W.listOf vs.toArray ni) ∈ news)
  (hR : RowP vs sz kn) (hp : m (Str.ofString "place") = some (.int i ti)) (hj : j + 1 = i) (hi : 1 ≤ i) (hik : i ≤ kn)
  (ret : ∀ t h' tk', Fr h₀ L h' m → News h₀ L h' news → Q (.int (Gv i) t) { s with heap := h', toks := tk' }) :
  wpAny (model prog w) (ktrTop dp un gd cn cs L a ccd cl outer) (call (.ref 269) [.ref n]) Q E s := by
  obtain ⟨ns, hI, hl, h8, h31, h0, h1, ht⟩ := hR
  refine slot1 B F X N T hk hd (all5 m1 m2 m3 m4 m5) hI (by omega) (by omega) (by omega) fun r h' tk' F' N' hr => ?_
  obtain ⟨t, rfl⟩ := hr
  have e : j = i - 1 := by omega
  rw [e, getD_of_take ht (by omega)]
  exact ret t h' tk' F' N'
theorem row_set {prog : Program} {w : World} {A : Around} {E : Value → Shared → Prop} {s : Shared} {h₀ : Heap} {L D : Addr} {m : Str → Option Value} {news news' : List (Addr × Obj)} {vs : List Value} {n : Nat} {j x kn sz : Int} {t u : Tok} {Q : Unit → Shared → Prop}
    (F : Fr h₀ L s.heap m) (N : News h₀ L s.heap news) (R : RowP vs sz kn) (U : Upd D (W.listOf vs.toArray n) (W.listOf (vs.set j.toNat (.int x u)).toArray n) news news') (hj : j = kn) (hlt : kn < sz) (hx : x = Gv (kn + 1))
    (h : ∀ h', Fr h₀ L h' m → News h₀ L h' news' → RowP (vs.set j.toNat (.int x u)) sz (kn + 1) → Q () { s with heap := h' }) :
    wpAny (model prog w) A (setItem (.ref D) (.int j t) (.int x u)) Q E s := by
  obtain ⟨ns, hI, hl, h8, h31, h0, h1, ht⟩ := id R
  exact ksa_set F N U hI (by omega) (by omega) (by omega) fun h' F' N' _ _ _ => h h' F' N' (row_next R hj hlt hx)
end Mine
namespace Mine
def countL (a : Int) (l : List Int) : Nat := (l.filter (· == a)).length
structure GolF (k : Int) : Prop where
  a : 1 ≤ Gv k
  b : Gv k ≤ k
  c : 1 ≤ Gv (Gv k)
  d : Gv (Gv k) ≤ k
  e : 1 + Gv (k + 1 - Gv (Gv k)) = Gv (k + 1)
  f : Gv (k + 1) = Gv k ∨ Gv (k + 1) = Gv k + 1
  g : Gv k < Gv (k + 1) → ((G.take k.toNat).count (Gv k) : Int) = Gv (Gv k)
theorem golF_nat : ∀ n : Nat, n < 30 → 1 ≤ Gv ((n : Int) + 1) ∧ Gv ((n : Int) + 1) ≤ (n : Int) + 1 ∧ 1 ≤ Gv (Gv ((n : Int) + 1)) ∧ Gv (Gv ((n : Int) + 1)) ≤ (n : Int) + 1 ∧ 1 + Gv ((n : Int) + 1 + 1 - Gv (Gv ((n : Int) + 1))) = Gv ((n : Int) + 1 + 1) ∧ (Gv ((n : Int) + 1 + 1) = Gv ((n : Int) + 1) ∨ Gv ((n : Int) + 1 + 1) = Gv ((n : Int) + 1) + 1) ∧
    (Gv ((n : Int) + 1) < Gv ((n : Int) + 1 + 1) → ((G.take ((n : Int) + 1).toNat).count (Gv ((n : Int) + 1)) : Int) = Gv (Gv ((n : Int) + 1))) := by decide +kernel
theorem golF {k : Int} (h1 : 1 ≤ k) (h2 : k < 31) : GolF k := by
  obtain ⟨n, rfl⟩ : ∃ n : Nat, k = (n : Int) + 1 := ⟨(k - 1).toNat, by omega⟩
  have h := golF_nat n (by omega)
  exact ⟨h.1, h.2.1, h.2.2.1, h.2.2.2.1, h.2.2.2.2.1, h.2.2.2.2.2.1, h.2.2.2.2.2.2⟩
theorem row_cast {vs : List Value} {sz sz' kn kn' : Int} (R : RowP vs sz kn) (h1 : sz = sz') (h2 : kn = kn') : RowP vs sz' kn' := h1 ▸ h2 ▸ R
theorem row_ex {vs : List Value} {sz kn : Int} (R : RowP vs sz kn) : ∃ vs', vs' = vs ∧ RowP vs' sz kn := ⟨vs, rfl, R⟩
theorem news_pick {h₀ h : Heap} {L : Addr} {l l' : List (Addr × Obj)} (N : News h₀ L h l) (hs : SubL l' l) : News h₀ L h l' := fun p hp => N p (hs.mem p hp)
/-- of the ledger, what the loop needs -/
theorem pick_row {h₀ h : Heap} {L : Addr} {l : List (Addr × Obj)} {ft c' cw cr cl x dx bl bt il wl : Addr} {name qual : Str} {params : Arguments} {body : List Stmt} {scope : Scope} {k1 k2 k3 : Str} {doc pm ctv : Value} {oc ow or ol ot : Obj}
    {h1 h2 h3 h4 h5 h6 : Int} {t1 t2 t3 t4 t5 t6 : Tok} {v1 v2 v3 v4 : Value} {nb nw ni : Nat} {vs : List Value} {ps : Array Value}
    (N : News h₀ L h l) (m1 : (ft, fnMade name qual params body scope [(k1, cw), (k2, cr), (k3, cl)] doc pm c' ctv) ∈ l) (m2 : (c', oc) ∈ l) (m3 : (cw, ow) ∈ l) (m4 : (cr, or) ∈ l) (m5 : (cl, ol) ∈ l) (m6 : (x, instObj 208 dx) ∈ l)
    (m7 : (dx, arrD h1 h2 h3 h4 h5 h6 t1 t2 t3 t4 t5 t6 v1 v2 v3 v4 bl il) ∈ l) (m8 : (bl, W.listOf #[.ref bt] nb) ∈ l) (m9 : (bt, ot) ∈ l) (m10 : (il, W.listOf vs.toArray ni) ∈ l) (m11 : (wl, W.listOf #[] nw) ∈ l) (m12 : ((285 : Addr), tabObj ps) ∈ l) :
    News h₀ L h [(ft, fnMade name qual params body scope [(k1, cw), (k2, cr), (k3, cl)] doc pm c' ctv), (c', oc), (cw, ow), (cr, or), (cl, ol), (x, instObj 208 dx), (dx, arrD h1 h2 h3 h4 h5 h6 t1 t2 t3 t4 t5 t6 v1 v2 v3 v4 bl il), (bl, W.listOf #[.ref bt] nb), (bt, ot), (il, W.listOf vs.toArray ni), (wl, W.listOf #[] nw), ((285 : Addr), tabObj ps)] :=
  news_pick N ⟨m1, m2, m3, m4, m5, m6, m7, m8, m9, m10, m11, m12, trivial⟩
theorem row_slice {prog : Program} {w : World} {A : Around} {E : Value → Shared → Prop} {s : Shared} {h₀ : Heap} {L l : Addr} {m : Str → Option Value} {news : List (Addr × Obj)} {vs : List Value} {n : Nat} {y kn sz : Int} {t : Tok} {value slice : PySem.Expr} {Q : Value → Shared → Prop}
    (F : Fr h₀ L s.heap m) (N : News h₀ L s.heap news) (hm : (l, W.listOf vs.toArray n) ∈ news) (R : RowP vs sz kn) (h0 : 0 ≤ y) (hy : y = kn)
    (h : ∀ D ws h', Fr h₀ L h' m → News h₀ L h' ((D, W.listOf (List.toArray ws) 0) :: news) → (∀ p ∈ news, p.1 < D) → IntsAre ws (G.take y.toNat) → Q (.ref D) { s with heap := h' })
    (hs : subscripted slice false (.ref l) (.ref s.heap.objs.size) = operate [.ref s.heap.objs.size, .ref l] (getItem (.ref l) (.ref s.heap.objs.size))) (ht : ∀ r, letTemporaryGo value (.ref l) r = pure ()) :
    wpAny (model prog w) A (subscriptTail value slice (.ref l) (.ref s.heap.objs.size)) Q E { s with heap := s.heap.push { cls := .type "slice", data := .fields #[.none, .int y t, .none] } } := by
  obtain ⟨ns, hI, hl, h8, h31, hk0, hk1, htk⟩ := R
  subst hy
  refine kmk_slice_ints F N (News.isList N hm) .none (.int _ _) hI (kmk_upto hI h0) rfl (fun D ws h' F' N' l1 hI' _ _ => h D ws h' F' N' l1 (htk ▸ hI')) hs ht ?_
  rw [List.size_toArray, hI.length]
  have := sizeLine_eq
  omega
theorem kst_row {prog : Program} {w : World} {A : Around} {E : Value → Shared → Prop} {s : Shared} {env : Env} {h₀ : Heap} {x : Str} {body : List Stmt} {Q : Flow → Shared → Prop}
    {r : Addr} {sz sz' : Int} {t₀ u₀ v₀ : Tok} {vs₀ : List Value} {m₀ : Str → Option Value} (Led : List Value → List (Addr × Obj)) (hR : RowP vs₀ sz' 1) (hz : sz' = sz) (N : News h₀ env.locals s.heap (Led vs₀)) (F : Fr h₀ env.locals s.heap m₀) (hr : IsRange s.heap r 1 sz 1 t₀ u₀ v₀) (hh : A.handled = none)
    (turn : ∀ (c : List Value) (pre : List Int) (k : Int) t (u : Str → Option Value) h tk own, 1 ≤ k → k < sz → GolF k → RowP c sz k → k = 1 + (pre.length : Int) → OwnOff own ((Led vs₀).map (·.1)) →
      Fr h₀ env.locals h (fun y => if y = x then some (.int k t) else kstB (fun z => if [Str.ofString "last", Str.ofString "number"].contains z then u z else m₀ z) [] y) → News h₀ env.locals h (Led c ++ own) →
      wpAny (model prog w) A (execs body env) (InvPostN h₀ env.locals (KstS Led (fun _ => []) (fun _ => True) x [Str.ofString "last", Str.ofString "number"] m₀ (fun pre c => RowP c sz (1 + (pre.length : Int))) (pre ++ [k])) own ((Led vs₀).map (·.1)) { s with heap := h, toks := tk } Q) E { s with heap := h, toks := tk })
    (done : ∀ (c : List Value) (u : Str → Option Value) h tk, RowP c sz sz → Fr h₀ env.locals h (fun y => if y = x then u y else kstB (fun z => if [Str.ofString "last", Str.ofString "number"].contains z then u z else m₀ z) [] y) → News h₀ env.locals h (Led c) → Q .next { s with heap := h, toks := tk }) :
    wpAny (model prog w) A (pyIter (.ref r)) (fun it s₂ => LoopAtV prog w A h₀ env x body Q E it s₂) E s := by
  subst hz
  obtain ⟨_, _, _, h8, h31, _⟩ := id hR
  refine kst_range (n := (sz' - 1).toNat) Led (fun _ => []) (fun _ => True) [Str.ofString "last", Str.ofString "number"] (fun pre c => RowP c sz' (1 + (pre.length : Int))) vs₀ hh hr (small_one (by omega) (by omega) (by omega) (by omega)) (by exact rangeSize_nat _ _) F N trivial (fun p hp => nomatch hp) (row_cast hR rfl (by simp)) ?_ ?_
  · intro c pre k t u h tk own hk hlt hoff _ hp F' N'
    exact turn c pre k t u h tk own (by omega) (by omega) (golF (by omega) (by omega)) (row_cast hp rfl (by omega)) hk hoff F' N'
  · intro c u h tk _ hp F' N'
    refine done c u h tk (row_cast hp rfl ?_) F' N'
    rw [rangeKs_length]; omega
theorem kst_row1 {prog : Program} {w : World} {A : Around} {E : Value → Shared → Prop} {s : Shared} {env : Env} {h₀ : Heap} {y : Str} {body : List Stmt} {Q : Flow → Shared → Prop}
    {r : Addr} {sz sz' : Int} {t₀ u₀ v₀ : Tok} {vs₀ : List Value} {m₀ : Str → Option Value}
    {ft c' cw cr cl x dx bl bt il wl : Addr} {name qual : Str} {params : Arguments} {fbody : List Stmt} {scope : Scope} {k1 k2 k3 : Str} {doc pm ctv : Value} {oc ow or ol ot : Obj}
    {h1 h2 h3 h4 h5 h6 : Int} {t1 t2 t3 t4 t5 t6 : Tok} {v1 v2 v3 v4 : Value} {nb nw ni : Nat} {ps : Array Value}
    (hR : RowP vs₀ sz' 1) (hz : sz' = sz) (N : News h₀ env.locals s.heap [(ft, fnMade name qual params fbody scope [(k1, cw), (k2, cr), (k3, cl)] doc pm c' ctv), (c', oc), (cw, ow), (cr, or), (cl, ol), (x, instObj 208 dx), (dx, arrD h1 h2 h3 h4 h5 h6 t1 t2 t3 t4 t5 t6 v1 v2 v3 v4 bl il), (bl, W.listOf #[.ref bt] nb), (bt, ot), (il, W.listOf vs₀.toArray ni), (wl, W.listOf #[] nw), ((285 : Addr), tabObj ps)]) (F : Fr h₀ env.locals s.heap m₀) (hr : IsRange s.heap r 1 sz 1 t₀ u₀ v₀) (hh : A.handled = none)
    (turn : ∀ (c : List Value) (pre : List Int) (k : Int) t (u : Str → Option Value) h tk own, 1 ≤ k → k < sz → GolF k → RowP c sz k → k = 1 + (pre.length : Int) → OwnOff own [ft, c', cw, cr, cl, x, dx, bl, bt, il, wl, (285 : Addr)] →
      Fr h₀ env.locals h (fun z => if z = y then some (.int k t) else kstB (fun z => if [Str.ofString "last", Str.ofString "number"].contains z then u z else m₀ z) [] z) → News h₀ env.locals h ([(ft, fnMade name qual params fbody scope [(k1, cw), (k2, cr), (k3, cl)] doc pm c' ctv), (c', oc), (cw, ow), (cr, or), (cl, ol), (x, instObj 208 dx), (dx, arrD h1 h2 h3 h4 h5 h6 t1 t2 t3 t4 t5 t6 v1 v2 v3 v4 bl il), (bl, W.listOf #[.ref bt] nb), (bt, ot), (il, W.listOf c.toArray ni), (wl, W.listOf #[] nw), ((285 : Addr), tabObj ps)] ++ own) →
      wpAny (model prog w) A (execs body env) (InvPostN h₀ env.locals (KstS (fun v => [(ft, fnMade name qual params fbody scope [(k1, cw), (k2, cr), (k3, cl)] doc pm c' ctv), (c', oc), (cw, ow), (cr, or), (cl, ol), (x, instObj 208 dx), (dx, arrD h1 h2 h3 h4 h5 h6 t1 t2 t3 t4 t5 t6 v1 v2 v3 v4 bl il), (bl, W.listOf #[.ref bt] nb), (bt, ot), (il, W.listOf v.toArray ni), (wl, W.listOf #[] nw), ((285 : Addr), tabObj ps)]) (fun _ => []) (fun _ => True) y [Str.ofString "last", Str.ofString "number"] m₀ (fun pre c => RowP c sz (1 + (pre.length : Int))) (pre ++ [k])) own [ft, c', cw, cr, cl, x, dx, bl, bt, il, wl, (285 : Addr)] { s with heap := h, toks := tk } Q) E { s with heap := h, toks := tk })
    (done : ∀ (c : List Value) (u : Str → Option Value) h tk, RowP c sz sz → Fr h₀ env.locals h (fun z => if z = y then u z else kstB (fun z => if [Str.ofString "last", Str.ofString "number"].contains z then u z else m₀ z) [] z) → News h₀ env.locals h [(ft, fnMade name qual params fbody scope [(k1, cw), (k2, cr), (k3, cl)] doc pm c' ctv), (c', oc), (cw, ow), (cr, or), (cl, ol), (x, instObj 208 dx), (dx, arrD h1 h2 h3 h4 h5 h6 t1 t2 t3 t4 t5 t6 v1 v2 v3 v4 bl il), (bl, W.listOf #[.ref bt] nb), (bt, ot), (il, W.listOf c.toArray ni), (wl, W.listOf #[] nw), ((285 : Addr), tabObj ps)] → Q .next { s with heap := h, toks := tk }) :
    wpAny (model prog w) A (pyIter (.ref r)) (fun it s₂ => LoopAtV prog w A h₀ env y body Q E it s₂) E s :=
  kst_row (fun v => [(ft, fnMade name qual params fbody scope [(k1, cw), (k2, cr), (k3, cl)] doc pm c' ctv), (c', oc), (cw, ow), (cr, or), (cl, ol), (x, instObj 208 dx), (dx, arrD h1 h2 h3 h4 h5 h6 t1 t2 t3 t4 t5 t6 v1 v2 v3 v4 bl il), (bl, W.listOf #[.ref bt] nb), (bt, ot), (il, W.listOf v.toArray ni), (wl, W.listOf #[] nw), ((285 : Addr), tabObj ps)]) hR hz N F hr hh turn done
end Mine
namespace Mine
/-- the row as the law's own maker has it before the number n -/
def madeTo (n : Nat) : List Int := [1, 2, 2, 3, 3, 4, 4, 4, 5, 5, 5, 6, 6, 6, 6, 7, 7, 7, 7, 8, 8, 8, 8, 9, 9, 9, 9, 9, 10, 10, 10, 10, 10].filter (fun x => decide (x < (n : Int)))
theorem made_nat : ∀ n : Nat, n < 12 → 3 ≤ n → n ≤ (madeTo n).length ∧ (madeTo n).length ≤ 33 ∧ (madeTo n).getD (n - 1) 0 = Gv n ∧ 0 ≤ Gv n ∧ Gv n ≤ 5 ∧ (n = 11 → (madeTo n).length = 33) ∧ (n ≤ 10 → madeTo n ++ (List.replicate (Gv n).toNat [(n : Int)]).flatten = madeTo (n + 1)) := by decide +kernel
theorem made_take : ∀ n : Nat, n < 12 → 3 ≤ n → ∀ k : Nat, k < 32 → k ≤ (madeTo n).length → (madeTo n).take k = G.take k := by decide +kernel
structure MadeF (n : Int) : Prop where
  b : n ≤ ((madeTo n.toNat).length : Int)
  c : ((madeTo n.toNat).length : Int) ≤ 33
  d : (madeTo n.toNat).getD (n - 1).toNat 0 = Gv n
  e : 0 ≤ Gv n
  f : Gv n ≤ 5
  g : n = 11 → ((madeTo n.toNat).length : Int) = 33
  h : n ≤ 10 → madeTo n.toNat ++ (List.replicate (Gv n).toNat [n]).flatten = madeTo (n + 1).toNat
theorem madeF {n : Int} (h3 : 3 ≤ n) (h11 : n ≤ 11) : MadeF n := by
  obtain ⟨k, rfl⟩ : ∃ k : Nat, n = (k : Int) := ⟨n.toNat, by omega⟩
  have h := made_nat k (by omega) (by omega)
  have e1 : ((k : Int)).toNat = k := by omega
  have e2 : ((k : Int) - 1).toNat = k - 1 := by omega
  have e3 : ((k : Int) + 1).toNat = k + 1 := by omega
  refine ⟨?_, ?_, ?_, h.2.2.2.1, h.2.2.2.2.1, ?_, ?_⟩
  · rw [e1]; omega
  · rw [e1]; omega
  · rw [e1, e2]; exact h.2.2.1
  · intro q; rw [e1]; have := h.2.2.2.2.2.1 (by omega); omega
  · intro q; rw [e1, e3]; exact h.2.2.2.2.2.2 (by omega)
def MadeP (vs : List Value) (n : Int) : Prop := 3 ≤ n ∧ n ≤ 11 ∧ IntsAre vs (madeTo n.toNat)
theorem made_end {vs : List Value} {n size : Int} (h3 : 3 ≤ n) (h11 : n ≤ 11) (h8 : 8 ≤ size) (h31 : size ≤ 31) (h : size ≤ ((madeTo n.toNat).length : Int)) (hI : IntsAre vs ((madeTo n.toNat).take size.toNat)) : IntsAre vs (G.take size.toNat) := by
  rw [made_take n.toNat (by omega) (by omega) size.toNat (by omega) (by omega)] at hI
  exact hI
abbrev MadeS := Addr × List Value × Int × Tok
theorem kst_made {prog : Program} {w : World} {A : Around} {E : Value → Shared → Prop} {Q : Flow → Shared → Prop} {s : Shared} {env : Env} {h₀ : Heap} {L : Addr} {test : Expr} {body : List Stmt} {pos : Pos} {m₀ : Str → Option Value} {D : Addr} {vs₀ : List Value} {t₀ : Tok}
    (F : Fr h₀ L s.heap m₀) (N : News h₀ L s.heap [(D, W.listOf vs₀.toArray 0)]) (hr : m₀ (Str.ofString "row") = some (.ref D)) (hn : m₀ (Str.ofString "number") = some (.int 3 t₀)) (hI : IntsAre vs₀ [1, 2, 2])
    (turn : ∀ (D : Addr) (vs : List Value) (n : Int) (t : Tok) (u : Str → Option Value) h tk, 3 ≤ n → n ≤ 11 → IntsAre vs (madeTo n.toNat) → MadeF n →
      Fr h₀ L h (kstB (fun z => if ([] : List Str).contains z then u z else m₀ z) [(Str.ofString "row", .ref D), (Str.ofString "number", .int n t)]) → News h₀ L h [(D, W.listOf vs.toArray 0)] →
      wpAny (model prog w) A (isTrue test env (eval test env)) (fun b s₂ =>
        if b = true then wpAny (model prog w) A (execs body env) (KswPost h₀ L s (fun c : MadeS => [(c.1, W.listOf c.2.1.toArray 0)]) (fun c : MadeS => [(Str.ofString "row", .ref c.1), (Str.ofString "number", .int c.2.2.1 c.2.2.2)]) (fun _ => True) [] m₀ (fun c : MadeS => MadeP c.2.1 c.2.2.1) (fun c : MadeS => (12 - c.2.2.1).toNat) Q (D, vs, n, t)) E s₂ else Q .next s₂) E { s with heap := h, toks := tk })
    (hE : PassesOwn (model prog w) A env E := by passes_own) :
    wpAny (model prog w) A (exec (.While test body [] pos) env) Q E s := by
  refine ksw_while (σ := MadeS) (fun c : MadeS => [(c.1, W.listOf c.2.1.toArray 0)]) (fun c : MadeS => [(Str.ofString "row", .ref c.1), (Str.ofString "number", .int c.2.2.1 c.2.2.2)]) (fun _ => True) [] (fun c : MadeS => MadeP c.2.1 c.2.2.1) (fun c : MadeS => (12 - c.2.2.1).toNat) (D, vs₀, 3, t₀) F N trivial ?_ ⟨Int.le_refl 3, (by decide : (3 : Int) ≤ 11), hI⟩ ?_ hE
  · intro p hp
    simp only [List.mem_cons, List.not_mem_nil, or_false] at hp
    rcases hp with rfl | rfl
    · exact hr
    · exact hn
  · rintro ⟨D, vs, n, t⟩ u h tk _ ⟨h3, h11, hI⟩ F' N'
    exact turn D vs n t u h tk h3 h11 hI (madeF h3 h11) F' N'
theorem made_close {s : Shared} {h₀ : Heap} {L : Addr} {m₀ m' : Str → Option Value} {D D1 : Addr} {vs ws : List Value} {n n1 : Int} {t t1 : Tok} {h' : Heap} {tk : Nat} {news' : List (Addr × Obj)}
    (F : Fr h₀ L h' m') (N : News h₀ L h' news') (hr : m' (Str.ofString "row") = some (.ref D1)) (hn : m' (Str.ofString "number") = some (.int n1 t1)) (hm : (D1, W.listOf ws.toArray 0) ∈ news') (e : n1 = n + 1) (h3 : 3 ≤ n) (h10 : n ≤ 10) (hM : MadeF n)
    (hI : IntsAre ws (madeTo n.toNat ++ (List.replicate ((madeTo n.toNat).getD (n - 1).toNat 0).toNat [n]).flatten)) (hoff : ∀ z, z ≠ Str.ofString "row" → z ≠ Str.ofString "number" → m' z = m₀ z) :
    KswEnd h₀ L s (fun c : MadeS => [(c.1, W.listOf c.2.1.toArray 0)]) (fun c : MadeS => [(Str.ofString "row", .ref c.1), (Str.ofString "number", .int c.2.2.1 c.2.2.2)]) (fun _ => True) [] m₀ (fun c : MadeS => MadeP c.2.1 c.2.2.1) (fun c : MadeS => (12 - c.2.2.1).toNat) (D, vs, n, t) { s with heap := h', toks := tk } := by
  subst e
  rw [hM.d, hM.h h10] at hI
  refine ksw_end (D1, ws, n + 1, t1) F N (fun p hp => ?_) trivial (fun p hp => ?_) (fun z h2 _ => ?_) ⟨by show (3 : Int) ≤ n + 1; omega, by show n + 1 ≤ (11 : Int); omega, hI⟩ (by show (12 - (n + 1)).toNat < (12 - n).toNat; omega)
  · rw [List.mem_singleton.mp hp]; exact hm
  · simp only [List.mem_cons, List.not_mem_nil, or_false] at hp
    rcases hp with rfl | rfl
    · exact hr
    · exact hn
  · exact hoff z (h2 _ (.head _)) (h2 _ (.tail _ (.head _)))
end Mine
namespace Mine
local macro_rules | `(tactic| k_room) => `(tactic| first | ((try simp only [depth_under_make, depth_under_kw, depth_in1, depth_deeper, depth_caller]); decide) | ((try simp only [depth_under_make, depth_under_kw, depth_in1, depth_deeper, depth_caller]); (try dsimp only [ktrTop]); (simp only [recursionLimit]); omega))
local macro_rules | `(tactic| walk_at "exec While Compare cons nil") => `(tactic| (k_here; (rename Fr _ _ _ _ => lF'); (rename News _ _ _ _ => lN'); k_dflt (refine' kst_made lF' (news_pick lN' ⟨?jm, trivial⟩) ?jr ?jn ?jI (fun D vs n t u h tk h3 h11 hI hM F' N' => ?_) ?jE; (case jm => k_mem); (case jr => rfl); (case jn => rfl); (case jI => exact IntsAre.cons _ _ (IntsAre.cons _ _ (IntsAre.cons _ _ IntsAre.nil))); (case jE => passes_own)); (clear lF' lN'); (have hMb := hM.b); (have hMc := hM.c); (have hMe := hM.e); (have hMf := hM.f); (have hMg := hM.g); (have hMd := hM.d); (try k_fold)))
local macro_rules | `(tactic| walk_at "KswEnd") => `(tactic| ((rename MadeF _ => hM9); k_dflt (refine' made_close ?jF ?jN ?jr ?jn ?jm ?je ?j3 ?j10 hM9 ?jI ?jo; (case jF => assumption); (case jN => assumption); (case jr => rfl); (case jn => rfl); (case jm => k_mem); (case je => rfl); (case j3 => assumption); (case j10 => ((have q9 := hM9.g); omega)); (case jI => assumption); (case jo => (intro z h1 h2; (simp only [if_neg h1, if_neg h2, kstB, List.contains_nil, Bool.false_eq_true, if_false]))))))
theorem made1 {prog : Program} {w : World} {p : Program} {loose : List Str} {mean : ExcName → Option Value} {mg mb : Str → Option Value}
  {dp un : Nat} {gd : Option (List Code)} {cn : Str} {cs : Scope} {a : Addr} {ccd : Value} {cl : List (Str × Addr)} {outer : List Env} {A₀ : Around} {base h₀ : Heap} {L : Addr} {m : Str → Option Value} {news : List (Addr × Obj)} {s : Shared} {Q E : Value → Shared → Prop}
  {size : Int} {t1 : Tok}
  (B : Below A₀ base outer h₀) (F : Fr h₀ L s.heap m) (X : (K w.params).In h₀) (N : News h₀ L s.heap news) (T : Top p loose mean mg mb h₀) (hk : cs.kind = .function) (hd : dp + 20 < 1000) (h8 : 8 ≤ size) (h31 : size ≤ 31)
  (ret : ∀ D ws h' tk', IntsAre ws (G.take size.toNat) → Fr h₀ L h' m → News h₀ L h' ((D, W.listOf ws.toArray 0) :: news) → (∀ q ∈ news, D ≠ q.1) → Q (.ref D) { s with heap := h', toks := tk' }) :
  wpAny (model prog w) (ktrTop dp un gd cn cs L a ccd cl outer) (call (.ref 283) [.int size t1]) Q E s := by
  refine wpAny_call ?_
  have ret' : ∀ r tl h' tk', Fr h₀ L h' m → News h₀ L h' (tl ++ news) → (∀ p ∈ tl, ∀ q ∈ news, p.1 ≠ q.1) → (∃ D ws, IntsAre ws (G.take size.toNat) ∧ r = .ref D ∧ tl = [(D, W.listOf ws.toArray 0)]) → Q r { s with heap := h', toks := tk' } := by
    rintro r tl h' tk' F' N' ap ⟨D, ws, hI, rfl, rfl⟩
    exact ret D ws h' tk' hI F' N' fun q hq => ap _ (.head _) q hq
  k_dflt (refine' code_defT [] _ ?k1 ?k2 ?k3 ?k4 ?k5 ?kA ?kF ?kK ?kS ?kP ?k6 ?k7 ?k8 ?k9 ?kB ?kh ?c2 ?c3 ?c4 ?c5; (case kA => exact rfl); (case kF => exact rfl); (case kK => assumption); (case k1 => k_asm); (case k2 => k_asm); (case k3 => k_asm); (case k4 => k_asm); (case k5 => k_asm); (case kS => exact fun _ h => nomatch h); (case kP => exact ret'); (case k6 => k_is); (case k7 => k_is); (case k8 => k_room); (case k9 => exact BindsTo.of_eq rfl); (case c5 => decide); (case kB => exact locs rfl); (case c2 => rfl); (case c3 => rfl); (case c4 => rfl))
  clear ret ret' F N B X T
  intro g' L' h' tk' F' N' B' X' T' l1
  clear l1
  all_goals try k_fold
  k_steps
  all_goals exact LeaveT.intro [(_, _)] (by assumption) (by assumption) ⟨by k_mem, trivial⟩ trivial (by ktu_offL) ⟨_, _, made_end (by assumption) (by assumption) (by assumption) (by assumption) (by omega) (by assumption), rfl, rfl⟩
end Mine
open Mine
theorem mod_abs {prog : Program} {w : World} {A : Around} {E : Value → Shared → Prop} {s : Shared} {a b : Int} {t u : Tok} {Q : Value → Shared → Prop} (hb : 0 < b) (h : ∀ r : Int, 0 ≤ r → r < b → Q (.int r s.toks) { s with toks := s.toks + 1 }) :
    wpAny (model prog w) A (binaryOp .Mod (.int a t) (.int b u)) Q E s :=
  mod_int' (by omega) (h _ (Int.fmod_nonneg_of_pos a hb) (Int.fmod_lt_of_pos a hb))
local macro_rules | `(tactic| k_in) => `(tactic| first | with_reducible assumption | exact Frag.In.keeps (by with_reducible assumption) (Fr.keep (by with_reducible assumption)))
local macro_rules | `(tactic| walk_at "binaryOp Mod int int") => `(tactic| (refine mod_abs (by decide) (fun r' hr0 hr1 => ?_)))
local macro_rules | `(tactic| walk_at "subscriptTail Name Slice ref ref") => `(tactic| (k_here; (with_reducible show wpAny _ _ (subscriptTail _ (PySem.Expr.Slice _ _ none _) (Value.ref _) (Value.ref _)) _ _ _); k_dflt (refine' kmk_slice_ints ?F ?N ?l ?p ?q ?i ?m ?c ?_ ?s ?t ?z; (case F => k_asm); (case N => k_asm); (case l => kmk_list); (case p => kmk_part); (case q => kmk_part); (case i => l_ints); (case m => first | exact kmk_from (by l_ints) (Int.natCast_nonneg _) | kmk_nums); (case c => kmk_len); (case s => with_unfolding_all rfl); (case t => kmk_pure); (case z => kmk_size)); intro D' ws' h' F' N' l1 hI' hC' hL'; (try simp only [Int.reduceNeg, Int.neg_neg, Int.reduceToNat] at hI' hC' hL'); (try k_lt l1); (try k_sweep)))
local macro_rules | `(tactic| walk_at "callWith ref nil nil") => `(tactic| (k_here; k_dflt (refine' callWith_K ?k1 ?k2 ?_; (case k1 => k_asm); (case k2 => k_is); k_whole)))
local macro_rules | `(tactic| walk_at "call ref") => `(tactic| (k_here; (with_reducible show wpAny _ _ (call (Value.ref 262) [Value.ref _, Value.ref _, Value.int _ _]) _ _ _); k_dflt (refine' item1_out ?B ?F ?X ?N ?T ?hk ?hd ?m1 ?m2 ?m3 ?m4 ?m5 ?lo ?_; (case hk => exact rfl); (case hd => first | decide | (simp only [depth_deeper, depth_caller]; decide)); (case B => k_asm); (case F => k_asm); (case X => k_asm); (case N => k_asm); (case T => k_asm); (case m1 => k_mem); (case m2 => k_mem); (case m3 => k_mem); (case m4 => k_mem); (case m5 => k_mem); (case lo => omega)); intro h' tk' F' N'; (try dsimp only); (try k_sweep)))
local macro_rules | `(tactic| walk_at "call ref") => `(tactic| (k_here; (with_reducible show wpAny _ _ (call (Value.ref 262) [Value.ref _, Value.ref _, Value.int _ _]) _ _ _); k_dflt (refine' item1_in ?B ?F ?X ?N ?T ?hk ?hd ?m1 ?m2 ?m3 ?m4 ?m5 ?lo ?hi ?_; (case hk => exact rfl); (case hd => first | decide | (simp only [depth_deeper, depth_caller]; decide)); (case B => k_asm); (case F => k_asm); (case X => k_asm); (case N => k_asm); (case T => k_asm); (case m1 => k_mem); (case m2 => k_mem); (case m3 => k_mem); (case m4 => k_mem); (case m5 => k_mem); (case lo => omega); (case hi => omega)); intro n' dn' e1' e2' e3' f1' f2' f3' f4' f5' j' h' tk' hj' F' N' ap1' ap2'; (simp only [List.forall_mem_cons, List.forall_mem_append, List.not_mem_nil, false_implies, implies_true, and_true] at ap1' ap2'); (try dsimp only); (try k_sweep)))
local macro_rules | `(tactic| walk_at "call ref") => `(tactic| (k_here; (with_reducible show wpAny _ _ (call (Value.ref 269) [Value.ref _]) _ _ _); k_dflt (refine' slot1_told ?B ?F ?X ?N ?T ?hk ?hd ?m1 ?m2 ?m3 ?m4 ?m5 ?hR ?hp ?hj ?hi ?hik ?_; (case hk => exact rfl); (case hd => first | decide | (simp only [depth_deeper, depth_caller]; decide)); (case B => k_asm); (case F => k_asm); (case X => k_asm); (case N => k_asm); (case T => k_asm); (case m1 => k_mem); (case m2 => k_mem); (case m3 => k_mem); (case m4 => k_mem); (case m5 => k_mem); (case hR => with_reducible assumption); (case hp => rfl); (case hj => omega); (case hi => omega); (case hik => omega)); intro t' h' tk' F' N'; (try dsimp only); (try k_sweep)))
local macro_rules | `(tactic| walk_at "setItem ref int") => `(tactic| (k_here; k_dflt (refine' row_set ?F ?N ?R ?U ?hj ?hl ?hx ?_; (case F => k_asm); (case N => k_asm); (case U => k_upd); (case R => first | with_reducible assumption | (refine row_zero ?_ ?_ rfl <;> omega)); (case hj => omega); (case hl => omega); (case hx => first | omega | rfl)); intro h' F' N' hR'; (have hE' := row_ex hR'); (clear hR'); (obtain ⟨vs', e', hR'⟩ := hE'); (rw [← e'] at N'); (clear e'); (try k_sweep)))
local macro_rules | `(tactic| walk_at "call builtin:isinstance") => `(tactic| (k_here; k_dflt (refine' isi_call ?k1 ?k2 ?k3 ?k4 ?_; (case k1 => k_in); (case k2 => k_types); (case k3 => k_is); (case k4 => intro e; cases e); k_whole)))
local macro_rules | `(tactic| walk_at "pyIter ref") => `(tactic| ((with_reducible show wpAny _ _ (pyIter (Value.ref _)) (fun it s₂ => LoopAtV _ _ _ _ _ _ _ _ _ it s₂) _ _); k_here; (rename Fr _ _ _ _ => lF'); (rename News _ _ _ _ => lN'); (rename IsRange _ _ _ _ _ _ _ _ => rgX); (rename RowP _ _ _ => hR9); k_dflt (have lN2 := pick_row lN' (by k_mem) (by k_mem) (by k_mem) (by k_mem) (by k_mem) (by k_mem) (by k_mem) (by k_mem) (by k_mem) (by k_mem) (by k_mem) (by k_mem)); (with_unfolding_all refine' kst_row1 hR9 ?hz lN2 lF' rgX (by rfl) (fun c pre k t u h tk own hk1 hk2 hG hRow hkp hoff F' N' => ?_) (fun c u h tk hRow F' N' => ?_)); (case hz => omega); (all_goals (clear lF' lN' lN2 rgX hR9)); (all_goals (try simp only [List.nil_append, List.cons_append] at N')); (all_goals (try simp only [List.nil_append, List.cons_append, List.map_cons, List.map_nil] at hoff)); (all_goals (try k_fold)); (all_goals (try (obtain ⟨hGa, hGb, hGc, hGd, hGe, hGf, hGg⟩ := hG)))))
local macro_rules | `(tactic| walk_at "InvEndN") => `(tactic| ((rename RowP _ _ _ => hR9); k_dflt (refine' kst_end _ ?jF ?jN ?jn ?jo ?ja trivial ?jk ?jr (row_cast hR9 rfl ?jz); (case jF => assumption); (case jN => assumption); (case ja => rfl); (case jn => kst_in); (case jo => first | (intro p hp; kst_mem) | kst_anyIn); (case jk => (intro p hp; cases hp)); (case jz => (simp only [List.length_append, List.length_cons, List.length_nil]; omega)); (case jr => (intro z h1 h2 h3; (have h4 := h3); (simp only [List.contains_cons, List.contains_nil, Bool.or_false, Bool.or_eq_false_iff, beq_eq_false_iff_ne, ne_eq] at h4); (simp only [if_neg h1, if_neg h4.1, if_neg h4.2, kstB, h3, Bool.false_eq_true, if_false]))))))
local macro_rules | `(tactic| walk_at "subscriptTail Name Slice ref ref") => `(tactic| (k_here; (with_reducible show wpAny _ _ (subscriptTail _ (PySem.Expr.Slice _ _ none _) (Value.ref _) (Value.ref _)) _ _ _); k_dflt (refine' row_slice ?F ?N ?m ?R ?h0 ?hy ?_ ?s ?t; (case F => k_asm); (case N => k_asm); (case m => k_mem); (case R => with_reducible assumption); (case h0 => omega); (case hy => rfl); (case s => with_unfolding_all rfl); (case t => kmk_pure)); intro D' ws' h' F' N' l1 hI'; (try k_lt l1); (try k_sweep)))
local macro_rules | `(tactic| walk_at "subscriptTail Attribute Name Slice ref ref") => `(tactic| (k_here; k_dflt (refine kba_turn (value' := PySem.Expr.Name (PySem.Str.ofString "a") ⟨0, 0, 0, 0⟩) (fun _ => rfl) ?_)))
theorem notin2_no {prog : Program} {w : World} {A : Around} {E : Value → Shared → Prop} {s : Shared} {T : Addr} {a b x : Int} {ta tb u : Tok} {Q : Value → Shared → Prop} (ht : IsTup s.heap T #[.int a ta, .int b tb]) (e : x = a ∨ x = b) (h : Q (.bool false) s) : wpAny (model prog w) A (compareOp .NotIn (.int x u) (.ref T)) Q E s := by
  refine notin_tuple_ints ht (ns := [a, b]) (.cons _ _ (.cons _ _ .nil)) ?_
  have q : ([a, b].any fun z => z == x) = true := by
    simp only [List.any_cons, List.any_nil, Bool.or_false, Bool.or_eq_true, beq_iff_eq]
    omega
  rw [q]
  exact h
local macro_rules | `(tactic| walk_at "compareOp NotIn int ref") => `(tactic| (k_here; k_dflt (refine' notin2_no ?jT ?je ?_; (case jT => exact News.isTup (by k_asm) (by k_mem)); (case je => omega))))
theorem ne_no {prog : Program} {w : World} {A : Around} {E : Value → Shared → Prop} {s : Shared} {a b : Int} {t u : Tok} {Q : Value → Shared → Prop} (e : a = b) (h : Q (.bool false) s) : wpAny (model prog w) A (compareOp .NotEq (.int a t) (.int b u)) Q E s := by
  refine ne_int ?_
  rw [bne_eq_false_iff_eq.mpr e]
  exact h
local macro_rules | `(tactic| walk_at "compareOp NotEq int int") => `(tactic| (k_here; (with_reducible refine ne_no ?e ?_); (case e => ((rename (Gv _ < Gv _ → _) => hg9); (refine hg9 ?_); (first | omega | ((rename (decide (_ < _) = true) => hd9); (have hd8 := of_decide_eq_true hd9); omega))))))
local macro_rules | `(tactic| walk_at "call ref") => `(tactic| (k_here; (with_reducible show wpAny _ _ (call (Value.ref 283) [Value.int _ _]) _ _ _); k_dflt (refine' made1 ?jB ?jF ?jX ?jN ?jT ?jk ?jd ?j8 ?j31 ?_; (case jk => exact rfl); (case jd => first | decide | (simp only [depth_deeper, depth_caller]; decide)); (case jB => k_asm); (case jF => k_asm); (case jX => k_asm); (case jN => k_asm); (case jT => k_asm); (case j8 => omega); (case j31 => omega)); intro D' ws' h' tk' hI' F' N' ap'; (try dsimp only); (try k_sweep)))
theorem row_eq {prog : Program} {w : World} {A : Around} {E : Value → Shared → Prop} {s : Shared} {h₀ : Heap} {L il D : Addr} {news : List (Addr × Obj)} {vs ws : List Value} {n nd : Nat} {sz : Int} {Q : Value → Shared → Prop}
    (N : News h₀ L s.heap news) (m1 : (il, W.listOf vs.toArray n) ∈ news) (m2 : (D, W.listOf ws.toArray nd) ∈ news) (R : RowP vs sz sz) (hI : IntsAre ws (G.take sz.toNat)) (hu : A.units + 64 < cLine) (h : Q (.bool true) s) :
    wpAny (model prog w) A (compareOp .Eq (.ref il) (.ref D)) Q E s := by
  obtain ⟨ns, hI', hl, h8, h31, h0, h1, ht⟩ := R
  have e : ns = G.take sz.toNat := by
    rw [← ht, List.take_of_length_le (by omega)]
  subst e
  refine eq_intsK (News.isList N m1) hI' (News.isList N m2) hI hu ?_
  rw [decide_eq_true rfl]
  exact h
local macro_rules | `(tactic| walk_at "compareOp Eq ref ref") => `(tactic| (k_here; k_dflt (refine' row_eq ?jN ?j1 ?j2 ?jR ?jI ?ju ?_; (case jN => k_asm); (case j1 => k_mem); (case j2 => k_mem); (case jR => with_reducible assumption); (case jI => with_reducible assumption); (case ju => first | units_room | exact Nat.le_of_ble_eq_true rfl))))
theorem PySem.Challenge.cw_xw0302_01_holds : PySem.Challenge.rw_xw0302_01.Holds := by
  (w_on; o_law; refine holds_open (q := Mine.qv) (loose := [Str.ofString "SnobolError"]) (Xt := fun s => xlAt Mine.qv [] s && recOk (OpenLaw.row PySem.Challenge.rw_xw0302_01).records s) (XP := XL Mine.qv []) (Yf := Hook.obs (kmHook Mine.K Mine.addrs Mine.addrs_ok [285])) (Ya := Hook.val (kmHook Mine.K Mine.addrs Mine.addrs_ok [285])) (YP := Hook.says (kmHook Mine.K Mine.addrs Mine.addrs_ok [285])) (N := 4868) Mine.left (Hook.of (kmHook Mine.K Mine.addrs Mine.addrs_ok [285])) (Hook.keeps (kmHook Mine.K Mine.addrs Mine.addrs_ok [285])) (fun s e => xl_of s (Bool.and_eq_true_iff.mp e).1) XL.keeps (by rfl) (by rfl) (by rfl) (fun s e => recFacts_of (Bool.and_eq_true_iff.mp e).2) (by rfl) (by first | assumption | decide +kernel) (by decide +kernel) ⟨rfl, rfl, rfl, rfl, rfl, by decide +kernel⟩ ?hw ?hc; (case hw => w_witness2))
  (with_reducible rename ((_ : Bool) = true) => sd9)
  clear sd9
  k_go0
  all_goals try k_fold
  k_steps
