import PyProof.Rows.All
import Wide.All
import OpenK.AllK
import Wide.FinOn
import PySem.Challenge.RW_rh0078_01
open PySem PySem.W PyProof.Rows
set_option Elab.async false
set_option maxRecDepth 100000
set_option maxHeartbeats 8000000
namespace Mine

section
open PySem PySem.W PyProof.Rows
abbrev pw : Program := PySem.Challenge.pw_rh0078_01
noncomputable def top (i : Nat) : Stmt := (pw.main.body[i]?).getD (.Pass default)
noncomputable def meth (i j : Nat) : Stmt := match top i with
  | .ClassDef _ _ _ b _ _ _ _ _ _ _ => (b[j]?).getD (.Pass default)
  | s => s
noncomputable def fnObj (st : Stmt) (qual : Str) (dv : Value) (mod : Str) (tk : Nat) (code : Addr) : Obj := match st with
  | .FunctionDef name ps b _ _ _ sc _ _ _ => { cls := .type "function", data := .func { name := name, qualname := qual, params := ps, body := .stmts b, scope := sc, globals := 3, closure := [], defaults := dv, kwdefaults := .none, pyModule := .str mod tk, code := .ref code } }
  | _ => default
noncomputable def hd.view_39 : Program := view pw [0, 2, 3, 4, 5, 6, 7, 8, 10, 11, 12, 14, 15, 16, 17, 18, 19, 21, 22, 23, 24, 26, 27, 28]
noncomputable def hd.heap_39 : Params → Frag := fun P =>
  (nat_lit 2, ({ cls := Value.none, data := Data.dict #[{ hash := PyData.keyHash P (Str.ofString "type.__subclasses__.Exception.0"), key := Value.str (Str.ofString "type.__subclasses__.Exception.0") 212, val := Value.int 31 0 }, { hash := PyData.keyHash P (Str.ofString "type.__subclasses__.Exception.n"), key := Value.str (Str.ofString "type.__subclasses__.Exception.n") 213, val := Value.int 1 0 }] 2 } : Obj)) ::
  (nat_lit 3, ({ cls := Value.type "dict", data := Data.dict #[{ hash := PyData.keyHash P (Str.ofString "__name__"), key := Value.str (Str.ofString "__name__") 165, val := Value.str (Str.ofString "law_rh0078_01") 640 }, { hash := PyData.keyHash P (Str.ofString "__doc__"), key := Value.str (Str.ofString "__doc__") 166, val := Value.none }, { hash := PyData.keyHash P (Str.ofString "__package__"), key := Value.str (Str.ofString "__package__") 167, val := Value.none }, { hash := PyData.keyHash P (Str.ofString "__loader__"), key := Value.str (Str.ofString "__loader__") 168, val := Value.builtin "__main__.__loader__#opaque" }, { hash := PyData.keyHash P (Str.ofString "__spec__"), key := Value.str (Str.ofString "__spec__") 169, val := Value.none }, { hash := PyData.keyHash P (Str.ofString "__annotations__"), key := Value.str (Str.ofString "__annotations__") 170, val := Value.ref 6 }, { hash := PyData.keyHash P (Str.ofString "__builtins__"), key := Value.str (Str.ofString "__builtins__") 171, val := Value.ref 4 }, { hash := PyData.keyHash P (Str.ofString "__file__"), key := Value.str (Str.ofString "__file__") 173, val := Value.str (Str.ofString "/claim/cut.py") 172 }, { hash := PyData.keyHash P (Str.ofString "__cached__"), key := Value.str (Str.ofString "__cached__") 174, val := Value.none }, { hash := PyData.keyHash P (Str.ofString "_wall"), key := Value.str (Str.ofString "_wall") 193, val := Value.ref 21 }, { hash := PyData.keyHash P (Str.ofString "ClausemillError"), key := Value.str (Str.ofString "ClausemillError") 215, val := Value.ref 31 }, { hash := PyData.keyHash P (Str.ofString "PrologError"), key := Value.str (Str.ofString "PrologError") 240, val := Value.ref 51 }, { hash := PyData.keyHash P (Str.ofString "A_SYSTEM"), key := Value.str (Str.ofString "A_SYSTEM") 242, val := Value.int 25 241 }, { hash := PyData.keyHash P (Str.ofString "F_ERROR"), key := Value.str (Str.ofString "F_ERROR") 244, val := Value.int 16 243 }, { hash := PyData.keyHash P (Str.ofString "fixed_atoms"), key := Value.str (Str.ofString "fixed_atoms") 250, val := Value.ref 60 }, { hash := PyData.keyHash P (Str.ofString "fixed_functors"), key := Value.str (Str.ofString "fixed_functors") 256, val := Value.ref 67 }, { hash := PyData.keyHash P (Str.ofString "Symbols"), key := Value.str (Str.ofString "Symbols") 375, val := Value.ref 154 }, { hash := PyData.keyHash P (Str.ofString "system_error"), key := Value.str (Str.ofString "system_error") 384, val := Value.ref 165 }, { hash := PyData.keyHash P (Str.ofString "formal_of"), key := Value.str (Str.ofString "formal_of") 395, val := Value.ref 172 }, { hash := PyData.keyHash P (Str.ofString "resource_error"), key := Value.str (Str.ofString "resource_error") 403, val := Value.ref 179 }, { hash := PyData.keyHash P (Str.ofString "REF"), key := Value.str (Str.ofString "REF") 407, val := Value.int 0 406 }, { hash := PyData.keyHash P (Str.ofString "SRF"), key := Value.str (Str.ofString "SRF") 409, val := Value.int 1 408 }, { hash := PyData.keyHash P (Str.ofString "STR"), key := Value.str (Str.ofString "STR") 411, val := Value.int 2 410 }, { hash := PyData.keyHash P (Str.ofString "LIS"), key := Value.str (Str.ofString "LIS") 413, val := Value.int 3 412 }, { hash := PyData.keyHash P (Str.ofString "INT"), key := Value.str (Str.ofString "INT") 415, val := Value.int 5 414 }, { hash := PyData.keyHash P (Str.ofString "Cells"), key := Value.str (Str.ofString "Cells") 601, val := Value.ref 323 }, { hash := PyData.keyHash P (Str.ofString "forward_table"), key := Value.str (Str.ofString "forward_table") 613, val := Value.ref 334 }, { hash := PyData.keyHash P (Str.ofString "is_pointer"), key := Value.str (Str.ofString "is_pointer") 620, val := Value.ref 341 }, { hash := PyData.keyHash P (Str.ofString "moved"), key := Value.str (Str.ofString "moved") 628, val := Value.ref 348 }, { hash := PyData.keyHash P (Str.ofString "slide"), key := Value.str (Str.ofString "slide") 639, val := Value.ref 355 }, { hash := PyData.keyHash P (Str.ofString "_law_pick"), key := Value.str (Str.ofString "_law_pick") 650, val := Value.ref 362 }, { hash := PyData.keyHash P (Str.ofString "_law_filled"), key := Value.str (Str.ofString "_law_filled") 660, val := Value.ref 369 }, { hash := PyData.keyHash P (Str.ofString "law"), key := Value.str (Str.ofString "law") 666, val := Value.ref 374 }] 33 } : Obj)) ::
  (nat_lit 59, ({ cls := Value.type "code", data := Data.fields #[Value.str (Str.ofString "fixed_atoms") 245, Value.str (Str.ofString "fixed_atoms") 246, Value.str (Str.ofString "/claim/cut.py") 247, Value.int 13 0, Value.int 0 0, Value.int 0 0, Value.int 0 0, Value.int 3 0, Value.ref 54, Value.bool true, Value.int 181 0, Value.ref 55, Value.none, Value.ref 56, Value.ref 57, Value.ref 58, Value.int 248 0, Value.int 13 0, Value.str (Str.ofString "/claim/cut.py") 249] } : Obj)) ::
  (nat_lit 60, fnObj (top 6) "fixed_atoms" (Value.none) "clausemill.symbols" 194 59) ::
  (nat_lit 66, ({ cls := Value.type "code", data := Data.fields #[Value.str (Str.ofString "fixed_functors") 251, Value.str (Str.ofString "fixed_functors") 252, Value.str (Str.ofString "/claim/cut.py") 253, Value.int 15 0, Value.int 0 0, Value.int 0 0, Value.int 0 0, Value.int 3 0, Value.ref 61, Value.bool true, Value.int 181 0, Value.ref 62, Value.none, Value.ref 63, Value.ref 64, Value.ref 65, Value.int 254 0, Value.int 15 0, Value.str (Str.ofString "/claim/cut.py") 255] } : Obj)) ::
  (nat_lit 67, fnObj (top 7) "fixed_functors" (Value.none) "clausemill.symbols" 194 66) ::
  (nat_lit 80, ({ cls := Value.type "code", data := Data.fields #[Value.str (Str.ofString "__init__") 269, Value.str (Str.ofString "Symbols.__init__") 270, Value.str (Str.ofString "/claim/cut.py") 271, Value.int 19 0, Value.int 1 0, Value.int 0 0, Value.int 0 0, Value.int 3 0, Value.ref 75, Value.bool true, Value.int 181 0, Value.ref 76, Value.none, Value.ref 77, Value.ref 78, Value.ref 79, Value.int 275 0, Value.int 19 0, Value.str (Str.ofString "/claim/cut.py") 276] } : Obj)) ::
  (nat_lit 81, fnObj (meth 8 0) "Symbols.__init__" (Value.none) "clausemill.symbols" 194 80) ::
  (nat_lit 87, ({ cls := Value.type "code", data := Data.fields #[Value.str (Str.ofString "atom") 278, Value.str (Str.ofString "Symbols.atom") 279, Value.str (Str.ofString "/claim/cut.py") 280, Value.int 29 0, Value.int 2 0, Value.int 0 0, Value.int 0 0, Value.int 3 0, Value.ref 82, Value.bool true, Value.int 181 0, Value.ref 83, Value.none, Value.ref 84, Value.ref 85, Value.ref 86, Value.int 285 0, Value.int 29 0, Value.str (Str.ofString "/claim/cut.py") 286] } : Obj)) ::
  (nat_lit 88, fnObj (meth 8 1) "Symbols.atom" (Value.none) "clausemill.symbols" 194 87) ::
  (nat_lit 101, ({ cls := Value.type "code", data := Data.fields #[Value.str (Str.ofString "functor") 296, Value.str (Str.ofString "Symbols.functor") 297, Value.str (Str.ofString "/claim/cut.py") 298, Value.int 41 0, Value.int 3 0, Value.int 0 0, Value.int 0 0, Value.int 3 0, Value.ref 96, Value.bool true, Value.int 181 0, Value.ref 97, Value.none, Value.ref 98, Value.ref 99, Value.ref 100, Value.int 305 0, Value.int 41 0, Value.str (Str.ofString "/claim/cut.py") 306] } : Obj)) ::
  (nat_lit 102, fnObj (meth 8 3) "Symbols.functor" (Value.none) "clausemill.symbols" 194 101) ::
  (nat_lit 108, ({ cls := Value.type "code", data := Data.fields #[Value.str (Str.ofString "func") 308, Value.str (Str.ofString "Symbols.func") 309, Value.str (Str.ofString "/claim/cut.py") 310, Value.int 51 0, Value.int 3 0, Value.int 0 0, Value.int 0 0, Value.int 3 0, Value.ref 103, Value.bool true, Value.int 181 0, Value.ref 104, Value.none, Value.ref 105, Value.ref 106, Value.ref 107, Value.int 314 0, Value.int 51 0, Value.str (Str.ofString "/claim/cut.py") 315] } : Obj)) ::
  (nat_lit 109, fnObj (meth 8 4) "Symbols.func" (Value.none) "clausemill.symbols" 194 108) ::
  (nat_lit 152, ({ cls := Value.type "tuple", data := Data.seq #[Value.str (Str.ofString "atom_numbers") 364, Value.str (Str.ofString "functor_numbers") 365, Value.str (Str.ofString "functors") 366, Value.str (Str.ofString "texts") 367] } : Obj)) ::
  (nat_lit 153, ({ cls := Value.type "dict", data := Data.dict #[{ hash := PyData.keyHash P (Str.ofString "__module__"), key := Value.str (Str.ofString "__module__") 264, val := Value.str (Str.ofString "clausemill.symbols") 194 }, { hash := PyData.keyHash P (Str.ofString "__firstlineno__"), key := Value.str (Str.ofString "__firstlineno__") 268, val := Value.int 17 267 }, { hash := PyData.keyHash P (Str.ofString "__init__"), key := Value.str (Str.ofString "__init__") 277, val := Value.ref 81 }, { hash := PyData.keyHash P (Str.ofString "atom"), key := Value.str (Str.ofString "atom") 287, val := Value.ref 88 }, { hash := PyData.keyHash P (Str.ofString "text"), key := Value.str (Str.ofString "text") 295, val := Value.ref 95 }, { hash := PyData.keyHash P (Str.ofString "functor"), key := Value.str (Str.ofString "functor") 307, val := Value.ref 102 }, { hash := PyData.keyHash P (Str.ofString "func"), key := Value.str (Str.ofString "func") 316, val := Value.ref 109 }, { hash := PyData.keyHash P (Str.ofString "name"), key := Value.str (Str.ofString "name") 324, val := Value.ref 116 }, { hash := PyData.keyHash P (Str.ofString "arity"), key := Value.str (Str.ofString "arity") 332, val := Value.ref 123 }, { hash := PyData.keyHash P (Str.ofString "label"), key := Value.str (Str.ofString "label") 340, val := Value.ref 130 }, { hash := PyData.keyHash P (Str.ofString "count"), key := Value.str (Str.ofString "count") 347, val := Value.ref 137 }, { hash := PyData.keyHash P (Str.ofString "functor_count"), key := Value.str (Str.ofString "functor_count") 354, val := Value.ref 144 }, { hash := PyData.keyHash P (Str.ofString "known"), key := Value.str (Str.ofString "known") 363, val := Value.ref 151 }, { hash := PyData.keyHash P (Str.ofString "__static_attributes__"), key := Value.str (Str.ofString "__static_attributes__") 368, val := Value.ref 152 }, { hash := PyData.keyHash P (Str.ofString "__dict__"), key := Value.str (Str.ofString "__dict__") 370, val := Value.ref 155 }, { hash := PyData.keyHash P (Str.ofString "__weakref__"), key := Value.str (Str.ofString "__weakref__") 372, val := Value.ref 156 }, { hash := PyData.keyHash P (Str.ofString "__doc__"), key := Value.str (Str.ofString "__doc__") 373, val := Value.none }] 4 } : Obj)) ::
  (nat_lit 154, ({ cls := Value.type "type", data := Data.cls { name := Str.ofString "Symbols", bases := [Value.type "object"], mro := [Value.ref 154, Value.type "object"], ns := 153, qualname := Str.ofString "Symbols" }, slots := #[none, none, some (Value.str (Str.ofString "Symbols") 257), some (Value.str (Str.ofString "Symbols") 265), some (Value.builtin "object.__new__"), some (Value.bool true)] } : Obj)) ::
  (nat_lit 155, ({ cls := Value.type "getset_descriptor", data := Data.fields #[Value.str (Str.ofString "__dict__") 369, Value.ref 154, Value.builtin "function.__dict__", Value.builtin "function.__dict__#set"] } : Obj)) ::
  (nat_lit 156, ({ cls := Value.type "getset_descriptor", data := Data.fields #[Value.str (Str.ofString "__weakref__") 371, Value.ref 154, Value.builtin "ExceptionGroup.__weakref__", Value.none] } : Obj)) ::
  (nat_lit 187, ({ cls := Value.type "tuple", data := Data.seq #[Value.int 100000 428] } : Obj)) ::
  (nat_lit 193, ({ cls := Value.type "code", data := Data.fields #[Value.str (Str.ofString "__init__") 429, Value.str (Str.ofString "Cells.__init__") 430, Value.str (Str.ofString "/claim/cut.py") 431, Value.int 89 0, Value.int 3 0, Value.int 0 0, Value.int 0 0, Value.int 3 0, Value.ref 188, Value.bool true, Value.int 181 0, Value.ref 189, Value.none, Value.ref 190, Value.ref 191, Value.ref 192, Value.int 435 0, Value.int 89 0, Value.str (Str.ofString "/claim/cut.py") 436] } : Obj)) ::
  (nat_lit 194, fnObj (meth 19 0) "Cells.__init__" (Value.ref 187) "clausemill.store" 404 193) ::
  (nat_lit 200, ({ cls := Value.type "code", data := Data.fields #[Value.str (Str.ofString "push") 438, Value.str (Str.ofString "Cells.push") 439, Value.str (Str.ofString "/claim/cut.py") 440, Value.int 98 0, Value.int 2 0, Value.int 0 0, Value.int 0 0, Value.int 3 0, Value.ref 195, Value.bool true, Value.int 181 0, Value.ref 196, Value.none, Value.ref 197, Value.ref 198, Value.ref 199, Value.int 444 0, Value.int 98 0, Value.str (Str.ofString "/claim/cut.py") 445] } : Obj)) ::
  (nat_lit 201, fnObj (meth 19 1) "Cells.push" (Value.none) "clausemill.store" 404 200) ::
  (nat_lit 221, ({ cls := Value.type "code", data := Data.fields #[Value.str (Str.ofString "trim") 462, Value.str (Str.ofString "Cells.trim") 463, Value.str (Str.ofString "/claim/cut.py") 464, Value.int 111 0, Value.int 2 0, Value.int 0 0, Value.int 0 0, Value.int 3 0, Value.ref 216, Value.bool true, Value.int 181 0, Value.ref 217, Value.none, Value.ref 218, Value.ref 219, Value.ref 220, Value.int 467 0, Value.int 111 0, Value.str (Str.ofString "/claim/cut.py") 468] } : Obj)) ::
  (nat_lit 222, fnObj (meth 19 4) "Cells.trim" (Value.none) "clausemill.store" 404 221) ::
  (nat_lit 321, ({ cls := Value.type "tuple", data := Data.seq #[Value.str (Str.ofString "bb") 587, Value.str (Str.ofString "hb") 588, Value.str (Str.ofString "heap") 589, Value.str (Str.ofString "max_heap") 590, Value.str (Str.ofString "stack") 591, Value.str (Str.ofString "symbols") 592, Value.str (Str.ofString "trail") 593] } : Obj)) ::
  (nat_lit 322, ({ cls := Value.type "dict", data := Data.dict #[{ hash := PyData.keyHash P (Str.ofString "__module__"), key := Value.str (Str.ofString "__module__") 423, val := Value.str (Str.ofString "clausemill.store") 404 }, { hash := PyData.keyHash P (Str.ofString "__firstlineno__"), key := Value.str (Str.ofString "__firstlineno__") 427, val := Value.int 87 426 }, { hash := PyData.keyHash P (Str.ofString "__init__"), key := Value.str (Str.ofString "__init__") 437, val := Value.ref 194 }, { hash := PyData.keyHash P (Str.ofString "push"), key := Value.str (Str.ofString "push") 446, val := Value.ref 201 }, { hash := PyData.keyHash P (Str.ofString "new_var"), key := Value.str (Str.ofString "new_var") 453, val := Value.ref 208 }, { hash := PyData.keyHash P (Str.ofString "reserve"), key := Value.str (Str.ofString "reserve") 461, val := Value.ref 215 }, { hash := PyData.keyHash P (Str.ofString "trim"), key := Value.str (Str.ofString "trim") 469, val := Value.ref 222 }, { hash := PyData.keyHash P (Str.ofString "deref"), key := Value.str (Str.ofString "deref") 477, val := Value.ref 229 }, { hash := PyData.keyHash P (Str.ofString "is_unbound"), key := Value.str (Str.ofString "is_unbound") 485, val := Value.ref 236 }, { hash := PyData.keyHash P (Str.ofString "bind"), key := Value.str (Str.ofString "bind") 494, val := Value.ref 243 }, { hash := PyData.keyHash P (Str.ofString "bind_pair"), key := Value.str (Str.ofString "bind_pair") 503, val := Value.ref 250 }, { hash := PyData.keyHash P (Str.ofString "globalise"), key := Value.str (Str.ofString "globalise") 511, val := Value.ref 257 }, { hash := PyData.keyHash P (Str.ofString "mark"), key := Value.str (Str.ofString "mark") 518, val := Value.ref 264 }, { hash := PyData.keyHash P (Str.ofString "undo_to"), key := Value.str (Str.ofString "undo_to") 528, val := Value.ref 271 }, { hash := PyData.keyHash P (Str.ofString "stack_put"), key := Value.str (Str.ofString "stack_put") 537, val := Value.ref 278 }, { hash := PyData.keyHash P (Str.ofString "is_compound"), key := Value.str (Str.ofString "is_compound") 545, val := Value.ref 285 }, { hash := PyData.keyHash P (Str.ofString "functor_of"), key := Value.str (Str.ofString "functor_of") 553, val := Value.ref 292 }, { hash := PyData.keyHash P (Str.ofString "width"), key := Value.str (Str.ofString "width") 561, val := Value.ref 299 }, { hash := PyData.keyHash P (Str.ofString "base"), key := Value.str (Str.ofString "base") 569, val := Value.ref 306 }, { hash := PyData.keyHash P (Str.ofString "arg"), key := Value.str (Str.ofString "arg") 578, val := Value.ref 313 }, { hash := PyData.keyHash P (Str.ofString "new_block"), key := Value.str (Str.ofString "new_block") 586, val := Value.ref 320 }, { hash := PyData.keyHash P (Str.ofString "__static_attributes__"), key := Value.str (Str.ofString "__static_attributes__") 594, val := Value.ref 321 }, { hash := PyData.keyHash P (Str.ofString "__dict__"), key := Value.str (Str.ofString "__dict__") 596, val := Value.ref 324 }, { hash := PyData.keyHash P (Str.ofString "__weakref__"), key := Value.str (Str.ofString "__weakref__") 598, val := Value.ref 325 }, { hash := PyData.keyHash P (Str.ofString "__doc__"), key := Value.str (Str.ofString "__doc__") 599, val := Value.none }] 4 } : Obj)) ::
  (nat_lit 323, ({ cls := Value.type "type", data := Data.cls { name := Str.ofString "Cells", bases := [Value.type "object"], mro := [Value.ref 323, Value.type "object"], ns := 322, qualname := Str.ofString "Cells" }, slots := #[none, none, some (Value.str (Str.ofString "Cells") 416), some (Value.str (Str.ofString "Cells") 424), some (Value.builtin "object.__new__"), some (Value.bool true)] } : Obj)) ::
  (nat_lit 324, ({ cls := Value.type "getset_descriptor", data := Data.fields #[Value.str (Str.ofString "__dict__") 595, Value.ref 323, Value.builtin "function.__dict__", Value.builtin "function.__dict__#set"] } : Obj)) ::
  (nat_lit 325, ({ cls := Value.type "getset_descriptor", data := Data.fields #[Value.str (Str.ofString "__weakref__") 597, Value.ref 323, Value.builtin "ExceptionGroup.__weakref__", Value.none] } : Obj)) ::
  (nat_lit 333, ({ cls := Value.type "code", data := Data.fields #[Value.str (Str.ofString "forward_table") 604, Value.str (Str.ofString "forward_table") 605, Value.str (Str.ofString "/claim/cut.py") 606, Value.int 164 0, Value.int 1 0, Value.int 0 0, Value.int 0 0, Value.int 3 0, Value.ref 328, Value.bool true, Value.int 181 0, Value.ref 329, Value.none, Value.ref 330, Value.ref 331, Value.ref 332, Value.int 611 0, Value.int 164 0, Value.str (Str.ofString "/claim/cut.py") 612] } : Obj)) ::
  (nat_lit 334, fnObj (top 21) "forward_table" (Value.none) "clausemill.collector" 602 333) ::
  (nat_lit 340, ({ cls := Value.type "code", data := Data.fields #[Value.str (Str.ofString "is_pointer") 614, Value.str (Str.ofString "is_pointer") 615, Value.str (Str.ofString "/claim/cut.py") 616, Value.int 172 0, Value.int 1 0, Value.int 0 0, Value.int 0 0, Value.int 3 0, Value.ref 335, Value.bool true, Value.int 181 0, Value.ref 336, Value.none, Value.ref 337, Value.ref 338, Value.ref 339, Value.int 618 0, Value.int 172 0, Value.str (Str.ofString "/claim/cut.py") 619] } : Obj)) ::
  (nat_lit 341, fnObj (top 22) "is_pointer" (Value.none) "clausemill.collector" 602 340) ::
  (nat_lit 347, ({ cls := Value.type "code", data := Data.fields #[Value.str (Str.ofString "moved") 621, Value.str (Str.ofString "moved") 622, Value.str (Str.ofString "/claim/cut.py") 623, Value.int 174 0, Value.int 2 0, Value.int 0 0, Value.int 0 0, Value.int 3 0, Value.ref 342, Value.bool true, Value.int 181 0, Value.ref 343, Value.none, Value.ref 344, Value.ref 345, Value.ref 346, Value.int 626 0, Value.int 174 0, Value.str (Str.ofString "/claim/cut.py") 627] } : Obj)) ::
  (nat_lit 348, fnObj (top 23) "moved" (Value.none) "clausemill.collector" 602 347) ::
  (nat_lit 354, ({ cls := Value.type "code", data := Data.fields #[Value.str (Str.ofString "slide") 629, Value.str (Str.ofString "slide") 630, Value.str (Str.ofString "/claim/cut.py") 631, Value.int 178 0, Value.int 3 0, Value.int 0 0, Value.int 0 0, Value.int 3 0, Value.ref 349, Value.bool true, Value.int 181 0, Value.ref 350, Value.none, Value.ref 351, Value.ref 352, Value.ref 353, Value.int 637 0, Value.int 178 0, Value.str (Str.ofString "/claim/cut.py") 638] } : Obj)) ::
  (nat_lit 355, fnObj (top 24) "slide" (Value.none) "clausemill.collector" 602 354) ::
  (nat_lit 361, ({ cls := Value.type "code", data := Data.fields #[Value.str (Str.ofString "_law_pick") 642, Value.str (Str.ofString "_law_pick") 643, Value.str (Str.ofString "/claim/cut.py") 644, Value.int 185 0, Value.int 2 0, Value.int 0 0, Value.int 0 0, Value.int 3 0, Value.ref 356, Value.bool true, Value.int 181 0, Value.ref 357, Value.none, Value.ref 358, Value.ref 359, Value.ref 360, Value.int 648 0, Value.int 185 0, Value.str (Str.ofString "/claim/cut.py") 649] } : Obj)) ::
  (nat_lit 362, fnObj (top 26) "_law_pick" (Value.none) "law_rh0078_01" 640 361) ::
  (nat_lit 368, ({ cls := Value.type "code", data := Data.fields #[Value.str (Str.ofString "_law_filled") 651, Value.str (Str.ofString "_law_filled") 652, Value.str (Str.ofString "/claim/cut.py") 653, Value.int 192 0, Value.int 2 0, Value.int 0 0, Value.int 0 0, Value.int 3 0, Value.ref 363, Value.bool true, Value.int 181 0, Value.ref 364, Value.none, Value.ref 365, Value.ref 366, Value.ref 367, Value.int 658 0, Value.int 192 0, Value.str (Str.ofString "/claim/cut.py") 659] } : Obj)) ::
  (nat_lit 369, fnObj (top 27) "_law_filled" (Value.none) "law_rh0078_01" 640 368) :: []
noncomputable def asK : List Addr := [2, 3, 59, 60, 66, 67, 80, 81, 87, 88, 101, 102, 108, 109, 152, 153, 154, 155, 156, 187, 193, 194, 200, 201, 221, 222, 321, 322, 323, 324, 325, 333, 334, 340, 341, 347, 348, 354, 355, 361, 362, 368, 369]
theorem asK_eq (P : Params) : asK = (hd.heap_39 P).map (·.1) := by kernel_rfl
/-- the top's run over a heap that stands as a tree; the step is the library's quick one -/
noncomputable def stp (p : Program) (w : World) : SharedT → Thread → Option (SharedT × Thread) := Fast.tw10156331382660048174 (Fast.tw11892475500146522536 Fast.tw14364793385576792824) p w
theorem stp_eq (p : Program) (w : World) : stp p w = stepT (denote treeTable) p w := by
  unfold stp
  rw [← Fast.te10156331382660048174, ← Fast.te11892475500146522536, ← Fast.te14364793385576792824]
noncomputable def okT : Nat → Option Value → Thread → Bool := Fast.tw6613529449190102663
theorem okT_eq : okT = stepOk := Fast.te6613529449190102663.symm
noncomputable def topRunT (p : Program) (w : World) (n₀ : Nat) (ann : Option Value) : Nat → SharedT → Thread → Option SharedT
  | 0, _, _ => none
  | n + 1, s, t => match through t with
    | true => some s
    | false => match okT n₀ ann t with
      | false => none
      | true => match stp p w s t with
        | some (s', t') => topRunT p w n₀ ann n s' t'
        | none => none
theorem topRunT_spec {p : Program} {w : World} {n₀ : Nat} {ann : Option Value} : ∀ (n : Nat) (s : SharedT) (t : Thread) (r : SharedT), topRunT p w n₀ ann n s t = some r → topRun treeTable p w n₀ ann n s.abs t = some r.abs
  | 0, _, _, _, h => by cases h
  | n + 1, s, t, r, h => by
    unfold topRunT at h
    unfold topRun
    cases ht : through t with
    | true => rw [ht] at h; cases h; rfl
    | false =>
      rw [ht, okT_eq] at h
      cases hk : stepOk n₀ ann t with
      | false => rw [hk] at h; cases h
      | true =>
        rw [hk, stp_eq] at h
        cases hs : stepT (denote treeTable) p w s t with
        | none => rw [hs] at h; cases h
        | some q =>
          obtain ⟨s', t'⟩ := q
          rw [hs] at h
          show (match step (denote treeTable) p w s.abs t with | .go s' t' => topRun treeTable p w n₀ ann n s' t' | .halt _ _ => none) = _
          rw [stepT_spec hs]
          exact topRunT_spec n s' t' r h
noncomputable def bootTree (P : Params) : BT := ((boot_heap P).objs.toList.foldl (fun (x : BT × Nat) o => (x.1.ins x.2 o, x.2 + 1)) (BT.nil, 0)).1
theorem bootTree_abs (P : Params) : absHeap (bootTree P) 11 (boot_heap P).life = boot_heap P := by kernel_rfl
noncomputable def boot (w : World) (os : OsState) : SharedT := ⟨bootTree w.params, 11, (boot_heap w.params).life, #[], boot_drawn, boot_toks, os⟩
noncomputable def run (w : World) (os : OsState) : Option SharedT := topRunT pw w 11 (some (.ref 6)) 4732 (boot w os) (topStub pw)
noncomputable def lookA (w : World) (s : Shared) : Bool := staticsOk (importedModules pw.main.body) (boot_heap w.params) s.heap && namesBound pw s.heap && gensDone s && laidKept (boot_heap w.params) s.heap
abbrev lawRow : RowW := PySem.Challenge.rw_rh0078_01.row.toRowW
noncomputable abbrev xt (s : Shared) : Bool := xlAt hd.view_39 [] s && recOk (RowW.records lawRow) s
noncomputable def seenT (s : Shared) := Fast.tw4187177175401517315 hd.view_39 [] (importedModules pw.main.body) xt true s
theorem seenT_eq (s : Shared) : seenT s = openSeen hd.view_39 [] (importedModules pw.main.body) xt true s := by
  unfold seenT
  rw [← Fast.te4187177175401517315]
noncomputable abbrev HK : Hook := kHook hd.heap_39 asK asK_eq
/-- an address read off the tree itself -/
noncomputable def lookT (s : SharedT) (a : Nat) : Option Obj := match Nat.blt a s.n with
  | true => match s.tree.get a with
    | some o => alive o
    | none => none
  | false => none
theorem lookT_abs {s : SharedT} {a : Nat} {o : Obj} (h : lookT s a = some o) : s.abs.heap.get? a = some o := by
  unfold lookT at h
  cases hn : Nat.blt a s.n with
  | false => rw [hn] at h; cases h
  | true =>
    rw [hn] at h
    cases hg : s.tree.get a with
    | none => rw [hg] at h; cases h
    | some x =>
      rw [hg] at h
      exact (abs_get (by have := Nat.le_of_ble_eq_true hn; omega) hg).trans h
theorem map_some {f g : Nat → Option Obj} (k : ∀ a o, f a = some o → g a = some o) : ∀ {l : List Nat} {m : Frag}, l.map f = m.map (fun p => some p.2) → l.map g = m.map (fun p => some p.2)
  | [], [], _ => rfl
  | [], _ :: _, h => by cases h
  | _ :: _, [], h => by cases h
  | a :: l, p :: m, h => by
    obtain ⟨x, y⟩ := List.cons.inj h
    show g a :: l.map g = some p.2 :: m.map _
    rw [k _ _ x, map_some k y]
/-- the one run: what the top leaves, looked at -/
theorem looks_ok (w : World) (os : OsState) : (run w os).map (fun s => (lookA w s.abs, seenT s.abs, asK.map (lookT s))) = some (true, openGood hd.view_39 [], (hd.heap_39 w.params).map fun p => some p.2) := by kernel_rfl
theorem pw_open : opening pw = plainProg pw.main.scope.names := by kernel_rfl
theorem pw_fence (s : Shared) : fenceModules? pw s = some s := by kernel_rfl
theorem boot_looks (w : World) : ((boot_heap w.params).isNs mainGlobals && (#[] : Array GenState).size == 0, (boot_heap w.params).objs.size, (boot_heap w.params).nsMap mainGlobals "__annotations__") = (true, 11, some (.ref 6)) := by kernel_rfl
theorem l_spec {w : World} {os : OsState} {s : SharedT} (r : run w os = some s) : topRun treeTable pw w 11 (some (.ref 6)) 4732 (boot w os).abs (topStub pw) = some s.abs := topRunT_spec _ _ _ _ r
theorem l_abs (w : World) (os : OsState) : (boot w os).abs = ⟨boot_heap w.params, #[], boot_drawn, boot_toks, os⟩ := by
  show Shared.mk (absHeap (bootTree w.params) 11 (boot_heap w.params).life) _ _ _ _ = _
  rw [bootTree_abs]; rfl
theorem l_from {w : World} {os : OsState} {s : SharedT} (r : run w os = some s) (l1 : lookA w s.abs = true) : topFrom treeTable pw w 4732 ⟨boot_heap w.params, #[], boot_drawn, boot_toks, os⟩ = some s.abs := by
  have z := boot_looks w
  simp only [Prod.mk.injEq] at z
  obtain ⟨z1, z2, z3⟩ := z
  have r' := l_spec r
  rw [l_abs] at r'
  unfold topFrom
  dsimp only
  rw [z1, z2, z3, r']
  show (match lookA w s.abs with | true => _ | false => _) = _
  rw [l1]
theorem l_heap {w : World} {s : SharedT} (l : asK.map (lookT s) = (hd.heap_39 w.params).map fun p => some p.2) : Hook.obs HK s.abs = Hook.val HK w := map_some (fun _ _ => lookT_abs) l
theorem l_seen {s : SharedT} (l2 : seenT s.abs = openGood hd.view_39 []) : openSeen hd.view_39 [] (importedModules pw.main.body) xt true s.abs = openGood hd.view_39 [] := by
  rw [← seenT_eq]
  exact l2
theorem l_open (w : World) : ∃ os, fencedOpening treeTable pw w 4732 = some ⟨boot_heap w.params, #[], boot_drawn, boot_toks, os⟩ := by
  obtain ⟨⟨h, gs, d, k, os⟩, e, e'⟩ := Option.map_eq_some_iff.mp (boot_open pw_open (N := 4732) (by decide) pw_fence w)
  simp only [Prod.mk.injEq] at e'
  obtain ⟨rfl, rfl, rfl, rfl⟩ := e'
  exact ⟨os, e⟩
theorem left : LeftO pw hd.view_39 [] xt HK.obs HK.val 4732 := fun w => by
  obtain ⟨os, e⟩ := l_open w
  obtain ⟨s, r, l⟩ := Option.map_eq_some_iff.mp (looks_ok w os)
  obtain ⟨l1, l⟩ := Prod.mk.inj l
  obtain ⟨l2, l3⟩ := Prod.mk.inj l
  unfold openEnds
  rw [e]
  rw [Option.bind_some, l_from r l1, Option.map_some, l_seen l2, l_heap l3]
end
open PySem PySem.W PySem.Calls PyProof.Rows

section
/-- all that stood stands, but for the addresses of W -/
def Fwd (W : List Addr) (h h' : Heap) : Prop := ∀ b o, h.get? b = some o → b ∉ W → h'.get? b = some o
theorem Fwd.refl (W : List Addr) (h : Heap) : Fwd W h h := fun _ _ e _ => e
theorem Fwd.trans {W : List Addr} {h₁ h₂ h₃ : Heap} (x : Fwd W h₁ h₂) (y : Fwd W h₂ h₃) : Fwd W h₁ h₃ := fun b o e n => y b o (x b o e n) n
theorem Fwd.mono {W W' : List Addr} {h h' : Heap} (x : Fwd W h h') (s : ∀ b ∈ W, b ∈ W') : Fwd W' h h' := fun b o e n => x b o e fun m => n (s b m)
theorem Fwd.fr {W : List Addr} {h₀ h h' : Heap} {L : Addr} {m : Str → Option Value} (x : Fwd W h h') (F : Fr h₀ L h m) (hL : L ∉ W) (hW : ∀ b ∈ W, h₀.get? b = none) : Fr h₀ L h' m := by
  obtain ⟨o, es, ep, a1, a2⟩ := F.ns
  exact ⟨⟨o, es, ep, x L o a1 hL, a2⟩, fun b o' e => x b o' (F.keep b o' e) (fun q => by have := hW b q; rw [e] at this; cases this), F.above⟩
theorem Fwd.news {W : List Addr} {h₀ h h' : Heap} {L : Addr} {news : List (Addr × Obj)} (x : Fwd W h h') (N : News h₀ L h news) (off : ∀ p ∈ news, p.1 ∉ W) : News h₀ L h' news :=
  fun p hp => ⟨x _ _ (N p hp).1 (off p hp), (N p hp).2⟩

/-- a goal laid aside -/
structure Hold (P : Prop) : Prop where
  out : P
theorem fwd_of {W : List Addr} {h g h' : Heap} {L : Addr} {m : Str → Option Value} (sg : Fwd W h g) (F : Fr g L h' m) : Fwd W h h' := fun b o e n => F.keep b o (sg b o e n)
theorem fresh_of {W : List Addr} {h g : Heap} {a : Addr} (sg : Fwd W h g) (n : g.get? a = none) (ha : a ∉ W) : h.get? a = none := by
  cases e : h.get? a with
  | none => rfl
  | some o => rw [sg a o e ha] at n; cases n
theorem ne_cls {h : Heap} {a b : Addr} {oa ob : Obj} (ea : h.get? a = some oa) (eb : h.get? b = some ob) (ne : oa.cls ≠ ob.cls) : @Ne Nat a b := by
  intro z
  have z : a = b := z
  subst z
  rw [ea] at eb
  exact ne (congrArg Obj.cls (Option.some.inj eb))
theorem type_ne {a b : String} (h : a ≠ b) : Value.type a ≠ Value.type b := fun e => h (Value.type.inj e)
theorem ref_ne_type {a : Addr} {b : String} : Value.ref a ≠ Value.type b := fun e => nomatch e
section
variable {w : World} {mean : ExcName → Option Value} {mg mb : Str → Option Value} {p : Program} {loose : List Str} {prog : Program} {K : Frag}
/-- a def's call, from any state whose old part stands: a ghost base g without the objects of news -/
theorem code_in {A : Around} {s : Shared} {hb : Heap} {R : Result → Shared → Prop} {name qual : Str} {params : Arguments} {body : List Stmt} {scope : Scope} {dV kV doc pm cdv ct oc : Value} {an od : Option Addr} {osl : Array (Option Value)} {f : Addr} {args : Args} {binds : List (Str × Value)}
    (news : List (Addr × Obj)) (hs : ∀ b o, hb.get? b = some o → s.heap.get? b = some o) (X : K.In hb) (T : Top p loose mean mg mb hb) (hn : ∀ q ∈ news, s.heap.get? q.1 = some q.2 ∧ hb.get? q.1 = none)
    (ho : K.lookup f = some ⟨oc, od, .func (fnOf name qual params body scope dV kV doc pm an cdv ct), osl⟩) (hcd : codeIn K cdv qual = true) (hroom : A.depth < recursionLimit)
    (hbind : BindsTo s (fnOf name qual params body scope dV kV doc pm an cdv ct) args binds) (hloc : ∀ y ∈ binds, scope.names.lookup y.1 = some .local)
    (h : ∀ g L' h₁, (∀ b o, g.get? b = some o → s.heap.get? b = some o) → Fwd (news.map (·.1)) s.heap g → Fr g L' h₁ (fun y => binds.reverse.lookup y) → News g L' h₁ news → K.In g → Top p loose mean mg mb g →
      wpAny (model prog w) (A.deeper (envOf qual scope L' f cdv)) (execs body (envOf qual scope L' f cdv)) (fun fl s' => R (.ok (.ret (match fl with | .ret v => v | _ => .none))) s') (fun _ _ => False) { s with heap := h₁, toks := s.toks + binds.length })
    (hco : scope.isCoroutine = false) (hgen : scope.isGenerator = false) (hk : scope.kind = .function) (hcell : ∀ x ∈ scope.names, x.2 ≠ .cell) : codeAny (model prog w) A (.call (.ref f) args) R s := by
  have st : ∀ b o, hb.get? b = some o → (hideAll s.heap (news.map (·.1))).get? b = some o := fun b o e => hideAll_get _ (hs b o e) fun q => by
    obtain ⟨q1, hq, rfl⟩ := List.mem_map.mp q
    have := (hn q1 hq).2
    rw [e] at this; cases this
  refine codeAny_call_def (fd := fnOf name qual params body scope dV kV doc pm an cdv ct) (body := body) (binds := binds) hroom (X.keeps hs _ _ ho) rfl (T.nolimit.keeps hs) (codeRec_of (X.keeps hs) hcd) rfl hbind hcell hloc (fun h₁ hns hk₁ => ?_) hco hgen hk
  refine wpAny_mono (h (hideAll s.heap (news.map (·.1))) s.heap.objs.size h₁ (fun b o e => of_hideAll _ e) (fun b o e q => hideAll_get _ e q) ⟨hns, fun b o e => hk₁ b o (of_hideAll _ e), Nat.le_of_eq (hideAll_size _ _)⟩
    (fun q hq => ⟨hk₁ _ _ (hn q hq).1, Nat.ne_of_lt (Heap.lt_size (hn q hq).1), hideAll_none _ (List.mem_map_of_mem hq)⟩) (X.keeps st) (T.keeps st)) (fun _ _ x => x) fun _ _ x => x.elim

end
end
local macro_rules | `(tactic| k_room) => `(tactic| ((try simp only [depth_under_make, depth_under_kw, depth_in1, depth_deeper, depth_caller]); (try dsimp only); (simp only [recursionLimit] at *); omega))
local macro_rules | `(tactic| k_units) => `(tactic| ((try simp only [units_in1, units_deeper, Around.mark_units, units_caller]); (try dsimp only); (simp only [cLine] at *); omega))
local macro_rules | `(tactic| walk_at "call builtin:len") => `(tactic| ((with_reducible show wpAny _ _ (call (Value.builtin "len") [Value.ref _]) _ _ _); (with_unfolding_all refine' len_list ?k1 ?k2 ?_; (case k1 => is_list); (case k2 => (simp only [List.size_toArray]; omega)); k_whole); (try simp only [List.size_toArray])))

section
local macro_rules | `(tactic| walk_at "inplaceOp FloorDiv int int") => `(tactic| (refine' ifloordiv_int ?k1 ?_ ?k3; (case k1 => omega); (case k3 => exact Or.inl (PyProof.noPylong_of_log2 (by assumption)))))
section
variable {w : World} {mean : ExcName → Option Value} {mg mb : Str → Option Value}
theorem pick_code {A : Around} {s : Shared} {hb : Heap} {R : Result → Shared → Prop} {U S : Addr} {x k faces : Int} {tx tk tf : Tok} {n : Nat} {vs : List Value} {ns : List Int}
    (hs : ∀ b o, hb.get? b = some o → s.heap.get? b = some o) (X : (hd.heap_39 w.params).In hb) (T : Top hd.view_39 (looseW hd.view_39 []) mean mg mb hb) (hUb : hb.get? U = none)
    (hU : s.heap.get? U = some (listOf #[.int x tx, .ref S, .int k tk] n)) (hS : s.heap.IsList S vs.toArray) (hSU : S ≠ U) (hi : IntsAre vs ns) (hn : ns.length < 2 ^ 62) (hk : 0 ≤ k) (hf : 0 < faces) (hf2 : faces.natAbs.log2 < 9000)
    (hh : A.handled = none) (hdp : A.depth + 20 < recursionLimit) (hun : A.units + 100 < cLine)
    (hR : ∀ (h' : Heap) (tk' : Nat) (face x' k' : Int) (t tx' tk'' : Tok) (n' : Nat), Fwd [U] s.heap h' → h'.get? U = some (listOf #[.int x' tx', .ref S, .int k' tk''] n') → 0 ≤ k' → 0 ≤ face → face < faces → R (.ok (.ret (.int face t))) { s with heap := h', toks := tk' }) :
    codeAny (model PySem.Challenge.rw_rh0078_01.row.prog w) A (.call (.ref 362) ⟨[.ref U, .int faces tf], []⟩) R s := by
  obtain ⟨hnd, dp, fr, gd, un⟩ := A
  obtain rfl : hnd = none := hh
  dsimp only at hdp hun
  revert X; k_fill; intro X
  k_dflt (refine' code_in [(U, listOf #[.int x tx, .ref S, .int k tk] n)] hs X T ?kn ?k6 ?k7 ?k8 ?k9 ?kB ?_ ?c2 ?c3 ?c4 ?c5; (case kn => (intro q hq; rw [List.mem_singleton.mp hq]; exact ⟨hU, hUb⟩)); (case k6 => k_is); (case k7 => k_is); (case k8 => k_room); (case k9 => exact BindsTo.of_eq rfl); (case c5 => decide); (case kB => exact locs rfl); (case c2 => exact rfl); (case c3 => exact rfl); (case c4 => exact rfl))
  intro g L' h₁ gs sg F' N' X' T'
  have hSg : g.IsList S vs.toArray := by
    obtain ⟨o, ho, r⟩ := hS
    exact ⟨o, sg S o ho (by simpa using hSU), r⟩
  have hvl := hi.length
  have hvn : vs.length < 2 ^ 62 := by omega
  clear hs X T
  (try dsimp only)
  (try k_fold)
  k_steps
  all_goals (dsimp only; exact hR _ _ _ _ _ _ _ _ _ (fwd_of sg (by assumption)) (News.get (by assumption) (List.Mem.head _)) (by omega) (Int.fmod_nonneg_of_pos _ hf) (Int.fmod_lt_of_pos _ hf))
end
end

section
/-- a cell: a pair of ints -/
abbrev tupO (t x : Int) (tt tx : Tok) (n : Nat) : Obj := { cls := .type "tuple", data := .seq #[.int t tt, .int x tx] n }
def isPtr (t : Int) : Bool := decide (t = 0) || decide (t = 2) || decide (t = 3)

theorem ret_b {R : Result → Shared → Prop} {b b' : Bool} {s' : Shared} (e : b = b') (h : R (.ok (.ret (.bool b))) s') : R (.ok (.ret (.bool b'))) s' := e ▸ h
section
variable {w : World} {mean : ExcName → Option Value} {mg mb : Str → Option Value}
theorem isptr_code {A : Around} {s : Shared} {hb : Heap} {R : Result → Shared → Prop} {c : Addr} {t x : Int} {tt tx : Tok} {n : Nat}
    (hs : ∀ b o, hb.get? b = some o → s.heap.get? b = some o) (X : (hd.heap_39 w.params).In hb) (T : Top hd.view_39 (looseW hd.view_39 []) mean mg mb hb)
    (hc : s.heap.get? c = some (tupO t x tt tx n)) (hh : A.handled = none) (hdp : A.depth + 20 < recursionLimit) (hun : A.units + 100 < cLine)
    (hR : ∀ (h' : Heap) (tk' : Nat), Fwd [] s.heap h' → R (.ok (.ret (.bool (isPtr t)))) { s with heap := h', toks := tk' }) :
    codeAny (model PySem.Challenge.rw_rh0078_01.row.prog w) A (.call (.ref 341) ⟨[.ref c], []⟩) R s := by
  obtain ⟨hnd, dp, fr, gd, un⟩ := A
  obtain rfl : hnd = none := hh
  dsimp only at hdp hun
  revert X; k_fill; intro X
  k_dflt (refine' code_in [] hs X T ?kn ?k6 ?k7 ?k8 ?k9 ?kB ?_ ?c2 ?c3 ?c4 ?c5; (case kn => (intro q hq; cases hq)); (case k6 => k_is); (case k7 => k_is); (case k8 => k_room); (case k9 => exact BindsTo.of_eq rfl); (case c5 => decide); (case kB => exact locs rfl); (case c2 => exact rfl); (case c3 => exact rfl); (case c4 => exact rfl))
  intro g L' h₁ gs sg F' N' X' T'
  have hcg : IsTup g c #[.int t tt, .int x tx] := ⟨_, sg c _ hc (by simp), rfl, n, rfl⟩
  clear hs X T
  dsimp only
  k_steps
  all_goals (dsimp only; refine ret_b ?_ (hR _ _ (fwd_of sg (by assumption))); (unfold isPtr; rw [Bool.eq_iff_iff]; simp only [Bool.or_eq_true, decide_eq_true_eq, beq_iff_eq]; omega))

theorem isptr_at {A : Around} {s : Shared} {h₀ : Heap} {L : Addr} {m : Str → Option Value} {Q E : Value → Shared → Prop} {c : Addr} {t x : Int} {tt tx : Tok} {n : Nat} {news : List (Addr × Obj)}
    (F : Fr h₀ L s.heap m) (N : News h₀ L s.heap news) (X : (hd.heap_39 w.params).In h₀) (T : Top hd.view_39 (looseW hd.view_39 []) mean mg mb h₀)
    (hc : s.heap.get? c = some (tupO t x tt tx n)) (hh : A.handled = none) (hdp : A.depth + 20 < recursionLimit) (hun : A.units + 100 < cLine)
    (hQ : ∀ (h' : Heap) (tk' : Nat), Fr h₀ L h' m → News h₀ L h' news → Fwd [] s.heap h' → Q (.bool (isPtr t)) { s with heap := h', toks := tk' }) :
    wpAny (model PySem.Challenge.rw_rh0078_01.row.prog w) A (call (.ref 341) [.ref c]) Q E s :=
  wpAny_call (isptr_code F.keep X T hc hh hdp hun fun h' tk' k => hQ h' tk' (k.fr F (by simp) (by simp)) (k.news N (by simp)) k)

local macro_rules | `(tactic| walk_at "call ref") => `(tactic| (k_here; (with_reducible show wpAny _ _ (call (Value.ref 341) _) _ _ _); (refine' isptr_at ?F ?N ?X ?T ?hc ?hh ?hd ?hu ?_; (case F => k_asm); (case N => k_asm); (case X => k_asm); (case T => k_asm); (case hc => exact (Fr.keep (by assumption) _ _ (by assumption))); (case hh => exact rfl); (case hd => k_room); (case hu => k_units)); intro h' tk' F' N' k'; (try k_sweep)))
theorem moved_code {A : Around} {s : Shared} {hb : Heap} {R : Result → Shared → Prop} {c Tb : Addr} {t x : Int} {tt tx : Tok} {n : Nat} {vs : List Value} {ns : List Int}
    (hs : ∀ b o, hb.get? b = some o → s.heap.get? b = some o) (X : (hd.heap_39 w.params).In hb) (T : Top hd.view_39 (looseW hd.view_39 []) mean mg mb hb)
    (hc : s.heap.get? c = some (tupO t x tt tx n)) (hT : s.heap.IsList Tb vs.toArray) (hi : IntsAre vs ns) (hn : ns.length < 2 ^ 62) (hx : isPtr t = true → 0 ≤ x ∧ x < ns.length)
    (hh : A.handled = none) (hdp : A.depth + 40 < recursionLimit) (hun : A.units + 200 < cLine)
    (hR : ∀ (h' : Heap) (tk' : Nat) (c' : Addr) (tt' tx' : Tok) (n' : Nat), Fwd [] s.heap h' → h'.get? c' = some (tupO t (if isPtr t then ns.getD x.toNat 0 else x) tt' tx' n') → (c' = c ∨ s.heap.get? c' = none) → R (.ok (.ret (.ref c'))) { s with heap := h', toks := tk' }) :
    codeAny (model PySem.Challenge.rw_rh0078_01.row.prog w) A (.call (.ref 348) ⟨[.ref Tb, .ref c], []⟩) R s := by
  obtain ⟨hnd, dp, fr, gd, un⟩ := A
  obtain rfl : hnd = none := hh
  dsimp only at hdp hun
  revert X; k_fill; intro X
  k_dflt (refine' code_in [] hs X T ?kn ?k6 ?k7 ?k8 ?k9 ?kB ?_ ?c2 ?c3 ?c4 ?c5; (case kn => (intro q hq; cases hq)); (case k6 => k_is); (case k7 => k_is); (case k8 => k_room); (case k9 => exact BindsTo.of_eq rfl); (case c5 => decide); (case kB => exact locs rfl); (case c2 => exact rfl); (case c3 => exact rfl); (case c4 => exact rfl))
  intro g L' h₁ gs sg F' N' X' T'
  have hcg := sg c _ hc (by simp)
  have hcT : IsTup g c #[.int t tt, .int x tx] := ⟨_, hcg, rfl, n, rfl⟩
  have hTg : g.IsList Tb vs.toArray := by
    obtain ⟨o, ho, r⟩ := hT
    exact ⟨o, sg Tb o ho (by simp), r⟩
  have hvl := hi.length
  have hvn : vs.length < 2 ^ 62 := by omega
  clear hs X T
  dsimp only
  k_steps
  · obtain ⟨hx0, hx1⟩ := hx (by assumption)
    k_steps
    exact hR _ _ _ tt _ _ (fwd_of sg (by assumption)) (by rw [if_pos (by assumption)]; exact News.get (by assumption) (List.Mem.head _)) (.inr (fresh_of sg (News.fresh (by assumption) (List.Mem.head _)) (by simp)))
  · dsimp only
    have hp : ¬ isPtr t = true := by simp_all
    refine hR _ _ c tt tx n (fwd_of sg (by assumption)) (Fr.keep (by assumption) _ _ (by rw [if_neg hp]; exact hcg)) (.inl rfl)

theorem moved_at {A : Around} {s : Shared} {h₀ : Heap} {L : Addr} {m : Str → Option Value} {Q E : Value → Shared → Prop} {c Tb : Addr} {t x : Int} {tt tx : Tok} {n : Nat} {vs : List Value} {ns : List Int} {news : List (Addr × Obj)}
    (F : Fr h₀ L s.heap m) (N : News h₀ L s.heap news) (X : (hd.heap_39 w.params).In h₀) (T : Top hd.view_39 (looseW hd.view_39 []) mean mg mb h₀)
    (hc : s.heap.get? c = some (tupO t x tt tx n)) (hT : s.heap.IsList Tb vs.toArray) (hi : IntsAre vs ns) (hn : ns.length < 2 ^ 62) (hx : isPtr t = true → 0 ≤ x ∧ x < ns.length)
    (hh : A.handled = none) (hdp : A.depth + 40 < recursionLimit) (hun : A.units + 200 < cLine)
    (hQ : ∀ (h' : Heap) (tk' : Nat) (c' : Addr) (tt' tx' : Tok) (n' : Nat), Fr h₀ L h' m → News h₀ L h' news → Fwd [] s.heap h' → h'.get? c' = some (tupO t (if isPtr t then ns.getD x.toNat 0 else x) tt' tx' n') → (c' = c ∨ s.heap.get? c' = none) → Q (.ref c') { s with heap := h', toks := tk' }) :
    wpAny (model PySem.Challenge.rw_rh0078_01.row.prog w) A (call (.ref 348) [.ref Tb, .ref c]) Q E s :=
  wpAny_call (moved_code F.keep X T hc hT hi hn hx hh hdp hun fun h' tk' c' tt' tx' n' k e d => hQ h' tk' c' tt' tx' n' (k.fr F (by simp) (by simp)) (k.news N (by simp)) k e d)
end
end
local macro_rules | `(tactic| walk_at "call ref") => `(tactic| (k_here; (with_reducible show wpAny _ _ (call (Value.ref 341) _) _ _ _); (refine' isptr_at ?F ?N ?X ?T ?hc ?hh ?hd ?hu ?_; (case F => k_asm); (case N => k_asm); (case X => k_asm); (case T => k_asm); (case hc => exact (Fr.keep (by assumption) _ _ (by assumption))); (case hh => exact rfl); (case hd => k_room); (case hu => k_units)); intro h' tk' F' N' k'; (try k_sweep)))

section
abbrev cellEs (P : Params) (sym : Value) (H St Tr : Addr) (t1 t2 t3 t4 t5 t6 t7 tm u1 u2 : Tok) : List DictEntry :=
  [⟨PyData.keyHash P "symbols", .str "symbols" t1, sym⟩, ⟨PyData.keyHash P "max_heap", .str "max_heap" t2, .int 100000 tm⟩, ⟨PyData.keyHash P "heap", .str "heap" t3, .ref H⟩, ⟨PyData.keyHash P "stack", .str "stack" t4, .ref St⟩,
   ⟨PyData.keyHash P "trail", .str "trail" t5, .ref Tr⟩, ⟨PyData.keyHash P "hb", .str "hb" t6, .int 0 u1⟩, ⟨PyData.keyHash P "bb", .str "bb" t7, .int 0 u2⟩]
section
variable {w : World} {mean : ExcName → Option Value} {mg mb : Str → Option Value}
theorem init_code {A : Around} {s : Shared} {hb : Heap} {R : Result → Shared → Prop} {x dx : Addr} {sym : Value}
    (hs : ∀ b o, hb.get? b = some o → s.heap.get? b = some o) (X : (hd.heap_39 w.params).In hb) (T : Top hd.view_39 (looseW hd.view_39 []) mean mg mb hb)
    (hx : s.heap.get? x = some (instObj 323 dx)) (hxb : hb.get? x = none) (hdx : s.heap.get? dx = some (dictOf [] 0)) (hdb : hb.get? dx = none) (hsy : handedIn sym = true)
    (hxd : dx < x) (hh : A.handled = none) (hdp : A.depth + 20 < recursionLimit) (hun : A.units + 100 < cLine)
    (hR : ∀ (h' : Heap) (tk' : Nat) (H St Tr : Addr) (t1 t2 t3 t4 t5 t6 t7 tm u1 u2 : Tok), Fwd [x, dx] s.heap h' → h'.get? x = some (instObj 323 dx) → h'.get? dx = some (dictOf (cellEs w.params sym H St Tr t1 t2 t3 t4 t5 t6 t7 tm u1 u2) 7) → h'.get? H = some (listOf #[] 0) → s.heap.get? H = none → R (.ok (.ret .none)) { s with heap := h', toks := tk' }) :
    codeAny (model PySem.Challenge.rw_rh0078_01.row.prog w) A (.call (.ref 194) ⟨[.ref x, sym], []⟩) R s := by
  obtain ⟨hnd, dp, fr, gd, un⟩ := A
  obtain rfl : hnd = none := hh
  dsimp only at hdp hun
  revert X; k_fill; intro X
  k_dflt (refine' code_in [(x, instObj 323 dx), (dx, dictOf [] 0)] hs X T ?kn ?k6 ?k7 ?k8 ?k9 ?kB ?_ ?c2 ?c3 ?c4 ?c5; (case kn => (intro q hq; rcases List.mem_cons.mp hq with rfl | hq; exact ⟨hx, hxb⟩; rw [List.mem_singleton.mp hq]; exact ⟨hdx, hdb⟩)); (case k6 => k_is); (case k7 => k_is); (case k8 => k_room); (case k9 => first | exact BindsTo.of_eq rfl | exact binds_K (X.keeps hs) rfl (by k_is) rfl rfl rfl); (case c5 => decide); (case kB => exact locs rfl); (case c2 => exact rfl); (case c3 => exact rfl); (case c4 => exact rfl))
  intro g L' h₁ gs sg F' N' X' T'
  have hxd := ltN hxd
  clear hs X T
  dsimp only
  k_steps
  rename PyProof.Rows.News _ _ _ _ => N0
  (try dsimp only)
  exact hR _ _ _ _ _ _ _ _ _ _ _ _ _ _ _ (fwd_of sg (by assumption)) (News.get N0 (by k_mem)) (News.get N0 (by k_mem)) (News.get N0 (by k_mem)) (fresh_of sg (News.fresh N0 (by k_mem)) (by simp only [List.map_cons, List.map_nil, List.mem_cons, List.not_mem_nil, or_false, not_or]; exact ⟨by k_ne, by k_ne⟩))

theorem push_some {h : Heap} (o : Obj) (ho : o.isFreed = false) : (h.push o).get? h.objs.size = some o := Heap.get?_push_size h ho
theorem get_big {h : Heap} {a : Addr} (ha : h.objs.size ≤ a) : h.get? a = none := by
  cases e : h.get? a with
  | none => rfl
  | some o => exact absurd (Heap.lt_size e) (Nat.not_lt.mpr ha)
theorem cells_code {A : Around} {s : Shared} {hb : Heap} {R : Result → Shared → Prop} {sym : Value}
    (hs : ∀ b o, hb.get? b = some o → s.heap.get? b = some o) (X : (hd.heap_39 w.params).In hb) (T : Top hd.view_39 (looseW hd.view_39 []) mean mg mb hb)
    (hsy : handedIn sym = true) (hh : A.handled = none) (hdp : A.depth + 40 < recursionLimit) (hun : A.units + 200 < cLine)
    (hR : ∀ (h' : Heap) (tk' : Nat) (x dx H St Tr : Addr) (t1 t2 t3 t4 t5 t6 t7 tm u1 u2 : Tok), Fwd [] s.heap h' → h'.get? x = some (instObj 323 dx) → h'.get? dx = some (dictOf (cellEs w.params sym H St Tr t1 t2 t3 t4 t5 t6 t7 tm u1 u2) 7) → h'.get? H = some (listOf #[] 0) →
      s.heap.get? x = none → s.heap.get? dx = none → s.heap.get? H = none → R (.ok (.ret (.ref x))) { s with heap := h', toks := tk' }) :
    codeAny (model PySem.Challenge.rw_rh0078_01.row.prog w) A (.call (.ref 323) ⟨[sym], []⟩) R s := by
  obtain ⟨hp, gg, dd, tt, oo⟩ := s
  have X1 := X.keeps hs
  have e0 : (hp.push emptyDict).get? hp.objs.size = some emptyDict := push_some _ rfl
  have e1 : ((hp.push emptyDict).push (instObj 323 hp.objs.size)).get? (hp.push emptyDict).objs.size = some (instObj 323 hp.objs.size) := push_some _ rfl
  have sz : (hp.push emptyDict).objs.size = hp.objs.size + 1 := Heap.size_push _ _
  revert X; k_fill; intro X
  have h1 : makesIn (hd.heap_39 w.params) 323 = true := by k_is
  have h2 : findIn (hd.heap_39 w.params) (.ref 323) "__init__" = some (some (.ref 194)) := by k_is
  have h3 : isFn (hd.heap_39 w.params) (.ref 194) = true := by k_is
  refine make_core (makes_of X1 h1) (looks_findIn X1 h2) (fun self => bind_fn X1 self (beq_iff_eq.mp h3)) (.inl rfl) ?_
  have big : ∀ a, hp.objs.size ≤ a → hb.get? a = none := fun a ha => by
    cases e : hb.get? a with
    | none => rfl
    | some o => have := hs _ _ e; rw [get_big ha] at this; cases this
  have f2 : Fwd [] hp ((hp.push emptyDict).push (instObj 323 hp.objs.size)) := fun b o e _ => Heap.get?_push_of_some _ (Heap.get?_push_of_some _ e)
  refine init_code (x := hp.objs.size + 1) (dx := hp.objs.size) (fun b o e => f2 b o (hs b o e) (by simp)) X T (by rw [← sz]; exact e1) (big _ (Nat.le_succ _)) (Heap.get?_push_of_some _ e0) (big _ (Nat.le_refl _)) hsy (Nat.lt_succ_self _) hh ?_ ?_ ?_
  · simp only [depth_under_make]; omega
  · have hc : (Code.builtin "type.__call__" { pos := [Value.ref 323, sym] }).cUnits ≤ 10 := by
      first | decide | (simp [Code.cUnits, Code.frames, Code.isFrame]; done)
    show A.units + (Code.builtin "type.__call__" { pos := [Value.ref 323, sym] }).cUnits + 100 < cLine
    omega
  · intro h' tk' H St Tr t1 t2 t3 t4 t5 t6 t7 tm u1 u2 k a1 a2 a3 a4
    have k' : Fwd [] hp h' := fun b o e _ => k b o (f2 b o e (by simp)) (by
      have := Heap.lt_size e
      simp only [List.mem_cons, List.not_mem_nil, or_false, not_or]
      exact ⟨Nat.ne_of_lt (Nat.lt_succ_of_lt this), Nat.ne_of_lt this⟩)
    exact ⟨rfl, hR h' tk' _ _ H St Tr t1 t2 t3 t4 t5 t6 t7 tm u1 u2 k' a1 a2 a3 (get_big (Nat.le_succ _)) (get_big (Nat.le_refl _)) (fresh_of f2 a4 (by simp))⟩
end
end

section
section
variable {w : World} {mean : ExcName → Option Value} {mg mb : Str → Option Value}
theorem push_code {A : Around} {s : Shared} {hb : Heap} {R : Result → Shared → Prop} {x dx H St Tr : Addr} {sym v : Value} {t1 t2 t3 t4 t5 t6 t7 tm u1 u2 : Tok} {vs : List Value} {n nd : Nat}
    (hs : ∀ b o, hb.get? b = some o → s.heap.get? b = some o) (X : (hd.heap_39 w.params).In hb) (T : Top hd.view_39 (looseW hd.view_39 []) mean mg mb hb)
    (hx : s.heap.get? x = some (instObj 323 dx)) (hxb : hb.get? x = none) (hdx : s.heap.get? dx = some (dictOf (cellEs w.params sym H St Tr t1 t2 t3 t4 t5 t6 t7 tm u1 u2) nd)) (hdb : hb.get? dx = none)
    (hH : s.heap.get? H = some (listOf vs.toArray n)) (hHb : hb.get? H = none) (hn : vs.length < 1000) (hv : handedIn v = true)
    (hh : A.handled = none) (hdp : A.depth + 20 < recursionLimit) (hun : A.units + 100 < cLine)
    (hR : ∀ (h' : Heap) (tk' : Nat) (r : Int) (t : Tok) (n' : Nat), Fwd [H] s.heap h' → h'.get? H = some (listOf (vs ++ [v]).toArray n') → R (.ok (.ret (.int r t))) { s with heap := h', toks := tk' }) :
    codeAny (model PySem.Challenge.rw_rh0078_01.row.prog w) A (.call (.ref 201) ⟨[.ref x, v], []⟩) R s := by
  obtain ⟨hnd, dp, fr, gd, un⟩ := A
  obtain rfl : hnd = none := hh
  dsimp only at hdp hun
  have nxd := ne_cls hx hdx ref_ne_type
  have nxH := ne_cls hx hH ref_ne_type
  have ndH := ne_cls hdx hH (type_ne (by decide))
  revert X; k_fill; intro X
  k_dflt (refine' code_in [(x, instObj 323 dx), (dx, dictOf (cellEs w.params sym H St Tr t1 t2 t3 t4 t5 t6 t7 tm u1 u2) nd), (H, listOf vs.toArray n)] hs X T ?kn ?k6 ?k7 ?k8 ?k9 ?kB ?_ ?c2 ?c3 ?c4 ?c5; (case kn => (intro q hq; rcases List.mem_cons.mp hq with rfl | hq; exact ⟨hx, hxb⟩; rcases List.mem_cons.mp hq with rfl | hq; exact ⟨hdx, hdb⟩; rw [List.mem_singleton.mp hq]; exact ⟨hH, hHb⟩)); (case k6 => k_is); (case k7 => k_is); (case k8 => k_room); (case k9 => first | exact BindsTo.of_eq rfl | exact binds_K (X.keeps hs) rfl (by k_is) rfl rfl rfl); (case c5 => decide); (case kB => exact locs rfl); (case c2 => exact rfl); (case c3 => exact rfl); (case c4 => exact rfl))
  intro g L' h₁ gs sg F' N' X' T'
  have hvn : vs.length < 2 ^ 62 := by omega
  clear hs X T
  dsimp only
  k_steps
  rename PyProof.Rows.News _ _ _ _ => N0
  dsimp only
  refine hR _ _ _ _ _ (fun b o e nb => ?_) (by have z := News.get N0 (.tail _ (.tail _ (.head _))); simpa using z)
  by_cases h1 : b = x
  · subst h1; rw [hx] at e; cases e; exact News.get N0 (.head _)
  · by_cases h2 : b = dx
    · subst h2; rw [hdx] at e; cases e; exact News.get N0 (.tail _ (.head _))
    · exact Fr.keep (by assumption) b o (sg b o e (by simp only [List.map_cons, List.map_nil, List.mem_cons, List.not_mem_nil, or_false, not_or]; exact ⟨h1, h2, fun h3 => nb (by rw [h3]; exact List.mem_singleton.mpr rfl)⟩))
end
end

section
section
variable {w : World} {mean : ExcName → Option Value} {mg mb : Str → Option Value}
theorem updF_news {h₀ h h' : Heap} {L d : Addr} {o o' : Obj} {news : List (Addr × Obj)} {g : Obj → List (Addr × Obj)} (U : UpdF d o news g) (N : News h₀ L h news) (k : Fwd [d] h h') (e : h'.get? d = some o') : News h₀ L h' (g o') := by
  obtain ⟨pre, post, rfl, hg, n1, n2⟩ := U.split
  rw [hg o']
  have hd := N (d, o) (by simp)
  intro p hp
  rcases List.mem_append.mp hp with hp | hp
  · have z := N p (by simp [hp])
    exact ⟨k _ _ z.1 (by simpa using n1 p hp), z.2⟩
  · rcases List.mem_cons.mp hp with rfl | hp
    · exact ⟨e, hd.2⟩
    · have z := N p (by simp [hp])
      exact ⟨k _ _ z.1 (by simpa using n2 p hp), z.2⟩
theorem updF_mem {d : Addr} {o : Obj} {news : List (Addr × Obj)} {g : Obj → List (Addr × Obj)} (U : UpdF d o news g) : (d, o) ∈ news := by
  obtain ⟨pre, post, rfl, _⟩ := U.split
  simp
theorem updF_fr {h₀ h h' : Heap} {L d : Addr} {m : Str → Option Value} {o : Obj} {news : List (Addr × Obj)} {g : Obj → List (Addr × Obj)} (U : UpdF d o news g) (F : Fr h₀ L h m) (N : News h₀ L h news) (k : Fwd [d] h h') : Fr h₀ L h' m := by
  have z := N _ (updF_mem U)
  exact k.fr F (by simpa using (fun e => z.2.1 e.symm)) (by simpa using z.2.2)

theorem push_at {A : Around} {s : Shared} {h₀ : Heap} {L : Addr} {m : Str → Option Value} {Q E : Value → Shared → Prop} {x dx H St Tr : Addr} {sym v : Value} {t1 t2 t3 t4 t5 t6 t7 tm u1 u2 : Tok} {vs : List Value} {n nd : Nat} {news : List (Addr × Obj)} {g : Obj → List (Addr × Obj)}
    (F : Fr h₀ L s.heap m) (N : News h₀ L s.heap news) (X : (hd.heap_39 w.params).In h₀) (T : Top hd.view_39 (looseW hd.view_39 []) mean mg mb h₀)
    (hx : (x, instObj 323 dx) ∈ news) (hdx : (dx, dictOf (cellEs w.params sym H St Tr t1 t2 t3 t4 t5 t6 t7 tm u1 u2) nd) ∈ news) (hU : UpdF H (listOf vs.toArray n) news g) (hn : vs.length < 1000) (hv : handedIn v = true)
    (hh : A.handled = none) (hdp : A.depth + 20 < recursionLimit) (hun : A.units + 100 < cLine)
    (hQ : ∀ (h' : Heap) (tk' : Nat) (r : Int) (t : Tok) (n' : Nat), Fr h₀ L h' m → News h₀ L h' (g (listOf (vs ++ [v]).toArray n')) → Q (.int r t) { s with heap := h', toks := tk' }) :
    wpAny (model PySem.Challenge.rw_rh0078_01.row.prog w) A (call (.ref 201) [.ref x, v]) Q E s :=
  wpAny_call (push_code F.keep X T (N _ hx).1 (N _ hx).2.2 (N _ hdx).1 (N _ hdx).2.2 (N _ (updF_mem hU)).1 (N _ (updF_mem hU)).2.2 hn hv hh hdp hun fun h' tk' r t n' k e =>
    hQ h' tk' r t n' (updF_fr hU F N k) (updF_news hU N k e))

theorem fresh_news {h₀ h h' : Heap} {L a : Addr} {m : Str → Option Value} {o : Obj} (F : Fr h₀ L h m) (n : h.get? a = none) (e : h'.get? a = some o) : h'.get? a = some o ∧ a ≠ L ∧ h₀.get? a = none := by
  refine ⟨e, fun q => ?_, ?_⟩
  · obtain ⟨oL, _, _, hL, _⟩ := F.ns
    rw [q, hL] at n; cases n
  · cases z : h₀.get? a with
    | none => rfl
    | some o' => rw [F.keep _ _ z] at n; cases n
theorem ne_none {h : Heap} {a b : Addr} {o : Obj} (e : h.get? a = some o) (n : h.get? b = none) : @Ne Nat a b := fun q => by
  have q : a = b := q
  rw [q, n] at e; cases e

theorem cells_at {A : Around} {s : Shared} {h₀ : Heap} {L : Addr} {m : Str → Option Value} {Q E : Value → Shared → Prop} {sym : Value} {news : List (Addr × Obj)}
    (F : Fr h₀ L s.heap m) (N : News h₀ L s.heap news) (X : (hd.heap_39 w.params).In h₀) (T : Top hd.view_39 (looseW hd.view_39 []) mean mg mb h₀)
    (hsy : handedIn sym = true) (hh : A.handled = none) (hdp : A.depth + 40 < recursionLimit) (hun : A.units + 200 < cLine)
    (hQ : ∀ (h' : Heap) (tk' : Nat) (x dx H St Tr : Addr) (t1 t2 t3 t4 t5 t6 t7 tm u1 u2 : Tok), Fr h₀ L h' m → News h₀ L h' ((x, instObj 323 dx) :: (dx, dictOf (cellEs w.params sym H St Tr t1 t2 t3 t4 t5 t6 t7 tm u1 u2) 7) :: (H, listOf ([] : List Value).toArray 0) :: news) →
      (∀ p ∈ news, @Ne Nat p.1 x ∧ @Ne Nat p.1 dx ∧ @Ne Nat p.1 H) → @Ne Nat x dx → @Ne Nat x H → @Ne Nat dx H → Q (.ref x) { s with heap := h', toks := tk' }) :
    wpAny (model PySem.Challenge.rw_rh0078_01.row.prog w) A (call (.ref 323) [sym]) Q E s :=
  wpAny_call (cells_code F.keep X T hsy hh hdp hun fun h' tk' x dx H St Tr t1 t2 t3 t4 t5 t6 t7 tm u1 u2 k a1 a2 a3 b1 b2 b3 =>
    hQ h' tk' x dx H St Tr t1 t2 t3 t4 t5 t6 t7 tm u1 u2 (k.fr F (by simp) (by simp)) (fun p hp => by
      rcases List.mem_cons.mp hp with rfl | hp
      · exact fresh_news F b1 a1
      · rcases List.mem_cons.mp hp with rfl | hp
        · exact fresh_news F b2 a2
        · rcases List.mem_cons.mp hp with rfl | hp
          · exact fresh_news F b3 a3
          · exact k.news N (by simp) p hp) (fun p hp => ⟨ne_none (N p hp).1 b1, ne_none (N p hp).1 b2, ne_none (N p hp).1 b3⟩)
      (ne_cls a1 a2 ref_ne_type) (ne_cls a1 a3 ref_ne_type) (ne_cls a2 a3 (type_ne (by decide))))
end
end
local macro_rules | `(tactic| walk_at "call ref") => `(tactic| (k_here; (with_reducible show wpAny _ _ (call (Value.ref 201) _) _ _ _); k_dflt (refine' push_at ?F ?N ?X ?T ?hx ?hdx ?hU ?hn ?hv ?hh ?hd ?hu ?_; (case F => k_asm); (case N => k_asm); (case X => k_asm); (case T => k_asm); (case hx => k_mem); (case hdx => k_mem); (case hU => k_updF); (case hn => omega); (case hv => first | assumption | k_handed); (case hh => exact rfl); (case hd => k_room); (case hu => k_units)); intro h' tk' r' t' n' F' N'; (try dsimp only at N'); (try k_sweep)))

section
section
variable {w : World} {mean : ExcName → Option Value} {mg mb : Str → Option Value}
/-- a loop over a list of the ledger whose body stores the loop's name alone -/
theorem list_loop {prog : Program} {A : Around} {E : Value → Shared → Prop} {s : Shared} {env : Env} {h₀ : Heap} {x : Str} {body : List Stmt} {Q : Flow → Shared → Prop} {l : Addr} {vs : List Value} {nn : Nat} {m₀ : Str → Option Value} {news : List (Addr × Obj)} (I : Nat → List (Addr × Obj) → Prop)
    (hh : A.handled = none) (hl : (l, listOf vs.toArray nn) ∈ news) (F : Fr h₀ env.locals s.heap m₀) (N : News h₀ env.locals s.heap news) (hI : I 0 news)
    (turn : ∀ i v news₁ h tk own, vs[i]? = some v → OwnOff own (news₁.map (·.1)) → I i news₁ → Fr h₀ env.locals h (fun y => if y = x then some v else m₀ y) → News h₀ env.locals h (news₁ ++ own) →
      wpAny (model prog w) A (execs body env) (InvPostG h₀ env.locals (fun m' nx => (l, listOf vs.toArray nn) ∈ nx ∧ I (i + 1) nx ∧ ∃ rv, m' = fun y => if y = x then rv else m₀ y) own { s with heap := h, toks := tk } Q) E { s with heap := h, toks := tk })
    (done : ∀ rv news₁ h tk, I vs.length news₁ → Fr h₀ env.locals h (fun y => if y = x then rv else m₀ y) → News h₀ env.locals h news₁ → Q .next { s with heap := h, toks := tk }) :
    wpAny (model prog w) A (pyIter (.ref l)) (fun it s₂ => LoopAtV prog w A h₀ env x body Q E it s₂) E s := by
  refine kdl_iter (fun i m nx => I i nx ∧ ∃ rv, m = fun y => if y = x then rv else m₀ y) hh hl F N ⟨hI, m₀ x, funext fun y => ?_⟩ ?_ ?_
  · by_cases h : y = x
    · rw [if_pos h, h]
    · rw [if_neg h]
  · rintro i v m₁ news₁ h tk own hv off hl₁ ⟨hi, rv, rfl⟩ F₁ N₁
    have e : (fun y => if y = x then some v else if y = x then rv else m₀ y) = fun y => if y = x then some v else m₀ y := by
      funext y
      by_cases h : y = x
      · rw [if_pos h, if_pos h]
      · rw [if_neg h, if_neg h, if_neg h]
    rw [e] at F₁
    exact turn i v news₁ h tk own hv off hi F₁ N₁
  · rintro m₁ news₁ h tk ⟨hi, rv, rfl⟩ F₁ N₁
    exact done rv news₁ h tk hi F₁ N₁

theorem filled_code {A : Around} {s : Shared} {hb : Heap} {R : Result → Shared → Prop} {rl : Addr} {sym : Value} {rvs : List Value} {n : Nat}
    (hs : ∀ b o, hb.get? b = some o → s.heap.get? b = some o) (X : (hd.heap_39 w.params).In hb) (T : Top hd.view_39 (looseW hd.view_39 []) mean mg mb hb)
    (hr : s.heap.get? rl = some (listOf rvs.toArray n)) (hrb : hb.get? rl = none) (hn : rvs.length < 1000) (hv : ∀ v ∈ rvs, handedIn v = true) (hsy : handedIn sym = true)
    (hh : A.handled = none) (hdp : A.depth + 60 < recursionLimit) (hun : A.units + 300 < cLine)
    (hR : ∀ (h' : Heap) (tk' : Nat) (x dx H St Tr : Addr) (t1 t2 t3 t4 t5 t6 t7 tm u1 u2 : Tok) (n' : Nat), Fwd [] s.heap h' → h'.get? x = some (instObj 323 dx) → h'.get? dx = some (dictOf (cellEs w.params sym H St Tr t1 t2 t3 t4 t5 t6 t7 tm u1 u2) 7) → h'.get? H = some (listOf rvs.toArray n') →
      s.heap.get? x = none → s.heap.get? dx = none → s.heap.get? H = none → R (.ok (.ret (.ref x))) { s with heap := h', toks := tk' }) :
    codeAny (model PySem.Challenge.rw_rh0078_01.row.prog w) A (.call (.ref 369) ⟨[sym, .ref rl], []⟩) R s := by
  obtain ⟨hnd, dp, fr, gd, un⟩ := A
  obtain rfl : hnd = none := hh
  dsimp only at hdp hun
  revert X; k_fill; intro X
  k_dflt (refine' code_in [(rl, listOf rvs.toArray n)] hs X T ?kn ?k6 ?k7 ?k8 ?k9 ?kB ?_ ?c2 ?c3 ?c4 ?c5; (case kn => (intro q hq; rw [List.mem_singleton.mp hq]; exact ⟨hr, hrb⟩)); (case k6 => k_is); (case k7 => k_is); (case k8 => k_room); (case k9 => first | exact BindsTo.of_eq rfl | exact binds_K (X.keeps hs) rfl (by k_is) rfl rfl rfl); (case c5 => decide); (case kB => exact locs rfl); (case c2 => exact rfl); (case c3 => exact rfl); (case c4 => exact rfl))
  intro g L' h₁ gs sg F' N' X' T'
  clear hs X T
  dsimp only
  k_steps
  refine cells_at (by assumption) (by assumption) X' T' hsy rfl (by k_room) (by k_units) ?_
  intro h2 tk2 x dx H St Tr t1 t2 t3 t4 t5 t6 t7 tm u1 u2 F2 N2 o1 o2 o3 o4
  clear F' N'
  obtain ⟨p1, p2, p3⟩ := o1 _ (.head _)
  dsimp only at p1 p2 p3
  k_steps
  refine list_loop (vs := rvs) (nn := n) (fun i nx => ∃ n', nx = [(x, instObj 323 dx), (dx, dictOf (cellEs w.params sym H St Tr t1 t2 t3 t4 t5 t6 t7 tm u1 u2) 7), (H, listOf (rvs.take i).toArray n'), (rl, listOf rvs.toArray n)]) rfl ?hl (by assumption) (by assumption) ⟨0, rfl⟩ ?_ ?_
  case hl => k_mem
  · rintro i v news₁ h tk own hiv off ⟨n', rfl⟩ F3 N3
    have hvv : handedIn v = true := hv v (List.mem_of_getElem? hiv)
    have hl : (rvs.take i).length < 1000 := by rw [List.length_take]; omega
    simp only [List.cons_append, List.nil_append] at N3
    simp only [List.map_cons, List.map_nil] at off
    k_steps
    rename PyProof.Rows.News _ _ _ _ => N4
    rename Fr _ _ _ _ => F4
    have e : rvs.take i ++ [v] = rvs.take (i + 1) := by rw [List.take_add_one, hiv]; rfl
    rw [e] at N4
    refine InvEndG.intro (nx := [(x, instObj 323 dx), (dx, dictOf (cellEs w.params sym H St Tr t1 t2 t3 t4 t5 t6 t7 tm u1 u2) 7), (H, listOf (rvs.take (i + 1)).toArray _), (rl, listOf rvs.toArray n)]) F4 N4 ⟨by simp, ⟨_, rfl⟩, ⟨_, rfl⟩⟩ off (fun p hp => List.mem_append_left own hp) (fun p hp => List.mem_append_right [_, _, _, _] hp)
  · rintro rv news₁ h tk ⟨n', rfl⟩ F3 N3
    rw [List.take_length] at N3
    dsimp only
    k_steps
    rename PyProof.Rows.News _ _ _ _ => N4
    dsimp only
    exact hR _ _ x dx H St Tr t1 t2 t3 t4 t5 t6 t7 tm u1 u2 n' (fun b o e _ => by
        by_cases hb : b = rl
        · subst hb; rw [hr] at e; cases e; exact News.get N4 (.tail _ (.tail _ (.tail _ (.head _))))
        · exact Fr.keep (by assumption) b o (sg b o e (by simpa using hb))) (News.get N4 (.head _)) (News.get N4 (.tail _ (.head _))) (News.get N4 (.tail _ (.tail _ (.head _))))
      (fresh_of sg (News.fresh N4 (.head _)) (by simpa using p1.symm)) (fresh_of sg (News.fresh N4 (.tail _ (.head _))) (by simpa using p2.symm)) (fresh_of sg (News.fresh N4 (.tail _ (.tail _ (.head _)))) (by simpa using p3.symm))
end
end
local macro_rules | `(tactic| walk_at "call ref") => `(tactic| (k_here; (with_reducible show wpAny _ _ (call (Value.ref 323) _) _ _ _); k_dflt (refine' cells_at ?F ?N ?X ?T ?hv ?hh ?hd ?hu ?_; (case F => k_asm); (case N => k_asm); (case X => k_asm); (case T => k_asm); (case hv => first | assumption | k_handed); (case hh => exact rfl); (case hd => k_room); (case hu => k_units)); intro h' tk' x' dx' H' St' Tr' t1' t2' t3' t4' t5' t6' t7' tm' u1' u2' F' N' o1' o2' o3' o4'; (try k_sweep)))

section
section
variable {w : World} {mean : ExcName → Option Value} {mg mb : Str → Option Value}
theorem nrm2 {x z : Str} (hxz : x ≠ z) (p q r : Option Value) (m : Str → Option Value) : (fun y => if y = z then p else if y = x then q else if y = z then r else m y) = fun y => if y = x then q else if y = z then p else m y := by
  funext y
  by_cases h1 : y = x
  · have : ¬ y = z := fun e => hxz (h1.symm.trans e)
    simp only [if_pos h1, if_neg this]
  · by_cases h2 : y = z
    · rw [if_pos h2, if_neg h1, if_pos h2]
    · rw [if_neg h2, if_neg h1, if_neg h2, if_neg h1, if_neg h2]
theorem list_loop2 {prog : Program} {A : Around} {E : Value → Shared → Prop} {s : Shared} {env : Env} {h₀ : Heap} {x : Str} {body : List Stmt} {Q : Flow → Shared → Prop} {l : Addr} {vs : List Value} {nn : Nat} {m₀ : Str → Option Value} {news : List (Addr × Obj)} (z : Str) (zv₀ : Value) (I : Nat → Value → List (Addr × Obj) → Prop) (hxz : x ≠ z)
    (hh : A.handled = none) (hl : (l, listOf vs.toArray nn) ∈ news) (F : Fr h₀ env.locals s.heap (fun y => if y = z then some zv₀ else m₀ y)) (N : News h₀ env.locals s.heap news) (hI : I 0 zv₀ news)
    (turn : ∀ i v zv news₁ h tk own, vs[i]? = some v → OwnOff own (news₁.map (·.1)) → I i zv news₁ → Fr h₀ env.locals h (fun y => if y = x then some v else if y = z then some zv else m₀ y) → News h₀ env.locals h (news₁ ++ own) →
      wpAny (model prog w) A (execs body env) (InvPostG h₀ env.locals (fun m' nx => (l, listOf vs.toArray nn) ∈ nx ∧ ∃ zv', I (i + 1) zv' nx ∧ ∃ rv, m' = fun y => if y = x then rv else if y = z then some zv' else m₀ y) own { s with heap := h, toks := tk } Q) E { s with heap := h, toks := tk })
    (done : ∀ rv zv news₁ h tk, I vs.length zv news₁ → Fr h₀ env.locals h (fun y => if y = x then rv else if y = z then some zv else m₀ y) → News h₀ env.locals h news₁ → Q .next { s with heap := h, toks := tk }) :
    wpAny (model prog w) A (pyIter (.ref l)) (fun it s₂ => LoopAtV prog w A h₀ env x body Q E it s₂) E s := by
  refine kdl_iter (fun i m nx => ∃ zv, I i zv nx ∧ ∃ rv, m = fun y => if y = x then rv else if y = z then some zv else m₀ y) hh hl F N ⟨zv₀, hI, m₀ x, funext fun y => ?_⟩ ?_ ?_
  · by_cases h1 : y = x
    · have : ¬ y = z := fun e => hxz (h1.symm.trans e)
      rw [if_neg this, if_pos h1, h1]
    · rw [if_neg h1]
  · rintro i v m₁ news₁ h tk own hv off hl₁ ⟨zv, hi, rv, rfl⟩ F₁ N₁
    have e : (fun y => if y = x then some v else if y = x then rv else if y = z then some zv else m₀ y) = fun y => if y = x then some v else if y = z then some zv else m₀ y := by
      funext y
      by_cases h : y = x
      · rw [if_pos h, if_pos h]
      · rw [if_neg h, if_neg h, if_neg h]
    rw [e] at F₁
    exact turn i v zv news₁ h tk own hv off hi F₁ N₁
  · rintro m₁ news₁ h tk ⟨zv, hi, rv, rfl⟩ F₁ N₁
    exact done rv zv news₁ h tk hi F₁ N₁

/-- how many of the marks are set -/
def cnt (bs : List Bool) : Nat := bs.count true
/-- the forward table -/
def ftab (bs : List Bool) : List Int := (List.range (bs.length + 1)).map fun i => ((cnt (bs.take i) : Nat) : Int)
theorem ftab_length (bs : List Bool) : (ftab bs).length = bs.length + 1 := by simp [ftab]
theorem ftab_snoc (bs : List Bool) (b : Bool) : ftab (bs ++ [b]) = ftab bs ++ [((cnt (bs ++ [b]) : Nat) : Int)] := by
  unfold ftab
  rw [List.length_append, List.length_singleton, List.range_succ, List.map_append]
  congr 1
  · apply List.map_congr_left
    intro i hi
    have : i < bs.length + 1 := List.mem_range.mp hi
    rw [List.take_append_of_le_length (by omega)]
  · simp only [List.map_cons, List.map_nil]
    rw [List.take_of_length_le (by simp)]
theorem cnt_snoc (bs : List Bool) (b : Bool) : cnt (bs ++ [b]) = cnt bs + (if b then 1 else 0) := by
  unfold cnt
  rw [List.count_append]
  cases b <;> simp
theorem cnt_le (bs : List Bool) : cnt bs ≤ bs.length := List.count_le_length
theorem ints_snoc {vs : List Value} {ns : List Int} (h : IntsAre vs ns) (k : Int) (t : Tok) : IntsAre (vs ++ [.int k t]) (ns ++ [k]) := by
  induction h with
  | nil => exact .cons _ _ .nil
  | cons _ _ _ ih => exact .cons _ _ ih

theorem int_eq {a b : Int} (e : a = b) (t : Tok) : Value.int a t = Value.int b t := by rw [e]
theorem fwd_code {A : Around} {s : Shared} {hb : Heap} {R : Result → Shared → Prop} {ml : Addr} {bs : List Bool} {n : Nat}
    (hs : ∀ b o, hb.get? b = some o → s.heap.get? b = some o) (X : (hd.heap_39 w.params).In hb) (T : Top hd.view_39 (looseW hd.view_39 []) mean mg mb hb)
    (hr : s.heap.get? ml = some (listOf (bs.map Value.bool).toArray n)) (hrb : hb.get? ml = none) (hn : bs.length < 1000)
    (hh : A.handled = none) (hdp : A.depth + 60 < recursionLimit) (hun : A.units + 300 < cLine)
    (hR : ∀ (h' : Heap) (tk' : Nat) (Tb : Addr) (tvs : List Value) (n' : Nat), Fwd [] s.heap h' → h'.get? Tb = some (listOf tvs.toArray n') → IntsAre tvs (ftab bs) → s.heap.get? Tb = none → R (.ok (.ret (.ref Tb))) { s with heap := h', toks := tk' }) :
    codeAny (model PySem.Challenge.rw_rh0078_01.row.prog w) A (.call (.ref 334) ⟨[.ref ml], []⟩) R s := by
  obtain ⟨hnd, dp, fr, gd, un⟩ := A
  obtain rfl : hnd = none := hh
  dsimp only at hdp hun
  revert X; k_fill; intro X
  k_dflt (refine' code_in [(ml, listOf (bs.map Value.bool).toArray n)] hs X T ?kn ?k6 ?k7 ?k8 ?k9 ?kB ?_ ?c2 ?c3 ?c4 ?c5; (case kn => (intro q hq; rw [List.mem_singleton.mp hq]; exact ⟨hr, hrb⟩)); (case k6 => k_is); (case k7 => k_is); (case k8 => k_room); (case k9 => first | exact BindsTo.of_eq rfl | exact binds_K (X.keeps hs) rfl (by k_is) rfl rfl rfl); (case c5 => decide); (case kB => exact locs rfl); (case c2 => exact rfl); (case c3 => exact rfl); (case c4 => exact rfl))
  intro g L' h₁ gs sg F' N' X' T'
  clear hs X T
  dsimp only
  k_steps
  rename_i Tb ha l1 hb' hc F1 N1
  refine list_loop2 (vs := bs.map Value.bool) (nn := n) (Str.ofString "total") (.int 0 _) (fun i zv nx => ∃ t tvs n', zv = .int (cnt (bs.take i) : Nat) t ∧ IntsAre tvs (ftab (bs.take i)) ∧ nx = [(Tb, listOf tvs.toArray n'), (ml, listOf (bs.map Value.bool).toArray n)]) (by decide) rfl ?hl F1 N1 ⟨_, _, _, rfl, .cons _ _ .nil, rfl⟩ ?_ ?_
  case hl => k_mem
  · rintro i v zv news₁ h tk own hiv off ⟨t, tvs, n', rfl, hT, rfl⟩ F3 N3
    obtain ⟨b, hb1, rfl⟩ : ∃ b, bs[i]? = some b ∧ Value.bool b = v := by simpa using hiv
    have hlen := hT.length
    rw [ftab_length, List.length_take] at hlen
    have htv : tvs.length < 2000 := by omega
    have l1 := ltN l1
    simp only [List.cons_append, List.nil_append] at N3
    simp only [List.map_cons, List.map_nil] at off
    have e1 : bs.take (i + 1) = bs.take i ++ [b] := by rw [List.take_add_one, hb1]; rfl
    k_steps
    · rename_i hbt _ _ F4 N4
      rw [List.push_toArray] at N4
      have e2 : ((cnt (bs.take (i + 1)) : Nat) : Int) = (cnt (bs.take i) : Nat) + 1 := by rw [e1, cnt_snoc, hbt]; rfl
      refine InvEndG.intro (nx := [(Tb, listOf (tvs ++ [Value.int ((cnt (bs.take i) : Nat) + 1) _]).toArray (n' + 1)), (ml, listOf (bs.map Value.bool).toArray n)]) F4 N4 ⟨by simp, _, ⟨_, _, _, int_eq e2.symm _, ?_, rfl⟩, _, nrm2 (by decide) _ _ _ _⟩ off (fun p hp => List.mem_append_left own hp) (fun p hp => List.mem_append_right [_, _] hp)
      · rw [e1, ftab_snoc, ← e1, e2]
        exact ints_snoc hT _ _
    · rename_i hbt _ F4 N4
      rw [List.push_toArray] at N4
      have e2 : ((cnt (bs.take (i + 1)) : Nat) : Int) = (cnt (bs.take i) : Nat) := by rw [e1, cnt_snoc, hbt]; rfl
      refine InvEndG.intro (nx := [(Tb, listOf (tvs ++ [Value.int (cnt (bs.take i) : Nat) _]).toArray (n' + 1)), (ml, listOf (bs.map Value.bool).toArray n)]) F4 N4 ⟨by simp, _, ⟨_, _, _, int_eq e2.symm _, ?_, rfl⟩, _, rfl⟩ off (fun p hp => List.mem_append_left own hp) (fun p hp => List.mem_append_right [_, _] hp)
      · rw [e1, ftab_snoc, ← e1, e2]
        exact ints_snoc hT _ _
  · rintro rv zv news₁ h tk ⟨t, tvs, n', rfl, hT, rfl⟩ F3 N3
    rw [List.length_map, List.take_length] at hT
    dsimp only
    k_steps
    rename PyProof.Rows.News _ _ _ _ => N4
    dsimp only
    exact hR _ _ Tb tvs n' (fun b o e _ => by
        by_cases hb : b = ml
        · subst hb; rw [hr] at e; cases e; exact News.get N4 (.tail _ (.head _))
        · exact Fr.keep (by assumption) b o (sg b o e (by simpa using hb))) (News.get N4 (.head _)) hT
      (fresh_of sg (News.fresh N4 (.head _)) (by simpa using fun e : Tb = ml => Nat.lt_irrefl _ (e ▸ l1)))
end
end

section
set_option maxHeartbeats 800000
section
variable {prog : Program} {w : World} {A : Around} {E : Value → Shared → Prop} {s : Shared}
theorem upd_end {l : Addr} {vs ws : List Value} {n : Nat} {Q : Unit → Shared → Prop} {F : Array Value → Array Value} (hl : s.heap.get? l = some (listOf vs.toArray n)) (ef : F vs.toArray = ws.toArray)
    (h : ∀ h' n', Fwd [l] s.heap h' → h'.get? l = some (listOf ws.toArray n') → Q () { s with heap := h' }) : Q () { s with heap := s.heap.update l (Obj.mapSeq F) } := by
  refine h _ (if (F vs.toArray).size == vs.toArray.size then n else n + 1) (fun b o e nb => ?_) ?_
  · rw [Heap.get?_update_other _ _ (fun q => nb (by rw [← q]; exact List.mem_singleton.mpr rfl))]
    exact e
  · have z := IsL.update (n := n) hl F
    rw [← ef]
    exact z
theorem delItem_tail {l sl : Addr} {vs : List Value} {n k : Nat} {t : Tok} {Q : Unit → Shared → Prop} (hl : s.heap.get? l = some (listOf vs.toArray n)) (hs : s.heap.IsSliceOf sl (.int k t) .none .none) (hk : k ≤ vs.length) (hv : vs.length < 1000)
    (h : ∀ h' n', Fwd [l] s.heap h' → h'.get? l = some (listOf (vs.take k).toArray n') → Q () { s with heap := h' }) : wpAny (model prog w) A (delItem (.ref l) (.ref sl)) Q E s := by
  have hL : s.heap.IsList l vs.toArray := ⟨_, hl, rfl, n, rfl⟩
  obtain ⟨os, hos, hcs, hds⟩ := id hs
  have hTs : s.TypeIs (.ref sl) "slice" := ⟨os, hos, hcs⟩
  refine wpAny_delItem_slot hL.typeIs (by decide) F.slot_list_delitem (wpAny_call_entry F.slot_list_delitem hL.typeIs F.entry_list_delitem ?_ (F.args_list_delitem_2 _ _))
  show wpAny _ _ (Builtin.List.listSubscript? (.ref sl) >>= _) _ _ s
  refine wpAny_bind ?_
  unfold Builtin.List.listSubscript?
  refine wpAny_bind (wpAny_specialOf hTs slice_no_index ?_)
  simp only [Option.isNone_none, if_true]
  refine wpAny_pure ?_
  show wpAny _ _ (typeOf (.ref sl) >>= _) _ _ s
  refine wpAny_bind (wpAny_typeOf hTs ?_)
  rw [if_neg (by decide)]
  rw [listSliceParts_eq]
  refine wpAny_bind (wpAny_bind (wpAny_field hos hds (x := Value.none) rfl (wpAny_bind (wpAny_listPart IsPart.none ?_))))
  rw [if_neg (by decide)]
  refine wpAny_bind (wpAny_field hos hds (x := .int k t) rfl (wpAny_bind (wpAny_listPart (IsPart.int _ _) ?_)))
  refine wpAny_bind (wpAny_field hos hds (x := Value.none) rfl (wpAny_bind (wpAny_listPart IsPart.none (wpAny_pure ?_))))
  refine wpAny_bind (m := Builtin.List.listItems (.ref l)) ?_
  unfold Builtin.List.listItems
  refine wpAny_bind (wpAny_seqItems hl rfl (wpAny_pure ?_))
  refine wpAny_bind (wpAny_of_eq (sliceIndices_raw (some (k : Int)) none none vs.toArray.size (by decide)) ?_)
  refine wpAny_bind (wpAny_rule ?_)
  have fe : ∀ (P : Nat → Bool), (∀ b, b < vs.length → P b = decide (k ≤ b)) → ∀ (xs : List Value) (b : Nat), b + xs.length ≤ vs.length → (xs.zipIdx b).filterMap (fun x => if P x.2 = true then none else some x.1) = xs.take (k - b) := by
    intro P hP xs
    induction xs with
    | nil => intro b _; simp
    | cons x r ih =>
      intro b hb
      rw [List.length_cons] at hb
      rw [List.zipIdx_cons, List.filterMap_cons, ih (b + 1) (by omega)]
      by_cases hbk : b < k
      · have e : P b = false := by rw [hP b (by omega)]; exact decide_eq_false (by omega)
        obtain ⟨j, hj⟩ : ∃ j, k - b = j + 1 := ⟨k - b - 1, by omega⟩
        rw [e, hj, List.take_succ_cons, show k - (b + 1) = j by omega]
        rfl
      · have e : P b = true := by rw [hP b (by omega)]; exact decide_eq_true (by omega)
        rw [e, show k - b = 0 by omega, show k - (b + 1) = 0 by omega]
        simp
  have hsel : ∀ b, b < vs.length → Builtin.Bytes.selects (k : Int) (vs.length : Int) 1 b = decide (k ≤ b) := by
    intro b hb
    unfold Builtin.Bytes.selects
    rw [if_pos (by decide), Int.emod_one]
    have a2 : decide ((b : Int) < (vs.length : Int)) = true := decide_eq_true (by omega)
    rw [a2]
    by_cases h : k ≤ b
    · rw [decide_eq_true h, decide_eq_true (show (k : Int) ≤ (b : Int) by omega)]; rfl
    · rw [decide_eq_false h, decide_eq_false (show ¬ (k : Int) ≤ (b : Int) by omega)]; rfl
  have eb : sliceBounds (some (k : Int)) none none vs.toArray.size = ((k : Int), (vs.length : Int), 1) := by
    unfold sliceBounds
    simp only [Option.getD_none, List.size_toArray]
    have h1 : ¬ ((k : Int) < 0) := by omega
    rw [if_neg h1, if_pos (by decide), if_pos (by decide)]
    have : max (0 : Int) (min (k : Int) (vs.length : Int)) = k := by omega
    rw [this]
  rw [eb]
  have sl1 : (1000 : Nat) ≤ sizeLine := by rw [sizeLine_eq]; omega
  unfold Builtin.List.listUpdate
  dsimp only
  refine wpAny_bind (wpAny_updateSeq hl rfl ?h ?z1 ?z2)
  case z1 => rw [List.size_toArray]; omega
  case z2 =>
    rw [List.size_toArray]
    refine Nat.le_trans (List.length_filterMap_le _ _) ?_
    rw [List.length_zipIdx, List.toList_toArray]; omega
  case h =>
    refine wpAny_bind (wpAny_letGo (wpAny_pure ?_))
    refine ⟨_, rfl, upd_end hl ?_ h⟩
    refine congrArg List.toArray ?_
    exact (fe _ hsel vs 0 (by omega))
end
end

section
section
variable {w : World} {mean : ExcName → Option Value} {mg mb : Str → Option Value}
/-- what the ledger at the def's end says of all that stood before the call -/
theorem fwd_led {W : List Addr} {news news' : List (Addr × Obj)} {h g h' : Heap} (sg : Fwd (news.map (·.1)) h g) (hn : ∀ q ∈ news, h.get? q.1 = some q.2) (kp : ∀ b o, g.get? b = some o → h'.get? b = some o) (N : ∀ q ∈ news', h'.get? q.1 = some q.2)
    (hk : ∀ q ∈ news, q.1 ∉ W → q ∈ news') : Fwd W h h' := fun b o e nb => by
  by_cases hb : b ∈ news.map (·.1)
  · obtain ⟨q, hq, rfl⟩ := List.mem_map.mp hb
    have := hn q hq
    rw [e] at this
    cases this
    exact N q (hk q hq nb)
  · exact kp b o (sg b o e hb)
theorem trim_code {A : Around} {s : Shared} {hb : Heap} {R : Result → Shared → Prop} {x dx H St Tr : Addr} {sym : Value} {t1 t2 t3 t4 t5 t6 t7 tm u1 u2 tk0 : Tok} {vs : List Value} {n nd k : Nat}
    (hs : ∀ b o, hb.get? b = some o → s.heap.get? b = some o) (X : (hd.heap_39 w.params).In hb) (T : Top hd.view_39 (looseW hd.view_39 []) mean mg mb hb)
    (hx : s.heap.get? x = some (instObj 323 dx)) (hxb : hb.get? x = none) (hdx : s.heap.get? dx = some (dictOf (cellEs w.params sym H St Tr t1 t2 t3 t4 t5 t6 t7 tm u1 u2) nd)) (hdb : hb.get? dx = none)
    (hH : s.heap.get? H = some (listOf vs.toArray n)) (hHb : hb.get? H = none) (hn : vs.length < 1000) (hk : k ≤ vs.length)
    (hh : A.handled = none) (hdp : A.depth + 20 < recursionLimit) (hun : A.units + 100 < cLine)
    (hR : ∀ (h' : Heap) (tk' : Nat) (n' : Nat), Fwd [H] s.heap h' → h'.get? H = some (listOf (vs.take k).toArray n') → R (.ok (.ret .none)) { s with heap := h', toks := tk' }) :
    codeAny (model PySem.Challenge.rw_rh0078_01.row.prog w) A (.call (.ref 222) ⟨[.ref x, .int k tk0], []⟩) R s := by
  obtain ⟨hnd, dp, fr, gd, un⟩ := A
  obtain rfl : hnd = none := hh
  dsimp only at hdp hun
  have nxd := ne_cls hx hdx ref_ne_type
  have nxH := ne_cls hx hH ref_ne_type
  have ndH := ne_cls hdx hH (type_ne (by decide))
  revert X; k_fill; intro X
  k_dflt (refine' code_in [(x, instObj 323 dx), (dx, dictOf (cellEs w.params sym H St Tr t1 t2 t3 t4 t5 t6 t7 tm u1 u2) nd), (H, listOf vs.toArray n)] hs X T ?kn ?k6 ?k7 ?k8 ?k9 ?kB ?_ ?c2 ?c3 ?c4 ?c5; (case kn => (intro q hq; rcases List.mem_cons.mp hq with rfl | hq; exact ⟨hx, hxb⟩; rcases List.mem_cons.mp hq with rfl | hq; exact ⟨hdx, hdb⟩; rw [List.mem_singleton.mp hq]; exact ⟨hH, hHb⟩)); (case k6 => k_is); (case k7 => k_is); (case k8 => k_room); (case k9 => first | exact BindsTo.of_eq rfl | exact binds_K (X.keeps hs) rfl (by k_is) rfl rfl rfl); (case c5 => decide); (case kB => exact locs rfl); (case c2 => exact rfl); (case c3 => exact rfl); (case c4 => exact rfl))
  intro g L' h₁ gs sg F' N' X' T'
  have hvn : vs.length < 2 ^ 62 := by omega
  clear hs X T
  dsimp only
  k_steps
  refine delItem_tail (n := n) (Heap.get?_push_of_some _ (News.get N' (.tail _ (.tail _ (.head _))))) (Heap.IsSliceOf.new _ _ _ _) hk hn fun h2 n2 k2 e2 => ?_
  dsimp only
  k_steps
  dsimp only
  have k1 : Fwd [H] s.heap h₁ := fwd_led (news' := [(x, instObj 323 dx), (dx, dictOf (cellEs w.params sym H St Tr t1 t2 t3 t4 t5 t6 t7 tm u1 u2) nd)]) sg (by intro q hq; rcases List.mem_cons.mp hq with rfl | hq; exact hx; rcases List.mem_cons.mp hq with rfl | hq; exact hdx; rw [List.mem_singleton.mp hq]; exact hH) F'.keep
    (fun q hq => (N' q (List.mem_append_left [_] hq)).1) (by intro q hq nq; rcases List.mem_cons.mp hq with rfl | hq; exact .head _; rcases List.mem_cons.mp hq with rfl | hq; exact .tail _ (.head _); exact absurd (by rw [List.mem_singleton.mp hq]; exact .head _) nq)
  exact hR _ _ n2 (fun b o e nb => k2 b o (Heap.get?_push_of_some _ (k1 b o e nb)) nb) e2

theorem trim_at {A : Around} {s : Shared} {h₀ : Heap} {L : Addr} {m : Str → Option Value} {Q E : Value → Shared → Prop} {x dx H St Tr : Addr} {sym : Value} {t1 t2 t3 t4 t5 t6 t7 tm u1 u2 tk0 : Tok} {vs : List Value} {n nd k : Nat} {news : List (Addr × Obj)} {g : Obj → List (Addr × Obj)}
    (F : Fr h₀ L s.heap m) (N : News h₀ L s.heap news) (X : (hd.heap_39 w.params).In h₀) (T : Top hd.view_39 (looseW hd.view_39 []) mean mg mb h₀)
    (hx : (x, instObj 323 dx) ∈ news) (hdx : (dx, dictOf (cellEs w.params sym H St Tr t1 t2 t3 t4 t5 t6 t7 tm u1 u2) nd) ∈ news) (hU : UpdF H (listOf vs.toArray n) news g) (hn : vs.length < 1000) (hk : k ≤ vs.length)
    (hh : A.handled = none) (hdp : A.depth + 20 < recursionLimit) (hun : A.units + 100 < cLine)
    (hQ : ∀ (h' : Heap) (tk' : Nat) (n' : Nat), Fr h₀ L h' m → News h₀ L h' (g (listOf (vs.take k).toArray n')) → Q .none { s with heap := h', toks := tk' }) :
    wpAny (model PySem.Challenge.rw_rh0078_01.row.prog w) A (call (.ref 222) [.ref x, .int k tk0]) Q E s :=
  wpAny_call (trim_code F.keep X T (N _ hx).1 (N _ hx).2.2 (N _ hdx).1 (N _ hdx).2.2 (N _ (updF_mem hU)).1 (N _ (updF_mem hU)).2.2 hn hk hh hdp hun fun h' tk' n' k e =>
    hQ h' tk' n' (updF_fr hU F N k) (updF_news hU N k e))
end
end

section
section
variable {w : World} {mean : ExcName → Option Value} {mg mb : Str → Option Value}
theorem setitem_at {prog : Program} {A : Around} {E : Value → Shared → Prop} {s : Shared} {h₀ : Heap} {L H : Addr} {m : Str → Option Value} {vs : List Value} {n : Nat} {k : Int} {t : Tok} {v : Value} {Q : Unit → Shared → Prop} {news : List (Addr × Obj)} {g : Obj → List (Addr × Obj)}
    (F : Fr h₀ L s.heap m) (N : News h₀ L s.heap news) (U : UpdF H (listOf vs.toArray n) news g) (h0 : 0 ≤ k) (h1 : k < vs.length) (h2 : vs.length < 1000)
    (h : ∀ h' n', Fr h₀ L h' m → News h₀ L h' (g (listOf (vs.set k.toNat v).toArray n')) → Fwd [H] s.heap h' → Q () { s with heap := h' }) : wpAny (model prog w) A (setItem (.ref H) (.int k t) v) Q E s := by
  have z := N _ (updF_mem U)
  refine ki_setAt z.1 h0 (by omega) (by rw [List.size_toArray]; exact h1) (upd_end (ws := vs.set k.toNat v) z.1 ?_ fun h' n' k e => h h' n' (updF_fr U F N k) (updF_news U N k e) k)
  apply Array.toList_inj.mp
  simp

theorem range_loopJ {prog : Program} {A : Around} {E : Value → Shared → Prop} {s : Shared} {env : Env} {h₀ : Heap} {x : Str} {body : List Stmt} {Q : Flow → Shared → Prop} {r : Addr} {b₀ : Int} {t₀ u₀ v₀ : Tok} {m₀ : Str → Option Value} {news : List (Addr × Obj)} (n : Nat) (J : Nat → (Str → Option Value) → List (Addr × Obj) → Prop)
    (hh : A.handled = none) (hr : IsRange s.heap r 0 b₀ 1 t₀ u₀ v₀) (hb : b₀ = (n : Int)) (hn : n < 2 ^ 62) (F : Fr h₀ env.locals s.heap m₀) (N : News h₀ env.locals s.heap news) (hj : J 0 m₀ news)
    (turn : ∀ i t m₁ nx h tk own, i < n → OwnOff own (nx.map (·.1)) → J i m₁ nx → Fr h₀ env.locals h (fun y => if y = x then some (.int (i : Int) t) else m₁ y) → News h₀ env.locals h (nx ++ own) →
      wpAny (model prog w) A (execs body env) (InvPostG h₀ env.locals (J (i + 1)) own { s with heap := h, toks := tk } Q) E { s with heap := h, toks := tk })
    (done : ∀ m₁ nx h tk, J n m₁ nx → Fr h₀ env.locals h m₁ → News h₀ env.locals h nx → Q .next { s with heap := h, toks := tk }) :
    wpAny (model prog w) A (pyIter (.ref r)) (fun it s₂ => LoopAtV prog w A h₀ env x body Q E it s₂) E s := by
  subst hb
  have hsz : Builtin.Range.rangeSize 0 (n : Int) 1 = (n : Int) := by rw [rangeSize_nat]; omega
  refine wpAny_pyIter_range hr (small_one (by omega) (by omega) (by omega) (by omega)) ?_
  have W : Walks prog w A s.heap.objs.size [s.heap.objs.size] [s.heap.objs.size] n (fun i v => i < n ∧ ∃ t, v = .int (0 + i * 1) t)
      (fun i h => IsRangeIter h s.heap.objs.size (0 + (i : Nat) * 1) ((n : Int) - (i : Nat)) 1) := (Walks.range hh _ 0 1 n).bound
  refine kdr_loop J W (fun _ h => h) (fun _ h => h) (fun i h hi b hb => ?_) (fun hm => ?_) (fun b hb => ?_) (fun p hp hI => ?_) ?_ (F.push _) (fun p hp => ⟨Heap.get?_push_of_some _ (N p hp).1, (N p hp).2⟩) hj ?_ done
  · rw [List.mem_singleton.mp hb]
    exact ⟨_, hi⟩
  · exact absurd F.ns.lt ((List.mem_singleton.mp hm) ▸ Nat.lt_irrefl _)
  · rw [List.mem_singleton.mp hb]
    exact next_is_new F
  · exact absurd (Heap.lt_size (N p hp).1) ((List.mem_singleton.mp hI) ▸ Nat.lt_irrefl _)
  · show IsRangeIter _ _ _ _ _
    rw [hsz]
    simpa using Heap.get?_push_size _ rfl
  · rintro i v m₁ nx h tk own hi ⟨_, t, rfl⟩ off hJ F₁ N₁
    have e : (0 : Int) + (i : Int) * 1 = (i : Int) := by omega
    rw [e] at F₁
    exact turn i t m₁ nx h tk own hi off hJ F₁ N₁

theorem upd_twice {x : Str} (p q : Option Value) (m : Str → Option Value) : (fun y => if y = x then p else if y = x then q else m y) = fun y => if y = x then p else m y := by
  funext y
  by_cases h : y = x
  · rw [if_pos h, if_pos h]
  · rw [if_neg h, if_neg h, if_neg h]
theorem upd_self {x : Str} (m : Str → Option Value) : m = fun y => if y = x then m x else m y := by
  funext y
  by_cases h : y = x
  · rw [if_pos h, h]
  · rw [if_neg h]
theorem range_loop {prog : Program} {A : Around} {E : Value → Shared → Prop} {s : Shared} {env : Env} {h₀ : Heap} {x : Str} {body : List Stmt} {Q : Flow → Shared → Prop} {r : Addr} {b₀ : Int} {t₀ u₀ v₀ : Tok} {m₀ : Str → Option Value} {news : List (Addr × Obj)} (n : Nat) (I : Nat → List (Addr × Obj) → Prop)
    (hh : A.handled = none) (hr : IsRange s.heap r 0 b₀ 1 t₀ u₀ v₀) (hb : b₀ = (n : Int)) (hn : n < 2 ^ 62) (F : Fr h₀ env.locals s.heap m₀) (N : News h₀ env.locals s.heap news) (hj : I 0 news)
    (turn : ∀ i t nx h tk own, i < n → OwnOff own (nx.map (·.1)) → I i nx → Fr h₀ env.locals h (fun y => if y = x then some (.int (i : Int) t) else m₀ y) → News h₀ env.locals h (nx ++ own) →
      wpAny (model prog w) A (execs body env) (InvPostG h₀ env.locals (fun m' nx => I (i + 1) nx ∧ ∃ rv, m' = fun y => if y = x then rv else m₀ y) own { s with heap := h, toks := tk } Q) E { s with heap := h, toks := tk })
    (done : ∀ rv nx h tk, I n nx → Fr h₀ env.locals h (fun y => if y = x then rv else m₀ y) → News h₀ env.locals h nx → Q .next { s with heap := h, toks := tk }) :
    wpAny (model prog w) A (pyIter (.ref r)) (fun it s₂ => LoopAtV prog w A h₀ env x body Q E it s₂) E s := by
  refine range_loopJ n (fun i m nx => I i nx ∧ ∃ rv, m = fun y => if y = x then rv else m₀ y) hh hr hb hn F N ⟨hj, m₀ x, upd_self m₀⟩ ?_ ?_
  · rintro i t m₁ nx h tk own hi off ⟨hI, rv, rfl⟩ F₁ N₁
    rw [upd_twice] at F₁
    exact turn i t nx h tk own hi off hI F₁ N₁
  · rintro m₁ nx h tk ⟨hI, rv, rfl⟩ F₁ N₁
    exact done rv nx h tk hI F₁ N₁
end
end

section
/-- the items whose mark is set, in their order -/
def kept {α : Type} (bs : List Bool) (l : List α) : List α := ((bs.zip l).filter (·.1)).map (·.2)
theorem kept_snoc {α : Type} {bs : List Bool} {l : List α} (h : bs.length = l.length) (b : Bool) (x : α) : kept (bs ++ [b]) (l ++ [x]) = kept bs l ++ (if b then [x] else []) := by
  unfold kept
  rw [List.zip_append h, List.filter_append, List.map_append]
  cases b <;> rfl
theorem kept_length {α : Type} : ∀ {bs : List Bool} {l : List α}, bs.length = l.length → (kept bs l).length = cnt bs
  | [], [], _ => rfl
  | b :: bs, x :: l, h => by
    have ih := kept_length (bs := bs) (l := l) (by simpa using h)
    cases b with
    | true => simp [kept, cnt] at ih ⊢; exact ih
    | false => simp [kept, cnt] at ih ⊢; exact ih
theorem take_succ_of {α : Type} {l : List α} {i : Nat} {x : α} (h : l[i]? = some x) : l.take (i + 1) = l.take i ++ [x] := by rw [List.take_add_one, h]; rfl
theorem take_set_succ {α : Type} {l : List α} {k : Nat} (h : k < l.length) (v : α) : (l.set k v).take (k + 1) = l.take k ++ [v] := by
  rw [take_succ_of (List.getElem?_set_self h), List.take_set_of_le (Nat.le_refl k)]
theorem ftab_get {bs : List Bool} {i : Nat} (h : i ≤ bs.length) : (ftab bs)[i]? = some ((cnt (bs.take i) : Nat) : Int) := by
  unfold ftab
  rw [List.getElem?_map, List.getElem?_range (by omega)]
  rfl
theorem cnt_take_le (bs : List Bool) (i : Nat) : cnt (bs.take i) ≤ i := Nat.le_trans (cnt_le _) (by rw [List.length_take]; omega)
theorem cnt_take_mono (bs : List Bool) {i j : Nat} (h : i ≤ j) : cnt (bs.take i) ≤ cnt (bs.take j) := by
  have e : bs.take i = (bs.take j).take i := by rw [List.take_take, Nat.min_eq_left h]
  rw [e]
  exact List.Sublist.count_le _ (List.take_sublist _ _)
theorem cnt_take_total (bs : List Bool) (i : Nat) : cnt (bs.take i) ≤ cnt bs := List.Sublist.count_le _ (List.take_sublist _ _)
/-- a cell led on by a table -/
def mv (ts : List Int) (c : Int × Int) : Int × Int := (c.1, if isPtr c.1 then ts.getD c.2.toNat 0 else c.2)
/-- a heap slid by marks -/
def slid (bs : List Bool) (cs : List (Int × Int)) : List (Int × Int) := (kept bs cs).map (mv (ftab bs))

/-- the value is a cell of the heap -/
def CellV (h : Heap) (v : Value) (c : Int × Int) : Prop := ∃ a tt tx n, v = .ref a ∧ h.get? a = some (tupO c.1 c.2 tt tx n)
/-- .. of the base or of the ledger -/
def CellL (g : Heap) (tl : List (Addr × Obj)) (v : Value) (c : Int × Int) : Prop := ∃ a tt tx n, v = .ref a ∧ (g.get? a = some (tupO c.1 c.2 tt tx n) ∨ (a, tupO c.1 c.2 tt tx n) ∈ tl)
/-- two lists in step -/
inductive Both {α β : Type} (R : α → β → Prop) : List α → List β → Prop
  | nil : Both R [] []
  | cons {a : α} {b : β} {l : List α} {m : List β} : R a b → Both R l m → Both R (a :: l) (b :: m)
theorem Both.length {α β : Type} {R : α → β → Prop} {l : List α} {m : List β} (h : Both R l m) : l.length = m.length := by
  induction h with
  | nil => rfl
  | cons _ _ ih => rw [List.length_cons, List.length_cons, ih]
theorem Both.mono {α β : Type} {R S : α → β → Prop} {l : List α} {m : List β} (h : Both R l m) (k : ∀ a b, a ∈ l → R a b → S a b) : Both S l m := by
  induction h with
  | nil => exact .nil
  | cons r _ ih => exact .cons (k _ _ (.head _) r) (ih fun a b ha => k a b (.tail _ ha))
theorem Both.snoc {α β : Type} {R : α → β → Prop} {l : List α} {m : List β} (h : Both R l m) {a : α} {b : β} (r : R a b) : Both R (l ++ [a]) (m ++ [b]) := by
  induction h with
  | nil => exact .cons r .nil
  | cons r' _ ih => exact .cons r' ih
theorem Both.get {α β : Type} {R : α → β → Prop} {l : List α} {m : List β} (h : Both R l m) {i : Nat} {b : β} (e : m[i]? = some b) : ∃ a, l[i]? = some a ∧ R a b := by
  induction h generalizing i with
  | nil => cases e
  | cons r _ ih =>
    cases i with
    | zero => cases e; exact ⟨_, rfl, r⟩
    | succ i => exact ih e
theorem Both.mem {α β : Type} {R : α → β → Prop} {l : List α} {m : List β} (h : Both R l m) {a : α} (ha : a ∈ l) : ∃ b, b ∈ m ∧ R a b := by
  induction h with
  | nil => cases ha
  | cons r _ ih =>
    rcases List.mem_cons.mp ha with rfl | ha
    · exact ⟨_, .head _, r⟩
    · obtain ⟨b, hb, hr⟩ := ih ha
      exact ⟨b, .tail _ hb, hr⟩
theorem CellV.keeps {h h' : Heap} {v : Value} {c : Int × Int} {W : List Addr} (x : CellV h v c) (k : Fwd W h h') (hW : ∀ b ∈ W, ∀ o, h.get? b = some o → o.cls ≠ .type "tuple") : CellV h' v c := by
  obtain ⟨a, tt, tx, n, rfl, e⟩ := x
  exact ⟨a, tt, tx, n, rfl, k a _ e fun q => hW a q _ e rfl⟩
theorem CellL.mono {g : Heap} {tl tl' : List (Addr × Obj)} {v : Value} {c : Int × Int} (x : CellL g tl v c) (s : ∀ p ∈ tl, p ∈ tl') : CellL g tl' v c := by
  obtain ⟨a, tt, tx, n, rfl, e⟩ := x
  exact ⟨a, tt, tx, n, rfl, e.elim .inl fun h => .inr (s _ h)⟩
theorem CellL.heap {g h : Heap} {L : Addr} {m : Str → Option Value} {tl news : List (Addr × Obj)} {v : Value} {c : Int × Int} (x : CellL g tl v c) (F : Fr g L h m) (N : News g L h news) (s : ∀ p ∈ tl, p ∈ news) : CellV h v c := by
  obtain ⟨a, tt, tx, n, rfl, e⟩ := x
  exact ⟨a, tt, tx, n, rfl, e.elim (F.keep _ _) fun q => (N _ (s _ q)).1⟩
end
local macro_rules | `(tactic| walk_at "subscriptTail") => `(tactic| ((with_reducible show wpAny _ _ (subscriptTail _ _ (Value.ref _) (Value.int _ _)) _ _ _); (with_unfolding_all refine' item_list ?l ?a ?b ?c ?_; (case l => is_list); (case c => with_reducible assumption); (case a => omega); (case b => omega); k_whole)))
local macro_rules | `(tactic| walk_at "call ref") => `(tactic| (k_here; (with_reducible show wpAny _ _ (call (Value.ref 222) _) _ _ _); k_dflt (refine' trim_at ?F ?N ?X ?T ?hx ?hdx ?hU ?hn ?hk ?hh ?hd ?hu ?_; (case F => k_asm); (case N => k_asm); (case X => k_asm); (case T => k_asm); (case hx => k_mem); (case hdx => k_mem); (case hU => k_updF); (case hn => omega); (case hk => omega); (case hh => exact rfl); (case hd => k_room); (case hu => k_units)); intro h' tk' n' F' N'; (try dsimp only at N'); (try k_sweep)))
local macro_rules | `(tactic| walk_at "pyIter ref") => `(tactic| ((with_reducible show wpAny _ _ (pyIter (Value.ref _)) _ _ _); refine Hold.out ?_))

section
section
variable {w : World} {mean : ExcName → Option Value} {mg mb : Str → Option Value}
theorem slide_code {A : Around} {s : Shared} {hb : Heap} {R : Result → Shared → Prop} {x dx H St Tr ml Tb : Addr} {sym : Value} {t1 t2 t3 t4 t5 t6 t7 tm u1 u2 : Tok} {cvs tvs : List Value} {n nd : Nat} {bs : List Bool} {cs : List (Int × Int)}
    (hs : ∀ b o, hb.get? b = some o → s.heap.get? b = some o) (X : (hd.heap_39 w.params).In hb) (T : Top hd.view_39 (looseW hd.view_39 []) mean mg mb hb)
    (hx : s.heap.get? x = some (instObj 323 dx)) (hxb : hb.get? x = none) (hdx : s.heap.get? dx = some (dictOf (cellEs w.params sym H St Tr t1 t2 t3 t4 t5 t6 t7 tm u1 u2) nd)) (hdb : hb.get? dx = none)
    (hH : s.heap.get? H = some (listOf cvs.toArray n)) (hHb : hb.get? H = none) (hm : s.heap.IsList ml (bs.map Value.bool).toArray) (hmH : ml ≠ H) (hTb : s.heap.IsList Tb tvs.toArray) (hTH : Tb ≠ H) (hti : IntsAre tvs (ftab bs))
    (hcs : Both (CellV s.heap) cvs cs) (hlen : cs.length = bs.length) (hn : bs.length < 500) (hptr : ∀ c ∈ cs, isPtr c.1 = true → 0 ≤ c.2 ∧ c.2 ≤ bs.length)
    (hh : A.handled = none) (hdp : A.depth + 80 < recursionLimit) (hun : A.units + 400 < cLine)
    (hR : ∀ (h' : Heap) (tk' : Nat) (nvs : List Value) (n' : Nat), Fwd [H] s.heap h' → h'.get? H = some (listOf nvs.toArray n') → Both (CellV h') nvs (slid bs cs) → R (.ok (.ret .none)) { s with heap := h', toks := tk' }) :
    codeAny (model PySem.Challenge.rw_rh0078_01.row.prog w) A (.call (.ref 355) ⟨[.ref x, .ref ml, .ref Tb], []⟩) R s := by
  obtain ⟨hnd, dp, fr, gd, un⟩ := A
  obtain rfl : hnd = none := hh
  dsimp only at hdp hun
  have nxd := ne_cls hx hdx ref_ne_type
  have nxH := ne_cls hx hH ref_ne_type
  have ndH := ne_cls hdx hH (type_ne (by decide))
  revert X; k_fill; intro X
  k_dflt (refine' code_in [(x, instObj 323 dx), (dx, dictOf (cellEs w.params sym H St Tr t1 t2 t3 t4 t5 t6 t7 tm u1 u2) nd), (H, listOf cvs.toArray n)] hs X T ?kn ?k6 ?k7 ?k8 ?k9 ?kB ?_ ?c2 ?c3 ?c4 ?c5; (case kn => (intro q hq; rcases List.mem_cons.mp hq with rfl | hq; exact ⟨hx, hxb⟩; rcases List.mem_cons.mp hq with rfl | hq; exact ⟨hdx, hdb⟩; rw [List.mem_singleton.mp hq]; exact ⟨hH, hHb⟩)); (case k6 => k_is); (case k7 => k_is); (case k8 => k_room); (case k9 => first | exact BindsTo.of_eq rfl | exact binds_K (X.keeps hs) rfl (by k_is) rfl rfl rfl); (case c5 => decide); (case kB => exact locs rfl); (case c2 => exact rfl); (case c3 => exact rfl); (case c4 => exact rfl))
  intro g L' h₁ gs sg F' N' X' T'
  have off3 : ∀ a o, s.heap.get? a = some o → a ≠ H → (∀ c, o.cls = .type c → c ≠ "dict") → (∃ c, o.cls = .type c) → g.get? a = some o := fun a o e h1 h2 h3 => sg a o e (by
    simp only [List.map_cons, List.map_nil, List.mem_cons, List.not_mem_nil, or_false, not_or]
    obtain ⟨c, hc⟩ := h3
    refine ⟨fun q => ?_, fun q => ?_, h1⟩
    · rw [q, hx] at e; cases e; cases hc
    · rw [q, hdx] at e; cases e; exact h2 "dict" rfl rfl)
  have hmg : g.IsList ml (bs.map Value.bool).toArray := by
    obtain ⟨o, ho, hc, r⟩ := hm
    exact ⟨o, off3 _ _ ho hmH (fun c q => by rw [hc] at q; cases q; decide) ⟨_, hc⟩, hc, r⟩
  have hTg : g.IsList Tb tvs.toArray := by
    obtain ⟨o, ho, hc, r⟩ := hTb
    exact ⟨o, off3 _ _ ho hTH (fun c q => by rw [hc] at q; cases q; decide) ⟨_, hc⟩, hc, r⟩
  have hcg : Both (CellV g) cvs cs := hcs.mono fun v c _ z => by
    obtain ⟨a, tt, tx, n, rfl, e⟩ := z
    exact ⟨a, tt, tx, n, rfl, off3 _ _ e (ne_cls e hH (type_ne (by decide))) (fun c q => by cases q; decide) ⟨_, rfl⟩⟩
  have hbl : (bs.map Value.bool).length < 2 ^ 62 := by rw [List.length_map]; omega
  have hcl := hcs.length
  have htl := hti.length
  rw [ftab_length] at htl
  have hfl := ftab_length bs
  clear hs X T off3
  dsimp only
  k_steps
  refine Hold.mk ?_
  rename_i hrg F1 N1 hk1
  refine range_loop bs.length (fun i nx => ∃ cur n' tl, nx = (x, instObj 323 dx) :: (dx, dictOf (cellEs w.params sym H St Tr t1 t2 t3 t4 t5 t6 t7 tm u1 u2) nd) :: (H, listOf cur.toArray n') :: tl ∧ OwnOff tl [x, dx, H] ∧ cur.length = bs.length ∧ (∀ j, i ≤ j → cur[j]? = cvs[j]?) ∧ Both (CellL g tl) (cur.take (cnt (bs.take i))) ((kept (bs.take i) (cs.take i)).map (mv (ftab bs))))
    rfl hrg (by rw [List.length_map]) (by omega) F1 N1 ⟨cvs, n, [], rfl, (fun p hp => nomatch hp), by omega, fun _ _ => rfl, .nil⟩ ?_ ?_
  · rintro i t nx h tk own hi off ⟨cur, n', tl, rfl, otl, hcur, hrest, hdone⟩ F3 N3
    obtain ⟨b, hb⟩ : ∃ b, bs[i]? = some b := ⟨_, List.getElem?_eq_getElem hi⟩
    obtain ⟨c, hc⟩ : ∃ c, cs[i]? = some c := ⟨_, List.getElem?_eq_getElem (by omega)⟩
    obtain ⟨v, hv, ac, tt, tx, nn, rfl, hac⟩ := hcg.get hc
    have hbx : (bs.map Value.bool).toArray[((i : Nat) : Int).toNat]? = some (.bool b) := by simp [hb]
    have hvx : cur.toArray[((i : Nat) : Int).toNat]? = some (.ref ac) := by rw [Int.toNat_natCast, List.getElem?_toArray, hrest i (Nat.le_refl _), hv]
    simp only [List.cons_append, List.map_cons] at N3 off
    have ebs := take_succ_of hb
    have ecs := take_succ_of hc
    have hlt : (bs.take i).length = (cs.take i).length := by rw [List.length_take, List.length_take, hlen]
    have hcm : c ∈ cs := List.mem_of_getElem? hc
    k_steps
    · rename_i hbt
      subst hbt
      refine moved_at (by assumption) (by assumption) X' T' (Fr.keep (by assumption) _ _ hac) (by is_list) hti (by omega) (fun q => ⟨(hptr c hcm q).1, by have := (hptr c hcm q).2; omega⟩) rfl (by k_room) (by k_units) ?_
      intro h4 tk4 c' tt' tx' nn' F4 N4 k4 e4 d4
      have key : ∃ add : List (Addr × Obj), (∀ p ∈ add, h4.get? p.1 = some p.2 ∧ p.1 ≠ L' ∧ g.get? p.1 = none ∧ h.get? p.1 = none) ∧ CellL g (add ++ tl) (.ref c') (mv (ftab bs) c) := by
        rcases d4 with rfl | fr4
        · have q := Option.some.inj ((F4.keep _ _ hac).symm.trans e4)
          exact ⟨[], (fun p hp => nomatch hp), c', tt', tx', nn', rfl, .inl (hac.trans (congrArg some q))⟩
        · exact ⟨[(c', tupO c.1 (if isPtr c.1 then (ftab bs).getD c.2.toNat 0 else c.2) tt' tx' nn')], (fun p hp => by rw [List.mem_singleton.mp hp]; have z := fresh_news F3 fr4 e4; exact ⟨z.1, z.2.1, z.2.2, fr4⟩), c', tt', tx', nn', rfl, .inr (.head _)⟩
      obtain ⟨add, hadd, hcell⟩ := key
      have N5 : News g L' h4 ((x, instObj 323 dx) :: (dx, dictOf (cellEs w.params sym H St Tr t1 t2 t3 t4 t5 t6 t7 tm u1 u2) nd) :: (H, listOf cur.toArray n') :: (add ++ tl ++ own)) := fun p hp => by
        rcases List.mem_cons.mp hp with rfl | hp
        · exact N4 _ (.head _)
        rcases List.mem_cons.mp hp with rfl | hp
        · exact N4 _ (.tail _ (.head _))
        rcases List.mem_cons.mp hp with rfl | hp
        · exact N4 _ (.tail _ (.tail _ (.head _)))
        rcases List.mem_append.mp hp with hp | hp
        · rcases List.mem_append.mp hp with hp | hp
          · exact ⟨(hadd p hp).1, (hadd p hp).2.1, (hadd p hp).2.2.1⟩
          · exact N4 _ (.tail _ (.tail _ (.tail _ (List.mem_append_left _ hp))))
        · exact N4 _ (.tail _ (.tail _ (.tail _ (List.mem_append_right _ hp))))
      have oadd : ∀ p ∈ add, ∀ q o, h.get? q = some o → @Ne Nat p.1 q := fun p hp q o e => (ne_none e (hadd p hp).2.2.2).symm
      have otl' : OwnOff (add ++ tl) [x, dx, H] := fun p hp b hb => by
        rcases List.mem_append.mp hp with hp | hp
        · rcases List.mem_cons.mp hb with rfl | hb
          · exact oadd p hp _ _ (N3 _ (.head _)).1
          rcases List.mem_cons.mp hb with rfl | hb
          · exact oadd p hp _ _ (N3 _ (.tail _ (.head _))).1
          · rw [List.mem_singleton.mp hb]; exact oadd p hp _ _ (N3 _ (.tail _ (.tail _ (.head _)))).1
        · exact otl p hp b hb
      have oown : OwnOff own [x, dx, H] := fun p hp b hb => off p hp b (by
        rcases List.mem_cons.mp hb with rfl | hb
        · exact .head _
        rcases List.mem_cons.mp hb with rfl | hb
        · exact .tail _ (.head _)
        · rw [List.mem_singleton.mp hb]; exact .tail _ (.tail _ (.head _)))
      have o5 : OwnOff (add ++ tl ++ own) [x, dx, H] := fun p hp b hb => (List.mem_append.mp hp).elim (fun q => otl' p q b hb) fun q => oown p q b hb
      have hk : (ftab bs).getD ((i : Int)).toNat 0 = ((cnt (bs.take i) : Nat) : Int) := by rw [Int.toNat_natCast, List.getD_eq_getElem?_getD, ftab_get (by omega)]; rfl
      have hki := cnt_take_le bs i
      have oao : ∀ p ∈ own, ∀ q ∈ add, p.1 ≠ q.1 := fun p hp q hq e => oadd q hq _ _ (N3 p (.tail _ (.tail _ (.tail _ (List.mem_append_right _ hp))))).1 e.symm
      clear N4 N3 F3
      obtain ⟨tz, htz⟩ : ∃ tz, tz = add ++ tl ++ own := ⟨_, rfl⟩
      rw [← htz] at N5 o5
      k_steps
      refine setitem_at (by assumption) (by assumption) (by k_updF) (by rw [hk]; omega) (by rw [hk]; omega) (by omega) ?_
      intro h6 n6 F6 N6 k6
      rw [hk, Int.toNat_natCast] at N6
      k_steps
      have e1 : cnt (bs.take (i + 1)) = cnt (bs.take i) + 1 := by rw [ebs, cnt_snoc]; rfl
      refine InvEndG.intro (nx := (x, instObj 323 dx) :: (dx, dictOf (cellEs w.params sym H St Tr t1 t2 t3 t4 t5 t6 t7 tm u1 u2) nd) :: (H, listOf (cur.set (cnt (bs.take i)) (.ref c')).toArray n6) :: (add ++ tl)) F6 N6 ⟨⟨_, n6, add ++ tl, rfl, otl', by rw [List.length_set]; exact hcur, ?_, ?_⟩, ⟨_, rfl⟩⟩ ?_ ?_ ?_
      · intro j hj
        rw [List.getElem?_set_ne (by omega)]
        exact hrest j (by omega)
      · rw [e1, ebs, ecs, kept_snoc hlt, if_pos rfl, List.map_append, take_set_succ (by omega)]
        exact (hdone.mono fun _ _ _ z => z.mono fun p hp => List.mem_append_right _ hp).snoc hcell
      · intro p hp b hb
        rw [List.map_cons, List.map_cons, List.map_cons, List.map_append] at hb
        rcases List.mem_cons.mp hb with rfl | hb
        · exact off p hp _ (.head _)
        rcases List.mem_cons.mp hb with rfl | hb
        · exact off p hp _ (.tail _ (.head _))
        rcases List.mem_cons.mp hb with rfl | hb
        · exact off p hp _ (.tail _ (.tail _ (.head _)))
        rcases List.mem_append.mp hb with hb | hb
        · obtain ⟨q, hq, rfl⟩ := List.mem_map.mp hb
          exact oao p hp q hq
        · exact off p hp _ (.tail _ (.tail _ (.tail _ hb)))
      · intro p hp
        rw [htz]
        exact List.mem_append_left (as := _ :: _ :: _ :: (add ++ tl)) own hp
      · intro p hp
        rw [htz]
        exact .tail _ (.tail _ (.tail _ (List.mem_append_right _ hp)))
    · rename_i hbt
      subst hbt
      have e1 : cnt (bs.take (i + 1)) = cnt (bs.take i) := by rw [ebs, cnt_snoc]; rfl
      refine InvEndG.intro (nx := (x, instObj 323 dx) :: (dx, dictOf (cellEs w.params sym H St Tr t1 t2 t3 t4 t5 t6 t7 tm u1 u2) nd) :: (H, listOf cur.toArray n') :: tl) F3 N3 ⟨⟨cur, n', tl, rfl, otl, hcur, fun j hj => hrest j (by omega), ?_⟩, ⟨_, rfl⟩⟩ off ?_ ?_
      · rw [e1, ebs, ecs, kept_snoc hlt]
        simpa using hdone
      · intro p hp
        exact List.mem_append_left (as := _ :: _ :: _ :: tl) own hp
      · intro p hp
        exact .tail _ (.tail _ (.tail _ (List.mem_append_right _ hp)))
  · rintro rv nx h tk ⟨cur, n', tl, rfl, otl, hcur, hrest, hdone⟩ F3 N3
    rw [List.take_length, show cs.take bs.length = cs from List.take_of_length_le (by omega)] at hdone
    have hk : (ftab bs).getD (((bs.map Value.bool).length : Nat) : Int).toNat 0 = ((cnt bs : Nat) : Int) := by rw [Int.toNat_natCast, List.length_map, List.getD_eq_getElem?_getD, ftab_get (Nat.le_refl _), List.take_length]; rfl
    have hkb := cnt_le bs
    have hml : (bs.map Value.bool).length = bs.length := List.length_map _
    dsimp only
    k_steps
    rw [hk]
    refine trim_at (by assumption) (by assumption) X' T' (by k_mem) (by k_mem) (by k_updF) (by omega) (by omega) rfl (by k_room) (by k_units) ?_
    intro h6 tk6 n6 F6 N6
    k_steps
    dsimp only
    refine hR _ _ (cur.take (cnt bs)) n6 (fwd_led sg ?_ F6.keep (fun q hq => (N6 q hq).1) ?_) (News.get N6 (.tail _ (.tail _ (.head _)))) (hdone.mono fun _ _ _ z => z.heap F6 N6 fun p hp => .tail _ (.tail _ (.tail _ hp)))
    · intro q hq
      rcases List.mem_cons.mp hq with rfl | hq
      · exact hx
      rcases List.mem_cons.mp hq with rfl | hq
      · exact hdx
      rw [List.mem_singleton.mp hq]; exact hH
    · intro q hq nq
      rcases List.mem_cons.mp hq with rfl | hq
      · exact .head _
      rcases List.mem_cons.mp hq with rfl | hq
      · exact .tail _ (.head _)
      exact absurd (by rw [List.mem_singleton.mp hq]; exact .head _) nq
end
end

section
abbrev symEs (P : Params) (A1 D1 A2 D2 : Addr) (t1 t2 t3 t4 : Tok) : List DictEntry :=
  [⟨PyData.keyHash P "texts", .str "texts" t1, .ref A1⟩, ⟨PyData.keyHash P "atom_numbers", .str "atom_numbers" t2, .ref D1⟩, ⟨PyData.keyHash P "functors", .str "functors" t3, .ref A2⟩, ⟨PyData.keyHash P "functor_numbers", .str "functor_numbers" t4, .ref D2⟩]
/-- a dict object from texts to ints, of at most k rows -/
def StrTab (prog : Program) (w : World) (o : Obj) (k : Nat) : Prop := ∃ kvs D, o.IsDictOf (strKind prog w) kvs ∧ PyProof.V.FlatPairs PyData.str kvs D ∧ (∀ kv ∈ kvs, ∃ i t, kv.2 = .int i t) ∧ kvs.length ≤ k
section
variable {w : World} {mean : ExcName → Option Value} {mg mb : Str → Option Value}
theorem dget_str {prog : Program} {A : Around} {E : Value → Shared → Prop} {s : Shared} {d : Addr} {x : Str} {t tz : Tok} {z : Int} {kvs : List (Str × Value)} {Q : Value → Shared → Prop} (hd : s.heap.DictOf (strKind prog w) d kvs) (lo : (d == sysModules) = false)
    (hv : ∀ kv ∈ kvs, ∃ i t, kv.2 = .int i t) (h : ∀ i t, Q (.int i t) { s with toks := s.toks + 1 }) : wpAny (model prog w) A (call (.builtin "dict.get") [.ref d, .str x t, .int z tz]) Q E s := by
  refine call_meetsIn PySem.F.slot_dict_get hd.typeIs PySem.F.entry_dict_get (PySem.F.args_dict_get_3 _ _ _) (meets_dict_get_default (strKind prog w) d (strKind_is prog w x t) lo (.int z tz)) ⟨_, hd.mapOf, ?_⟩
  have key : ∃ i t, ((valueAt kvs x).getD (.int z tz)) = .int i t := by
    unfold valueAt
    cases e : kvs.find? fun kv => kv.1 = x with
    | none => exact ⟨z, tz, rfl⟩
    | some kv => exact hv kv (List.mem_of_find?_eq_some e)
  obtain ⟨i, t', e⟩ := key
  rw [e]
  exact h i t'
theorem stored_len {K : Type} [DecidableEq K] (kvs : List (K × Value)) (k : K) (v : Value) : (stored kvs k v).length ≤ kvs.length + 1 := by
  unfold stored
  split <;> simp
theorem stored_ints {K : Type} [DecidableEq K] {kvs : List (K × Value)} {k : K} {i : Int} {t : Tok} (h : ∀ kv ∈ kvs, ∃ i t, kv.2 = .int i t) : ∀ kv ∈ stored kvs k (.int i t), ∃ i t, kv.2 = Value.int i t := by
  intro kv hk
  unfold stored at hk
  split at hk
  · obtain ⟨q, hq, rfl⟩ := List.mem_map.mp hk
    split
    · exact ⟨i, t, rfl⟩
    · exact h q hq
  · rcases List.mem_append.mp hk with hk | hk
    · exact h kv hk
    · rw [List.mem_singleton.mp hk]; exact ⟨i, t, rfl⟩

local macro_rules | `(tactic| walk_at "call builtin:dict.get") => `(tactic| ((with_reducible show wpAny _ _ (call (Value.builtin "dict.get") [Value.ref _, Value.str _ _, Value.int _ _]) _ _ _); k_dflt (refine' dget_str ?hd ?lo ?hv ?_; (case hd => exact Heap.dictOf_iff.mpr ⟨_, News.get (by k_asm) (by k_mem), by k_asm⟩); (case lo => k_asm); (case hv => k_asm)); intro i' t'))
theorem atom_code {A : Around} {s : Shared} {hb : Heap} {R : Result → Shared → Prop} {x dx A1 D1 A2 D2 : Addr} {tx : Str} {tt t1 t2 t3 t4 : Tok} {avs : List Value} {n nd k : Nat} {o1 : Obj}
    (hs : ∀ b o, hb.get? b = some o → s.heap.get? b = some o) (X : (hd.heap_39 w.params).In hb) (T : Top hd.view_39 (looseW hd.view_39 []) mean mg mb hb)
    (hx : s.heap.get? x = some (instObj 154 dx)) (hxb : hb.get? x = none) (hdx : s.heap.get? dx = some (dictOf (symEs w.params A1 D1 A2 D2 t1 t2 t3 t4) nd)) (hdb : hb.get? dx = none)
    (hA : s.heap.get? A1 = some (listOf avs.toArray n)) (hAb : hb.get? A1 = none) (hn : avs.length < 1000) (hD : s.heap.get? D1 = some o1) (hDb : hb.get? D1 = none) (hk : k < 1000) (ho : StrTab PySem.Challenge.rw_rh0078_01.row.prog w o1 k) (hlo : (D1 == sysModules) = false) (hxD : dx ≠ D1)
    (hh : A.handled = none) (hdp : A.depth + 20 < recursionLimit) (hun : A.units + 100 < cLine)
    (hR : ∀ (h' : Heap) (tk' : Nat) (r : Int) (t : Tok) (avs' : List Value) (n' : Nat) (o1' : Obj), Fwd [A1, D1] s.heap h' → h'.get? A1 = some (listOf avs'.toArray n') → avs'.length ≤ avs.length + 1 → h'.get? D1 = some o1' → StrTab PySem.Challenge.rw_rh0078_01.row.prog w o1' (k + 1) → R (.ok (.ret (.int r t))) { s with heap := h', toks := tk' }) :
    codeAny (model PySem.Challenge.rw_rh0078_01.row.prog w) A (.call (.ref 88) ⟨[.ref x, .str tx tt], []⟩) R s := by
  obtain ⟨hnd, dp, fr, gd, un⟩ := A
  obtain rfl : hnd = none := hh
  dsimp only at hdp hun
  obtain ⟨kvs, D, hdo, hfl, hint, hkl⟩ := ho
  have hfll := hfl.length
  have od : o1.cls = .type "dict" := by obtain ⟨es, ep, hx, _⟩ := hdo; exact hx.1
  have nxd := ne_cls hx hdx ref_ne_type
  have nxH := ne_cls hx hA ref_ne_type
  have ndH := ne_cls hdx hA (type_ne (by decide))
  have nxD := ne_cls hx hD (by rw [od]; exact ref_ne_type)
  have nAD := ne_cls hA hD (by rw [od]; exact type_ne (by decide))
  have ndD := neN hxD
  have hmem : ∀ q ∈ [(x, instObj 154 dx), (dx, dictOf (symEs w.params A1 D1 A2 D2 t1 t2 t3 t4) nd), (A1, listOf avs.toArray n), (D1, o1)], s.heap.get? q.1 = some q.2 ∧ hb.get? q.1 = none := by
    intro q hq
    rcases List.mem_cons.mp hq with rfl | hq
    · exact ⟨hx, hxb⟩
    rcases List.mem_cons.mp hq with rfl | hq
    · exact ⟨hdx, hdb⟩
    rcases List.mem_cons.mp hq with rfl | hq
    · exact ⟨hA, hAb⟩
    rw [List.mem_singleton.mp hq]; exact ⟨hD, hDb⟩
  revert X; k_fill; intro X
  k_dflt (refine' code_in _ hs X T hmem ?k6 ?k7 ?k8 ?k9 ?kB ?_ ?c2 ?c3 ?c4 ?c5; (case k6 => k_is); (case k7 => k_is); (case k8 => k_room); (case k9 => first | exact BindsTo.of_eq rfl | exact binds_K (X.keeps hs) rfl (by k_is) rfl rfl rfl); (case c5 => decide); (case kB => exact locs rfl); (case c2 => exact rfl); (case c3 => exact rfl); (case c4 => exact rfl))
  intro g L' h₁ gs sg F' N' X' T'
  have hvn : avs.length < 2 ^ 62 := by omega
  clear hs X T
  dsimp only
  k_steps
  · rename Fr _ _ _ _ => F4
    rename PyProof.Rows.News _ _ _ _ => N4
    dsimp only
    refine hR _ _ _ _ avs n o1 (fwd_led sg (fun q hq => (hmem q hq).1) F4.keep (fun q hq => (N4 q hq).1) ?_) (News.get N4 (by k_mem)) (Nat.le_succ _) (News.get N4 (by k_mem)) ⟨kvs, D, hdo, hfl, hint, by omega⟩
    exact fun q hq _ => hq
  · rename Fr _ _ _ _ => F4
    rename PyProof.Rows.News _ _ _ _ => N4
    have sl1 : (1000 : Nat) ≤ sizeLine := by rw [sizeLine_eq]; omega
    refine setItem_K PyProof.V.same_str (strKind_is _ _ _ _) (PyProof.V.Flat.int _ _) F4 N4 (by k_updF) hdo hfl ?_ (by omega)
    intro h6 o6 F6 N6 d6 f6
    k_steps
    dsimp only
    rw [List.push_toArray] at N6
    refine hR _ _ _ _ (avs ++ [.str tx tt]) (n + 1) o6 (fwd_led sg (fun q hq => (hmem q hq).1) F6.keep (fun q hq => (N6 q hq).1) ?_) (News.get N6 (by k_mem)) (by simp) (News.get N6 (by k_mem)) ⟨_, _, d6, f6, stored_ints hint, Nat.le_trans (stored_len _ _ _) (by omega)⟩
    intro q hq nq
    rcases List.mem_cons.mp hq with rfl | hq
    · exact .head _
    rcases List.mem_cons.mp hq with rfl | hq
    · exact .tail _ (.head _)
    rcases List.mem_cons.mp hq with rfl | hq
    · exact absurd (.head _) nq
    rw [List.mem_singleton.mp hq] at nq; exact absurd (.tail _ (.head _)) nq
end
end

section
section
variable {prog : Program} {w : World}
/-- the address bears a pair of ints, as `has` says -/
def KeyTup (prog : Program) (w : World) (has : Addr → Obj → Prop) (ks : List Int) (a : Addr) : Prop := ∃ ob items n, has a ob ∧ ob.cls = .type "tuple" ∧ ob.data = .seq items n ∧ ItemsAre (intKind prog w) ks items.toList
abbrev Keys (prog : Program) (w : World) (has : Addr → Obj → Prop) (xs : List (List Int × Addr × Value)) : Prop := ∀ x ∈ xs, KeyTup prog w has x.1 x.2.1
/-- a dict object from pairs of ints to ints, of at most k rows -/
def TupX (prog : Program) (w : World) (xs : List (List Int × Addr × Value)) (o : Obj) (k : Nat) : Prop :=
  ∃ (es : Array DictEntry) (ep : Nat), o.ExactDict ∧ o.data = .dict es ep ∧ es.toList = xs.map (entryOfKey (tupleKind (intKind prog w))) ∧ (xs.map (·.1)).Nodup ∧ (∀ x ∈ xs, ∃ i t, x.2.2 = .int i t) ∧ xs.length ≤ k
abbrev inH (h : Heap) : Addr → Obj → Prop := fun a o => h.get? a = some o
theorem KeyTup.mono {has has' : Addr → Obj → Prop} {ks : List Int} {a : Addr} (x : KeyTup prog w has ks a) (h : ∀ o, o.cls = .type "tuple" → has a o → has' a o) : KeyTup prog w has' ks a := by
  obtain ⟨ob, items, n, e1, e2, e3⟩ := x
  exact ⟨ob, items, n, h _ e2 e1, e2, e3⟩
theorem Keys.keeps {h h' : Heap} {xs : List (List Int × Addr × Value)} {W : List Addr} (x : Keys prog w (inH h) xs) (kp : Fwd W h h') (hW : ∀ b ∈ W, ∀ ob, h.get? b = some ob → ob.cls ≠ .type "tuple") : Keys prog w (inH h') xs :=
  fun q hq => (x q hq).mono fun o e1 e2 => kp _ _ e2 fun m => hW _ m _ e2 e1
theorem Keys.up {g h : Heap} {L : Addr} {m : Str → Option Value} {xs : List (List Int × Addr × Value)} (x : Keys prog w (inH g) xs) (F : Fr g L h m) : Keys prog w (inH h) xs := fun q hq => (x q hq).mono fun o _ e2 => F.keep _ _ e2
theorem TupX.le {xs : List (List Int × Addr × Value)} {o : Obj} {k k' : Nat} (x : TupX prog w xs o k) (hk : k ≤ k') : TupX prog w xs o k' := by
  obtain ⟨es, ep, a1, a2, a3, a4, a5, a6⟩ := x
  exact ⟨es, ep, a1, a2, a3, a4, a5, Nat.le_trans a6 hk⟩
/-- the rows may have got one key more, a new tuple -/
def XStep (prog : Program) (w : World) (h h' : Heap) (xs xs' : List (List Int × Addr × Value)) : Prop :=
  ∃ c oc, h.get? c = none ∧ h'.get? c = some oc ∧ oc.cls = .type "tuple" ∧ ∀ has : Addr → Obj → Prop, Keys prog w has xs → has c oc → Keys prog w has xs'
theorem pair_key {h : Heap} {c : Addr} {a r : Int} {ta tr : Tok} {n : Nat} (hc : h.get? c = some (tupO a r ta tr n)) : IsTupleKey (intKind prog w) h [a, r] c :=
  ⟨_, _, n, hc, rfl, rfl, .cons (intKind_is prog w a ta) (.cons (intKind_is prog w r tr) .nil)⟩
theorem dget_tup {A : Around} {E : Value → Shared → Prop} {s : Shared} {d c : Addr} {a r : Int} {ta tr tz : Tok} {n k : Nat} {z : Int} {o : Obj} {xs : List (List Int × Addr × Value)} {Q : Value → Shared → Prop} (hd : s.heap.get? d = some o) (ht : TupX prog w xs o k) (hky : Keys prog w (inH s.heap) xs) (lo : (d == sysModules) = false)
    (hc : s.heap.get? c = some (tupO a r ta tr n)) (hu : A.units + 1 < cLine) (h : ∀ i t tk, Q (.int i t) { s with toks := tk }) : wpAny (model prog w) A (call (.builtin "dict.get") [.ref d, .ref c, .int z tz]) Q E s := by
  obtain ⟨es, ep, a1, a2, a3, a5, a6, a7⟩ := ht
  have hm : s.heap.DictOfH (tupleKind (intKind prog w)) d xs := ⟨o, es, ep, hd, a1, a2, a3, hky, a5⟩
  refine call_meetsIn PySem.F.slot_dict_get hm.typeIs PySem.F.entry_dict_get (PySem.F.args_dict_get_3 _ _ _) (meetsH_dict_get_default (tupleKind (intKind prog w)) d c lo (.int z tz)) ⟨tupleKind_room_in1 hu, [a, r], xs, pair_key hc, hm, ?_⟩
  have key : ∃ i t, (((atKey xs [a, r]).map (·.2)).getD (.int z tz)) = .int i t := by
    unfold atKey
    cases e : xs.find? fun x => decide (x.1 = [a, r]) with
    | none => exact ⟨z, tz, rfl⟩
    | some kv => exact a6 kv (List.mem_of_find?_eq_some e)
  obtain ⟨i, t', e⟩ := key
  rw [e]
  exact h i t' _
theorem getm_dict {A : Around} {E : Value → Shared → Prop} {s : Shared} {d : Addr} {o : Obj} {k : Nat} {xs : List (List Int × Addr × Value)} {pl : Sem Bool} {Q : Value × List Value → Shared → Prop} (hd : s.heap.get? d = some o) (ht : TupX prog w xs o k) (hky : Keys prog w (inH s.heap) xs) (h : Q (.builtin "dict.get", [.ref d]) s) : wpAny (model prog w) A (getMethod (.ref d) "get" pl) Q E s := by
  obtain ⟨es, ep, a1, a2, a3, a5, a6, a7⟩ := ht
  have hm : s.heap.DictOfH (tupleKind (intKind prog w)) d xs := ⟨o, es, ep, hd, a1, a2, a3, hky, a5⟩
  exact getMethod_builtin hm.typeIs PySem.F.plainAttrs_dict PySem.F.slot_dict_get PySem.F.type_dict_get (dictOfH_noDict hm) h
theorem storedH_len {xs : List (List Int × Addr × Value)} (k : List Int) (a : Addr) (v : Value) : (storedH xs k a v).length ≤ xs.length + 1 := by
  unfold storedH
  split <;> simp
theorem storedH_ints {xs : List (List Int × Addr × Value)} {k : List Int} {a : Addr} {i : Int} {t : Tok} (h : ∀ x ∈ xs, ∃ i t, x.2.2 = .int i t) : ∀ x ∈ storedH xs k a (.int i t), ∃ i t, x.2.2 = Value.int i t := by
  intro x hx
  unfold storedH at hx
  split at hx
  · obtain ⟨q, hq, rfl⟩ := List.mem_map.mp hx
    unfold putAt
    split
    · exact ⟨i, t, rfl⟩
    · exact h q hq
  · rcases List.mem_append.mp hx with hx | hx
    · exact h x hx
    · rw [List.mem_singleton.mp hx]; exact ⟨i, t, rfl⟩
theorem storedH_keys {has : Addr → Obj → Prop} {xs : List (List Int × Addr × Value)} {ks : List Int} {c : Addr} {v : Value} (h : Keys prog w has xs) (hc : KeyTup prog w has ks c) : Keys prog w has (storedH xs ks c v) := by
  intro x hx
  unfold storedH at hx
  split at hx
  · obtain ⟨q, hq, rfl⟩ := List.mem_map.mp hx
    unfold putAt
    split <;> exact h q hq
  · rcases List.mem_append.mp hx with hx | hx
    · exact h x hx
    · rw [List.mem_singleton.mp hx]; exact hc
theorem dset_tup {A : Around} {E : Value → Shared → Prop} {s : Shared} {d c : Addr} {a r i : Int} {ta tr ti : Tok} {n k : Nat} {o : Obj} {xs : List (List Int × Addr × Value)} {Q : Unit → Shared → Prop} (hd : s.heap.get? d = some o) (ht : TupX prog w xs o k) (hky : Keys prog w (inH s.heap) xs) (hk : k < 1000)
    (hc : s.heap.get? c = some (tupO a r ta tr n)) (hu : A.units + 1 < cLine) (h : ∀ h' o' tk, Fwd [d] s.heap h' → h'.get? d = some o' → TupX prog w (storedH xs [a, r] c (.int i ti)) o' (k + 1) → Q () { s with heap := h', toks := tk }) : wpAny (model prog w) A (setItem (.ref d) (.ref c) (.int i ti)) Q E s := by
  obtain ⟨es, ep, a1, a2, a3, a5, a6, a7⟩ := ht
  have hm : s.heap.DictOfH (tupleKind (intKind prog w)) d xs := ⟨o, es, ep, hd, a1, a2, a3, hky, a5⟩
  have sl1 : (1000 : Nat) ≤ sizeLine := by rw [sizeLine_eq]; omega
  refine wpAny_setItem_heap (tupleKind_room_in1 hu) (pair_key hc) hm (fun h' hm' hs' => ?_) (by omega)
  obtain ⟨o', es', ep', b1, b2, b3, b4, _, b6⟩ := hm'
  exact h h' o' _ (fun b ob e nb => (hs'.2 b fun q => nb (by rw [q]; exact List.mem_singleton.mpr rfl)).trans e) b1 ⟨es', ep', b2, b3, b4, b6, storedH_ints a6, Nat.le_trans (storedH_len _ _ _) (by omega)⟩
end
section
variable {w : World} {mean : ExcName → Option Value} {mg mb : Str → Option Value}
theorem upd_step {h₀ h h' : Heap} {L d : Addr} {m : Str → Option Value} {o o' : Obj} {news : List (Addr × Obj)} {g : Obj → List (Addr × Obj)} (F : Fr h₀ L h m) (N : News h₀ L h news) (U : UpdF d o news g) (k : Fwd [d] h h') (e : h'.get? d = some o') : Fr h₀ L h' m ∧ News h₀ L h' (g o') :=
  ⟨updF_fr U F N k, updF_news U N k e⟩
theorem functor_code {A : Around} {s : Shared} {hb : Heap} {R : Result → Shared → Prop} {x dx A1 D1 A2 D2 : Addr} {ia ir : Int} {tia tir t1 t2 t3 t4 : Tok} {avs : List Value} {n nd k : Nat} {o2 : Obj} {xs : List (List Int × Addr × Value)}
    (hs : ∀ b o, hb.get? b = some o → s.heap.get? b = some o) (X : (hd.heap_39 w.params).In hb) (T : Top hd.view_39 (looseW hd.view_39 []) mean mg mb hb)
    (hx : s.heap.get? x = some (instObj 154 dx)) (hxb : hb.get? x = none) (hdx : s.heap.get? dx = some (dictOf (symEs w.params A1 D1 A2 D2 t1 t2 t3 t4) nd)) (hdb : hb.get? dx = none)
    (hA : s.heap.get? A2 = some (listOf avs.toArray n)) (hAb : hb.get? A2 = none) (hn : avs.length < 1000) (hD : s.heap.get? D2 = some o2) (hDb : hb.get? D2 = none) (hk : k < 1000) (ho : TupX PySem.Challenge.rw_rh0078_01.row.prog w xs o2 k) (hky : Keys PySem.Challenge.rw_rh0078_01.row.prog w (inH s.heap) xs) (hlo : (D2 == sysModules) = false) (hxD : dx ≠ D2)
    (hh : A.handled = none) (hdp : A.depth + 20 < recursionLimit) (hun : A.units + 100 < cLine)
    (hR : ∀ (h' : Heap) (tk' : Nat) (r : Int) (t : Tok) (avs' : List Value) (n' : Nat) (o2' : Obj) (xs' : List (List Int × Addr × Value)), Fwd [A2, D2] s.heap h' → h'.get? A2 = some (listOf avs'.toArray n') → avs'.length ≤ avs.length + 1 → h'.get? D2 = some o2' → TupX PySem.Challenge.rw_rh0078_01.row.prog w xs' o2' (k + 1) → XStep PySem.Challenge.rw_rh0078_01.row.prog w s.heap h' xs xs' → R (.ok (.ret (.int r t))) { s with heap := h', toks := tk' }) :
    codeAny (model PySem.Challenge.rw_rh0078_01.row.prog w) A (.call (.ref 102) ⟨[.ref x, .int ia tia, .int ir tir], []⟩) R s := by
  obtain ⟨hnd, dp, fr, gd, un⟩ := A
  obtain rfl : hnd = none := hh
  dsimp only at hdp hun
  have od : o2.cls = .type "dict" := by obtain ⟨es, ep, hx, _⟩ := ho; exact hx.1
  have nxd := ne_cls hx hdx ref_ne_type
  have nxH := ne_cls hx hA ref_ne_type
  have ndH := ne_cls hdx hA (type_ne (by decide))
  have nxD := ne_cls hx hD (by rw [od]; exact ref_ne_type)
  have nAD := ne_cls hA hD (by rw [od]; exact type_ne (by decide))
  have ndD := neN hxD
  have hmem : ∀ q ∈ [(x, instObj 154 dx), (dx, dictOf (symEs w.params A1 D1 A2 D2 t1 t2 t3 t4) nd), (A2, listOf avs.toArray n), (D2, o2)], s.heap.get? q.1 = some q.2 ∧ hb.get? q.1 = none := by
    intro q hq
    rcases List.mem_cons.mp hq with rfl | hq
    · exact ⟨hx, hxb⟩
    rcases List.mem_cons.mp hq with rfl | hq
    · exact ⟨hdx, hdb⟩
    rcases List.mem_cons.mp hq with rfl | hq
    · exact ⟨hA, hAb⟩
    rw [List.mem_singleton.mp hq]; exact ⟨hD, hDb⟩
  revert X; k_fill; intro X
  k_dflt (refine' code_in _ hs X T hmem ?k6 ?k7 ?k8 ?k9 ?kB ?_ ?c2 ?c3 ?c4 ?c5; (case k6 => k_is); (case k7 => k_is); (case k8 => k_room); (case k9 => first | exact BindsTo.of_eq rfl | exact binds_K (X.keeps hs) rfl (by k_is) rfl rfl rfl); (case c5 => decide); (case kB => exact locs rfl); (case c2 => exact rfl); (case c3 => exact rfl); (case c4 => exact rfl))
  intro g L' h₁ gs sg F' N' X' T'
  have hog : Keys PySem.Challenge.rw_rh0078_01.row.prog w (inH g) xs := Keys.keeps hky sg (by
    intro b hb ob e
    simp only [List.map_cons, List.map_nil] at hb
    rcases List.mem_cons.mp hb with rfl | hb
    · rw [hx] at e; cases e; exact ref_ne_type
    rcases List.mem_cons.mp hb with rfl | hb
    · rw [hdx] at e; cases e; exact type_ne (by decide)
    rcases List.mem_cons.mp hb with rfl | hb
    · rw [hA] at e; cases e; exact type_ne (by decide)
    rw [List.mem_singleton.mp hb] at e; rw [hD] at e; cases e; rw [od]; exact type_ne (by decide))
  have hvn : avs.length < 2 ^ 62 := by omega
  clear hs X T
  dsimp only
  k_steps
  refine getm_dict (News.get (by assumption) (by k_mem)) ho (Keys.up hog (by assumption)) ?_
  k_steps
  refine dget_tup (News.get (by assumption) (by k_mem)) ho (Keys.up hog (by assumption)) hlo (News.get (by assumption) (by k_mem)) (by k_units) ?_
  intro i' ti' tk4
  k_steps
  · rename Fr _ _ _ _ => F4
    rename PyProof.Rows.News _ _ _ _ => N4
    dsimp only
    have fr : ∀ c ∉ [x, dx, A2, D2], g.get? c = none → s.heap.get? c = none := fun c nc n => fresh_of sg n nc
    refine hR _ _ _ _ avs n o2 xs (fwd_led sg (fun q hq => (hmem q hq).1) F4.keep (fun q hq => (N4 q hq).1) ?_) (News.get N4 (by k_mem)) (Nat.le_succ _) (News.get N4 (by k_mem)) (ho.le (Nat.le_succ _)) ⟨_, _, fr _ ?_ (News.fresh N4 (.head _)), News.get N4 (.head _), rfl, fun _ h _ => h⟩
    · exact fun q hq _ => .tail _ hq
    · simp only [List.mem_cons, List.not_mem_nil, or_false, not_or]
      exact ⟨by k_ne, by k_ne, by k_ne, by k_ne⟩
  · rename Fr _ _ _ _ => F4
    rename PyProof.Rows.News _ _ _ _ => N4
    have fr : ∀ c ∉ [x, dx, A2, D2], g.get? c = none → s.heap.get? c = none := fun c nc n => fresh_of sg n nc
    refine dset_tup (News.get N4 (by k_mem)) ho (Keys.up hog F4) hk (News.get N4 (by k_mem)) (by k_units) ?_
    intro h6 o6 tk6 k6 e6 t6
    obtain ⟨F6, N6⟩ := upd_step F4 N4 (by k_updF) k6 e6
    clear N4 F4
    k_steps
    dsimp only
    rw [List.push_toArray] at N6
    refine hR _ _ _ _ (avs ++ [.ref _]) (n + 1) o6 _ (fwd_led sg (fun q hq => (hmem q hq).1) F6.keep (fun q hq => (N6 q hq).1) ?_) (News.get N6 (by k_mem)) (by simp) (News.get N6 (by k_mem)) t6 ⟨_, _, fr _ ?_ (News.fresh N6 (.head _)), News.get N6 (.head _), rfl, fun has h1 h2 => storedH_keys h1 ⟨_, _, _, h2, rfl, rfl, .cons (intKind_is _ w ia _) (.cons (intKind_is _ w ir _) .nil)⟩⟩
    rotate_left
    · simp only [List.mem_cons, List.not_mem_nil, or_false, not_or]
      exact ⟨by k_ne, by k_ne, by k_ne, by k_ne⟩
    intro q hq nq
    rcases List.mem_cons.mp hq with rfl | hq
    · exact .tail _ (.head _)
    rcases List.mem_cons.mp hq with rfl | hq
    · exact .tail _ (.tail _ (.head _))
    rcases List.mem_cons.mp hq with rfl | hq
    · exact absurd (.head _) nq
    rw [List.mem_singleton.mp hq] at nq; exact absurd (.tail _ (.head _)) nq
end
end

section
theorem news_upd {h₀ h h' : Heap} {L : Addr} {news news' : List (Addr × Obj)} {W : List Addr} (N : News h₀ L h news) (k : Fwd W h h') (hW : ∀ p ∈ news', p.1 ∈ W → h'.get? p.1 = some p.2) (sub : ∀ p ∈ news', p.1 ∉ W → p ∈ news) (keys : ∀ p ∈ news', ∃ q ∈ news, q.1 = p.1) : News h₀ L h' news' := fun p hp => by
  obtain ⟨q, hq, e⟩ := keys p hp
  have z := N q hq
  rw [e] at z
  refine ⟨?_, z.2⟩
  by_cases hw : p.1 ∈ W
  · exact hW p hp hw
  · exact k _ _ (N p (sub p hp hw)).1 hw
structure SymA where
  x : Addr
  dx : Addr
  A1 : Addr
  D1 : Addr
  A2 : Addr
  D2 : Addr
  t1 : Tok
  t2 : Tok
  t3 : Tok
  t4 : Tok
  nd : Nat
abbrev symLed (w : World) (a : SymA) (o1 o2 : Obj) (avs fvs : List Value) (n1 n2 : Nat) : List (Addr × Obj) :=
  [(a.x, instObj 154 a.dx), (a.dx, dictOf (symEs w.params a.A1 a.D1 a.A2 a.D2 a.t1 a.t2 a.t3 a.t4) a.nd), (a.A1, listOf avs.toArray n1), (a.D1, o1), (a.A2, listOf fvs.toArray n2), (a.D2, o2)]
/-- the places are apart (lists from lists, dicts from dicts) and no dict is sys.modules -/
structure SymD (a : SymA) : Prop where
  d1 : @Ne Nat a.dx a.D1
  d2 : @Ne Nat a.dx a.D2
  d3 : @Ne Nat a.D1 a.D2
  l1 : @Ne Nat a.A1 a.A2
  s1 : (a.D1 == sysModules) = false
  s2 : (a.D2 == sysModules) = false
abbrev symW (a : SymA) : List Addr := [a.A1, a.D1, a.A2, a.D2]
/-- a Symbols object of at most k rows -/
def SymS (prog : Program) (w : World) (a : SymA) (h : Heap) (o1 o2 : Obj) (avs fvs : List Value) (n1 n2 : Nat) (xs : List (List Int × Addr × Value)) (k : Nat) : Prop :=
  (∀ q ∈ symLed w a o1 o2 avs fvs n1 n2, h.get? q.1 = some q.2) ∧ StrTab prog w o1 k ∧ TupX prog w xs o2 k ∧ Keys prog w (inH h) xs ∧ avs.length ≤ k ∧ fvs.length ≤ k
section
variable {prog : Program} {w : World}
theorem StrTab.cls {o : Obj} {k : Nat} (h : StrTab prog w o k) : o.cls = .type "dict" := by obtain ⟨_, _, ⟨es, ep, hx, _⟩, _⟩ := h; exact hx.1
theorem TupX.cls {xs : List (List Int × Addr × Value)} {o : Obj} {k : Nat} (x : TupX prog w xs o k) : o.cls = .type "dict" := by obtain ⟨es, ep, hx, _⟩ := x; exact hx.1
theorem StrTab.le {o : Obj} {k k' : Nat} (h : StrTab prog w o k) (hk : k ≤ k') : StrTab prog w o k' := by
  obtain ⟨kvs, D, a1, a2, a3, a4⟩ := h
  exact ⟨kvs, D, a1, a2, a3, Nat.le_trans a4 hk⟩
theorem mem6 {P : Addr × Obj → Prop} {a b c d e f : Addr × Obj} (h1 : P a) (h2 : P b) (h3 : P c) (h4 : P d) (h5 : P e) (h6 : P f) : ∀ q ∈ [a, b, c, d, e, f], P q := by
  intro q hq
  simp only [List.mem_cons, List.not_mem_nil, or_false] at hq
  rcases hq with rfl | rfl | rfl | rfl | rfl | rfl <;> assumption
end
section
variable {w : World} {mean : ExcName → Option Value} {mg mb : Str → Option Value}
theorem atom_sym {A : Around} {s : Shared} {hb : Heap} {R : Result → Shared → Prop} {a : SymA} {o1 o2 : Obj} {avs fvs : List Value} {n1 n2 k : Nat} {xs : List (List Int × Addr × Value)} {tx : Str} {tt : Tok}
    (hs : ∀ b o, hb.get? b = some o → s.heap.get? b = some o) (X : (hd.heap_39 w.params).In hb) (T : Top hd.view_39 (looseW hd.view_39 []) mean mg mb hb) (hb0 : ∀ q ∈ symLed w a o1 o2 avs fvs n1 n2, hb.get? q.1 = none)
    (S : SymS PySem.Challenge.rw_rh0078_01.row.prog w a s.heap o1 o2 avs fvs n1 n2 xs k) (hD : SymD a) (hk : k < 900)
    (hh : A.handled = none) (hdp : A.depth + 20 < recursionLimit) (hun : A.units + 100 < cLine)
    (hR : ∀ (h' : Heap) (tk' : Nat) (r : Int) (t : Tok) (o1' : Obj) (avs' : List Value) (n1' : Nat), Fwd (symW a) s.heap h' → SymS PySem.Challenge.rw_rh0078_01.row.prog w a h' o1' o2 avs' fvs n1' n2 xs (k + 1) → R (.ok (.ret (.int r t))) { s with heap := h', toks := tk' }) :
    codeAny (model PySem.Challenge.rw_rh0078_01.row.prog w) A (.call (.ref 88) ⟨[.ref a.x, .str tx tt], []⟩) R s := by
  obtain ⟨hget, s1, s2, sk, l1, l2⟩ := S
  have gx := hget _ (.head _)
  have gdx := hget _ (.tail _ (.head _))
  have gA1 := hget _ (.tail _ (.tail _ (.head _)))
  have gD1 := hget _ (.tail _ (.tail _ (.tail _ (.head _))))
  have gA2 := hget _ (.tail _ (.tail _ (.tail _ (.tail _ (.head _)))))
  have gD2 := hget _ (.tail _ (.tail _ (.tail _ (.tail _ (.tail _ (.head _))))))
  dsimp only at gx gdx gA1 gD1 gA2 gD2
  refine atom_code hs X T gx (hb0 _ (.head _)) gdx (hb0 _ (.tail _ (.head _))) gA1 (hb0 _ (.tail _ (.tail _ (.head _)))) (by omega) gD1 (hb0 _ (.tail _ (.tail _ (.tail _ (.head _))))) (by omega) s1 hD.s1 hD.d1 hh hdp hun ?_
  intro h' tk' r t avs' n' o1' kf e1 le e2 st
  have c1 := s1.cls
  have c2 := s2.cls
  have nW : ∀ b ∈ [a.A1, a.D1], ∀ ob, s.heap.get? b = some ob → ob.cls ≠ .type "tuple" := fun b hb ob e => by
    rcases List.mem_cons.mp hb with rfl | hb
    · rw [gA1] at e; cases e; exact type_ne (by decide)
    · rw [List.mem_singleton.mp hb, gD1] at e; cases e; rw [c1]; exact type_ne (by decide)
  have k2 : ∀ b o, s.heap.get? b = some o → @Ne Nat b a.A1 → @Ne Nat b a.D1 → h'.get? b = some o := fun b o e q1 q2 => kf b o e (by simp only [List.mem_cons, List.not_mem_nil, or_false, not_or]; exact ⟨q1, q2⟩)
  refine hR h' tk' r t o1' avs' n' (kf.mono fun b hb => ?_) ⟨mem6 ?_ ?_ e1 e2 ?_ ?_, st, s2.le (Nat.le_succ _), Keys.keeps sk kf nW, by omega, by omega⟩
  · rcases List.mem_cons.mp hb with rfl | hb
    · exact .head _
    · rw [List.mem_singleton.mp hb]; exact .tail _ (.head _)
  · exact k2 _ _ gx (ne_cls gx gA1 ref_ne_type) (ne_cls gx gD1 (by rw [c1]; exact ref_ne_type))
  · exact k2 _ _ gdx (ne_cls gdx gA1 (type_ne (by decide))) hD.d1
  · exact k2 _ _ gA2 hD.l1.symm (ne_cls gA2 gD1 (by rw [c1]; exact type_ne (by decide)))
  · exact k2 _ _ gD2 (ne_cls gD2 gA1 (by rw [c2]; exact type_ne (by decide))) hD.d3.symm

theorem functor_sym {A : Around} {s : Shared} {hb : Heap} {R : Result → Shared → Prop} {a : SymA} {o1 o2 : Obj} {avs fvs : List Value} {n1 n2 k : Nat} {xs : List (List Int × Addr × Value)} {ia ir : Int} {tia tir : Tok}
    (hs : ∀ b o, hb.get? b = some o → s.heap.get? b = some o) (X : (hd.heap_39 w.params).In hb) (T : Top hd.view_39 (looseW hd.view_39 []) mean mg mb hb) (hb0 : ∀ q ∈ symLed w a o1 o2 avs fvs n1 n2, hb.get? q.1 = none)
    (S : SymS PySem.Challenge.rw_rh0078_01.row.prog w a s.heap o1 o2 avs fvs n1 n2 xs k) (hD : SymD a) (hk : k < 900)
    (hh : A.handled = none) (hdp : A.depth + 20 < recursionLimit) (hun : A.units + 100 < cLine)
    (hR : ∀ (h' : Heap) (tk' : Nat) (r : Int) (t : Tok) (o2' : Obj) (fvs' : List Value) (n2' : Nat) (xs' : List (List Int × Addr × Value)), Fwd (symW a) s.heap h' → SymS PySem.Challenge.rw_rh0078_01.row.prog w a h' o1 o2' avs fvs' n1 n2' xs' (k + 1) → XStep PySem.Challenge.rw_rh0078_01.row.prog w s.heap h' xs xs' → R (.ok (.ret (.int r t))) { s with heap := h', toks := tk' }) :
    codeAny (model PySem.Challenge.rw_rh0078_01.row.prog w) A (.call (.ref 102) ⟨[.ref a.x, .int ia tia, .int ir tir], []⟩) R s := by
  obtain ⟨hget, s1, s2, sk, l1, l2⟩ := S
  have gx := hget _ (.head _)
  have gdx := hget _ (.tail _ (.head _))
  have gA1 := hget _ (.tail _ (.tail _ (.head _)))
  have gD1 := hget _ (.tail _ (.tail _ (.tail _ (.head _))))
  have gA2 := hget _ (.tail _ (.tail _ (.tail _ (.tail _ (.head _)))))
  have gD2 := hget _ (.tail _ (.tail _ (.tail _ (.tail _ (.tail _ (.head _))))))
  dsimp only at gx gdx gA1 gD1 gA2 gD2
  refine functor_code hs X T gx (hb0 _ (.head _)) gdx (hb0 _ (.tail _ (.head _))) gA2 (hb0 _ (.tail _ (.tail _ (.tail _ (.tail _ (.head _)))))) (by omega) gD2 (hb0 _ (.tail _ (.tail _ (.tail _ (.tail _ (.tail _ (.head _))))))) (by omega) s2 sk hD.s2 hD.d2 hh hdp hun ?_
  intro h' tk' r t fvs' n' o2' xs' kf e1 le e2 st xst
  have c1 := s1.cls
  have c2 := s2.cls
  have k2 : ∀ b o, s.heap.get? b = some o → @Ne Nat b a.A2 → @Ne Nat b a.D2 → h'.get? b = some o := fun b o e q1 q2 => kf b o e (by simp only [List.mem_cons, List.not_mem_nil, or_false, not_or]; exact ⟨q1, q2⟩)
  have nW : ∀ b ∈ [a.A2, a.D2], ∀ ob, s.heap.get? b = some ob → ob.cls ≠ .type "tuple" := fun b hb ob e => by
    rcases List.mem_cons.mp hb with rfl | hb
    · rw [gA2] at e; cases e; exact type_ne (by decide)
    · rw [List.mem_singleton.mp hb, gD2] at e; cases e; rw [c2]; exact type_ne (by decide)
  have nk : Keys PySem.Challenge.rw_rh0078_01.row.prog w (inH h') xs' := by
    obtain ⟨c, oc, _, q2, _, q3⟩ := xst
    exact q3 _ (Keys.keeps sk kf nW) q2
  refine hR h' tk' r t o2' fvs' n' xs' (kf.mono fun b hb => ?_) ⟨mem6 ?_ ?_ ?_ ?_ e1 e2, s1.le (Nat.le_succ _), st, nk, by omega, by omega⟩ xst
  · rcases List.mem_cons.mp hb with rfl | hb
    · exact .tail _ (.tail _ (.head _))
    · rw [List.mem_singleton.mp hb]; exact .tail _ (.tail _ (.tail _ (.head _)))
  · exact k2 _ _ gx (ne_cls gx gA2 ref_ne_type) (ne_cls gx gD2 (by rw [c2]; exact ref_ne_type))
  · exact k2 _ _ gdx (ne_cls gdx gA2 (type_ne (by decide))) hD.d2
  · exact k2 _ _ gA1 hD.l1 (ne_cls gA1 gD2 (by rw [c2]; exact type_ne (by decide)))
  · exact k2 _ _ gD1 (ne_cls gD1 gA2 (by rw [c1]; exact type_ne (by decide))) hD.d3
end
end

section
section
variable {w : World} {mean : ExcName → Option Value} {mg mb : Str → Option Value}
theorem sym_step {prog : Program} {g h h' : Heap} {L : Addr} {m : Str → Option Value} {a : SymA} {o1 o2 o1' o2' : Obj} {avs fvs avs' fvs' : List Value} {n1 n2 n1' n2' k : Nat} {xs : List (List Int × Addr × Value)} {rest : List (Addr × Obj)} (F : Fr g L h m) (N : News g L h (symLed w a o1 o2 avs fvs n1 n2 ++ rest)) (kf : Fwd (symW a) h h')
    (off : OwnOff rest (symW a)) (S : SymS prog w a h' o1' o2' avs' fvs' n1' n2' xs k) : Fr g L h' m ∧ News g L h' (symLed w a o1' o2' avs' fvs' n1' n2' ++ rest) := by
  have z : ∀ q ∈ symLed w a o1 o2 avs fvs n1 n2, q.1 ≠ L ∧ g.get? q.1 = none := fun q hq => (N q (List.mem_append_left _ hq)).2
  have z1 := z _ (.tail _ (.tail _ (.head _)))
  have z2 := z _ (.tail _ (.tail _ (.tail _ (.head _))))
  have z3 := z _ (.tail _ (.tail _ (.tail _ (.tail _ (.head _)))))
  have z4 := z _ (.tail _ (.tail _ (.tail _ (.tail _ (.tail _ (.head _))))))
  refine ⟨kf.fr F ?_ ?_, fun p hp => ?_⟩
  · intro hm
    simp only [List.mem_cons, List.not_mem_nil, or_false] at hm
    rcases hm with e | e | e | e
    · exact z1.1 e.symm
    · exact z2.1 e.symm
    · exact z3.1 e.symm
    · exact z4.1 e.symm
  · intro b hm
    simp only [List.mem_cons, List.not_mem_nil, or_false] at hm
    rcases hm with rfl | rfl | rfl | rfl
    · exact z1.2
    · exact z2.2
    · exact z3.2
    · exact z4.2
  · rcases List.mem_append.mp hp with hp | hp
    · refine ⟨S.1 p hp, ?_⟩
      have zz : ∀ q ∈ symLed w a o1' o2' avs' fvs' n1' n2', q.1 ≠ L ∧ g.get? q.1 = none := by
        refine mem6 ?_ ?_ ?_ ?_ ?_ ?_
        · exact z _ (.head _)
        · exact z _ (.tail _ (.head _))
        · exact z1
        · exact z2
        · exact z3
        · exact z4
      exact zz p hp
    · have y := N p (List.mem_append_right _ hp)
      exact ⟨kf _ _ y.1 (fun hm => off p hp _ hm rfl), y.2⟩
theorem sym_none {g h : Heap} {L : Addr} {a : SymA} {o1 o2 : Obj} {avs fvs : List Value} {n1 n2 : Nat} {rest : List (Addr × Obj)} (N : News g L h (symLed w a o1 o2 avs fvs n1 n2 ++ rest)) : ∀ q ∈ symLed w a o1 o2 avs fvs n1 n2, g.get? q.1 = none := fun q hq => (N q (List.mem_append_left _ hq)).2.2
theorem func_sym {A : Around} {s : Shared} {hb : Heap} {R : Result → Shared → Prop} {a : SymA} {o1 o2 : Obj} {avs fvs : List Value} {n1 n2 k : Nat} {xs : List (List Int × Addr × Value)} {tx : Str} {ir : Int} {tt tir : Tok}
    (hs : ∀ b o, hb.get? b = some o → s.heap.get? b = some o) (X : (hd.heap_39 w.params).In hb) (T : Top hd.view_39 (looseW hd.view_39 []) mean mg mb hb) (hb0 : ∀ q ∈ symLed w a o1 o2 avs fvs n1 n2, hb.get? q.1 = none)
    (S : SymS PySem.Challenge.rw_rh0078_01.row.prog w a s.heap o1 o2 avs fvs n1 n2 xs k) (hD : SymD a) (hk : k < 800)
    (hh : A.handled = none) (hdp : A.depth + 40 < recursionLimit) (hun : A.units + 200 < cLine)
    (hR : ∀ (h' : Heap) (tk' : Nat) (r : Int) (t : Tok) (o1' o2' : Obj) (avs' fvs' : List Value) (n1' n2' : Nat) (xs' : List (List Int × Addr × Value)), Fwd (symW a) s.heap h' → SymS PySem.Challenge.rw_rh0078_01.row.prog w a h' o1' o2' avs' fvs' n1' n2' xs' (k + 2) → XStep PySem.Challenge.rw_rh0078_01.row.prog w s.heap h' xs xs' → R (.ok (.ret (.int r t))) { s with heap := h', toks := tk' }) :
    codeAny (model PySem.Challenge.rw_rh0078_01.row.prog w) A (.call (.ref 109) ⟨[.ref a.x, .str tx tt, .int ir tir], []⟩) R s := by
  obtain ⟨hnd, dp, fr, gd, un⟩ := A
  obtain rfl : hnd = none := hh
  dsimp only at hdp hun
  obtain ⟨hget, s1, s2, sk, l1, l2⟩ := S
  have c1 := s1.cls
  have c2 := s2.cls
  have gx := hget _ (.head _)
  have gdx := hget _ (.tail _ (.head _))
  have gA1 := hget _ (.tail _ (.tail _ (.head _)))
  have gD1 := hget _ (.tail _ (.tail _ (.tail _ (.head _))))
  have gA2 := hget _ (.tail _ (.tail _ (.tail _ (.tail _ (.head _)))))
  have gD2 := hget _ (.tail _ (.tail _ (.tail _ (.tail _ (.tail _ (.head _))))))
  dsimp only at gx gdx gA1 gD1 gA2 gD2
  obtain ⟨x, dx, A1, D1, A2, D2, t1, t2, t3, t4, nd⟩ := a
  dsimp only at gx gdx gA1 gD1 gA2 gD2
  have hmem : ∀ q ∈ symLed w ⟨x, dx, A1, D1, A2, D2, t1, t2, t3, t4, nd⟩ o1 o2 avs fvs n1 n2, s.heap.get? q.1 = some q.2 ∧ hb.get? q.1 = none := fun q hq => ⟨hget q hq, hb0 q hq⟩
  revert X; k_fill; intro X
  k_dflt (refine' code_in _ hs X T hmem ?k6 ?k7 ?k8 ?k9 ?kB ?_ ?c2 ?c3 ?c4 ?c5; (case k6 => k_is); (case k7 => k_is); (case k8 => k_room); (case k9 => first | exact BindsTo.of_eq rfl | exact binds_K (X.keeps hs) rfl (by k_is) rfl rfl rfl); (case c5 => decide); (case kB => exact locs rfl); (case c2 => exact rfl); (case c3 => exact rfl); (case c4 => exact rfl))
  intro g L' h₁ gs sg F' N' X' T'
  have hog : Keys PySem.Challenge.rw_rh0078_01.row.prog w (inH g) xs := Keys.keeps sk sg (by
    intro b hb
    simp only [List.map_cons, List.map_nil, List.mem_cons, List.not_mem_nil, or_false] at hb
    intro ob e
    rcases hb with rfl | rfl | rfl | rfl | rfl | rfl
    · rw [gx] at e; cases e; exact ref_ne_type
    · rw [gdx] at e; cases e; exact type_ne (by decide)
    · rw [gA1] at e; cases e; exact type_ne (by decide)
    · rw [gD1] at e; cases e; rw [c1]; exact type_ne (by decide)
    · rw [gA2] at e; cases e; exact type_ne (by decide)
    · rw [gD2] at e; cases e; rw [c2]; exact type_ne (by decide))
  clear hs X T
  dsimp only
  dsimp only [symLed] at N'
  have kk : Fwd (symW ⟨x, dx, A1, D1, A2, D2, t1, t2, t3, t4, nd⟩) s.heap h₁ := fwd_led sg (fun q hq => (hmem q hq).1) F'.keep (fun q hq => (N' q hq).1) (fun q hq _ => hq)
  k_steps
  refine wpAny_call (atom_sym (a := ⟨x, dx, A1, D1, A2, D2, t1, t2, t3, t4, nd⟩) F'.keep X' T' (fun q hq => (N' q hq).2.2) ⟨fun q hq => (N' q hq).1, s1, s2, Keys.up hog F', l1, l2⟩ hD (by omega) rfl (by k_room) (by k_units) ?_)
  intro h4 tk4 r4 tt4 o14 avs4 n14 k4 S4
  obtain ⟨F4, N4⟩ := sym_step (rest := []) F' (by rw [List.append_nil]; exact N') k4 (fun p hp => nomatch hp) S4
  rw [List.append_nil] at N4
  dsimp only [symLed] at N4
  clear F' N'
  dsimp only
  k_steps
  refine wpAny_call (functor_sym (a := ⟨x, dx, A1, D1, A2, D2, t1, t2, t3, t4, nd⟩) F4.keep X' T' (fun q hq => (N4 q hq).2.2) S4 hD (by omega) rfl (by k_room) (by k_units) ?_)
  intro h5 tk5 r5 tt5 o25 fvs5 n25 xs5 k5 S5 X5
  dsimp only
  k_steps
  refine hR _ _ _ _ o14 o25 avs4 fvs5 n14 n25 xs5 ((kk.trans k4).trans k5) S5 ?_
  obtain ⟨c, oc, q1, q2, q3, q4⟩ := X5
  refine ⟨c, oc, ?_, q2, q3, q4⟩
  cases e : s.heap.get? c with
  | none => rfl
  | some o =>
    exfalso
    by_cases hm : c ∈ symW ⟨x, dx, A1, D1, A2, D2, t1, t2, t3, t4, nd⟩
    · simp only [List.mem_cons, List.not_mem_nil, or_false] at hm
      rcases hm with rfl | rfl | rfl | rfl
      · rw [S4.1 _ (.tail _ (.tail _ (.head _)))] at q1; cases q1
      · rw [S4.1 _ (.tail _ (.tail _ (.tail _ (.head _))))] at q1; cases q1
      · rw [S4.1 _ (.tail _ (.tail _ (.tail _ (.tail _ (.head _)))))] at q1; cases q1
      · rw [S4.1 _ (.tail _ (.tail _ (.tail _ (.tail _ (.tail _ (.head _))))))] at q1; cases q1
    · rw [k4 c o (kk c o e hm) hm] at q1; cases q1
end
end

section
abbrev tupOf (vs : List Value) (n : Nat) : Obj := { cls := .type "tuple", data := .seq vs.toArray n }
section
variable {w : World} {mean : ExcName → Option Value} {mg mb : Str → Option Value}
/-- a loop over a tuple of the ledger whose body stores the loop's name alone -/
theorem tup_loop {prog : Program} {A : Around} {E : Value → Shared → Prop} {s : Shared} {env : Env} {h₀ : Heap} {x : Str} {body : List Stmt} {Q : Flow → Shared → Prop} {l : Addr} {vs : List Value} {nn : Nat} {m₀ : Str → Option Value} {news : List (Addr × Obj)} (I : Nat → List (Addr × Obj) → Prop)
    (hh : A.handled = none) (hl : (l, tupOf vs nn) ∈ news) (F : Fr h₀ env.locals s.heap m₀) (N : News h₀ env.locals s.heap news) (hI : I 0 news)
    (turn : ∀ i v news₁ h tk q, vs[i]? = some v → OwnOff [q] (news₁.map (·.1)) → (l, tupOf vs nn) ∈ news₁ → I i news₁ → Fr h₀ env.locals h (fun y => if y = x then some v else m₀ y) → News h₀ env.locals h (news₁ ++ [q]) →
      wpAny (model prog w) A (execs body env) (InvPostG h₀ env.locals (fun m' nx => (l, tupOf vs nn) ∈ nx ∧ I (i + 1) nx ∧ ∃ rv, m' = fun y => if y = x then rv else m₀ y) [q] { s with heap := h, toks := tk } Q) E { s with heap := h, toks := tk })
    (done : ∀ rv news₁ h tk, I vs.length news₁ → Fr h₀ env.locals h (fun y => if y = x then rv else m₀ y) → News h₀ env.locals h news₁ → Q .next { s with heap := h, toks := tk }) :
    wpAny (model prog w) A (pyIter (.ref l)) (fun it s₂ => LoopAtV prog w A h₀ env x body Q E it s₂) E s := by
  have hol : s.heap.get? l = some (tupOf vs nn) := (N _ hl).1
  have ht : IsTup s.heap l vs.toArray := ⟨_, hol, rfl, nn, rfl⟩
  have hne : l ≠ s.heap.objs.size := Nat.ne_of_lt (Heap.lt_size hol)
  refine wpAny_pyIter_tuple ht ?_
  have W := Walks.tuple (prog := prog) (w := w) hh s.heap.objs.size l hne vs.toArray
  have hlen : vs.toArray.size = vs.length := by simp
  rw [hlen] at W
  refine ⟨_, _, _, vs.length, _, _, m₀, news, (fun i m nx => (l, tupOf vs nn) ∈ nx ∧ I i nx ∧ ∃ rv, m = fun y => if y = x then rv else m₀ y), rfl, W, ?_, ?_, ?_, ⟨⟨_, Heap.get?_push_size _ rfl, rfl, rfl⟩, ht.push _⟩, F.push _, (fun p hp => ⟨Heap.get?_push_of_some _ (N p hp).1, (N p hp).2⟩), ⟨hl, hI, m₀ x, upd_self m₀⟩, ?_, ?_⟩
  · intro hm
    rcases List.mem_cons.mp hm with e | hm
    · exact absurd F.ns.lt (e ▸ Nat.lt_irrefl _)
    · exact (N _ hl).2.1 (List.mem_singleton.mp hm).symm
  · intro b hb
    rw [List.mem_singleton.mp hb]
    exact next_is_new F
  · intro p hp hq
    exact absurd (Heap.lt_size (N p hp).1) ((List.mem_singleton.mp hq) ▸ Nat.lt_irrefl _)
  · rintro i v m₁ news₁ s₁ own ⟨hh', tk', rfl⟩ hin hP ⟨hl₁, hi, rv, rfl⟩ hoff hown hget hfp hst F₁ N₁
    have hP' : vs[i]? = some v := by simpa using hP
    obtain ⟨⟨oI, hoI, _⟩, _⟩ := id hst
    rw [upd_twice] at F₁
    have hI0 : h₀.get? s.heap.objs.size = none := next_is_new F
    have hIown : (s.heap.objs.size, oI) ∈ own := hfp _ (.head _) hI0 _ hoI
    have hlo : hh'.get? l = some (tupOf vs nn) := (N₁ _ (List.mem_append_right _ hl₁)).1
    have off1 : OwnOff [(s.heap.objs.size, oI)] (news₁.map (·.1)) := fun p hp b hb e => by
      obtain ⟨q, hq, rfl⟩ := List.mem_map.mp hb
      rw [List.mem_singleton.mp hp] at e
      exact hoff q hq (List.mem_singleton.mpr e.symm)
    refine wpAny_mono (turn i v news₁ hh' tk' (s.heap.objs.size, oI) hP' off1 hl₁ hi F₁ (fun p hp => N₁ p ((List.mem_append.mp hp).elim (fun h => List.mem_append_right _ h) fun h => List.mem_append_left _ (by rw [List.mem_singleton.mp h]; exact hIown)))) (fun f s₂ p => ?_) fun _ _ e => e
    have fin : InvEndG h₀ env.locals (fun m' nx => (l, tupOf vs nn) ∈ nx ∧ I (i + 1) nx ∧ ∃ rv, m' = fun y => if y = x then rv else m₀ y) [(s.heap.objs.size, oI)] { s with heap := hh', toks := tk' } s₂ →
        LoopStepU h₀ env.locals [s.heap.objs.size] own (fun m nx => (l, tupOf vs nn) ∈ nx ∧ I (i + 1) nx ∧ ∃ rv, m = fun y => if y = x then rv else m₀ y) { s with heap := hh', toks := tk' } .next s₂ := by
      rintro ⟨h', tk, m', news', nx, e, F', N', hn, ho, ha, hm⟩
      refine ⟨rfl, h', tk, m', nx, e, F', fun p hp => ?_, fun p hp hq => ha _ (.head _) p.1 (List.mem_map_of_mem hp) (List.mem_singleton.mp hq).symm, hm⟩
      rcases List.mem_append.mp hp with h | h
      · have g1 : hh'.get? p.1 = some p.2 := hget p h
        rcases List.mem_cons.mp (hown p h) with h2 | h2
        · rw [h2, hoI] at g1
          have h3 : p = (s.heap.objs.size, oI) := Prod.ext h2 (Option.some.inj g1).symm
          rw [h3]
          exact N' _ (ho _ (.head _))
        · have h2 := List.mem_singleton.mp h2
          rw [h2, hlo] at g1
          have h3 : p = (l, tupOf vs nn) := Prod.ext h2 (Option.some.inj g1).symm
          rw [h3]
          exact N' _ (hn _ hm.1)
      · exact N' p (hn p h)
    cases f with
    | ret v => exact .ret p
    | brk => exact .brk p
    | next => exact .next (fin p)
    | cont => exact .cont (fin p)
  · rintro h' tk m' news' F' N' _ ⟨_, hi, rv, rfl⟩
    exact done rv news' h' tk hi F' N'
end
end

section
section
variable {w : World} {mean : ExcName → Option Value} {mg mb : Str → Option Value}
theorem fatoms_code {A : Around} {s : Shared} {hb : Heap} {R : Result → Shared → Prop}
    (hs : ∀ b o, hb.get? b = some o → s.heap.get? b = some o) (X : (hd.heap_39 w.params).In hb) (T : Top hd.view_39 (looseW hd.view_39 []) mean mg mb hb)
    (hh : A.handled = none) (hdp : A.depth + 20 < recursionLimit) (hun : A.units + 100 < cLine)
    (hR : ∀ (h' : Heap) (tk' : Nat) (c : Addr) (vs : List Value) (n : Nat), Fwd [] s.heap h' → h'.get? c = some (tupOf vs n) → s.heap.get? c = none → (∀ v ∈ vs, ∃ x t, v = .str x t) → vs.length ≤ 100 → R (.ok (.ret (.ref c))) { s with heap := h', toks := tk' }) :
    codeAny (model PySem.Challenge.rw_rh0078_01.row.prog w) A (.call (.ref 60) ⟨[], []⟩) R s := by
  obtain ⟨hnd, dp, fr, gd, un⟩ := A
  obtain rfl : hnd = none := hh
  dsimp only at hdp hun
  revert X; k_fill; intro X
  k_dflt (refine' code_in [] hs X T ?kn ?k6 ?k7 ?k8 ?k9 ?kB ?_ ?c2 ?c3 ?c4 ?c5; (case kn => (intro q hq; cases hq)); (case k6 => k_is); (case k7 => k_is); (case k8 => k_room); (case k9 => exact BindsTo.of_eq rfl); (case c5 => decide); (case kB => exact locs rfl); (case c2 => exact rfl); (case c3 => exact rfl); (case c4 => exact rfl))
  intro g L' h₁ gs sg F' N' X' T'
  clear hs X T
  dsimp only
  k_steps
  rename Fr _ _ _ _ => F4
  rename PyProof.Rows.News _ _ _ _ => N4
  dsimp only
  refine hR _ _ _ _ _ (fwd_of sg F4) (News.get N4 (.head _)) (fresh_of sg (News.fresh N4 (.head _)) (by simp)) ?_ (Nat.le_of_ble_eq_true rfl)
  repeat' (first | exact List.forall_mem_nil _ | refine List.forall_mem_cons.mpr ⟨⟨_, _, rfl⟩, ?_⟩)
/-- a pair of a text and an int -/
abbrev rowO (x : Str) (t : Tok) (i : Int) (ti : Tok) (n : Nat) : Obj := { cls := .type "tuple", data := .seq #[.str x t, .int i ti] n }
def RowV (h₀ h : Heap) (v : Value) : Prop := ∃ c x t i ti n, v = .ref c ∧ h.get? c = some (rowO x t i ti n) ∧ h₀.get? c = none
theorem ffuncs_code {A : Around} {s : Shared} {hb : Heap} {R : Result → Shared → Prop}
    (hs : ∀ b o, hb.get? b = some o → s.heap.get? b = some o) (X : (hd.heap_39 w.params).In hb) (T : Top hd.view_39 (looseW hd.view_39 []) mean mg mb hb)
    (hh : A.handled = none) (hdp : A.depth + 20 < recursionLimit) (hun : A.units + 100 < cLine)
    (hR : ∀ (h' : Heap) (tk' : Nat) (c : Addr) (vs : List Value) (n : Nat), Fwd [] s.heap h' → h'.get? c = some (tupOf vs n) → s.heap.get? c = none → (∀ v ∈ vs, RowV s.heap h' v) → vs.length ≤ 100 → R (.ok (.ret (.ref c))) { s with heap := h', toks := tk' }) :
    codeAny (model PySem.Challenge.rw_rh0078_01.row.prog w) A (.call (.ref 67) ⟨[], []⟩) R s := by
  obtain ⟨hnd, dp, fr, gd, un⟩ := A
  obtain rfl : hnd = none := hh
  dsimp only at hdp hun
  revert X; k_fill; intro X
  k_dflt (refine' code_in [] hs X T ?kn ?k6 ?k7 ?k8 ?k9 ?kB ?_ ?c2 ?c3 ?c4 ?c5; (case kn => (intro q hq; cases hq)); (case k6 => k_is); (case k7 => k_is); (case k8 => k_room); (case k9 => exact BindsTo.of_eq rfl); (case c5 => decide); (case kB => exact locs rfl); (case c2 => exact rfl); (case c3 => exact rfl); (case c4 => exact rfl))
  intro g L' h₁ gs sg F' N' X' T'
  clear hs X T
  dsimp only
  k_steps
  rename Fr _ _ _ _ => F4
  rename PyProof.Rows.News _ _ _ _ => N4
  dsimp only
  refine hR _ _ _ _ _ (fwd_of sg F4) (News.get N4 (.head _)) (fresh_of sg (News.fresh N4 (.head _)) (by simp)) ?_ (Nat.le_of_ble_eq_true rfl)
  repeat' (first | exact List.forall_mem_nil _ | refine List.forall_mem_cons.mpr ⟨⟨_, _, _, _, _, _, rfl, News.get N4 (by k_mem), fresh_of sg (News.fresh N4 (by k_mem)) (by simp)⟩, ?_⟩)
end
end

section
theorem rows_led {h₀ h : Heap} : ∀ {vs : List Value}, (∀ v ∈ vs, RowV h₀ h v) → ∃ tr : List (Addr × Obj), (∀ p ∈ tr, h.get? p.1 = some p.2 ∧ h₀.get? p.1 = none ∧ p.2.cls = .type "tuple") ∧ ∀ v ∈ vs, ∃ c x t i ti n, v = .ref c ∧ (c, rowO x t i ti n) ∈ tr
  | [], _ => ⟨[], (fun _ h => nomatch h), fun _ h => nomatch h⟩
  | v :: vs, H => by
    obtain ⟨tr, a, b⟩ := rows_led (vs := vs) fun u hu => H u (.tail _ hu)
    obtain ⟨c, x, t, i, ti, n, rfl, e, f⟩ := H v (.head _)
    refine ⟨(c, rowO x t i ti n) :: tr, fun p hp => ?_, fun u hu => ?_⟩
    · rcases List.mem_cons.mp hp with rfl | hp
      · exact ⟨e, f, rfl⟩
      · exact a p hp
    · rcases List.mem_cons.mp hu with rfl | hu
      · exact ⟨c, x, t, i, ti, n, rfl, .head _⟩
      · obtain ⟨c', x', t', i', ti', n', e', m'⟩ := b u hu
        exact ⟨c', x', t', i', ti', n', e', .tail _ m'⟩
theorem sym_news {g h : Heap} {L : Addr} {w : World} {news : List (Addr × Obj)} {o1 o2 : Obj} {avs fvs : List Value} {n1 n2 : Nat} {t1 t2 t3 t4 nd : Nat} (x dx A1 D1 A2 D2 : Addr) (N : News g L h news) (h1 : (x, instObj 154 dx) ∈ news) (h2 : (dx, dictOf (symEs w.params A1 D1 A2 D2 t1 t2 t3 t4) nd) ∈ news)
    (h3 : (A1, listOf avs.toArray n1) ∈ news) (h4 : (D1, o1) ∈ news) (h5 : (A2, listOf fvs.toArray n2) ∈ news) (h6 : (D2, o2) ∈ news) : News g L h (symLed w ⟨x, dx, A1, D1, A2, D2, t1, t2, t3, t4, nd⟩ o1 o2 avs fvs n1 n2) := by
  have z : ∀ p ∈ symLed w ⟨x, dx, A1, D1, A2, D2, t1, t2, t3, t4, nd⟩ o1 o2 avs fvs n1 n2, p ∈ news := mem6 h1 h2 h3 h4 h5 h6
  exact fun p hp => N p (z p hp)
theorem tupX_nil {prog : Program} {w : World} {o : Obj} (h : o.IsDictOf (intKind prog w) []) : TupX prog w [] o 0 := by
  obtain ⟨es, ep, a1, a2, a3, a4, a5⟩ := h
  refine ⟨es, ep, a1, a2, ?_, List.nodup_nil, (fun _ h => nomatch h), Nat.le_refl _⟩
  have := a4.length
  exact List.eq_nil_of_length_eq_zero this
section
variable {w : World} {mean : ExcName → Option Value} {mg mb : Str → Option Value}
theorem syminit_code {A : Around} {s : Shared} {hb : Heap} {R : Result → Shared → Prop} {x dx : Addr}
    (hs : ∀ b o, hb.get? b = some o → s.heap.get? b = some o) (X : (hd.heap_39 w.params).In hb) (T : Top hd.view_39 (looseW hd.view_39 []) mean mg mb hb)
    (hx : s.heap.get? x = some (instObj 154 dx)) (hxb : hb.get? x = none) (hdx : s.heap.get? dx = some (dictOf [] 0)) (hdb : hb.get? dx = none)
    (hxd : dx < x) (hh : A.handled = none) (hdp : A.depth + 80 < recursionLimit) (hun : A.units + 400 < cLine)
    (hR : ∀ (h' : Heap) (tk' : Nat), Fwd [x, dx] s.heap h' → (∃ o, h'.get? x = some o) → R (.ok (.ret .none)) { s with heap := h', toks := tk' }) :
    codeAny (model PySem.Challenge.rw_rh0078_01.row.prog w) A (.call (.ref 81) ⟨[.ref x], []⟩) R s := by
  obtain ⟨hnd, dp, fr, gd, un⟩ := A
  obtain rfl : hnd = none := hh
  dsimp only at hdp hun
  have hmem : ∀ q ∈ [(x, instObj 154 dx), (dx, dictOf [] 0)], s.heap.get? q.1 = some q.2 ∧ hb.get? q.1 = none := by
    intro q hq
    rcases List.mem_cons.mp hq with rfl | hq
    · exact ⟨hx, hxb⟩
    rw [List.mem_singleton.mp hq]; exact ⟨hdx, hdb⟩
  revert X; k_fill; intro X
  k_dflt (refine' code_in _ hs X T hmem ?k6 ?k7 ?k8 ?k9 ?kB ?_ ?c2 ?c3 ?c4 ?c5; (case k6 => k_is); (case k7 => k_is); (case k8 => k_room); (case k9 => first | exact BindsTo.of_eq rfl | exact binds_K (X.keeps hs) rfl (by k_is) rfl rfl rfl); (case c5 => decide); (case kB => exact locs rfl); (case c2 => exact rfl); (case c3 => exact rfl); (case c4 => exact rfl))
  intro g L' h₁ gs sg F' N' X' T'
  have hxd := ltN hxd
  clear hs X T
  dsimp only
  k_steps
  rename_i A1 _ m1 _ _ D1 _ o1 lo1 hs1 fs1 hi1 fi1 m2 _ A2 _ m3 _ D2 _ o2 lo2 hs2 fs2 hi2 fi2 m4 _ F1 N1
  obtain ⟨t1, t2, t3, t4, nd, N2⟩ : ∃ t1 t2 t3 t4 nd, News g L' _ (symLed w ⟨x, dx, A1, D1, A2, D2, t1, t2, t3, t4, nd⟩ o1 o2 [] [] 0 0) := ⟨_, _, _, _, _, sym_news x dx A1 D1 A2 D2 N1 (by k_mem) (by k_mem) (by k_mem) (by k_mem) (by k_mem) (by k_mem)⟩
  have hD : SymD ⟨x, dx, A1, D1, A2, D2, t1, t2, t3, t4, nd⟩ := ⟨by k_ne, by k_ne, by k_ne, by k_ne, lo1, lo2⟩
  have hst1 : StrTab PySem.Challenge.rw_rh0078_01.row.prog w o1 0 := ⟨[], [], hs1, fs1, (fun _ h => nomatch h), Nat.le_refl _⟩
  have htx := tupX_nil hi2
  have c1 := hst1.cls
  have c2 := htx.cls
  clear N1 hs1 fs1 hi1 fi1 hs2 fs2 hi2 fi2 m1 m2 m3 m4 lo1 lo2
  refine wpAny_call (fatoms_code F1.keep X' T' rfl (by k_room) (by k_units) ?_)
  intro h3 tk3 c3 vs3 n3 k3 e3 f3 hv3 hl3
  have F3 := k3.fr F1 (by simp) (by simp)
  have N3 : News g L' h3 (symLed w ⟨x, dx, A1, D1, A2, D2, t1, t2, t3, t4, nd⟩ o1 o2 [] [] 0 0 ++ [(c3, tupOf vs3 n3)]) := fun p hp => by
    rcases List.mem_append.mp hp with hp | hp
    · exact ⟨k3 _ _ (N2 p hp).1 (by simp), (N2 p hp).2⟩
    · rw [List.mem_singleton.mp hp]; exact fresh_news F1 f3 e3
  clear N2 F1
  dsimp only
  dsimp only [symLed, List.cons_append, List.nil_append] at N3
  k_steps
  refine Hold.mk (tup_loop (nn := n3) (fun i nx => ∃ o1 avs n1, nx = symLed w ⟨x, dx, A1, D1, A2, D2, t1, t2, t3, t4, nd⟩ o1 o2 avs [] n1 0 ++ [(c3, tupOf vs3 n3)] ∧ StrTab PySem.Challenge.rw_rh0078_01.row.prog w o1 i ∧ avs.length ≤ i) rfl (by k_mem) F3 N3 ⟨o1, [], 0, rfl, hst1, Nat.le_refl _⟩ ?_ ?_)
  · rintro i v nx h tk q hiv off _ ⟨o1', avs, n1', rfl, st, lav⟩ F5 N5
    obtain ⟨tx, tt, rfl⟩ := hv3 v (List.mem_of_getElem? hiv)
    have hi3 : i < vs3.length := (List.getElem?_eq_some_iff.mp hiv).1
    have N6 : News g L' h (symLed w ⟨x, dx, A1, D1, A2, D2, t1, t2, t3, t4, nd⟩ o1' o2 avs [] n1' 0 ++ [(c3, tupOf vs3 n3), q]) := by rw [List.append_assoc] at N5; exact N5
    have offq : ∀ b ∈ symW ⟨x, dx, A1, D1, A2, D2, t1, t2, t3, t4, nd⟩, q.1 ≠ b := fun b hb => off q (.head _) b (by
      simp only [List.mem_cons, List.not_mem_nil, or_false] at hb
      simp only [symLed, List.cons_append, List.nil_append, List.map_cons, List.map_nil, List.mem_cons]
      rcases hb with e | e | e | e
      · exact .inr (.inr (.inl e))
      · exact .inr (.inr (.inr (.inl e)))
      · exact .inr (.inr (.inr (.inr (.inl e))))
      · exact .inr (.inr (.inr (.inr (.inr (.inl e))))))
    have c3' := st.cls
    have N7 := N6
    clear N5
    dsimp only [symLed, List.cons_append, List.nil_append] at N7
    k_steps
    refine wpAny_call (atom_sym (a := ⟨x, dx, A1, D1, A2, D2, t1, t2, t3, t4, nd⟩) F5.keep X' T' (sym_none N6) ⟨fun p hp => (N6 p (List.mem_append_left _ hp)).1, st, htx.le (Nat.zero_le _), (fun _ h => nomatch h), lav, Nat.zero_le _⟩ hD (by omega) rfl (by k_room) (by k_units) ?_)
    intro h8 tk8 r8 tt8 o18 avs8 n18 k8 S8
    obtain ⟨F8, N8⟩ := sym_step F5 N6 k8 (fun p hp b hb => by
      rcases List.mem_cons.mp hp with rfl | hp
      · have gc := (N6 (c3, tupOf vs3 n3) (List.mem_append_right _ (.head _))).1
        have ga := fun p hp => (N6 p (List.mem_append_left _ hp)).1
        simp only [List.mem_cons, List.not_mem_nil, or_false] at hb
        rcases hb with rfl | rfl | rfl | rfl
        · exact ne_cls gc (ga _ (.tail _ (.tail _ (.head _)))) (type_ne (by decide))
        · exact ne_cls gc (ga _ (.tail _ (.tail _ (.tail _ (.head _))))) (by rw [c3']; exact type_ne (by decide))
        · exact ne_cls gc (ga _ (.tail _ (.tail _ (.tail _ (.tail _ (.head _)))))) (type_ne (by decide))
        · exact ne_cls gc (ga _ (.tail _ (.tail _ (.tail _ (.tail _ (.tail _ (.head _))))))) (by rw [c2]; exact type_ne (by decide))
      · rw [List.mem_singleton.mp hp]; exact offq b hb) S8
    clear F5 N6 N7
    dsimp only
    k_steps
    refine InvEndG.intro (nx := symLed w ⟨x, dx, A1, D1, A2, D2, t1, t2, t3, t4, nd⟩ o18 o2 avs8 [] n18 0 ++ [(c3, tupOf vs3 n3)]) F8 N8 ⟨List.mem_append_right _ (.head _), ⟨o18, avs8, n18, rfl, S8.2.1, S8.2.2.2.2.1⟩, ⟨_, rfl⟩⟩ off (fun p hp => ?_) (fun p hp => ?_)
    · rcases List.mem_append.mp hp with hp | hp
      · exact List.mem_append_left _ hp
      · rw [List.mem_singleton.mp hp]; exact List.mem_append_right _ (.head _)
    · rw [List.mem_singleton.mp hp]; exact List.mem_append_right _ (.tail _ (.head _))
  · rintro rv nx h tk ⟨o1', avs, n1', rfl, st, lav⟩ F5 N5
    clear F3 N3 hst1
    have N6 := N5
    dsimp only [symLed, List.cons_append, List.nil_append] at N6
    dsimp only
    k_steps
    rename Fr _ _ _ _ => F6
    refine wpAny_call (ffuncs_code F6.keep X' T' rfl (by k_room) (by k_units) ?_)
    intro h9 tk9 c4 vs4 n4 k9 e9 f9 hv9 hl9
    obtain ⟨tr, htr1, htr2⟩ := rows_led hv9
    have F9 := k9.fr F6 (by simp) (by simp)
    have N9 : News g L' h9 (symLed w ⟨x, dx, A1, D1, A2, D2, t1, t2, t3, t4, nd⟩ o1' o2 avs [] n1' 0 ++ ((c4, tupOf vs4 n4) :: tr)) := fun p hp => by
      rcases List.mem_append.mp hp with hp | hp
      · have z := N5 p (List.mem_append_left _ hp)
        exact ⟨k9 _ _ z.1 (by simp), z.2⟩
      · rcases List.mem_cons.mp hp with rfl | hp
        · exact fresh_news F6 f9 e9
        · exact fresh_news F6 (htr1 p hp).2.1 (htr1 p hp).1
    clear N5 N6 F6
    have N10 := N9
    dsimp only [symLed, List.cons_append, List.nil_append] at N10
    dsimp only
    k_steps
    clear N10
    refine Hold.mk (tup_loop (nn := n4) (fun i nx => ∃ o1 o2 avs fvs n1 n2 xs tl, nx = symLed w ⟨x, dx, A1, D1, A2, D2, t1, t2, t3, t4, nd⟩ o1 o2 avs fvs n1 n2 ++ ((c4, tupOf vs4 n4) :: (tr ++ tl)) ∧ StrTab PySem.Challenge.rw_rh0078_01.row.prog w o1 (100 + 2 * i) ∧ TupX PySem.Challenge.rw_rh0078_01.row.prog w xs o2 (100 + 2 * i) ∧ Keys PySem.Challenge.rw_rh0078_01.row.prog w (fun a o => (a, o) ∈ tl) xs ∧ (∀ p ∈ tl, p.2.cls = .type "tuple") ∧ avs.length ≤ 100 + 2 * i ∧ fvs.length ≤ 100 + 2 * i)
      rfl (List.mem_append_right _ (.head _)) F9 N9 ⟨o1', o2, avs, [], n1', 0, [], [], by rw [List.append_nil], st.le hl3, htx.le (Nat.zero_le _), (fun _ h => nomatch h), (fun _ h => nomatch h), Nat.le_trans lav hl3, Nat.zero_le _⟩ ?_ ?_)
    · rintro i v nx h1 tk1 q hiv off _ ⟨p1, p2, bvs, gvs, m1, m2, xs, tl, rfl, st1, tx1, ky1, ct1, la1, lf1⟩ F11 N11
      obtain ⟨cr, tx, tt, ir, tir, nr, rfl, hcr⟩ := htr2 v (List.mem_of_getElem? hiv)
      have hi4 : i < vs4.length := (List.getElem?_eq_some_iff.mp hiv).1
      obtain ⟨tz, htz⟩ : ∃ tz, tz = tr ++ tl ++ [q] := ⟨_, rfl⟩
      have hcz : (cr, rowO tx tt ir tir nr) ∈ tz := by rw [htz]; exact List.mem_append_left _ (List.mem_append_left _ hcr)
      have N12 : News g L' h1 (symLed w ⟨x, dx, A1, D1, A2, D2, t1, t2, t3, t4, nd⟩ p1 p2 bvs gvs m1 m2 ++ ((c4, tupOf vs4 n4) :: tz)) := by rw [htz]; rw [List.append_assoc] at N11; exact N11
      have N13 := N12
      dsimp only [symLed, List.cons_append, List.nil_append] at N13
      have d1 := st1.cls
      have d2 := tx1.cls
      clear N11
      have hcT : IsTup h1 cr [Value.str tx tt, Value.int ir tir].toArray := ⟨_, (N12 _ (List.mem_append_right _ (.tail _ hcz))).1, rfl, nr, rfl⟩
      k_steps
      refine wpAny_call (func_sym (a := ⟨x, dx, A1, D1, A2, D2, t1, t2, t3, t4, nd⟩) (xs := xs) F11.keep X' T' (sym_none N12) ⟨fun p hp => (N12 p (List.mem_append_left _ hp)).1, st1, tx1, fun y hy => (ky1 y hy).mono fun o _ hm => (N12 _ (List.mem_append_right _ (.tail _ (by rw [htz]; exact List.mem_append_left _ (List.mem_append_right _ hm))))).1, la1, lf1⟩ hD (by omega) rfl (by k_room) (by k_units) ?_)
      intro h8 tk8 r8 tt8 o18 o28 avs8 fvs8 n18 n28 xs8 k8 S8 X8
      obtain ⟨cn, ocn, q1, q2, q3, q4⟩ := X8
      have ga := fun p hp => (N12 p (List.mem_append_left _ hp)).1
      have offt : ∀ p, p ∈ ((c4, tupOf vs4 n4) :: tz) → p.2.cls = .type "tuple" → ∀ b ∈ symW ⟨x, dx, A1, D1, A2, D2, t1, t2, t3, t4, nd⟩, p.1 ≠ b := fun p hp hc b hb => by
        have gc := (N12 p (List.mem_append_right _ hp)).1
        simp only [List.mem_cons, List.not_mem_nil, or_false] at hb
        rcases hb with rfl | rfl | rfl | rfl
        · exact ne_cls gc (ga _ (.tail _ (.tail _ (.head _)))) (by rw [hc]; exact type_ne (by decide))
        · exact ne_cls gc (ga _ (.tail _ (.tail _ (.tail _ (.head _))))) (by rw [hc, d1]; exact type_ne (by decide))
        · exact ne_cls gc (ga _ (.tail _ (.tail _ (.tail _ (.tail _ (.head _)))))) (by rw [hc]; exact type_ne (by decide))
        · exact ne_cls gc (ga _ (.tail _ (.tail _ (.tail _ (.tail _ (.tail _ (.head _))))))) (by rw [hc, d2]; exact type_ne (by decide))
      have offq : ∀ b ∈ symW ⟨x, dx, A1, D1, A2, D2, t1, t2, t3, t4, nd⟩, q.1 ≠ b := fun b hb => off q (.head _) b (by
        simp only [List.mem_cons, List.not_mem_nil, or_false] at hb
        simp only [symLed, List.cons_append, List.nil_append, List.map_cons, List.mem_cons]
        rcases hb with e | e | e | e
        · exact .inr (.inr (.inl e))
        · exact .inr (.inr (.inr (.inl e)))
        · exact .inr (.inr (.inr (.inr (.inl e))))
        · exact .inr (.inr (.inr (.inr (.inr (.inl e))))))
      have hqz : q ∈ tz := by rw [htz]; exact List.mem_append_right _ (.head _)
      have hqc : q.1 ≠ cn := fun e => by have z := (N12 q (List.mem_append_right _ (.tail _ hqz))).1; rw [e, q1] at z; cases z
      obtain ⟨F8, N8⟩ := sym_step F11 N12 k8 (fun p hp b hb => by
        rcases List.mem_cons.mp hp with rfl | hp'
        · exact offt _ hp rfl b hb
        · have hp2 := hp'
          rw [htz] at hp2
          rcases List.mem_append.mp hp2 with hp2 | hp2
          · rcases List.mem_append.mp hp2 with hp2 | hp2
            · exact offt _ hp (htr1 p hp2).2.2 b hb
            · exact offt _ hp (ct1 p hp2) b hb
          · rw [List.mem_singleton.mp hp2]; exact offq b hb) S8
      have fz := fresh_news F11 q1 q2
      clear F11 N12 N13
      dsimp only
      k_steps
      refine InvEndG.intro (nx := symLed w ⟨x, dx, A1, D1, A2, D2, t1, t2, t3, t4, nd⟩ o18 o28 avs8 fvs8 n18 n28 ++ ((c4, tupOf vs4 n4) :: (tr ++ ((cn, ocn) :: tl)))) (news' := (cn, ocn) :: (symLed w ⟨x, dx, A1, D1, A2, D2, t1, t2, t3, t4, nd⟩ o18 o28 avs8 fvs8 n18 n28 ++ ((c4, tupOf vs4 n4) :: tz))) F8 (fun p hp => ?_) ⟨List.mem_append_right _ (.head _), ⟨o18, o28, avs8, fvs8, n18, n28, xs8, (cn, ocn) :: tl, rfl, S8.2.1, S8.2.2.1, ?_, ?_, S8.2.2.2.2.1, S8.2.2.2.2.2⟩, ⟨_, rfl⟩⟩ ?_ (fun p hp => ?_) (fun p hp => ?_)
      · rcases List.mem_cons.mp hp with rfl | hp
        · exact fz
        · exact N8 p hp
      · exact q4 _ (fun y hy => (ky1 y hy).mono fun o _ hm => .tail _ hm) (.head _)
      · intro p hp
        rcases List.mem_cons.mp hp with rfl | hp
        · exact q3
        · exact ct1 p hp
      · intro p hp b hb
        rw [List.mem_singleton.mp hp]
        obtain ⟨y, hy, rfl⟩ := List.mem_map.mp hb
        rcases List.mem_append.mp hy with hy | hy
        · have hz : y.1 ∈ (symLed w ⟨x, dx, A1, D1, A2, D2, t1, t2, t3, t4, nd⟩ p1 p2 bvs gvs m1 m2).map (·.1) := List.mem_map_of_mem (f := (·.1)) hy
          exact off q (.head _) _ (by rw [List.map_append]; exact List.mem_append_left _ hz)
        · rcases List.mem_cons.mp hy with rfl | hy
          · exact off q (.head _) _ (by rw [List.map_append]; exact List.mem_append_right _ (.head _))
          · rcases List.mem_append.mp hy with hy | hy
            · exact off q (.head _) _ (List.mem_map_of_mem (List.mem_append_right _ (.tail _ (List.mem_append_left _ hy))))
            · rcases List.mem_cons.mp hy with rfl | hy
              · exact hqc
              · exact off q (.head _) _ (List.mem_map_of_mem (List.mem_append_right _ (.tail _ (List.mem_append_right _ hy))))
      · rcases List.mem_append.mp hp with hp | hp
        · exact .tail _ (List.mem_append_left _ hp)
        · rcases List.mem_cons.mp hp with rfl | hp
          · exact .tail _ (List.mem_append_right _ (.head _))
          · rcases List.mem_append.mp hp with hp | hp
            · exact .tail _ (List.mem_append_right _ (.tail _ (by rw [htz]; exact List.mem_append_left _ (List.mem_append_left _ hp))))
            · rcases List.mem_cons.mp hp with rfl | hp
              · exact .head _
              · exact .tail _ (List.mem_append_right _ (.tail _ (by rw [htz]; exact List.mem_append_left _ (List.mem_append_right _ hp))))
      · rw [List.mem_singleton.mp hp]; exact .tail _ (List.mem_append_right _ (.tail _ hqz))
    · rintro rv nx h1 tk1 ⟨p1, p2, bvs, gvs, m1, m2, xs, tl, rfl, st1, tx1, ky1, ct1, la1, lf1⟩ F11 N11
      dsimp only
      k_steps
      dsimp only
      exact hR _ _ (fwd_of sg F11) ⟨_, (N11 _ (List.mem_append_left _ (.head _))).1⟩
end
end

section
section
variable {w : World} {mean : ExcName → Option Value} {mg mb : Str → Option Value}
theorem symbols_code {A : Around} {s : Shared} {hb : Heap} {R : Result → Shared → Prop}
    (hs : ∀ b o, hb.get? b = some o → s.heap.get? b = some o) (X : (hd.heap_39 w.params).In hb) (T : Top hd.view_39 (looseW hd.view_39 []) mean mg mb hb)
    (hh : A.handled = none) (hdp : A.depth + 100 < recursionLimit) (hun : A.units + 500 < cLine)
    (hR : ∀ (h' : Heap) (tk' : Nat) (x : Addr), Fwd [] s.heap h' → R (.ok (.ret (.ref x))) { s with heap := h', toks := tk' }) :
    codeAny (model PySem.Challenge.rw_rh0078_01.row.prog w) A (.call (.ref 154) ⟨[], []⟩) R s := by
  obtain ⟨hp, gg, dd, tt, oo⟩ := s
  have X1 := X.keeps hs
  have e0 : (hp.push emptyDict).get? hp.objs.size = some emptyDict := push_some _ rfl
  have e1 : ((hp.push emptyDict).push (instObj 154 hp.objs.size)).get? (hp.push emptyDict).objs.size = some (instObj 154 hp.objs.size) := push_some _ rfl
  have sz : (hp.push emptyDict).objs.size = hp.objs.size + 1 := Heap.size_push _ _
  revert X; k_fill; intro X
  have h1 : makesIn (hd.heap_39 w.params) 154 = true := by k_is
  have h2 : findIn (hd.heap_39 w.params) (.ref 154) "__init__" = some (some (.ref 81)) := by k_is
  have h3 : isFn (hd.heap_39 w.params) (.ref 81) = true := by k_is
  refine make_core (makes_of X1 h1) (looks_findIn X1 h2) (fun self => bind_fn X1 self (beq_iff_eq.mp h3)) (.inl rfl) ?_
  have big : ∀ a, hp.objs.size ≤ a → hb.get? a = none := fun a ha => by
    cases e : hb.get? a with
    | none => rfl
    | some o => have := hs _ _ e; rw [get_big ha] at this; cases this
  have f2 : Fwd [] hp ((hp.push emptyDict).push (instObj 154 hp.objs.size)) := fun b o e _ => Heap.get?_push_of_some _ (Heap.get?_push_of_some _ e)
  refine syminit_code (x := hp.objs.size + 1) (dx := hp.objs.size) (fun b o e => f2 b o (hs b o e) (by simp)) X T (by rw [← sz]; exact e1) (big _ (Nat.le_succ _)) (Heap.get?_push_of_some _ e0) (big _ (Nat.le_refl _)) (Nat.lt_succ_self _) hh ?_ ?_ ?_
  · simp only [depth_under_make]; omega
  · have hc : (Code.builtin "type.__call__" { pos := [Value.ref 154] }).cUnits ≤ 10 := by
      first | decide | (simp [Code.cUnits, Code.frames, Code.isFrame]; done)
    show A.units + (Code.builtin "type.__call__" { pos := [Value.ref 154] }).cUnits + 400 < cLine
    omega
  · intro h' tk' k _
    have k' : Fwd [] hp h' := fun b o e _ => k b o (f2 b o e (by simp)) (by
      have := Heap.lt_size e
      simp only [List.mem_cons, List.not_mem_nil, or_false, not_or]
      exact ⟨Nat.ne_of_lt (Nat.lt_succ_of_lt this), Nat.ne_of_lt this⟩)
    exact ⟨rfl, hR h' tk' _ k'⟩
end
end

section
theorem log_small {z : Int} (h0 : 0 ≤ z) (h : z < 1000) : z.natAbs.log2 < 9000 := by
  by_cases e : z.natAbs = 0
  · rw [e]; decide +kernel
  · have : z.natAbs.log2 < 10 := (Nat.log2_lt e).mpr (by omega)
    omega
section
variable {w : World} {mean : ExcName → Option Value} {mg mb : Str → Option Value}
theorem pick_at {A : Around} {s : Shared} {h₀ : Heap} {L : Addr} {m : Str → Option Value} {Q E : Value → Shared → Prop} {U S : Addr} {x k faces : Int} {tx tk tf : Tok} {n nS : Nat} {vs : List Value} {ns : List Int} {news : List (Addr × Obj)} {g : Obj → List (Addr × Obj)}
    (F : Fr h₀ L s.heap m) (N : News h₀ L s.heap news) (X : (hd.heap_39 w.params).In h₀) (T : Top hd.view_39 (looseW hd.view_39 []) mean mg mb h₀)
    (hU : UpdF U (listOf #[.int x tx, .ref S, .int k tk] n) news g) (hS : (S, listOf vs.toArray nS) ∈ news) (hi : IntsAre vs ns) (hn : ns.length < 1000) (hk : 0 ≤ k) (hf : 0 < faces) (hf2 : faces.natAbs.log2 < 9000)
    (hh : A.handled = none) (hdp : A.depth + 20 < recursionLimit) (hun : A.units + 100 < cLine)
    (hQ : ∀ (h' : Heap) (tk' : Nat) (face x' k' : Int) (t tx' tk'' : Tok) (n' : Nat), Fr h₀ L h' m → News h₀ L h' (g (listOf #[.int x' tx', .ref S, .int k' tk''] n')) → 0 ≤ k' → 0 ≤ face → face < faces → Q (.int face t) { s with heap := h', toks := tk' }) :
    wpAny (model PySem.Challenge.rw_rh0078_01.row.prog w) A (call (.ref 362) [.ref U, .int faces tf]) Q E s := by
  have hSU : S ≠ U := fun e => by
    subst e
    obtain ⟨pre, post, rfl, _, n1, n2⟩ := hU.split
    rcases List.mem_append.mp hS with q | q
    · exact n1 _ q rfl
    · rcases List.mem_cons.mp q with q | q
      · have e2 : vs.toArray = #[.int x tx, .ref S, .int k tk] := by
          have e := congrArg (fun o : Obj => match o.data with | .seq a _ => a | _ => #[]) (congrArg Prod.snd q)
          exact e
        have e3 : vs = [.int x tx, .ref S, .int k tk] := congrArg Array.toList e2
        rw [e3] at hi
        cases hi with
        | cons _ _ r => cases r
      · exact n2 _ q rfl
  have zU := N _ (updF_mem hU)
  have zS := N _ hS
  exact wpAny_call (pick_code F.keep X T zU.2.2 zU.1 ⟨_, zS.1, rfl, nS, rfl⟩ hSU hi (by omega) hk hf hf2 hh hdp hun fun h' tk' face x' k' t tx' tk'' n' kf e h1 h2 h3 =>
    hQ h' tk' face x' k' t tx' tk'' n' (updF_fr hU F N kf) (updF_news hU N kf e) h1 h2 h3)
theorem range_loop2 {prog : Program} {A : Around} {E : Value → Shared → Prop} {s : Shared} {env : Env} {h₀ : Heap} {x : Str} {body : List Stmt} {Q : Flow → Shared → Prop} {r : Addr} {b₀ : Int} {t₀ u₀ v₀ : Tok} {m₀ : Str → Option Value} {news : List (Addr × Obj)} (n : Nat) (z : Str) (hxz : x ≠ z) (I : Nat → List (Addr × Obj) → Prop)
    (hh : A.handled = none) (hr : IsRange s.heap r 0 b₀ 1 t₀ u₀ v₀) (hb : b₀ = (n : Int)) (hn : n < 2 ^ 62) (F : Fr h₀ env.locals s.heap m₀) (N : News h₀ env.locals s.heap news) (hj : I 0 news)
    (turn : ∀ i t zv nx h tk own, i < n → OwnOff own (nx.map (·.1)) → I i nx → Fr h₀ env.locals h (fun y => if y = x then some (.int (i : Int) t) else if y = z then zv else m₀ y) → News h₀ env.locals h (nx ++ own) →
      wpAny (model prog w) A (execs body env) (InvPostG h₀ env.locals (fun m' nx => I (i + 1) nx ∧ ∃ rv zv, m' = fun y => if y = x then rv else if y = z then zv else m₀ y) own { s with heap := h, toks := tk } Q) E { s with heap := h, toks := tk })
    (done : ∀ rv zv nx h tk, I n nx → Fr h₀ env.locals h (fun y => if y = x then rv else if y = z then zv else m₀ y) → News h₀ env.locals h nx → Q .next { s with heap := h, toks := tk }) :
    wpAny (model prog w) A (pyIter (.ref r)) (fun it s₂ => LoopAtV prog w A h₀ env x body Q E it s₂) E s := by
  refine range_loopJ n (fun i m nx => I i nx ∧ ∃ rv zv, m = fun y => if y = x then rv else if y = z then zv else m₀ y) hh hr hb hn F N ⟨hj, m₀ x, m₀ z, funext fun y => ?_⟩ ?_ ?_
  · by_cases h1 : y = x
    · rw [if_pos h1, h1]
    · rw [if_neg h1]
      by_cases h2 : y = z
      · rw [if_pos h2, h2]
      · rw [if_neg h2]
  · rintro i t m₁ nx h tk own hi off ⟨hI, rv, zv, rfl⟩ F₁ N₁
    rw [upd_twice] at F₁
    exact turn i t zv nx h tk own hi off hI F₁ N₁
  · rintro m₁ nx h tk ⟨hI, rv, zv, rfl⟩ F₁ N₁
    exact done rv zv nx h tk hI F₁ N₁
end
end
local macro_rules | `(tactic| walk_at "call ref") => `(tactic| (k_here; (with_reducible show wpAny _ _ (call (Value.ref 362) _) _ _ _); k_dflt (refine' pick_at ?F ?N ?X ?T ?hU ?hS ?hi ?hn ?hk ?hf ?hf2 ?hh ?hd ?hu ?_; (case F => k_asm); (case N => k_asm); (case X => k_asm); (case T => k_asm); (case hU => k_updF); (case hS => k_mem); (case hi => assumption); (case hn => omega); (case hk => first | assumption | omega); (case hf => first | decide | omega); (case hf2 => first | decide +kernel | exact log_small (by omega) (by omega)); (case hh => exact rfl); (case hd => k_room); (case hu => k_units)); intro h' tk' face' x' k' t' tx' tk'' n' F' N' b1' b2' b3'; (try dsimp only at N'); (try k_sweep)))

section
def lawDef : Option (List Stmt × Scope) := match PySem.Challenge.pw_rh0078_01.main.body.getLast? with
  | some (.FunctionDef _ _ b _ _ _ sc _ _ _) => some (b, sc)
  | _ => none
def lawRest (k : Nat) : List Stmt := ((lawDef.map (·.1)).getD []).drop k
def lawScope : Scope := (lawDef.map (·.2)).getD { kind := .function, names := [], isGenerator := false, isCoroutine := false, more := [] }
abbrev lawEnv (L fa : Addr) (cd : Value) : Env := envOfC "law" lawScope L fa cd
/-- the draw loop's state at turn i -/
def DrawI (h₀ : Heap) (sl fl rl U S2 L : Addr) (ws : List Value) (oc1 oc2 : Obj) (n : Nat) (i : Nat) (nx : List (Addr × Obj)) : Prop :=
  ∃ (rvs : List Value) (cs : List (Int × Int)) (bs1 bs2 : List Bool) (na nb nc nu : Nat) (x k : Int) (tx tk : Tok) (tl : List (Addr × Obj)), nx = (sl, listOf (bs2.map Value.bool).toArray nc) :: (fl, listOf (bs1.map Value.bool).toArray nb) :: (rl, listOf rvs.toArray na) :: (U, listOf #[.int x tx, .ref S2, .int k tk] nu) :: (S2, listOf ws.toArray 0) :: (L + 1 + 1, oc2) :: (L + 1, oc1) :: tl
    ∧ OwnOff tl [sl, fl, rl, U] ∧ 0 ≤ k ∧ bs1.length = i ∧ bs2.length = i ∧ cs.length = i ∧ Both (CellL h₀ tl) rvs cs ∧ (∀ c ∈ cs, isPtr c.1 = true → 0 ≤ c.2 ∧ c.2 < (n : Int))
theorem allLt_mem {d : Nat} : ∀ {l : List (Addr × Obj)}, AllLt d l → ∀ p ∈ l, p.1 < d
  | [], _, _, h => nomatch h
  | _ :: _, h, _, hp => by
    rcases List.mem_cons.mp hp with rfl | hp
    · exact h.1
    · exact allLt_mem h.2 _ hp
theorem isPtr_any {t : Int} : isPtr t = ([0, 2, 3].any fun x => x == t) := by
  unfold isPtr
  rw [Bool.eq_iff_iff]
  simp only [Bool.or_eq_true, decide_eq_true_eq, List.any_cons, List.any_nil, beq_iff_eq, Bool.or_false]
  omega
theorem draw_end {h₀ h' : Heap} {sl fl rl U S2 L D D1 : Addr} {ws rvs : List Value} {oc1 oc2 o' : Obj} {n i na nb nc nu nd : Nat} {cs : List (Int × Int)} {bs1 bs2 : List Bool} {x k tag val : Int} {tx tk tt tv : Tok} {q1 q2 : Bool} {tl own tz : List (Addr × Obj)} {m' m₀ : Str → Option Value} {s₁ : Shared} {tok : Nat} {xs zs : Str}
    (F : Fr h₀ L h' m') (N : News h₀ L h' ((D, tupO tag val tt tv nd) :: (D1, o') :: (sl, listOf ((bs2.map Value.bool).toArray.push (.bool q2)) nc) :: (fl, listOf ((bs1.map Value.bool).toArray.push (.bool q1)) nb) :: (rl, listOf (rvs.toArray.push (.ref D)) na) :: (U, listOf #[.int x tx, .ref S2, .int k tk] nu) :: (S2, listOf ws.toArray 0) :: (L + 1 + 1, oc2) :: (L + 1, oc1) :: tz))
    (htz : tz = tl ++ own) (otl : OwnOff tl [sl, fl, rl, U]) (off : OwnOff own (sl :: fl :: rl :: U :: S2 :: (L + 1 + 1) :: (L + 1) :: tl.map (·.1))) (hk : 0 ≤ k) (hl1 : bs1.length = i) (hl2 : bs2.length = i) (hlc : cs.length = i) (hcs : Both (CellL h₀ tl) rvs cs) (hptr : ∀ c ∈ cs, isPtr c.1 = true → 0 ≤ c.2 ∧ c.2 < (n : Int))
    (hv : isPtr tag = true → 0 ≤ val ∧ val < (n : Int)) (l1 : sl < D) (l2 : fl < D) (l3 : rl < D) (l4 : U < D) (l5 : S2 < D) (l6 : L + 1 + 1 < D) (l7 : L + 1 < D) (l8 : AllLt D tz) (hm : ∃ rv zv, m' = fun y => if y = xs then rv else if y = zs then zv else m₀ y) :
    InvEndG h₀ L (fun m' nx => DrawI h₀ sl fl rl U S2 L ws oc1 oc2 n (i + 1) nx ∧ ∃ rv zv, m' = fun y => if y = xs then rv else if y = zs then zv else m₀ y) own s₁ { s₁ with heap := h', toks := tok } := by
  rw [List.push_toArray, List.push_toArray, List.push_toArray] at N
  have e1 : (bs1.map Value.bool) ++ [.bool q1] = (bs1 ++ [q1]).map Value.bool := by simp
  have e2 : (bs2.map Value.bool) ++ [.bool q2] = (bs2 ++ [q2]).map Value.bool := by simp
  rw [e1, e2] at N
  have h8 := allLt_mem l8
  have hc : CellL h₀ ((D, tupO tag val tt tv nd) :: tl) (.ref D) (tag, val) := ⟨D, tt, tv, nd, rfl, .inr (.head _)⟩
  refine InvEndG.intro (nx := (sl, listOf ((bs2 ++ [q2]).map Value.bool).toArray nc) :: (fl, listOf ((bs1 ++ [q1]).map Value.bool).toArray nb) :: (rl, listOf (rvs ++ [Value.ref D]).toArray na) :: (U, listOf #[.int x tx, .ref S2, .int k tk] nu) :: (S2, listOf ws.toArray 0) :: (L + 1 + 1, oc2) :: (L + 1, oc1) :: (D, tupO tag val tt tv nd) :: tl) F N
    ⟨⟨_, cs ++ [(tag, val)], _, _, na, nb, nc, nu, x, k, tx, tk, (D, tupO tag val tt tv nd) :: tl, rfl, ?_, hk, by simp [hl1], by simp [hl2], by simp [hlc], (hcs.mono fun _ _ _ z => z.mono fun p hp => .tail _ hp).snoc hc, ?_⟩, hm⟩ ?_ ?_ ?_
  · intro p hp b hb
    rcases List.mem_cons.mp hp with rfl | hp
    · simp only [List.mem_cons, List.not_mem_nil, or_false] at hb
      rcases hb with rfl | rfl | rfl | rfl
      · exact Nat.ne_of_gt l1
      · exact Nat.ne_of_gt l2
      · exact Nat.ne_of_gt l3
      · exact Nat.ne_of_gt l4
    · exact otl p hp b hb
  · intro c hc
    rcases List.mem_append.mp hc with hc | hc
    · exact hptr c hc
    · rw [List.mem_singleton.mp hc]; exact hv
  · intro p hp b hb
    simp only [List.map_cons, List.mem_cons] at hb
    rcases hb with e | e | e | e | e | e | e | e | e
    · exact off p hp b (by simp [e])
    · exact off p hp b (by simp [e])
    · exact off p hp b (by simp [e])
    · exact off p hp b (by simp [e])
    · exact off p hp b (by simp [e])
    · exact off p hp b (by simp [e])
    · exact off p hp b (by simp [e])
    · rw [e]; exact Nat.ne_of_lt (h8 p (by rw [htz]; exact List.mem_append_right _ hp))
    · exact off p hp b (.tail _ (.tail _ (.tail _ (.tail _ (.tail _ (.tail _ (.tail _ e)))))))
  · intro p hp
    simp only [List.mem_cons] at hp
    rcases hp with e | e | e | e | e | e | e | e | e
    · simp [e]
    · simp [e]
    · simp [e]
    · simp [e]
    · simp [e]
    · simp [e]
    · simp [e]
    · simp [e]
    · rw [htz]; simp [e]
  · intro p hp
    rw [htz]; simp [hp]
theorem fr_re {h₀ h : Heap} {L : Addr} {m : Str → Option Value} {a : Str} {v : Value} (F : Fr h₀ L h m) (hv : m a = some v) : Fr h₀ L h (fun y => if y = a then some v else m y) := by
  have e : (fun y => if y = a then some v else m y) = m := by
    funext y
    by_cases h : y = a
    · rw [if_pos h, h, hv]
    · rw [if_neg h]
  rw [e]; exact F
section
variable {w : World} {mean : ExcName → Option Value} {mg mb : Str → Option Value}
theorem stage1 {dp un : Nat} {fr : Option (List Env)} {gd : Option (List Code)} {h₀ : Heap} {L S : Addr} {fa : Addr} {cd : Value} {s : Shared} {m : Str → Option Value} {Q : Flow → Shared → Prop} {vs : List Value} {ns : List Int} {o1 o2 : Obj}
    (X : (hd.heap_39 w.params).In h₀) (T : Top hd.view_39 (looseW hd.view_39 []) mean mg mb h₀) (F : Fr h₀ L s.heap (fun y => if y = Str.ofString "script" then some (.ref S) else m y))
    (N : News h₀ L s.heap [(L + 1 + 1, o2), (L + 1, o1)]) (d1 : o1.data = .cell none) (d2 : o2.data = .cell none) (hS : h₀.IsList S vs.toArray) (hi : IntsAre vs ns) (hn : ns.length ≤ 63)
    (hdp : dp + 150 < recursionLimit) (hun : un + 800 < cLine)
    (hrest : ∀ (h' : Heap) (tk' : Nat) (m' : Str → Option Value) (rl fl sl B : Addr) (n : Nat) (tn : Tok) (rvs : List Value) (cs : List (Int × Int)) (bs1 bs2 : List Bool) (na nb nc : Nat) (oc1 oc2 : Obj) (tl : List (Addr × Obj)),
      Fr h₀ L h' (fun y => if y = Str.ofString "rows" then some (.ref rl) else if y = Str.ofString "count" then some (.int (n : Int) tn) else if y = Str.ofString "book" then some (.ref B) else m' y) →
      News h₀ L h' ((sl, listOf (bs2.map Value.bool).toArray nc) :: (fl, listOf (bs1.map Value.bool).toArray nb) :: (rl, listOf rvs.toArray na) :: (L + 1 + 1, oc2) :: (L + 1, oc1) :: tl) →
      oc1.data = .cell (some (.ref fl)) → oc2.data = .cell (some (.ref sl)) → 1 ≤ n → n ≤ 9 → bs1.length = n → bs2.length = n → cs.length = n → Both (CellL h₀ tl) rvs cs → (∀ c ∈ cs, isPtr c.1 = true → 0 ≤ c.2 ∧ c.2 < (n : Int)) →
      wpAny (model PySem.Challenge.rw_rh0078_01.row.prog w) { handled := none, depth := dp, frames := fr, guards := gd, units := un } (execs (lawRest 7) (lawEnv L fa cd)) Q (fun _ _ => False) { s with heap := h', toks := tk' }) :
    wpAny (model PySem.Challenge.rw_rh0078_01.row.prog w) { handled := none, depth := dp, frames := fr, guards := gd, units := un } (execs (lawRest 0) (lawEnv L fa cd)) Q (fun _ _ => False) s := by
  revert X; k_fill; intro X
  refine wpAny_execs_cons ?_
  have hvl := hi.length
  have hvn : vs.length < 2 ^ 62 := by omega
  k_steps
  rename_i S2 ws _ hI2 hC2 hL2 l1 U _ l2 _ F1 N1
  refine wpAny_call (symbols_code F1.keep X T rfl (by k_room) (by k_units) ?_)
  intro h3 tk3 B3 k3
  have F3 := k3.fr F1 (by simp) (by simp)
  have N3 := k3.news N1 (by simp)
  clear F1 N1
  obtain ⟨l1a, l1b⟩ := l1
  obtain ⟨l2a, l2b, l2c⟩ := l2
  have hn2 : (ns.take 60).length < 1000 := by omega
  dsimp only
  k_steps
  rename_i face x1 k1 tf tx1 tk1 n1 b1 b2 b3 _ _ rl _ m1 _ _ fl _ m2 _ oc1 dc1 _ sl _ m3 _ oc2 Fa Na dc2 _ _ ta ua va hrg F1 N1 hk1
  obtain ⟨m1a, m1b, m1c, m1d⟩ := m1
  obtain ⟨m2a, m2b, m2c, m2d, m2e⟩ := m2
  obtain ⟨m3a, m3b, m3c, m3d, m3e, m3f⟩ := m3
  obtain ⟨n, hnf⟩ : ∃ n : Nat, 1 + face = (n : Int) := ⟨(1 + face).toNat, by omega⟩
  have hn9 : n ≤ 9 := by omega
  have hn1 : 1 ≤ n := by omega
  refine Hold.mk (range_loop2 n (Str.ofString "tag") (by decide) (DrawI h₀ sl fl rl U S2 L ws oc1 oc2 n)
    rfl hrg hnf (by omega) F1 N1 ⟨[], [], [], [], 0, 0, 0, _, _, _, _, _, [], rfl, (fun _ h => nomatch h), b1, rfl, rfl, rfl, .nil, (fun _ h => nomatch h)⟩ ?_ ?_)
  · rintro i t zv nx h tk own hi off ⟨rvs, cs, bs1, bs2, na, nb, nc, nu, x, k, tx, tk0, tl, rfl, otl, hk0, hl1, hl2, hlc, hcs, hptr⟩ F5 N5
    have hrl := hcs.length
    obtain ⟨tz, htz⟩ : ∃ tz, tz = tl ++ own := ⟨_, rfl⟩
    have oz : OwnOff tz [sl, fl, rl, U] := by
      rw [htz]
      intro p hp b hb
      rcases List.mem_append.mp hp with hp | hp
      · exact otl p hp b hb
      · refine off p hp b ?_
        simp only [List.mem_cons, List.not_mem_nil, or_false] at hb
        simp only [List.map_cons, List.mem_cons]
        rcases hb with e | e | e | e
        · exact .inl e
        · exact .inr (.inl e)
        · exact .inr (.inr (.inl e))
        · exact .inr (.inr (.inr (.inl e)))
    simp only [List.cons_append] at N5
    rw [← htz] at N5
    have hb1 : bs1.length < 100 := by omega
    have hb2 : bs2.length < 100 := by omega
    have hb3 : rvs.length < 100 := by omega
    have hb4 : (bs1.map Value.bool).length < 100 := by rw [List.length_map]; exact hb1
    have hb5 : (bs2.map Value.bool).length < 100 := by rw [List.length_map]; exact hb2
    clear Fa Na F1 N1 hk1 hrg
    k_steps
    · rename (_ ∧ _ ∧ _ ∧ _ ∧ _ ∧ _ ∧ _ ∧ _ ∧ AllLt _ _) => ll
      obtain ⟨_, g1, g2, g3, g4, g5, g6, g7, g8⟩ := ll
      exact draw_end (by assumption) (by assumption) htz otl off (by assumption) hl1 hl2 hlc hcs hptr (fun _ => ⟨by assumption, by omega⟩) g1 g2 g3 g4 g5 g6 g7 g8 ⟨_, _, nrm2 (by decide) _ _ _ _⟩
    · rename (_ ∧ _ ∧ _ ∧ _ ∧ _ ∧ _ ∧ _ ∧ _ ∧ AllLt _ _) => ll
      obtain ⟨_, g1, g2, g3, g4, g5, g6, g7, g8⟩ := ll
      exact draw_end (by assumption) (by assumption) htz otl off (by assumption) hl1 hl2 hlc hcs hptr (fun q => by rw [isPtr_any] at q; rename (List.any _ _ = false) => hz; rw [hz] at q; cases q) g1 g2 g3 g4 g5 g6 g7 g8 ⟨_, _, nrm2 (by decide) _ _ _ _⟩
    · rename (_ ∧ _ ∧ _ ∧ _ ∧ _ ∧ _ ∧ _ ∧ _ ∧ AllLt _ _) => ll
      obtain ⟨_, g1, g2, g3, g4, g5, g6, g7, g8⟩ := ll
      exact draw_end (by assumption) (by assumption) htz otl off (by assumption) hl1 hl2 hlc hcs hptr (fun q => by rw [isPtr_any] at q; rename (List.any _ _ = false) => hz; rw [hz] at q; cases q) g1 g2 g3 g4 g5 g6 g7 g8 ⟨_, _, nrm2 (by decide) _ _ _ _⟩
  · rintro rv zv nx h tk ⟨rvs, cs, bs1, bs2, na, nb, nc, nu, x, k, tx, tk0, tl, rfl, otl, hk0, hl1, hl2, hlc, hcs, hptr⟩ F5 N5
    clear Fa Na F1 N1 hk1 hrg
    dsimp only
    have F6 := fr_re (a := Str.ofString "rows") (v := .ref rl) (fr_re (a := Str.ofString "count") (fr_re (a := Str.ofString "book") (v := .ref B3) F5 (by rfl)) (by rfl)) (by rfl)
    simp only [hnf] at F6
    refine hrest _ _ _ rl fl sl B3 n _ rvs cs bs1 bs2 na nb nc oc1 oc2 tl F6 (fun p hp => N5 p ?_) dc1 dc2 hn1 hn9 hl1 hl2 hlc hcs hptr
    simp only [List.mem_cons] at hp ⊢
    rcases hp with e | e | e | e | e | e
    · exact .inl e
    · exact .inr (.inl e)
    · exact .inr (.inr (.inl e))
    · exact .inr (.inr (.inr (.inr (.inr (.inl e)))))
    · exact .inr (.inr (.inr (.inr (.inr (.inr (.inl e))))))
    · exact .inr (.inr (.inr (.inr (.inr (.inr (.inr e))))))
end
end

section
open PySem PySem.W PySem.Calls PyProof.Rows PyProof.Rows.LCg PyProof.Rows.LCt
theorem CompEnd.imp {h₀ : Heap} {L : Addr} {m : Str → Option Value} {s₁ s₂ : Shared} {I C D : Addr} {oI oC oD : Obj} {S : List (Addr × Obj) → Prop} {r r' : Value → List (Addr × Obj) → Prop} {y : Value}
    (h : CompEnd h₀ L m s₁ I oI C oC D oD S r y s₂) (k : ∀ y nx, r y nx → r' y nx) : CompEnd h₀ L m s₁ I oI C oC D oD S r' y s₂ := by
  obtain ⟨h', tk, nx, e, F, N, o, hS, hr⟩ := h
  exact ⟨h', tk, nx, e, F, N, o, hS, k _ _ hr⟩
section
variable {prog : Program} {w : World} {A : Around} {s : Shared} {h₀ : Heap} {L : Addr} {m : Str → Option Value} {env : Env}
theorem restT_ind {ct elt : Expr} {x : Str} {scope : Scope} {cl : List (Str × Addr)} {S : List (Addr × Obj) → Prop} {P : Nat → Value → Prop} {Fin : List Value → List (Addr × Obj) → Prop} {news : List (Addr × Obj)} (n : Nat) (J : Nat → List Value → Prop)
    (h0 : J 0 []) (zero : ∀ ys, J n ys → Fin ys news)
    (turn : ∀ i ys v I oI C oC D m₂ h tk (E' : Value → Shared → Prop), i < n → J i ys → P i v → NsObj oC m₂ → m₂ x = some v → Fr h₀ L h m → News h₀ L h ((I, oI) :: (C, oC) :: (D, lst ys) :: news) → Off3 I C D news → ((@Ne Nat I C) ∧ (@Ne Nat I D) ∧ (@Ne Nat C D)) →
      wpAny (model prog w) A (isTrue ct (compEnvC scope cl C env) (eval ct (compEnvC scope cl C env))) (fun ok s' => if ok = true then
        wpAny (model prog w) A (eval elt (compEnvC scope cl C env)) (CompEnd h₀ L m { s with heap := h, toks := tk } I oI C oC D (lst ys) S (fun y news' => news' = news ∧ J (i + 1) (ys ++ [y]))) E' s'
        else CompEnd h₀ L m { s with heap := h, toks := tk } I oI C oC D (lst ys) S (fun _ news' => news' = news ∧ J (i + 1) ys) Value.none s') E' { s with heap := h, toks := tk }) :
    CompRestT prog w A h₀ L m env ct elt x scope cl s S P Fin n 0 [] news := by
  suffices key : ∀ k i ys, k + i = n → J i ys → CompRestT prog w A h₀ L m env ct elt x scope cl s S P Fin k i ys news from key n 0 [] rfl h0
  intro k
  induction k with
  | zero => intro i ys e j; exact CompRestT.zero (zero ys (by rw [← e, Nat.zero_add]; exact j))
  | succ k ih =>
    intro i ys e j
    refine CompRestT.succ fun v I oI C oC D m₂ h tk E' hP hC hx F N off ne => ?_
    refine wpAny_mono (turn i ys v I oI C oC D m₂ h tk E' (by omega) j hP hC hx F N off ne) (fun ok s' hq => ?_) fun _ _ z => z
    cases ok with
    | true =>
      simp only [if_true] at hq ⊢
      refine wpAny_mono hq (fun y s₂ hz => CompEnd.imp hz ?_) fun _ _ z => z
      rintro y nx ⟨rfl, j'⟩
      exact ih _ _ (by omega) j'
    | false =>
      simp only [Bool.false_eq_true, if_false] at hq ⊢
      refine CompEnd.imp hq ?_
      rintro y nx ⟨rfl, j'⟩
      exact ih _ _ (by omega) j'
theorem rest_ind {elt : Expr} {x : Str} {scope : Scope} {cl : List (Str × Addr)} {S : List (Addr × Obj) → Prop} {P : Nat → Value → Prop} {Fin : List Value → List (Addr × Obj) → Prop} {news : List (Addr × Obj)} (n : Nat) (J : Nat → List Value → Prop)
    (h0 : J 0 []) (zero : ∀ ys, J n ys → Fin ys news)
    (turn : ∀ i ys v I oI C oC D m₂ h tk (E' : Value → Shared → Prop), i < n → J i ys → P i v → NsObj oC m₂ → m₂ x = some v → Fr h₀ L h m → News h₀ L h ((I, oI) :: (C, oC) :: (D, lst ys) :: news) → Off3 I C D news → ((@Ne Nat I C) ∧ (@Ne Nat I D) ∧ (@Ne Nat C D)) →
      wpAny (model prog w) A (eval elt (compEnvC scope cl C env)) (CompEnd h₀ L m { s with heap := h, toks := tk } I oI C oC D (lst ys) S (fun y news' => news' = news ∧ J (i + 1) (ys ++ [y]))) E' { s with heap := h, toks := tk }) :
    CompRest prog w A h₀ L m env elt x scope cl s S P Fin n 0 [] news := by
  suffices key : ∀ k i ys, k + i = n → J i ys → CompRest prog w A h₀ L m env elt x scope cl s S P Fin k i ys news from key n 0 [] rfl h0
  intro k
  induction k with
  | zero => intro i ys e j; exact CompRest.zero (zero ys (by rw [← e, Nat.zero_add]; exact j))
  | succ k ih =>
    intro i ys e j
    refine CompRest.succ fun v I oI C oC D m₂ h tk E' hP hC hx F N off ne => ?_
    refine wpAny_mono (turn i ys v I oI C oC D m₂ h tk E' (by omega) j hP hC hx F N off ne) (fun y s' hq => CompEnd.imp hq ?_) fun _ _ z => z
    rintro y nx ⟨rfl, j'⟩
    exact ih _ _ (by omega) j'
end
/-- the addresses whose mark is set -/
def kidx (bs : List Bool) : List Int := kept bs ((List.range bs.length).map Int.ofNat)
theorem kidx_snoc (bs : List Bool) (b : Bool) : kidx (bs ++ [b]) = kidx bs ++ (if b then [(bs.length : Int)] else []) := by
  unfold kidx
  rw [List.length_append, List.length_singleton, List.range_succ, List.map_append, List.map_singleton, kept_snoc (by simp)]
  rfl
theorem kidx_length (bs : List Bool) : (kidx bs).length = cnt bs := kept_length (by simp)
end

section
theorem ints_at {vs : List Value} {ns : List Int} (h : IntsAre vs ns) : ∀ {p : Nat} {e : Int}, ns[p]? = some e → ∃ t, vs[p]? = some (.int e t) := by
  induction h with
  | nil => intro p e z; cases z
  | cons k t _ ih =>
    intro p e z
    cases p with
    | zero => cases z; exact ⟨t, rfl⟩
    | succ p => exact ih z
theorem ends_lt : ∀ (n : Nat) (bs : List Bool), bs.length = n → ∀ i p, i ≤ n → p ≤ cnt bs → ∃ e, (kidx bs ++ [(n : Int)])[p]? = some e ∧ (e < (i : Int) ↔ p < cnt (bs.take i))
  | 0, bs, hl, i, p, hi, hp => by
    have : bs = [] := List.length_eq_zero_iff.mp hl
    subst this
    have e1 : p = 0 := Nat.le_zero.mp hp
    have e2 : i = 0 := Nat.le_zero.mp hi
    subst e1; subst e2
    exact ⟨0, rfl, by decide⟩
  | n + 1, bs, hl, i, p, hi, hp => by
    rcases List.eq_nil_or_concat bs with rfl | ⟨cs, b, rfl⟩
    · cases hl
    rw [List.concat_eq_append] at *
    have hl' : cs.length = n := by simpa using hl
    have ih := ends_lt n cs hl'
    have hk := kidx_length cs
    rw [kidx_snoc, hl']
    rw [cnt_snoc] at hp
    have take_le : ∀ i ≤ n, (cs ++ [b]).take i = cs.take i := fun i hi => List.take_append_of_le_length (by omega)
    have take_all : (cs ++ [b]).take (n + 1) = cs ++ [b] := List.take_of_length_le (by simp [hl'])
    by_cases h1 : p < cnt cs
    · obtain ⟨e, he, hlt⟩ := ih n p (Nat.le_refl _) (by omega)
      rw [List.getElem?_append_left (by omega)] at he
      refine ⟨e, by rw [List.getElem?_append_left (by rw [List.length_append]; omega), List.getElem?_append_left (by omega)]; exact he, ?_⟩
      by_cases h2 : i ≤ n
      · obtain ⟨e', he', hlt'⟩ := ih i p h2 (by omega)
        rw [List.getElem?_append_left (by omega), he] at he'
        cases he'
        rw [take_le i h2]; exact hlt'
      · have : i = n + 1 := by omega
        subst this
        rw [take_all, cnt_snoc]
        rw [List.take_of_length_le (by omega)] at hlt
        have := hlt.mpr h1
        constructor
        · intro _; omega
        · intro _; omega
    · cases b with
      | true =>
        simp only [if_true] at hp ⊢
        by_cases h2 : p = cnt cs
        · refine ⟨(n : Int), ?_, ?_⟩
          · rw [List.getElem?_append_left (by rw [List.length_append, List.length_singleton]; omega), List.getElem?_append_right (by omega), h2, hk, Nat.sub_self]; rfl
          · by_cases h3 : i ≤ n
            · rw [take_le i h3]
              have := cnt_take_total cs i
              constructor
              · intro _; omega
              · intro _; omega
            · have : i = n + 1 := by omega
              subst this
              rw [take_all, cnt_snoc, if_pos rfl]
              constructor
              · intro _; omega
              · intro _; omega
        · have h2 : p = cnt cs + 1 := by omega
          refine ⟨((n + 1 : Nat) : Int), ?_, ?_⟩
          · rw [List.getElem?_append_right (by rw [List.length_append, List.length_singleton]; omega), List.length_append, List.length_singleton, h2, hk, Nat.sub_self]; rfl
          · have := cnt_take_total (cs ++ [true]) i
            rw [cnt_snoc, if_pos rfl] at this
            constructor
            · intro _; omega
            · intro _; omega
      | false =>
        simp only [Bool.false_eq_true, if_false] at hp ⊢
        refine ⟨((n + 1 : Nat) : Int), ?_, ?_⟩
        · rw [List.append_nil, List.getElem?_append_right (by omega), show p - (kidx cs).length = 0 by omega]; rfl
        · have := cnt_take_total (cs ++ [false]) i
          rw [cnt_snoc, if_neg (by decide)] at this
          constructor
          · intro _; omega
          · intro _; omega
def CntEnd (h₀ : Heap) (L : Addr) (z : Str) (m0 : Str → Option Value) (news : List (Addr × Obj)) (s : Shared) (c p : Nat) (f : Flow) (s₃ : Shared) : Prop :=
  f = .next ∧ p < c ∧ ∃ h' tk' t', s₃ = { s with heap := h', toks := tk' } ∧ Fr h₀ L h' (fun y => if y = z then some (.int ((p + 1 : Nat) : Int) t') else m0 y) ∧ News h₀ L h' news
theorem while_count {prog : Program} {w : World} {A : Around} {E : Value → Shared → Prop} {Q : Flow → Shared → Prop} {s : Shared} {env : Env} {h₀ : Heap} {L : Addr} {test : Expr} {body : List Stmt} {pos : Pos} {m0 : Str → Option Value} {news : List (Addr × Obj)} {t₀ : Tok} (z : Str) (c : Nat)
    (F : Fr h₀ L s.heap (fun y => if y = z then some (.int 0 t₀) else m0 y)) (N : News h₀ L s.heap news)
    (turn : ∀ p t h₁ tk₁, p ≤ c → Fr h₀ L h₁ (fun y => if y = z then some (.int (p : Int) t) else m0 y) → News h₀ L h₁ news →
      wpAny (model prog w) A (isTrue test env (eval test env)) (fun b s₂ =>
        if b = true then wpAny (model prog w) A (execs body env) (CntEnd h₀ L z m0 news s c p) E s₂ else Q .next s₂) E { s with heap := h₁, toks := tk₁ })
    (hE : PassesOwn (model prog w) A env E := by passes_own) :
    wpAny (model prog w) A (exec (.While test body [] pos) env) Q E s := by
  refine While_inv (fun k m nx => ∃ p t, p ≤ c ∧ k = c - p ∧ m = (fun y => if y = z then some (.int (p : Int) t) else m0 y) ∧ nx = news) F N ⟨0, t₀, Nat.zero_le _, rfl, rfl, rfl⟩ ?_ hE
  rintro k m nx h₁ tk₁ F₁ N₁ ⟨p, t, hp, rfl, rfl, rfl⟩
  refine wpAny_mono (turn p t h₁ tk₁ hp F₁ N₁) (fun b s₂ hq => ?_) fun _ _ z => z
  cases b with
  | false => simpa using hq
  | true =>
    simp only [if_true] at hq ⊢
    refine wpAny_mono hq (fun f s₃ hz => ?_) fun _ _ z => z
    obtain ⟨rfl, hpc, h', tk', t', rfl, F', N'⟩ := hz
    exact WhileStep.intro F' N' (by omega) ⟨p + 1, t', hpc, rfl, rfl, rfl⟩
end

section
local macro_rules | `(tactic| walk_at "exec While Compare") => `(tactic| ((with_reducible show wpAny _ _ (exec _ _) _ _ _); refine Hold.out ?_))
local macro_rules | `(tactic| walk_at "CompSrcT") => `(tactic| refine Hold.out ?_)
local macro_rules | `(tactic| walk_at "exec Assign cons ListComp") => `(tactic| (k_here; lct_look; lcg_calm; k_dflt (refine LCt.Assign_ListComp_T (F₀ := by k_asm) (by rfl) (by with_unfolding_all rfl) (by with_unfolding_all rfl) (by decide) (by rfl) (by decide) (by rfl) (by rfl) (by rfl) ?_); k_dflt lct_toSrc))
section
variable {w : World} {mean : ExcName → Option Value} {mg mb : Str → Option Value}
theorem stage2 {dp un : Nat} {fr : Option (List Env)} {gd : Option (List Code)} {h₀ : Heap} {L rl fl sl B : Addr} {fa : Addr} {cd : Value} {s : Shared} {m : Str → Option Value} {Q : Flow → Shared → Prop} {n na nb nc : Nat} {tn : Tok} {rvs : List Value} {bs1 bs2 : List Bool} {oc1 oc2 : Obj} {tl : List (Addr × Obj)}
    (X : (hd.heap_39 w.params).In h₀) (T : Top hd.view_39 (looseW hd.view_39 []) mean mg mb h₀)
    (F : Fr h₀ L s.heap (fun y => if y = Str.ofString "rows" then some (.ref rl) else if y = Str.ofString "count" then some (.int (n : Int) tn) else if y = Str.ofString "book" then some (.ref B) else m y))
    (N : News h₀ L s.heap ((sl, listOf (bs2.map Value.bool).toArray nc) :: (fl, listOf (bs1.map Value.bool).toArray nb) :: (rl, listOf rvs.toArray na) :: (L + 1 + 1, oc2) :: (L + 1, oc1) :: tl))
    (d1 : oc1.data = .cell (some (.ref fl))) (d2 : oc2.data = .cell (some (.ref sl))) (hn1 : 1 ≤ n) (hn9 : n ≤ 9) (hb1 : bs1.length = n) (hb2 : bs2.length = n)
    (hdp : dp + 150 < recursionLimit) (hun : un + 800 < cLine)
    (hrest' : ∀ (h' : Heap) (tk' : Nat) (m' : Str → Option Value) (dt kl : Addr) (tvs kvs : List Value) (nd nk : Nat),
      Fr h₀ L h' (fun y => if y = Str.ofString "due_table" then some (.ref dt) else if y = Str.ofString "kept" then some (.ref kl) else if y = Str.ofString "rows" then some (.ref rl) else if y = Str.ofString "count" then some (.int (n : Int) tn) else if y = Str.ofString "book" then some (.ref B) else m' y) →
      News h₀ L h' ((dt, listOf tvs.toArray nd) :: (kl, listOf kvs.toArray nk) :: (sl, listOf (bs2.map Value.bool).toArray nc) :: (fl, listOf (bs1.map Value.bool).toArray nb) :: (rl, listOf rvs.toArray na) :: (L + 1 + 1, oc2) :: (L + 1, oc1) :: tl) →
      IntsAre tvs (ftab bs1) → IntsAre kvs (kidx bs1) →
      wpAny (model PySem.Challenge.rw_rh0078_01.row.prog w) { handled := none, depth := dp, frames := fr, guards := gd, units := un } (execs (lawRest 11) (lawEnv L fa cd)) Q (fun _ _ => False) { s with heap := h', toks := tk' }) :
    wpAny (model PySem.Challenge.rw_rh0078_01.row.prog w) { handled := none, depth := dp, frames := fr, guards := gd, units := un } (execs (lawRest 7) (lawEnv L fa cd)) Q (fun _ _ => False) s := by
  revert X; k_fill; intro X
  refine wpAny_execs_cons ?_
  k_steps
  rename_i hrg F1 N1 hk1
  have hsz : Builtin.Range.rangeSize 0 (n : Int) 1 = (n : Int) := by rw [rangeSize_nat]; omega
  refine Hold.mk (LCt.CompSrcT.range (n := n) rfl F1 N1 hrg (small_one (by omega) (by omega) (by omega) (by omega)) hsz (by simp only [sizeLine]; omega) ?_)
  intro g
  refine restT_ind n (fun i ys => IntsAre ys (kidx (bs1.take i))) .nil ?_ ?_
  · intro ys hys
    rw [List.take_of_length_le (by omega)] at hys
    intro D h tk F3 N3 o3
    clear F1 N1 hk1
    simp only [LCg.lst] at N3
    simp only [LCg.Off1] at o3
    have hkl := hys.length
    rw [kidx_length] at hkl
    have hcn := cnt_le bs1
    have hyl : ys.length < 100 := by omega
    k_steps
    rename_i tkz la hA l4 hB hC tka DT hD l5 hE Fo No hF tkc t u v hrg2 F5 N5 k5
    clear Fo No k5
    obtain ⟨EL, hEL⟩ : ∃ z, z = hA.objs.size := ⟨_, rfl⟩
    dsimp only at N5 l5 F5
    rw [← hEL] at N5 l5 F5
    obtain ⟨q1, q2, q3, q4, q5, q6, q7, q8, q9⟩ := l5
    obtain ⟨rest, hrest⟩ : ∃ r, r = (la, W.listOf #[Value.int (n : Int) tn] 0) :: (D, W.listOf ys.toArray ys.length) :: (sl, listOf (bs2.map Value.bool).toArray nc) :: (fl, listOf (bs1.map Value.bool).toArray nb) :: (rl, listOf rvs.toArray na) :: (L + 1 + 1, oc2) :: (L + 1, oc1) :: tl := ⟨_, rfl⟩
    have N6 : News h₀ L hF ((DT, W.listOf ([] : List Value).toArray 0) :: (EL, W.listOf (ys ++ [Value.int (n : Int) tn]).toArray 0) :: rest) := by rw [hrest]; exact N5
    have hends : IntsAre (ys ++ [Value.int (n : Int) tn]) (kidx bs1 ++ [(n : Int)]) := ints_snoc hys _ _
    obtain ⟨evs, hevs⟩ : ∃ e, e = ys ++ [Value.int (n : Int) tn] := ⟨_, rfl⟩
    have hevl : evs.length < 200 := by rw [hevs, List.length_append, List.length_singleton]; omega
    rw [← hevs] at N6 hends
    clear N5
    have orest : ∀ p ∈ rest, @Ne Nat p.1 DT := by
      rw [hrest]
      intro p hp
      simp only [List.mem_cons] at hp
      rcases hp with rfl | rfl | rfl | rfl | rfl | rfl | rfl | hp
      · exact Nat.ne_of_lt q2
      · exact Nat.ne_of_lt q3
      · exact Nat.ne_of_lt q4
      · exact Nat.ne_of_lt q5
      · exact Nat.ne_of_lt q6
      · exact Nat.ne_of_lt q7
      · exact Nat.ne_of_lt q8
      · exact Nat.ne_of_lt (allLt_mem q9 p hp)
    refine Hold.mk (range_loop2 (n + 1) (Str.ofString "place") (by decide) (fun i nx => ∃ tvs nn, nx = (DT, listOf tvs.toArray nn) :: (EL, W.listOf evs.toArray 0) :: rest ∧ IntsAre tvs ((ftab bs1).take i))
      rfl hrg2 rfl (by omega) F5 N6 ⟨[], 0, rfl, .nil⟩ ?_ ?_)
    · rintro i ta zv nx h tk own hi off ⟨tvs, nn, rfl, htv⟩ F7 N7
      obtain ⟨tz, htz⟩ : ∃ tz, tz = rest ++ own := ⟨_, rfl⟩
      simp only [List.cons_append] at N7
      rw [← htz] at N7
      have htl := htv.length
      rw [List.length_take, ftab_length] at htl
      have htl2 : tvs.length < 100 := by omega
      have q1' : @Ne Nat EL DT := Nat.ne_of_lt q1
      have oz : OwnOff tz [DT] := by
        rw [htz]
        intro p hp b hb
        rw [List.mem_singleton.mp hb]
        rcases List.mem_append.mp hp with hp | hp
        · exact orest p hp
        · exact off p hp _ (.head _)
      k_steps
      rename Fr _ _ _ _ => F8
      rename PyProof.Rows.News _ _ _ _ => N8
      refine Hold.mk (while_count (Str.ofString "place") (cnt (bs1.take i)) F8 N8 ?_)
      clear F8 N8 N7 F7
      intro p tp h8 tk8 hp F8 N8
      have hcm := cnt_take_total bs1 i
      obtain ⟨e, he, hlt⟩ := ends_lt n bs1 hb1 i p (by omega) (by omega)
      obtain ⟨te, hte⟩ := ints_at hends he
      have hex : evs.toArray[((p : Nat) : Int).toNat]? = some (.int e te) := by rw [Int.toNat_natCast, List.getElem?_toArray]; exact hte
      have hpl : p < evs.length := (List.getElem?_eq_some_iff.mp hte).1
      k_steps
      · rename Fr _ _ _ _ => F9
        rename PyProof.Rows.News _ _ _ _ => N9
        rename (e < _) => hei
        rw [upd_twice] at F9
        exact ⟨rfl, hlt.mp hei, _, _, _, rfl, F9, N9⟩
      · rename Fr _ _ _ _ => F9
        rename PyProof.Rows.News _ _ _ _ => N9
        rename (¬ e < _) => hei
        have hpc : p = cnt (bs1.take i) := by
          have := mt hlt.mpr hei
          omega
        rw [List.push_toArray] at N9
        refine InvEndG.intro (nx := (DT, listOf (tvs ++ [Value.int (p : Int) tp]).toArray (nn + 1)) :: (EL, W.listOf evs.toArray 0) :: rest) F9 N9 ⟨⟨_, _, rfl, ?_⟩, _, _, nrm2 (by decide) _ _ _ _⟩ off ?_ ?_
        · rw [take_succ_of (ftab_get (by omega)), ← hpc]
          exact ints_snoc htv _ _
        · intro q hq
          rw [htz]
          exact List.mem_append_left (as := _ :: _ :: rest) own hq
        · intro q hq
          rw [htz]
          exact .tail _ (.tail _ (List.mem_append_right _ hq))
    · rintro rv zv nx h tk ⟨tvs, nn, rfl, htv⟩ F7 N7
      rw [List.take_of_length_le (by rw [ftab_length]; omega)] at htv
      dsimp only
      have F8 := fr_re (a := Str.ofString "due_table") (v := .ref DT) (fr_re (a := Str.ofString "kept") (v := .ref D) (fr_re (a := Str.ofString "rows") (v := .ref rl) (fr_re (a := Str.ofString "count") (v := .int (n : Int) tn) (fr_re (a := Str.ofString "book") (v := .ref B) F7 (by rfl)) (by rfl)) (by rfl)) (by rfl)) (by rfl)
      refine hrest' _ _ _ DT D tvs ys nn ys.length F8 (fun p hp => N7 p ?_) htv hys
      rw [hrest]
      simp only [List.mem_cons] at hp ⊢
      rcases hp with e | e | e
      · exact .inl e
      · exact .inr (.inr (.inr (.inl e)))
      · exact .inr (.inr (.inr (.inr e)))
  · rintro i ys v I oI C oC D m₂ h tk E' hi hys ⟨t, hv⟩ hC hx F3 N3 off ne
    rw [Int.zero_add] at hv
    subst hv
    have off0 := off
    simp only [LCg.Off3, and_true] at off
    obtain ⟨b, hb⟩ : ∃ b, bs1[i]? = some b := ⟨_, List.getElem?_eq_getElem (by omega)⟩
    have hbx : (bs1.map Value.bool).toArray[((i : Nat) : Int).toNat]? = some (.bool b) := by simp [hb]
    have hbl : (bs1.map Value.bool).length = n := by rw [List.length_map]; exact hb1
    clear F1 N1 hk1
    k_steps
    · rename (b = true) => hbt
      refine LCg.CompEnd.intro F3 N3 _ (fun p hp => hp) off0 trivial ⟨rfl, ?_⟩
      rw [take_succ_of hb, kidx_snoc, hbt, if_pos rfl, List.length_take, Nat.min_eq_left (by omega)]
      exact ints_snoc hys _ _
    · rename (b = false) => hbt
      refine LCg.CompEnd.intro F3 N3 _ (fun p hp => hp) off0 trivial ⟨rfl, ?_⟩
      rw [take_succ_of hb, kidx_snoc, hbt, if_neg (by decide), List.append_nil]
      exact hys
end
end

section
theorem kept_get {α : Type} : ∀ (n : Nat) (bs : List Bool) (l : List α), bs.length = n → l.length = n → ∀ {i : Nat} {a : Int}, (kidx bs)[i]? = some a → ∃ (j : Nat) (c : α), a = (j : Int) ∧ j < n ∧ l[j]? = some c ∧ (kept bs l)[i]? = some c
  | 0, bs, l, hb, hl, i, a, h => by
    have : bs = [] := List.length_eq_zero_iff.mp hb
    subst this
    cases h
  | n + 1, bs, l, hb, hl, i, a, h => by
    rcases List.eq_nil_or_concat bs with rfl | ⟨bs', b, rfl⟩
    · cases hb
    rcases List.eq_nil_or_concat l with rfl | ⟨l', x, rfl⟩
    · cases hl
    rw [List.concat_eq_append] at *
    rw [List.concat_eq_append] at *
    have hb' : bs'.length = n := by simpa using hb
    have hl' : l'.length = n := by simpa using hl
    rw [kidx_snoc] at h
    rw [kept_snoc (by omega)]
    have e1 := kidx_length bs'
    have e2 := kept_length (bs := bs') (l := l') (by omega)
    by_cases hi : i < cnt bs'
    · rw [List.getElem?_append_left (by omega)] at h
      obtain ⟨j, c, e, hj, hc, hk⟩ := kept_get n bs' l' hb' hl' h
      exact ⟨j, c, e, by omega, by rw [List.getElem?_append_left (by omega)]; exact hc, by rw [List.getElem?_append_left (by omega)]; exact hk⟩
    · rw [List.getElem?_append_right (by omega)] at h
      cases b with
      | false => simp at h
      | true =>
        simp only [if_true] at h ⊢
        have hz : i - (kidx bs').length = 0 := by
          have := (List.getElem?_eq_some_iff.mp h).1
          simpa using this
        rw [hz] at h
        cases h
        exact ⟨bs'.length, x, rfl, by omega, by rw [List.getElem?_append_right (by omega), show bs'.length - l'.length = 0 by omega]; rfl, by rw [List.getElem?_append_right (by omega), show i - (kept bs' l').length = 0 by omega]; rfl⟩
theorem ints_get {vs : List Value} {ns : List Int} (h : IntsAre vs ns) : ∀ {p : Nat} {v : Value}, vs[p]? = some v → ∃ e t, v = .int e t ∧ ns[p]? = some e := by
  induction h with
  | nil => intro p e z; cases z
  | cons k t _ ih =>
    intro p e z
    cases p with
    | zero => cases z; exact ⟨k, t, rfl, rfl⟩
    | succ p => exact ih z
theorem Both.getl {α β : Type} {R : α → β → Prop} {l : List α} {m : List β} (h : Both R l m) {i : Nat} {a : α} (e : l[i]? = some a) : ∃ b, m[i]? = some b ∧ R a b := by
  induction h generalizing i with
  | nil => cases e
  | cons r _ ih =>
    cases i with
    | zero => cases e; exact ⟨_, rfl, r⟩
    | succ i => exact ih e
theorem slid_length {bs : List Bool} {cs : List (Int × Int)} (h : bs.length = cs.length) : (slid bs cs).length = cnt bs := by
  unfold slid
  rw [List.length_map, kept_length h]
end

section
section
variable {w : World} {mean : ExcName → Option Value} {mg mb : Str → Option Value}
theorem heap_end {h₀ h' : Heap} {dh L D D1 : Addr} {dvs : List Value} {o' : Obj} {nz nd : Nat} {ds : List (Int × Int)} {tag val : Int} {tt tv : Tok} {tl0 tl own tz : List (Addr × Obj)} {p1 p2 p3 p4 p5 p6 p7 : Addr × Obj} {m' M : Str → Option Value} {s₁ : Shared} {tok i : Nat} {kl : Addr × Obj}
    (F : Fr h₀ L h' m') (N : News h₀ L h' ((D, tupO tag val tt tv nd) :: (D1, o') :: (dh, listOf (dvs.toArray.push (.ref D)) nz) :: p1 :: p2 :: p3 :: p4 :: p5 :: p6 :: p7 :: tz))
    (htz : tz = tl ++ own) (hk : kl = p2) (hsub : ∀ p ∈ tl0, p ∈ tl) (otl : OwnOff tl [dh]) (off : OwnOff own (dh :: p1.1 :: p2.1 :: p3.1 :: p4.1 :: p5.1 :: p6.1 :: p7.1 :: tl.map (·.1))) (hdv : Both (CellL h₀ tl) dvs (ds.take i)) (hds : ds[i]? = some (tag, val))
    (l1 : dh < D) (l8 : AllLt D tz) {x y z : Str} (hm : ∀ q, q ≠ x → q ≠ y → q ≠ z → m' q = M q) :
    InvEndG h₀ L (fun m nx => kl ∈ nx ∧ (∀ q, q ≠ x → q ≠ y → q ≠ z → m q = M q) ∧ ∃ dvs nn tl', nx = (dh, listOf dvs.toArray nn) :: p1 :: p2 :: p3 :: p4 :: p5 :: p6 :: p7 :: tl' ∧ (∀ p ∈ tl0, p ∈ tl') ∧ OwnOff tl' [dh] ∧ Both (CellL h₀ tl') dvs (ds.take (i + 1))) own s₁ { s₁ with heap := h', toks := tok } := by
  rw [List.push_toArray] at N
  have h8 := allLt_mem l8
  refine InvEndG.intro (nx := (dh, listOf (dvs ++ [Value.ref D]).toArray nz) :: p1 :: p2 :: p3 :: p4 :: p5 :: p6 :: p7 :: (D, tupO tag val tt tv nd) :: tl) F N ⟨by rw [hk]; exact .tail _ (.tail _ (.head _)), hm, _, nz, (D, tupO tag val tt tv nd) :: tl, rfl, fun p hp => .tail _ (hsub p hp), ?_, ?_⟩ ?_ ?_ ?_
  · intro p hp b hb
    rcases List.mem_cons.mp hp with rfl | hp
    · rw [List.mem_singleton.mp hb]; exact Nat.ne_of_gt l1
    · exact otl p hp b hb
  · rw [take_succ_of hds]
    exact (hdv.mono fun _ _ _ z => z.mono fun p hp => .tail _ hp).snoc ⟨D, tt, tv, nd, rfl, .inr (.head _)⟩
  · intro p hp b hb
    simp only [List.map_cons, List.mem_cons] at hb
    rcases hb with e | e | e | e | e | e | e | e | e | e
    · exact off p hp b (by simp [e])
    · exact off p hp b (by simp [e])
    · exact off p hp b (by simp [e])
    · exact off p hp b (by simp [e])
    · exact off p hp b (by simp [e])
    · exact off p hp b (by simp [e])
    · exact off p hp b (by simp [e])
    · exact off p hp b (by simp [e])
    · rw [e]; exact Nat.ne_of_lt (h8 p (by rw [htz]; exact List.mem_append_right _ hp))
    · exact off p hp b (.tail _ (.tail _ (.tail _ (.tail _ (.tail _ (.tail _ (.tail _ (.tail _ e))))))))
  · intro p hp
    simp only [List.mem_cons] at hp
    rcases hp with e | e | e | e | e | e | e | e | e | e
    · simp [e]
    · simp [e]
    · simp [e]
    · simp [e]
    · simp [e]
    · simp [e]
    · simp [e]
    · simp [e]
    · simp [e]
    · rw [htz]; simp [e]
  · intro p hp
    rw [htz]; simp [hp]
theorem stage3 {dp un : Nat} {fr : Option (List Env)} {gd : Option (List Code)} {h₀ : Heap} {L rl fl sl B dt kl : Addr} {fa : Addr} {cd : Value} {s : Shared} {m : Str → Option Value} {Q : Flow → Shared → Prop} {n na nb nc nd nk : Nat} {tn : Tok} {rvs tvs kvs : List Value} {cs : List (Int × Int)} {bs1 bs2 : List Bool} {oc1 oc2 : Obj} {tl : List (Addr × Obj)}
    (X : (hd.heap_39 w.params).In h₀) (T : Top hd.view_39 (looseW hd.view_39 []) mean mg mb h₀)
    (F : Fr h₀ L s.heap (fun y => if y = Str.ofString "due_table" then some (.ref dt) else if y = Str.ofString "kept" then some (.ref kl) else if y = Str.ofString "rows" then some (.ref rl) else if y = Str.ofString "count" then some (.int (n : Int) tn) else if y = Str.ofString "book" then some (.ref B) else m y))
    (N : News h₀ L s.heap ((dt, listOf tvs.toArray nd) :: (kl, listOf kvs.toArray nk) :: (sl, listOf (bs2.map Value.bool).toArray nc) :: (fl, listOf (bs1.map Value.bool).toArray nb) :: (rl, listOf rvs.toArray na) :: (L + 1 + 1, oc2) :: (L + 1, oc1) :: tl))
    (ht : IntsAre tvs (ftab bs1)) (hk : IntsAre kvs (kidx bs1)) (hn1 : 1 ≤ n) (hn9 : n ≤ 9) (hb1 : bs1.length = n) (hb2 : bs2.length = n) (hcl : cs.length = n) (hcs : Both (CellL h₀ tl) rvs cs) (hptr : ∀ c ∈ cs, isPtr c.1 = true → 0 ≤ c.2 ∧ c.2 < (n : Int))
    (hdp : dp + 150 < recursionLimit) (hun : un + 800 < cLine)
    (hrest' : ∀ (h' : Heap) (tk' : Nat) (m' : Str → Option Value) (dh : Addr) (dvs : List Value) (nn : Nat) (tl' : List (Addr × Obj)),
      Fr h₀ L h' (fun y => if y = Str.ofString "due_heap" then some (.ref dh) else if y = Str.ofString "due_table" then some (.ref dt) else if y = Str.ofString "kept" then some (.ref kl) else if y = Str.ofString "rows" then some (.ref rl) else if y = Str.ofString "count" then some (.int (n : Int) tn) else if y = Str.ofString "book" then some (.ref B) else m' y) →
      News h₀ L h' ((dh, listOf dvs.toArray nn) :: (dt, listOf tvs.toArray nd) :: (kl, listOf kvs.toArray nk) :: (sl, listOf (bs2.map Value.bool).toArray nc) :: (fl, listOf (bs1.map Value.bool).toArray nb) :: (rl, listOf rvs.toArray na) :: (L + 1 + 1, oc2) :: (L + 1, oc1) :: tl') →
      Both (CellL h₀ tl') dvs (slid bs1 cs) → (∀ p ∈ tl, p ∈ tl') →
      wpAny (model PySem.Challenge.rw_rh0078_01.row.prog w) { handled := none, depth := dp, frames := fr, guards := gd, units := un } (execs (lawRest 13) (lawEnv L fa cd)) Q (fun _ _ => False) { s with heap := h', toks := tk' }) :
    wpAny (model PySem.Challenge.rw_rh0078_01.row.prog w) { handled := none, depth := dp, frames := fr, guards := gd, units := un } (execs (lawRest 11) (lawEnv L fa cd)) Q (fun _ _ => False) s := by
  revert X; k_fill; intro X
  have hkl := hk.length
  have htl := ht.length
  rw [kidx_length] at hkl
  rw [ftab_length] at htl
  have hcn := cnt_le bs1
  have hrl := hcs.length
  have hk1 : kvs.length < 100 := by omega
  have ht1 : tvs.length < 100 := by omega
  have hr1 : rvs.length < 100 := by omega
  refine wpAny_execs_cons ?_
  k_steps
  rename_i dh hA ll hB F1 N1
  rename (IntsAre kvs _) => hk
  obtain ⟨l1, l2, l3, l4, l5, l6, l7, l8⟩ := ll
  have l8' := allLt_mem l8
  obtain ⟨M, hM⟩ : ∃ M : Str → Option Value, M = fun y => if y = Str.ofString "due_heap" then some (.ref dh) else if y = Str.ofString "due_table" then some (.ref dt) else if y = Str.ofString "kept" then some (.ref kl) else if y = Str.ofString "rows" then some (.ref rl) else if y = Str.ofString "count" then some (.int (n : Int) tn) else if y = Str.ofString "book" then some (.ref B) else m y := ⟨_, rfl⟩
  rw [← hM] at F1
  refine Hold.mk (kdl_iter (l := kl) (vs := kvs) (nn := nk) (fun i m nx => (∀ y, y ≠ Str.ofString "address" → y ≠ Str.ofString "tag" → y ≠ Str.ofString "value" → m y = M y) ∧ ∃ dvs nn tl', nx = (dh, listOf dvs.toArray nn) :: (dt, listOf tvs.toArray nd) :: (kl, listOf kvs.toArray nk) :: (sl, listOf (bs2.map Value.bool).toArray nc) :: (fl, listOf (bs1.map Value.bool).toArray nb) :: (rl, listOf rvs.toArray na) :: (L + 1 + 1, oc2) :: (L + 1, oc1) :: tl'
      ∧ (∀ p ∈ tl, p ∈ tl') ∧ OwnOff tl' [dh] ∧ Both (CellL h₀ tl') dvs ((slid bs1 cs).take i)) rfl ?hl F1 N1 ⟨fun _ _ _ _ => rfl, [], 0, tl, rfl, fun _ h => h, ?_, .nil⟩ ?_ ?_)
  case hl => k_mem
  · intro p hp b hb
    rw [List.mem_singleton.mp hb]
    exact Nat.ne_of_lt (l8' p hp)
  · rintro i v m₁ nx h tk own hv off _ ⟨hm, dvs, nn, tl', rfl, hsub, otl, hdv⟩ F2 N2
    obtain ⟨a, ta, rfl, ha⟩ := ints_get hk hv
    obtain ⟨j, c, rfl, hj, hcj, hkc⟩ := kept_get n bs1 cs hb1 hcl ha
    obtain ⟨rv, hrv, ac, tt, tx, nt, rfl, hac⟩ := hcs.get hcj
    have hrx : rvs.toArray[((j : Nat) : Int).toNat]? = some (.ref ac) := by rw [Int.toNat_natCast, List.getElem?_toArray]; exact hrv
    have hdl := hdv.length
    rw [List.length_take, slid_length (by omega)] at hdl
    have hd1 : dvs.length < 100 := by omega
    obtain ⟨tz, htz⟩ : ∃ tz, tz = tl' ++ own := ⟨_, rfl⟩
    simp only [List.cons_append] at N2
    rw [← htz] at N2
    have oz : OwnOff tz [dh] := by
      rw [htz]
      intro p hp b hb
      rcases List.mem_append.mp hp with hp | hp
      · exact otl p hp b hb
      · rw [List.mem_singleton.mp hb]; exact off p hp _ (.head _)
    have F3 := fr_re (a := Str.ofString "address") (v := .int (j : Int) ta) (fr_re (a := Str.ofString "rows") (v := .ref rl) (fr_re (a := Str.ofString "due_heap") (v := .ref dh) (fr_re (a := Str.ofString "due_table") (v := .ref dt) F2 (by rw [if_neg (by decide), hm _ (by decide) (by decide) (by decide), hM]; rfl)) (by rw [if_neg (by decide), if_neg (by decide), hm _ (by decide) (by decide) (by decide), hM]; rfl)) (by rw [if_neg (by decide), if_neg (by decide), if_neg (by decide), hm _ (by decide) (by decide) (by decide), hM]; rfl)) (by rfl)
    clear F2 F1 N1
    have hT : IsTup h ac #[.int c.1 tt, .int c.2 tx] := by
      rcases hac with q | q
      · exact ⟨_, F3.keep _ _ q, rfl, nt, rfl⟩
      · have q2 : (ac, tupO c.1 c.2 tt tx nt) ∈ tz := by rw [htz]; exact List.mem_append_left _ (hsub _ q)
        exact ⟨_, (N2 _ (.tail _ (.tail _ (.tail _ (.tail _ (.tail _ (.tail _ (.tail _ (.tail _ q2))))))))).1, rfl, nt, rfl⟩
    by_cases hp : isPtr c.1 = true
    · have hpc := hptr c (List.mem_of_getElem? hcj) hp
      obtain ⟨te, hte⟩ := ints_at ht (ftab_get (bs := bs1) (i := c.2.toNat) (by omega))
      have hex : tvs.toArray[c.2.toNat]? = some (.int ((cnt (bs1.take c.2.toNat) : Nat) : Int) te) := by rw [List.getElem?_toArray]; exact hte
      have hds : (slid bs1 cs)[i]? = some (c.1, ((cnt (bs1.take c.2.toNat) : Nat) : Int)) := by
        unfold slid
        rw [List.getElem?_map, hkc, Option.map_some, mv, if_pos hp, List.getD_eq_getElem?_getD, ftab_get (by omega)]
        rfl
      k_steps
      · rename Fr _ _ _ _ => F9
        rename PyProof.Rows.News _ _ _ _ => N9
        rename (_ < _ ∧ dh < _ ∧ _) => l9
        refine heap_end (ds := slid bs1 cs) (kl := (kl, listOf kvs.toArray nk)) F9 N9 htz rfl hsub otl off hdv hds l9.2.1 l9.2.2.2.2.2.2.2.2.2 ?_
        intro y h1 h2 h3
        simp only [if_neg h1, if_neg h2, if_neg h3]
        by_cases e1 : y = Str.ofString "rows"
        · rw [if_pos e1, e1, hM]; rfl
        rw [if_neg e1]
        by_cases e2 : y = Str.ofString "due_heap"
        · rw [if_pos e2, e2, hM]; rfl
        rw [if_neg e2]
        by_cases e3 : y = Str.ofString "due_table"
        · rw [if_pos e3, e3, hM]; rfl
        rw [if_neg e3]
        exact hm y h1 h2 h3
      · rename (List.any _ _ = _) => hz
        rw [isPtr_any, hz] at hp
        cases hp
    · have hds : (slid bs1 cs)[i]? = some (c.1, c.2) := by
        unfold slid
        rw [List.getElem?_map, hkc, Option.map_some, mv, if_neg hp]
      k_steps
      · rename (List.any _ _ = _) => hz
        rw [isPtr_any, hz] at hp
        exact absurd rfl hp
      · rename Fr _ _ _ _ => F9
        rename PyProof.Rows.News _ _ _ _ => N9
        rename (_ < _ ∧ dh < _ ∧ _) => l9
        refine heap_end (ds := slid bs1 cs) (kl := (kl, listOf kvs.toArray nk)) F9 N9 htz rfl hsub otl off hdv hds l9.2.1 l9.2.2.2.2.2.2.2.2.2 ?_
        intro y h1 h2 h3
        simp only [if_neg h1, if_neg h2, if_neg h3]
        by_cases e1 : y = Str.ofString "rows"
        · rw [if_pos e1, e1, hM]; rfl
        rw [if_neg e1]
        by_cases e2 : y = Str.ofString "due_heap"
        · rw [if_pos e2, e2, hM]; rfl
        rw [if_neg e2]
        by_cases e3 : y = Str.ofString "due_table"
        · rw [if_pos e3, e3, hM]; rfl
        rw [if_neg e3]
        exact hm y h1 h2 h3
  · rintro m₁ nx h tk ⟨hm, dvs, nn, tl', rfl, hsub, otl, hdv⟩ F7 N7
    rw [List.take_of_length_le (by rw [slid_length (by omega)]; omega)] at hdv
    dsimp only
    have F8 := fr_re (a := Str.ofString "due_heap") (v := .ref dh) (fr_re (a := Str.ofString "due_table") (v := .ref dt) (fr_re (a := Str.ofString "kept") (v := .ref kl) (fr_re (a := Str.ofString "rows") (v := .ref rl) (fr_re (a := Str.ofString "count") (v := .int (n : Int) tn) (fr_re (a := Str.ofString "book") (v := .ref B) F7 (by rw [hm _ (by decide) (by decide) (by decide), hM]; rfl)) (by rw [if_neg (by decide), hm _ (by decide) (by decide) (by decide), hM]; rfl)) (by rw [if_neg (by decide), if_neg (by decide), hm _ (by decide) (by decide) (by decide), hM]; rfl)) (by rw [if_neg (by decide), if_neg (by decide), if_neg (by decide), hm _ (by decide) (by decide) (by decide), hM]; rfl)) (by rw [if_neg (by decide), if_neg (by decide), if_neg (by decide), if_neg (by decide), hm _ (by decide) (by decide) (by decide), hM]; rfl)) (by rw [if_neg (by decide), if_neg (by decide), if_neg (by decide), if_neg (by decide), if_neg (by decide), hm _ (by decide) (by decide) (by decide), hM]; rfl)
    exact hrest' _ _ _ dh dvs nn tl' F8 N7 hdv hsub
end
end

section
theorem readsB (h : Heap) : ∀ bs : List Bool, ∃ as, ReadsAll h (bs.map Value.bool) (bs.map PyData.bool) as
  | [] => ⟨_, .nil⟩
  | b :: bs => by obtain ⟨as, r⟩ := readsB h bs; exact ⟨_, .cons (Reads.bool b) r⟩
theorem readsI (h : Heap) {vs : List Value} {ns : List Int} (x : IntsAre vs ns) : ∃ as, ReadsAll h vs (ns.map PyData.int) as := by
  induction x with
  | nil => exact ⟨_, .nil⟩
  | cons k t _ ih => obtain ⟨as, r⟩ := ih; exact ⟨_, .cons (Reads.int k t) r⟩
def cellD (c : Int × Int) : PyData := .tuple [.int c.1, .int c.2]
theorem readsC {h : Heap} {vs : List Value} {cs : List (Int × Int)} (x : Both (CellV h) vs cs) : ∃ as, ReadsAll h vs (cs.map cellD) as := by
  induction x with
  | nil => exact ⟨_, .nil⟩
  | cons r _ ih =>
    obtain ⟨as, q⟩ := ih
    obtain ⟨a, tt, tx, n, rfl, e⟩ := r
    exact ⟨_, .cons (reads_tuple_at e rfl rfl (.cons (.int _ _) (.cons (.int _ _) .nil))) q⟩
theorem layB : ∀ bs : List Bool, PyData.canLayAll0 (bs.map PyData.bool) = true ∧ PyData.depthAll (bs.map PyData.bool) ≤ 0
  | [] => by simp [PyData.canLayAll0, PyData.depthAll]
  | b :: bs => by have q := layB bs; have q2 := q.2; simp only [List.map_cons, PyData.canLayAll0, PyData.depthAll, PyData.canLay0, PyData.depth, q.1, Bool.and_self, true_and]; omega
theorem layI : ∀ bs : List Int, PyData.canLayAll0 (bs.map PyData.int) = true ∧ PyData.depthAll (bs.map PyData.int) ≤ 0
  | [] => by simp [PyData.canLayAll0, PyData.depthAll]
  | b :: bs => by have q := layI bs; have q2 := q.2; simp only [List.map_cons, PyData.canLayAll0, PyData.depthAll, PyData.canLay0, PyData.depth, q.1, Bool.and_self, true_and]; omega
theorem layC : ∀ bs : List (Int × Int), PyData.canLayAll0 (bs.map cellD) = true ∧ PyData.depthAll (bs.map cellD) ≤ 5
  | [] => by simp [PyData.canLayAll0, PyData.depthAll]
  | b :: bs => by
    have q := layC bs
    have q2 := q.2
    simp only [List.map_cons, cellD, PyData.canLayAll0, PyData.depthAll, PyData.canLay0, PyData.depth, Bool.and_self, Bool.true_and, Bool.and_true]
    exact ⟨q.1, by have := q.2; unfold cellD at this; omega⟩
theorem shapedL {ds : List PyData} {k : Nat} (h : PyData.canLayAll0 ds = true ∧ PyData.depthAll ds ≤ k) (hk : k ≤ 50) : SeqAt.shaped (.list ds) = true := by
  unfold SeqAt.shaped
  have h2 := h.2
  rw [Bool.and_eq_true_iff]
  refine ⟨by simp only [PyData.canLay0]; exact h.1, decide_eq_true ?_⟩
  simp only [PyData.depth]
  omega
section
variable {prog : Program} {w : World} {A : Around} {E : Value → Shared → Prop} {s : Shared} {Q : Value → Shared → Prop} {a b : Addr} {va vb : List Value} {ka kb : Nat} {ds : List PyData} {k : Nat}
theorem ne_lists {as bs : List Addr} (ea : s.heap.get? a = some (listOf va.toArray ka)) (eb : s.heap.get? b = some (listOf vb.toArray kb)) (ra : ReadsAll s.heap va ds as) (rb : ReadsAll s.heap vb ds bs)
    (hl : PyData.canLayAll0 ds = true ∧ PyData.depthAll ds ≤ k) (hk : k ≤ 50) (hu : A.units + 64 < cLine) (h : Q (.bool false) s) : wpAny (model prog w) A (compareOp .NotEq (.ref a) (.ref b)) Q E s := by
  refine ne_dataH (reads_list_at ea rfl rfl (by simpa using ra)) (reads_list_at eb rfl rfl (by simpa using rb)) (shapedL hl hk) (shapedL hl hk) hu ?_
  rw [PySem.SeqAt.eqv_refl _ (by simp only [PyData.canLay0]; exact hl.1)]
  exact h
theorem eq_lists {as bs : List Addr} (ea : s.heap.get? a = some (listOf va.toArray ka)) (eb : s.heap.get? b = some (listOf vb.toArray kb)) (ra : ReadsAll s.heap va ds as) (rb : ReadsAll s.heap vb ds bs)
    (hl : PyData.canLayAll0 ds = true ∧ PyData.depthAll ds ≤ k) (hk : k ≤ 50) (hu : A.units + 64 < cLine) (h : Q (.bool true) s) : wpAny (model prog w) A (compareOp .Eq (.ref a) (.ref b)) Q E s := by
  refine eq_dataH (reads_list_at ea rfl rfl (by simpa using ra)) (reads_list_at eb rfl rfl (by simpa using rb)) (shapedL hl hk) (shapedL hl hk) hu ?_
  rw [PySem.SeqAt.eqv_refl _ (by simp only [PyData.canLay0]; exact hl.1)]
  exact h
end
/-- the cells of a list, as entries of the ledger -/
theorem cells_ledger {h₀ h : Heap} {L : Addr} {m : Str → Option Value} (F : Fr h₀ L h m) {vs : List Value} {cs : List (Int × Int)} (x : Both (CellV h) vs cs) :
    ∃ tl : List (Addr × Obj), News h₀ L h tl ∧ (∀ p ∈ tl, p.2.cls = .type "tuple") ∧ Both (CellL h₀ tl) vs cs := by
  induction x with
  | nil => exact ⟨[], (fun _ h => nomatch h), (fun _ h => nomatch h), .nil⟩
  | cons r _ ih =>
    obtain ⟨tl, N, ht, hb⟩ := ih
    obtain ⟨a, tt, tx, n, rfl, e⟩ := r
    cases e0 : h₀.get? a with
    | some o =>
      have z := F.keep _ _ e0
      rw [e] at z
      cases z
      exact ⟨tl, N, ht, .cons ⟨a, tt, tx, n, rfl, .inl e0⟩ hb⟩
    | none =>
      refine ⟨(a, _) :: tl, fun p hp => ?_, fun p hp => ?_, .cons ⟨a, tt, tx, n, rfl, .inr (.head _)⟩ (hb.mono fun _ _ _ z => z.mono fun p hp => .tail _ hp)⟩
      · rcases List.mem_cons.mp hp with rfl | hp
        · refine ⟨e, fun q => ?_, e0⟩
          obtain ⟨oL, es, ep, h1, h2⟩ := F.ns
          have q : a = L := q
          rw [q] at e
          rw [h1] at e
          cases e
          cases h2.1
        · exact N p hp
      · rcases List.mem_cons.mp hp with rfl | hp
        · rfl
        · exact ht p hp
theorem tl_off {h₀ h : Heap} {L a : Addr} {o : Obj} {tl : List (Addr × Obj)} (N : News h₀ L h tl) (ht : ∀ p ∈ tl, p.2.cls = .type "tuple") (e : h.get? a = some o) (ne : o.cls ≠ .type "tuple") : ∀ p ∈ tl, @Ne Nat p.1 a :=
  fun p hp => ne_cls (N p hp).1 e fun q => ne (q ▸ ht p hp)
section
variable {w : World} {mean : ExcName → Option Value} {mg mb : Str → Option Value}
theorem filled_at {A : Around} {s : Shared} {h₀ : Heap} {L : Addr} {m : Str → Option Value} {Q E : Value → Shared → Prop} {sym : Value} {rl : Addr} {rvs : List Value} {n : Nat} {news : List (Addr × Obj)}
    (F : Fr h₀ L s.heap m) (N : News h₀ L s.heap news) (X : (hd.heap_39 w.params).In h₀) (T : Top hd.view_39 (looseW hd.view_39 []) mean mg mb h₀)
    (hr : (rl, listOf rvs.toArray n) ∈ news) (hn : rvs.length < 1000) (hv : ∀ v ∈ rvs, handedIn v = true) (hsy : handedIn sym = true) (hh : A.handled = none) (hdp : A.depth + 60 < recursionLimit) (hun : A.units + 300 < cLine)
    (hQ : ∀ (h' : Heap) (tk' : Nat) (x dx H St Tr : Addr) (t1 t2 t3 t4 t5 t6 t7 tm u1 u2 : Tok) (n' : Nat), Fr h₀ L h' m → News h₀ L h' ((x, instObj 323 dx) :: (dx, dictOf (cellEs w.params sym H St Tr t1 t2 t3 t4 t5 t6 t7 tm u1 u2) 7) :: (H, listOf rvs.toArray n') :: news) →
      (∀ p ∈ news, @Ne Nat p.1 x ∧ @Ne Nat p.1 dx ∧ @Ne Nat p.1 H) → (∀ b o, s.heap.get? b = some o → @Ne Nat b H) → Q (.ref x) { s with heap := h', toks := tk' }) :
    wpAny (model PySem.Challenge.rw_rh0078_01.row.prog w) A (call (.ref 369) [sym, .ref rl]) Q E s :=
  wpAny_call (filled_code F.keep X T (N _ hr).1 (N _ hr).2.2 hn hv hsy hh hdp hun fun h' tk' x dx H St Tr t1 t2 t3 t4 t5 t6 t7 tm u1 u2 n' k a1 a2 a3 b1 b2 b3 =>
    hQ h' tk' x dx H St Tr t1 t2 t3 t4 t5 t6 t7 tm u1 u2 n' (k.fr F (by simp) (by simp)) (fun p hp => by
      rcases List.mem_cons.mp hp with rfl | hp
      · exact fresh_news F b1 a1
      · rcases List.mem_cons.mp hp with rfl | hp
        · exact fresh_news F b2 a2
        · rcases List.mem_cons.mp hp with rfl | hp
          · exact fresh_news F b3 a3
          · exact k.news N (by simp) p hp) (fun p hp => ⟨ne_none (N p hp).1 b1, ne_none (N p hp).1 b2, ne_none (N p hp).1 b3⟩) (fun b o e => ne_none e b3))
theorem fwd_at {A : Around} {s : Shared} {h₀ : Heap} {L : Addr} {m : Str → Option Value} {Q E : Value → Shared → Prop} {ml : Addr} {bs : List Bool} {n : Nat} {news : List (Addr × Obj)}
    (F : Fr h₀ L s.heap m) (N : News h₀ L s.heap news) (X : (hd.heap_39 w.params).In h₀) (T : Top hd.view_39 (looseW hd.view_39 []) mean mg mb h₀)
    (hr : (ml, listOf (bs.map Value.bool).toArray n) ∈ news) (hn : bs.length < 1000) (hh : A.handled = none) (hdp : A.depth + 60 < recursionLimit) (hun : A.units + 300 < cLine)
    (hQ : ∀ (h' : Heap) (tk' : Nat) (Tb : Addr) (tvs : List Value) (n' : Nat), Fr h₀ L h' m → News h₀ L h' ((Tb, listOf tvs.toArray n') :: news) → IntsAre tvs (ftab bs) → (∀ p ∈ news, @Ne Nat p.1 Tb) → Q (.ref Tb) { s with heap := h', toks := tk' }) :
    wpAny (model PySem.Challenge.rw_rh0078_01.row.prog w) A (call (.ref 334) [.ref ml]) Q E s :=
  wpAny_call (fwd_code F.keep X T (N _ hr).1 (N _ hr).2.2 hn hh hdp hun fun h' tk' Tb tvs n' k a1 i1 b1 =>
    hQ h' tk' Tb tvs n' (k.fr F (by simp) (by simp)) (fun p hp => by
      rcases List.mem_cons.mp hp with rfl | hp
      · exact fresh_news F b1 a1
      · exact k.news N (by simp) p hp) i1 (fun p hp => ne_none (N p hp).1 b1))
theorem slide_at {A : Around} {s : Shared} {h₀ : Heap} {L : Addr} {m : Str → Option Value} {Q E : Value → Shared → Prop} {x dx H St Tr ml Tb : Addr} {sym : Value} {t1 t2 t3 t4 t5 t6 t7 tm u1 u2 : Tok} {cvs tvs : List Value} {n nd nm nt : Nat} {bs : List Bool} {cs : List (Int × Int)} {news : List (Addr × Obj)} {g : Obj → List (Addr × Obj)}
    (F : Fr h₀ L s.heap m) (N : News h₀ L s.heap news) (X : (hd.heap_39 w.params).In h₀) (T : Top hd.view_39 (looseW hd.view_39 []) mean mg mb h₀)
    (hx : (x, instObj 323 dx) ∈ news) (hdx : (dx, dictOf (cellEs w.params sym H St Tr t1 t2 t3 t4 t5 t6 t7 tm u1 u2) nd) ∈ news) (hU : UpdF H (listOf cvs.toArray n) news g)
    (hm : (ml, listOf (bs.map Value.bool).toArray nm) ∈ news) (hmH : @Ne Nat ml H) (hTb : (Tb, listOf tvs.toArray nt) ∈ news) (hTH : @Ne Nat Tb H) (hti : IntsAre tvs (ftab bs))
    (hcs : Both (CellL h₀ news) cvs cs) (hlen : cs.length = bs.length) (hn : bs.length < 500) (hptr : ∀ c ∈ cs, isPtr c.1 = true → 0 ≤ c.2 ∧ c.2 ≤ bs.length)
    (hh : A.handled = none) (hdp : A.depth + 80 < recursionLimit) (hun : A.units + 400 < cLine)
    (hQ : ∀ (h' : Heap) (tk' : Nat) (nvs : List Value) (n' : Nat), Fr h₀ L h' m → News h₀ L h' (g (listOf nvs.toArray n')) → Both (CellV h') nvs (slid bs cs) → Q .none { s with heap := h', toks := tk' }) :
    wpAny (model PySem.Challenge.rw_rh0078_01.row.prog w) A (call (.ref 355) [.ref x, .ref ml, .ref Tb]) Q E s :=
  wpAny_call (slide_code F.keep X T (N _ hx).1 (N _ hx).2.2 (N _ hdx).1 (N _ hdx).2.2 (N _ (updF_mem hU)).1 (N _ (updF_mem hU)).2.2 ⟨_, (N _ hm).1, rfl, _, rfl⟩ hmH ⟨_, (N _ hTb).1, rfl, _, rfl⟩ hTH hti (hcs.mono fun _ _ _ z => z.heap F N fun _ h => h) hlen hn hptr hh hdp hun fun h' tk' nvs n' k e b =>
    hQ h' tk' nvs n' (updF_fr hU F N k) (updF_news hU N k e) b)
end
end

section
local macro_rules | `(tactic| walk_at "call ref") => `(tactic| ((with_reducible show wpAny _ _ (call (Value.ref 369) _) _ _ _); refine Hold.out ?_))
local macro_rules | `(tactic| walk_at "call ref") => `(tactic| ((with_reducible show wpAny _ _ (call (Value.ref 334) _) _ _ _); refine Hold.out ?_))
local macro_rules | `(tactic| walk_at "call ref") => `(tactic| ((with_reducible show wpAny _ _ (call (Value.ref 355) _) _ _ _); refine Hold.out ?_))
local macro_rules | `(tactic| walk_at "compareOp NotEq ref ref") => `(tactic| ((with_reducible show wpAny _ _ (compareOp _ _ _) _ _ _); refine Hold.out ?_))
section
variable {w : World} {mean : ExcName → Option Value} {mg mb : Str → Option Value}
theorem stage4 {dp un : Nat} {fr : Option (List Env)} {gd : Option (List Code)} {h₀ : Heap} {L rl fl sl B dt kl dh : Addr} {fa : Addr} {cd : Value} {s : Shared} {m : Str → Option Value} {Q : Flow → Shared → Prop} {n na nb nc nd nk nh : Nat} {tn : Tok} {rvs tvs kvs dvs : List Value} {cs : List (Int × Int)} {bs1 bs2 : List Bool} {oc1 oc2 : Obj} {tl0 tl : List (Addr × Obj)}
    (X : (hd.heap_39 w.params).In h₀) (T : Top hd.view_39 (looseW hd.view_39 []) mean mg mb h₀)
    (F : Fr h₀ L s.heap (fun y => if y = Str.ofString "due_heap" then some (.ref dh) else if y = Str.ofString "due_table" then some (.ref dt) else if y = Str.ofString "kept" then some (.ref kl) else if y = Str.ofString "rows" then some (.ref rl) else if y = Str.ofString "count" then some (.int (n : Int) tn) else if y = Str.ofString "book" then some (.ref B) else m y))
    (N : News h₀ L s.heap ((dh, listOf dvs.toArray nh) :: (dt, listOf tvs.toArray nd) :: (kl, listOf kvs.toArray nk) :: (sl, listOf (bs2.map Value.bool).toArray nc) :: (fl, listOf (bs1.map Value.bool).toArray nb) :: (rl, listOf rvs.toArray na) :: (L + 1 + 1, oc2) :: (L + 1, oc1) :: tl0))
    (hdv0 : Both (CellL h₀ tl0) dvs (slid bs1 cs)) (hcs0 : Both (CellL h₀ tl0) rvs cs) (hn1 : 1 ≤ n) (hn9 : n ≤ 9) (hb1 : bs1.length = n) (hb2 : bs2.length = n) (hcl : cs.length = n) (hptr : ∀ c ∈ cs, isPtr c.1 = true → 0 ≤ c.2 ∧ c.2 < (n : Int)) (ht : IntsAre tvs (ftab bs1))
    (d1 : oc1.data = .cell (some (.ref fl))) (d2 : oc2.data = .cell (some (.ref sl))) (hk : IntsAre kvs (kidx bs1))
    (hdp : dp + 150 < recursionLimit) (hun : un + 800 < cLine)
    (hrest' : ∀ (h' : Heap) (tk' : Nat) (m' : Str → Option Value) (le x dx H St Tr : Addr) (t1 t2 t3 t4 t5 t6 t7 tm u1 u2 : Tok) (nvs : List Value) (nl n5 : Nat) (tz : List (Addr × Obj)),
      Fr h₀ L h' (fun y => if y = Str.ofString "left" then some (.ref le) else if y = Str.ofString "once" then some (.ref x) else if y = Str.ofString "rows" then some (.ref rl) else if y = Str.ofString "count" then some (.int (n : Int) tn) else if y = Str.ofString "book" then some (.ref B) else m' y) →
      News h₀ L h' ((le, listOf ((kept bs1 bs2).map Value.bool).toArray nl) :: (x, instObj 323 dx) :: (dx, dictOf (cellEs w.params (.ref B) H St Tr t1 t2 t3 t4 t5 t6 t7 tm u1 u2) 7) :: (H, listOf nvs.toArray n5) :: (sl, listOf (bs2.map Value.bool).toArray nc) :: (fl, listOf (bs1.map Value.bool).toArray nb) :: (rl, listOf rvs.toArray na) :: (L + 1 + 1, oc2) :: (L + 1, oc1) :: tz) →
      Both (CellL h₀ tz) nvs (slid bs1 cs) → Both (CellL h₀ tz) rvs cs → (∀ p ∈ tz, p.2.cls = .type "tuple") → @Ne Nat le H → @Ne Nat sl H → @Ne Nat fl H → @Ne Nat rl H → @Ne Nat (L + 1 + 1) H → @Ne Nat (L + 1) H →
      wpAny (model PySem.Challenge.rw_rh0078_01.row.prog w) { handled := none, depth := dp, frames := fr, guards := gd, units := un } (execs (lawRest 20) (lawEnv L fa cd)) Q (fun _ _ => False) { s with heap := h', toks := tk' }) :
    wpAny (model PySem.Challenge.rw_rh0078_01.row.prog w) { handled := none, depth := dp, frames := fr, guards := gd, units := un } (execs (lawRest 13) (lawEnv L fa cd)) Q (fun _ _ => False) s := by
  revert X; k_fill; intro X
  -- the tail afresh: tuples only
  have hrl := hcs0.length
  have hr1 : rvs.length < 100 := by omega
  obtain ⟨ta, Na, hta, hcs⟩ := cells_ledger F (hcs0.mono fun _ _ _ z => z.heap F N fun p hp => .tail _ (.tail _ (.tail _ (.tail _ (.tail _ (.tail _ (.tail _ (.tail _ hp))))))))
  obtain ⟨tb, Nb, htb, hdv⟩ := cells_ledger F (hdv0.mono fun _ _ _ z => z.heap F N fun p hp => .tail _ (.tail _ (.tail _ (.tail _ (.tail _ (.tail _ (.tail _ (.tail _ hp))))))))
  obtain ⟨tl, htl⟩ : ∃ t, t = ta ++ tb := ⟨_, rfl⟩
  have hcs : Both (CellL h₀ tl) rvs cs := hcs.mono fun _ _ _ z => z.mono fun p hp => by rw [htl]; exact List.mem_append_left _ hp
  have hdv : Both (CellL h₀ tl) dvs (slid bs1 cs) := hdv.mono fun _ _ _ z => z.mono fun p hp => by rw [htl]; exact List.mem_append_right _ hp
  have htt : ∀ p ∈ tl, p.2.cls = .type "tuple" := fun p hp => by
    rw [htl] at hp
    exact (List.mem_append.mp hp).elim (hta p) (htb p)
  have N1 : News h₀ L s.heap ((dh, listOf dvs.toArray nh) :: (dt, listOf tvs.toArray nd) :: (kl, listOf kvs.toArray nk) :: (sl, listOf (bs2.map Value.bool).toArray nc) :: (fl, listOf (bs1.map Value.bool).toArray nb) :: (rl, listOf rvs.toArray na) :: (L + 1 + 1, oc2) :: (L + 1, oc1) :: tl) := fun p hp => by
    simp only [List.mem_cons] at hp
    rcases hp with rfl | rfl | rfl | rfl | rfl | rfl | rfl | rfl | hp
    · exact N _ (.head _)
    · exact N _ (.tail _ (.head _))
    · exact N _ (.tail _ (.tail _ (.head _)))
    · exact N _ (.tail _ (.tail _ (.tail _ (.head _))))
    · exact N _ (.tail _ (.tail _ (.tail _ (.tail _ (.head _)))))
    · exact N _ (.tail _ (.tail _ (.tail _ (.tail _ (.tail _ (.head _))))))
    · exact N _ (.tail _ (.tail _ (.tail _ (.tail _ (.tail _ (.tail _ (.head _)))))))
    · exact N _ (.tail _ (.tail _ (.tail _ (.tail _ (.tail _ (.tail _ (.tail _ (.head _))))))))
    · rw [htl] at hp
      exact (List.mem_append.mp hp).elim (Na p) (Nb p)
  clear N Na Nb hcs0 hdv0
  have hhv : ∀ v ∈ rvs, handedIn v = true := fun v hv => by
    obtain ⟨c, _, a, _, _, _, rfl, _⟩ := hcs.mem hv
    rfl
  refine wpAny_execs_cons ?_
  k_steps
  refine Hold.mk (filled_at (by assumption) (by assumption) X T (rl := rl) (rvs := rvs) (n := na) (by k_mem) (by omega) hhv rfl rfl (by k_room) (by k_units) ?_)
  intro h2 tk2 x dx H St Tr t1 t2 t3 t4 t5 t6 t7 tm u1 u2 n2 F2 N2 o2 of2
  k_steps
  refine Hold.mk (fwd_at (by assumption) (by assumption) X T (ml := fl) (bs := bs1) (n := nb) (by k_mem) (by omega) rfl (by k_room) (by k_units) ?_)
  intro h3 tk3 Tb t2vs n3 F3 N3 ht3 o3
  k_steps
  refine Hold.mk ?_
  refine ne_lists (a := Tb) (b := dt) (ds := (ftab bs1).map PyData.int) (News.get (by assumption) (by k_mem)) (News.get (by assumption) (by k_mem)) (readsI _ ht3).choose_spec (readsI _ ht).choose_spec (layI _) (by decide) (by k_units) ?_
  k_steps
  rename_i mk c4 h4 l4 hB F4 N4
  have zx := (N4 _ (.tail _ (.tail _ (.head _)))).1
  have zdx := (N4 _ (.tail _ (.tail _ (.tail _ (.head _))))).1
  have zH := (N4 _ (.tail _ (.tail _ (.tail _ (.tail _ (.head _)))))).1
  have nxH := ne_cls zx zH ref_ne_type
  have ndH := ne_cls zdx zH (type_ne (by decide))
  have nxd := ne_cls zx zdx ref_ne_type
  obtain ⟨l4a, l4b, l4c, l4d, l4r⟩ := l4
  simp only [List.forall_mem_cons] at o2 o3
  obtain ⟨⟨_, _, e1⟩, ⟨_, _, e2⟩, ⟨_, _, e3⟩, ⟨_, _, e4⟩, ⟨_, _, e5⟩, ⟨_, _, e6⟩, ⟨_, _, e7⟩, ⟨_, _, e8⟩, otl⟩ := o2
  obtain ⟨_, _, e9, _⟩ := o3
  have e9' : @Ne Nat Tb H := fun q => e9 q.symm
  have e10 : @Ne Nat mk H := Nat.ne_of_gt l4d
  have otl : OwnOff tl [H] := fun p hp b hb => by rw [List.mem_singleton.mp hb]; exact (otl p hp).2.2
  refine Hold.mk (slide_at (x := x) (dx := dx) (H := H) (St := St) (Tr := Tr) (ml := mk) (Tb := Tb) (sym := .ref B) (bs := bs1) (cs := cs) (by assumption) (by assumption) X T (by k_mem) (by k_mem) (by k_updF) (by k_mem) e10 (by k_mem) e9' ht3 (hcs.mono fun _ _ _ z => z.mono fun p hp => .tail _ (.tail _ (.tail _ (.tail _ (.tail _ (.tail _ (.tail _ (.tail _ (.tail _ (.tail _ (.tail _ (.tail _ (.tail _ hp))))))))))))) (by omega) (by omega) (fun c hc hp => ⟨(hptr c hc hp).1, by have := (hptr c hc hp).2; omega⟩) rfl (by k_room) (by k_units) ?_)
  intro h5 tk5 nvs n5 F5 N5 b5
  obtain ⟨tc, Nc, htc, hnc⟩ := cells_ledger F5 b5
  obtain ⟨tz, htz⟩ : ∃ t, t = tc ++ tl := ⟨_, rfl⟩
  have hcs : Both (CellL h₀ tz) rvs cs := hcs.mono fun _ _ _ z => z.mono fun p hp => by rw [htz]; exact List.mem_append_right _ hp
  have hdv : Both (CellL h₀ tz) dvs (slid bs1 cs) := hdv.mono fun _ _ _ z => z.mono fun p hp => by rw [htz]; exact List.mem_append_right _ hp
  have hnc : Both (CellL h₀ tz) nvs (slid bs1 cs) := hnc.mono fun _ _ _ z => z.mono fun p hp => by rw [htz]; exact List.mem_append_left _ hp
  have htt : ∀ p ∈ tz, p.2.cls = .type "tuple" := fun p hp => by
    rw [htz] at hp
    exact (List.mem_append.mp hp).elim (htc p) (htt p)
  have Nz : News h₀ L h5 tz := fun p hp => by
    rw [htz] at hp
    exact (List.mem_append.mp hp).elim (Nc p) fun hp => N5 _ (.tail _ (.tail _ (.tail _ (.tail _ (.tail _ (.tail _ (.tail _ (.tail _ (.tail _ (.tail _ (.tail _ (.tail _ (.tail _ (hp))))))))))))))
  have N6 : News h₀ L h5 ((mk, listOf (bs1.map Value.bool).toArray c4) :: (Tb, listOf t2vs.toArray n3) :: (x, instObj 323 dx) :: (dx, dictOf (cellEs w.params (.ref B) H St Tr t1 t2 t3 t4 t5 t6 t7 tm u1 u2) 7) :: (H, listOf nvs.toArray n5) :: (dh, listOf dvs.toArray nh) :: (dt, listOf tvs.toArray nd) :: (kl, listOf kvs.toArray nk) :: (sl, listOf (bs2.map Value.bool).toArray nc) :: (fl, listOf (bs1.map Value.bool).toArray nb) :: (rl, listOf rvs.toArray na) :: (L + 1 + 1, oc2) :: (L + 1, oc1) :: tz) := fun p hp => by
    simp only [List.mem_cons] at hp
    rcases hp with rfl | rfl | rfl | rfl | rfl | rfl | rfl | rfl | rfl | rfl | rfl | rfl | rfl | hp
    · exact N5 _ (.head _)
    · exact N5 _ (.tail _ (.head _))
    · exact N5 _ (.tail _ (.tail _ (.head _)))
    · exact N5 _ (.tail _ (.tail _ (.tail _ (.head _))))
    · exact N5 _ (.tail _ (.tail _ (.tail _ (.tail _ (.head _)))))
    · exact N5 _ (.tail _ (.tail _ (.tail _ (.tail _ (.tail _ (.head _))))))
    · exact N5 _ (.tail _ (.tail _ (.tail _ (.tail _ (.tail _ (.tail _ (.head _)))))))
    · exact N5 _ (.tail _ (.tail _ (.tail _ (.tail _ (.tail _ (.tail _ (.tail _ (.head _))))))))
    · exact N5 _ (.tail _ (.tail _ (.tail _ (.tail _ (.tail _ (.tail _ (.tail _ (.tail _ (.head _)))))))))
    · exact N5 _ (.tail _ (.tail _ (.tail _ (.tail _ (.tail _ (.tail _ (.tail _ (.tail _ (.tail _ (.head _))))))))))
    · exact N5 _ (.tail _ (.tail _ (.tail _ (.tail _ (.tail _ (.tail _ (.tail _ (.tail _ (.tail _ (.tail _ (.head _)))))))))))
    · exact N5 _ (.tail _ (.tail _ (.tail _ (.tail _ (.tail _ (.tail _ (.tail _ (.tail _ (.tail _ (.tail _ (.tail _ (.head _))))))))))))
    · exact N5 _ (.tail _ (.tail _ (.tail _ (.tail _ (.tail _ (.tail _ (.tail _ (.tail _ (.tail _ (.tail _ (.tail _ (.tail _ (.head _)))))))))))))
    · exact Nz p hp
  have zH5 := (N6 _ (.tail _ (.tail _ (.tail _ (.tail _ (.head _)))))).1
  have otz : OwnOff tz [H] := fun p hp b hb => by rw [List.mem_singleton.mp hb]; exact tl_off Nz htt zH5 (type_ne (by decide)) p hp
  clear N5 Nc Nz htc htz otl
  k_steps
  refine Hold.mk (ne_lists (a := H) (b := dh) (ds := (slid bs1 cs).map cellD) (News.get (by assumption) (by k_mem)) (News.get (by assumption) (by k_mem)) (readsC b5).choose_spec
    (readsC (hdv.mono fun _ _ _ z => z.heap F5 N6 fun p hp => .tail _ (.tail _ (.tail _ (.tail _ (.tail _ (.tail _ (.tail _ (.tail _ (.tail _ (.tail _ (.tail _ (.tail _ (.tail _ (hp))))))))))))))).choose_spec (layC _) (by decide) (by k_units) ?_)
  k_steps
  refine Hold.mk (ne_lists (a := mk) (b := fl) (ds := bs1.map PyData.bool) (News.get (by assumption) (by k_mem)) (News.get (by assumption) (by k_mem)) (readsB _ bs1).choose_spec (readsB _ bs1).choose_spec (layB _) (by decide) (by k_units) ?_)
  k_steps
  refine Hold.mk (ne_lists (a := Tb) (b := dt) (ds := (ftab bs1).map PyData.int) (News.get (by assumption) (by k_mem)) (News.get (by assumption) (by k_mem)) (readsI _ ht3).choose_spec (readsI _ ht).choose_spec (layI _) (by decide) (by k_units) ?_)
  k_steps
  -- statement 19
  have hkl := hk.length
  rw [kidx_length] at hkl
  have hcn := cnt_le bs1
  refine LCg.CompSrc.ledger (ax := kl) (its := kvs.toArray) (k := nk) rfl F5 N6 (by k_mem) (by simp only [sizeLine, List.size_toArray]; omega) ?_
  intro g
  simp only [List.size_toArray]
  refine rest_ind kvs.length (fun i ys => ys = ((kept bs1 bs2).take i).map Value.bool) rfl ?_ ?_
  · intro ys hys
    have hkk := kept_length (bs := bs1) (l := bs2) (by omega)
    rw [List.take_of_length_le (by omega)] at hys
    intro D h tk F7 N7 o7
    subst hys
    simp only [LCg.lst] at N7
    simp only [LCg.Off1] at o7
    dsimp only
    have F8 := fr_re (a := Str.ofString "left") (v := .ref D) (fr_re (a := Str.ofString "once") (v := .ref x) (fr_re (a := Str.ofString "rows") (v := .ref rl) (fr_re (a := Str.ofString "count") (v := .int (n : Int) tn) (fr_re (a := Str.ofString "book") (v := .ref B) F7 (by rfl)) (by rfl)) (by rfl)) (by rfl)) (by rfl)
    refine hrest' _ _ _ D x dx H St Tr t1 t2 t3 t4 t5 t6 t7 tm u1 u2 nvs (List.map Value.bool (kept bs1 bs2)).length n5 tz F8 (fun p hp => N7 p ?_) hnc hcs htt (fun q => o7.2.2.2.2.1 q.symm) e4 e5 e6 e7 e8
    simp only [List.mem_cons] at hp
    rcases hp with rfl | rfl | rfl | rfl | rfl | rfl | rfl | rfl | rfl | hp
    · exact .head _
    · exact .tail _ (.tail _ (.tail _ (.head _)))
    · exact .tail _ (.tail _ (.tail _ (.tail _ (.head _))))
    · exact .tail _ (.tail _ (.tail _ (.tail _ (.tail _ (.head _)))))
    · exact .tail _ (.tail _ (.tail _ (.tail _ (.tail _ (.tail _ (.tail _ (.tail _ (.tail _ (.head _)))))))))
    · exact .tail _ (.tail _ (.tail _ (.tail _ (.tail _ (.tail _ (.tail _ (.tail _ (.tail _ (.tail _ (.head _))))))))))
    · exact .tail _ (.tail _ (.tail _ (.tail _ (.tail _ (.tail _ (.tail _ (.tail _ (.tail _ (.tail _ (.tail _ (.head _)))))))))))
    · exact .tail _ (.tail _ (.tail _ (.tail _ (.tail _ (.tail _ (.tail _ (.tail _ (.tail _ (.tail _ (.tail _ (.tail _ (.head _))))))))))))
    · exact .tail _ (.tail _ (.tail _ (.tail _ (.tail _ (.tail _ (.tail _ (.tail _ (.tail _ (.tail _ (.tail _ (.tail _ (.tail _ (.head _)))))))))))))
    · exact .tail _ (.tail _ (.tail _ (.tail _ (.tail _ (.tail _ (.tail _ (.tail _ (.tail _ (.tail _ (.tail _ (.tail _ (.tail _ (.tail _ (hp))))))))))))))
  · rintro i ys v I oI C oC D m₂ h tk E' hi hys hv hC hx F7 N7 off ne
    have off0 := off
    simp only [LCg.Off3, and_true] at off
    rw [List.getElem?_toArray] at hv
    obtain ⟨a, ta, rfl, ha⟩ := ints_get hk hv
    obtain ⟨j, b, rfl, hj, hbj, hkb⟩ := kept_get n bs1 bs2 hb1 hb2 ha
    have hbx : (bs2.map Value.bool).toArray[((j : Nat) : Int).toNat]? = some (.bool b) := by simp [hbj]
    have hbl : (bs2.map Value.bool).length = n := by rw [List.length_map]; exact hb2
    k_steps
    refine LCg.CompEnd.intro F7 N7 _ (fun p hp => hp) off0 (.inr ⟨_, .tail _ (.tail _ (.tail _ (.tail _ (.tail _ (.tail _ (.tail _ (.head _))))))), rfl, _, rfl⟩) ⟨rfl, ?_⟩
    rw [take_succ_of hkb, List.map_append, hys]
    rfl
end
end

section
def andb (as bs : List Bool) : List Bool := List.zipWith (fun a b => a && b) as bs
theorem kept_cons {α : Type} (b : Bool) (bs : List Bool) (x : α) (l : List α) : kept (b :: bs) (x :: l) = if b then x :: kept bs l else kept bs l := by
  cases b <;> simp [kept]
theorem kept_map {α β : Type} (f : α → β) : ∀ (bs : List Bool) (l : List α), kept bs (l.map f) = (kept bs l).map f
  | [], l => by simp [kept]
  | b :: bs, [] => by simp [kept]
  | b :: bs, x :: l => by
    rw [List.map_cons, kept_cons, kept_cons, kept_map f bs l]
    cases b <;> simp
theorem kept_kept {α : Type} : ∀ (as bs : List Bool) (l : List α), as.length = bs.length → as.length = l.length → kept (kept as bs) (kept as l) = kept (andb as bs) l
  | [], bs, l, _, _ => by simp [kept, andb]
  | a :: as, [], l, h, _ => by simp at h
  | a :: as, b :: bs, [], _, h => by simp at h
  | a :: as, b :: bs, x :: l, h1, h2 => by
    have ih := kept_kept as bs l (by simpa using h1) (by simpa using h2)
    unfold andb at ih ⊢
    rw [List.zipWith_cons_cons, kept_cons, kept_cons, kept_cons]
    cases a with
    | true => simp only [if_true, kept_cons, ih, Bool.true_and]
    | false => simp only [Bool.false_eq_true, if_false, Bool.false_and, ih]
theorem cnt_kept : ∀ (as bs : List Bool), as.length = bs.length → ∀ c, cnt ((kept as bs).take (cnt (as.take c))) = cnt ((andb as bs).take c)
  | [], bs, _, c => by simp [kept, andb, cnt]
  | a :: as, [], h, c => by simp at h
  | a :: as, b :: bs, h, 0 => by simp [cnt]
  | a :: as, b :: bs, h, c + 1 => by
    have ih := cnt_kept as bs (by simpa using h) c
    unfold andb cnt at ih ⊢
    rw [List.zipWith_cons_cons, kept_cons, List.take_succ_cons, List.take_succ_cons]
    cases a with
    | true => 
      rw [List.count_cons_self, if_pos rfl, List.take_succ_cons]
      cases b with
      | true => simp only [Bool.true_and, List.count_cons_self, ih]
      | false => simpa using ih
    | false => simpa using ih
theorem slid_ptr {bs : List Bool} {cs : List (Int × Int)} {n : Nat} (hb : bs.length = n) (hptr : ∀ c ∈ cs, isPtr c.1 = true → 0 ≤ c.2 ∧ c.2 ≤ (n : Int)) : ∀ c ∈ slid bs cs, isPtr c.1 = true → 0 ≤ c.2 ∧ c.2 ≤ ((cnt bs : Nat) : Int) := by
  intro c hc hp
  unfold slid at hc
  obtain ⟨d, hd, rfl⟩ := List.mem_map.mp hc
  have hd2 : d ∈ cs := by
    unfold kept at hd
    obtain ⟨p, hz, rfl⟩ := List.mem_map.mp hd
    exact (List.of_mem_zip (List.mem_filter.mp hz).1).2
  have hp' : isPtr d.1 = true := hp
  have z := hptr d hd2 hp'
  simp only [mv, if_pos hp', List.getD_eq_getElem?_getD]
  rw [ftab_get (by omega)]
  have := cnt_take_total bs d.2.toNat
  simp only [Option.getD_some]
  omega
theorem mem_kept {α : Type} {bs : List Bool} {l : List α} {d : α} (hd : d ∈ kept bs l) : d ∈ l := by
  unfold kept at hd
  obtain ⟨p, hp, rfl⟩ := List.mem_map.mp hd
  exact (List.of_mem_zip (List.mem_filter.mp hp).1).2
theorem andb_length {as bs : List Bool} (h : as.length = bs.length) : (andb as bs).length = as.length := by simp [andb, h]
theorem slid_slid {as bs : List Bool} {cs : List (Int × Int)} {n : Nat} (h1 : as.length = n) (h2 : bs.length = n) (h3 : cs.length = n) (hptr : ∀ c ∈ cs, isPtr c.1 = true → 0 ≤ c.2 ∧ c.2 ≤ (n : Int)) :
    slid (kept as bs) (slid as cs) = slid (andb as bs) cs := by
  unfold slid
  rw [kept_map, kept_kept as bs cs (by omega) (by omega), List.map_map]
  apply List.map_congr_left
  intro c hc
  have hc := mem_kept hc
  simp only [Function.comp, mv]
  by_cases hp : isPtr c.1 = true
  · have z := hptr c hc hp
    have k1 := kept_length (bs := as) (l := bs) (by omega)
    have k2 := cnt_take_total as c.2.toNat
    simp only [if_pos hp, List.getD_eq_getElem?_getD]
    rw [ftab_get (bs := as) (by omega), Option.getD_some, Int.toNat_natCast, ftab_get (by omega), ftab_get (by rw [andb_length (by omega)]; omega), cnt_kept as bs (by omega)]
  · simp only [if_neg hp]
theorem kept_true {α : Type} : ∀ (l : List α), kept (List.replicate l.length true) l = l
  | [] => rfl
  | x :: l => by rw [List.length_cons, List.replicate_succ, kept_cons, if_pos rfl, kept_true l]
theorem slid_true {cs : List (Int × Int)} {n : Nat} (h : cs.length = n) (hptr : ∀ c ∈ cs, isPtr c.1 = true → 0 ≤ c.2 ∧ c.2 ≤ (n : Int)) : slid (List.replicate n true) cs = cs := by
  unfold slid
  rw [← h, kept_true]
  conv => rhs; rw [← List.map_id cs]
  apply List.map_congr_left
  intro c hc
  by_cases hp : isPtr c.1 = true
  · have z := hptr c hc hp
    simp only [mv, if_pos hp, List.getD_eq_getElem?_getD]
    rw [ftab_get (by rw [List.length_replicate]; omega), Option.getD_some, List.take_replicate, Nat.min_eq_left (by omega)]
    refine Prod.ext rfl ?_
    simp only [cnt, List.count_replicate_self, id]
    omega
  · simp only [mv, if_neg hp, id]
end

section
local macro_rules | `(tactic| walk_at "pad") => `(tactic| fail)
local macro_rules | `(tactic| walk_at "call ref") => `(tactic| ((with_reducible show wpAny _ _ (call (Value.ref 369) _) _ _ _); refine Hold.out ?_))
local macro_rules | `(tactic| walk_at "call ref") => `(tactic| ((with_reducible show wpAny _ _ (call (Value.ref 334) _) _ _ _); refine Hold.out ?_))
local macro_rules | `(tactic| walk_at "call ref") => `(tactic| ((with_reducible show wpAny _ _ (call (Value.ref 355) _) _ _ _); refine Hold.out ?_))
local macro_rules | `(tactic| walk_at "CompSrc") => `(tactic| refine Hold.out ?_)
section
variable {w : World} {mean : ExcName → Option Value} {mg mb : Str → Option Value}
theorem stage5 {dp un : Nat} {fr : Option (List Env)} {gd : Option (List Code)} {h₀ : Heap} {L rl fl sl B le x dx H St Tr : Addr} {t1 t2 t3 t4 t5 t6 t7 tm u1 u2 : Tok} {fa : Addr} {cd : Value} {s : Shared} {m : Str → Option Value} {Q : Flow → Shared → Prop} {n na nb nc nl n5 : Nat} {tn : Tok} {rvs nvs : List Value} {cs : List (Int × Int)} {bs1 bs2 : List Bool} {oc1 oc2 : Obj} {tl : List (Addr × Obj)}
    (X : (hd.heap_39 w.params).In h₀) (T : Top hd.view_39 (looseW hd.view_39 []) mean mg mb h₀)
    (F : Fr h₀ L s.heap (fun y => if y = Str.ofString "left" then some (.ref le) else if y = Str.ofString "once" then some (.ref x) else if y = Str.ofString "rows" then some (.ref rl) else if y = Str.ofString "count" then some (.int (n : Int) tn) else if y = Str.ofString "book" then some (.ref B) else m y))
    (N : News h₀ L s.heap ((le, listOf ((kept bs1 bs2).map Value.bool).toArray nl) :: (x, instObj 323 dx) :: (dx, dictOf (cellEs w.params (.ref B) H St Tr t1 t2 t3 t4 t5 t6 t7 tm u1 u2) 7) :: (H, listOf nvs.toArray n5) :: (sl, listOf (bs2.map Value.bool).toArray nc) :: (fl, listOf (bs1.map Value.bool).toArray nb) :: (rl, listOf rvs.toArray na) :: (L + 1 + 1, oc2) :: (L + 1, oc1) :: tl))
    (hnc : Both (CellL h₀ tl) nvs (slid bs1 cs)) (hcs : Both (CellL h₀ tl) rvs cs) (htt : ∀ p ∈ tl, p.2.cls = .type "tuple") (e3 : @Ne Nat le H) (e4 : @Ne Nat sl H) (e5 : @Ne Nat fl H) (e6 : @Ne Nat rl H) (e7 : @Ne Nat (L + 1 + 1) H) (e8 : @Ne Nat (L + 1) H)
    (hn1 : 1 ≤ n) (hn9 : n ≤ 9) (hb1 : bs1.length = n) (hb2 : bs2.length = n) (hcl : cs.length = n) (hptr : ∀ c ∈ cs, isPtr c.1 = true → 0 ≤ c.2 ∧ c.2 < (n : Int))
    (d1 : oc1.data = .cell (some (.ref fl))) (d2 : oc2.data = .cell (some (.ref sl)))
    (hdp : dp + 150 < recursionLimit) (hun : un + 800 < cLine)
    (hrest' : ∀ (h' : Heap) (tk' : Nat) (m' : Str → Option Value) (bo : Addr) (nvs : List Value) (nbo n5 : Nat) (tz : List (Addr × Obj)),
      Fr h₀ L h' (fun y => if y = Str.ofString "both" then some (.ref bo) else if y = Str.ofString "once" then some (.ref x) else if y = Str.ofString "rows" then some (.ref rl) else if y = Str.ofString "book" then some (.ref B) else m' y) →
      News h₀ L h' ((bo, listOf ((andb bs1 bs2).map Value.bool).toArray nbo) :: (x, instObj 323 dx) :: (dx, dictOf (cellEs w.params (.ref B) H St Tr t1 t2 t3 t4 t5 t6 t7 tm u1 u2) 7) :: (H, listOf nvs.toArray n5) :: (rl, listOf rvs.toArray na) :: tz) →
      Both (CellL h₀ tz) nvs (slid (andb bs1 bs2) cs) → Both (CellL h₀ tz) rvs cs → (∀ p ∈ tz, p.2.cls = .type "tuple") →
      wpAny (model PySem.Challenge.rw_rh0078_01.row.prog w) { handled := none, depth := dp, frames := fr, guards := gd, units := un } (execs (lawRest 22) (lawEnv L fa cd)) Q (fun _ _ => False) { s with heap := h', toks := tk' }) :
    wpAny (model PySem.Challenge.rw_rh0078_01.row.prog w) { handled := none, depth := dp, frames := fr, guards := gd, units := un } (execs (lawRest 20) (lawEnv L fa cd)) Q (fun _ _ => False) s := by
  revert X; k_fill; intro X
  have hkk := kept_length (bs := bs1) (l := bs2) (by omega)
  have hcn := cnt_le bs1
  have hsl := slid_length (bs := bs1) (cs := cs) (by omega)
  have hptr' : ∀ c ∈ cs, isPtr c.1 = true → 0 ≤ c.2 ∧ c.2 ≤ (n : Int) := fun c hc hp => ⟨(hptr c hc hp).1, by have := (hptr c hc hp).2; omega⟩
  have hsp := slid_ptr hb1 hptr'
  refine wpAny_execs_cons ?_
  k_steps
  refine Hold.mk (fwd_at (by assumption) (by assumption) X T (ml := le) (bs := kept bs1 bs2) (n := nl) (by k_mem) (by omega) rfl (by k_room) (by k_units) ?_)
  intro h3 tk3 Tb t2vs n3 F3 N3 ht3 o3
  have zx := (N3 _ (.tail _ (.tail _ (.head _)))).1
  have zdx := (N3 _ (.tail _ (.tail _ (.tail _ (.head _))))).1
  have zH := (N3 _ (.tail _ (.tail _ (.tail _ (.tail _ (.head _)))))).1
  have nxH := ne_cls zx zH ref_ne_type
  have ndH := ne_cls zdx zH (type_ne (by decide))
  have nxd := ne_cls zx zdx ref_ne_type
  simp only [List.forall_mem_cons] at o3
  have e9 : @Ne Nat Tb H := fun q => o3.2.2.2.1 q.symm
  have otl : OwnOff tl [H] := fun p hp b hb => by rw [List.mem_singleton.mp hb]; exact tl_off (fun p hp => N3 p (.tail _ (.tail _ (.tail _ (.tail _ (.tail _ (.tail _ (.tail _ (.tail _ (.tail _ (.tail _ hp))))))))))) htt zH (type_ne (by decide)) p hp
  k_steps
  refine Hold.mk (slide_at (x := x) (dx := dx) (H := H) (St := St) (Tr := Tr) (ml := le) (Tb := Tb) (sym := .ref B) (bs := kept bs1 bs2) (cs := slid bs1 cs) (by assumption) (by assumption) X T (by k_mem) (by k_mem) (by k_updF) (by k_mem) e3 (by k_mem) e9 ht3 (hnc.mono fun _ _ _ z => z.mono fun p hp => .tail _ (.tail _ (.tail _ (.tail _ (.tail _ (.tail _ (.tail _ (.tail _ (.tail _ (.tail _ hp)))))))))) (by omega) (by omega) (fun c hc hp => by rw [hkk]; exact hsp c hc hp) rfl (by k_room) (by k_units) ?_)
  intro h5 tk5 mvs n6 F5 N5 b5
  rw [slid_slid hb1 hb2 hcl hptr'] at b5
  obtain ⟨tc, Nc, htc, hmc⟩ := cells_ledger F5 b5
  obtain ⟨tz, htz⟩ : ∃ t, t = tc ++ tl := ⟨_, rfl⟩
  have hcs : Both (CellL h₀ tz) rvs cs := hcs.mono fun _ _ _ z => z.mono fun p hp => by rw [htz]; exact List.mem_append_right _ hp
  have hmc : Both (CellL h₀ tz) mvs (slid (andb bs1 bs2) cs) := hmc.mono fun _ _ _ z => z.mono fun p hp => by rw [htz]; exact List.mem_append_left _ hp
  have htt : ∀ p ∈ tz, p.2.cls = .type "tuple" := fun p hp => by
    rw [htz] at hp
    exact (List.mem_append.mp hp).elim (htc p) (htt p)
  have Nz : News h₀ L h5 tz := fun p hp => by
    rw [htz] at hp
    exact (List.mem_append.mp hp).elim (Nc p) fun hp => N5 _ (.tail _ (.tail _ (.tail _ (.tail _ (.tail _ (.tail _ (.tail _ (.tail _ (.tail _ (.tail _ (hp)))))))))))
  have N6 : News h₀ L h5 ((x, instObj 323 dx) :: (dx, dictOf (cellEs w.params (.ref B) H St Tr t1 t2 t3 t4 t5 t6 t7 tm u1 u2) 7) :: (H, listOf mvs.toArray n6) :: (sl, listOf (bs2.map Value.bool).toArray nc) :: (fl, listOf (bs1.map Value.bool).toArray nb) :: (rl, listOf rvs.toArray na) :: (L + 1 + 1, oc2) :: (L + 1, oc1) :: tz) := fun p hp => by
    simp only [List.mem_cons] at hp
    rcases hp with rfl | rfl | rfl | rfl | rfl | rfl | rfl | rfl | hp
    · exact N5 _ (.tail _ (.tail _ (.head _)))
    · exact N5 _ (.tail _ (.tail _ (.tail _ (.head _))))
    · exact N5 _ (.tail _ (.tail _ (.tail _ (.tail _ (.head _)))))
    · exact N5 _ (.tail _ (.tail _ (.tail _ (.tail _ (.tail _ (.head _))))))
    · exact N5 _ (.tail _ (.tail _ (.tail _ (.tail _ (.tail _ (.tail _ (.head _)))))))
    · exact N5 _ (.tail _ (.tail _ (.tail _ (.tail _ (.tail _ (.tail _ (.tail _ (.head _))))))))
    · exact N5 _ (.tail _ (.tail _ (.tail _ (.tail _ (.tail _ (.tail _ (.tail _ (.tail _ (.head _)))))))))
    · exact N5 _ (.tail _ (.tail _ (.tail _ (.tail _ (.tail _ (.tail _ (.tail _ (.tail _ (.tail _ (.head _))))))))))
    · exact Nz p hp
  clear N5 Nc Nz htc htz otl
  k_steps
  rename_i hrg F6 N7 hk1
  have hsz : Builtin.Range.rangeSize 0 (n : Int) 1 = (n : Int) := by rw [rangeSize_nat]; omega
  refine Hold.mk (LCg.CompSrc.range (n := n) rfl F6 N7 hrg (small_one (by omega) (by omega) (by omega) (by omega)) hsz (by simp only [sizeLine]; omega) ?_)
  intro g
  have hal := andb_length (as := bs1) (bs := bs2) (by omega)
  refine rest_ind n (fun i ys => ys = ((andb bs1 bs2).take i).map Value.bool) rfl ?_ ?_
  · intro ys hys
    rw [List.take_of_length_le (by omega)] at hys
    intro D h tk F8 N8 o8
    subst hys
    simp only [LCg.lst] at N8
    dsimp only
    have F9 := fr_re (a := Str.ofString "both") (v := .ref D) (fr_re (a := Str.ofString "once") (v := .ref x) (fr_re (a := Str.ofString "rows") (v := .ref rl) (fr_re (a := Str.ofString "book") (v := .ref B) F8 (by rfl)) (by rfl)) (by rfl)) (by rfl)
    refine hrest' _ _ _ D mvs (List.map Value.bool (andb bs1 bs2)).length n6 tz F9 (fun p hp => N8 p ?_) hmc hcs htt
    simp only [List.mem_cons] at hp
    rcases hp with rfl | rfl | rfl | rfl | rfl | hp
    · exact .head _
    · exact .tail _ (.head _)
    · exact .tail _ (.tail _ (.head _))
    · exact .tail _ (.tail _ (.tail _ (.head _)))
    · exact .tail _ (.tail _ (.tail _ (.tail _ (.tail _ (.tail _ (.head _))))))
    · exact .tail _ (.tail _ (.tail _ (.tail _ (.tail _ (.tail _ (.tail _ (.tail _ (.tail _ (hp)))))))))
  · rintro i ys v I oI C oC D m₂ h tk E' hi hys ⟨t, hv⟩ hC hx F8 N8 off ne
    rw [Int.zero_add] at hv
    subst hv
    have off0 := off
    simp only [LCg.Off3, and_true] at off
    obtain ⟨b1, hb1x⟩ : ∃ b, bs1[i]? = some b := ⟨_, List.getElem?_eq_getElem (by omega)⟩
    obtain ⟨b2, hb2x⟩ : ∃ b, bs2[i]? = some b := ⟨_, List.getElem?_eq_getElem (by omega)⟩
    have hx1 : (bs1.map Value.bool).toArray[((i : Nat) : Int).toNat]? = some (.bool b1) := by simp [hb1x]
    have hx2 : (bs2.map Value.bool).toArray[((i : Nat) : Int).toNat]? = some (.bool b2) := by simp [hb2x]
    have hl1 : (bs1.map Value.bool).length = n := by rw [List.length_map]; exact hb1
    have hl2 : (bs2.map Value.bool).length = n := by rw [List.length_map]; exact hb2
    have hab : (andb bs1 bs2)[i]? = some (b1 && b2) := by
      unfold andb
      rw [List.getElem?_zipWith, hb1x, hb2x]
    k_steps
    · rename (b1 = true) => hb
      refine LCg.CompEnd.intro F8 N8 _ (fun p hp => hp) off0 trivial ⟨rfl, ?_⟩
      rw [take_succ_of hab, List.map_append, hys, hb]
      rfl
    · rename (b1 = false) => hb
      refine LCg.CompEnd.intro F8 N8 _ (fun p hp => hp) off0 trivial ⟨rfl, ?_⟩
      rw [take_succ_of hab, List.map_append, hys, hb]
      rfl
end
end

section
local macro_rules | `(tactic| walk_at "binaryOp Mult ref int") => `(tactic| ((with_reducible show wpAny _ _ (binaryOp _ _ _) _ _ _); refine Hold.out ?_))
theorem rep_flat : ∀ k : Nat, (List.replicate k [Value.bool true]).flatten = (List.replicate k true).map Value.bool
  | 0 => rfl
  | k + 1 => by rw [List.replicate_succ, List.replicate_succ, List.flatten_cons, rep_flat k]; rfl
local macro_rules | `(tactic| walk_at "call ref") => `(tactic| ((with_reducible show wpAny _ _ (call (Value.ref 369) _) _ _ _); refine Hold.out ?_))
local macro_rules | `(tactic| walk_at "call ref") => `(tactic| ((with_reducible show wpAny _ _ (call (Value.ref 334) _) _ _ _); refine Hold.out ?_))
local macro_rules | `(tactic| walk_at "call ref") => `(tactic| ((with_reducible show wpAny _ _ (call (Value.ref 355) _) _ _ _); refine Hold.out ?_))
local macro_rules | `(tactic| walk_at "compareOp NotEq ref ref") => `(tactic| ((with_reducible show wpAny _ _ (compareOp _ _ _) _ _ _); refine Hold.out ?_))
local macro_rules | `(tactic| walk_at "compareOp Eq ref ref") => `(tactic| ((with_reducible show wpAny _ _ (compareOp _ _ _) _ _ _); refine Hold.out ?_))
section
variable {w : World} {mean : ExcName → Option Value} {mg mb : Str → Option Value}
theorem stage6 {dp un : Nat} {fr : Option (List Env)} {gd : Option (List Code)} {h₀ : Heap} {L rl B bo x dx H St Tr : Addr} {t1 t2 t3 t4 t5 t6 t7 tm u1 u2 : Tok} {fa : Addr} {cd : Value} {s : Shared} {m : Str → Option Value} {Q : Flow → Shared → Prop} {n na nbo n5 : Nat} {rvs nvs : List Value} {cs : List (Int × Int)} {bs : List Bool} {tl : List (Addr × Obj)}
    (X : (hd.heap_39 w.params).In h₀) (T : Top hd.view_39 (looseW hd.view_39 []) mean mg mb h₀)
    (F : Fr h₀ L s.heap (fun y => if y = Str.ofString "both" then some (.ref bo) else if y = Str.ofString "once" then some (.ref x) else if y = Str.ofString "rows" then some (.ref rl) else if y = Str.ofString "book" then some (.ref B) else m y))
    (N : News h₀ L s.heap ((bo, listOf (bs.map Value.bool).toArray nbo) :: (x, instObj 323 dx) :: (dx, dictOf (cellEs w.params (.ref B) H St Tr t1 t2 t3 t4 t5 t6 t7 tm u1 u2) 7) :: (H, listOf nvs.toArray n5) :: (rl, listOf rvs.toArray na) :: tl))
    (hnc : Both (CellL h₀ tl) nvs (slid bs cs)) (hcs : Both (CellL h₀ tl) rvs cs) (htt : ∀ p ∈ tl, p.2.cls = .type "tuple")
    (hn1 : 1 ≤ n) (hn9 : n ≤ 9) (hb : bs.length = n) (hcl : cs.length = n) (hptr : ∀ c ∈ cs, isPtr c.1 = true → 0 ≤ c.2 ∧ c.2 < (n : Int))
    (hdp : dp + 150 < recursionLimit) (hun : un + 800 < cLine)
    (hQ : ∀ (h' : Heap) (tk' : Nat) (m' : Str → Option Value), Fr h₀ L h' m' → Q (.ret (.bool true)) { s with heap := h', toks := tk' }) :
    wpAny (model PySem.Challenge.rw_rh0078_01.row.prog w) { handled := none, depth := dp, frames := fr, guards := gd, units := un } (execs (lawRest 22) (lawEnv L fa cd)) Q (fun _ _ => False) s := by
  revert X; k_fill; intro X
  have hcn := cnt_le bs
  have hsl := slid_length (bs := bs) (cs := cs) (by omega)
  have hptr' : ∀ c ∈ cs, isPtr c.1 = true → 0 ≤ c.2 ∧ c.2 ≤ (n : Int) := fun c hc hp => ⟨(hptr c hc hp).1, by have := (hptr c hc hp).2; omega⟩
  have hsp := slid_ptr hb hptr'
  have hrl := hcs.length
  have hr1 : rvs.length < 100 := by omega
  have hhv : ∀ v ∈ rvs, handedIn v = true := fun v hv => by
    obtain ⟨c, _, a, _, _, _, rfl, _⟩ := hcs.mem hv
    rfl
  refine wpAny_execs_cons ?_
  k_steps
  refine Hold.mk (filled_at (by assumption) (by assumption) X T (rl := rl) (rvs := rvs) (n := na) (by k_mem) (by omega) hhv rfl rfl (by k_room) (by k_units) ?_)
  intro h2 tk2 x2 dx2 H2 St2 Tr2 v1 v2 v3 v4 v5 v6 v7 vm w1 w2 n2 F2 N2 o2 of2
  k_steps
  refine Hold.mk (fwd_at (by assumption) (by assumption) X T (ml := bo) (bs := bs) (n := nbo) (by k_mem) (by omega) rfl (by k_room) (by k_units) ?_)
  intro h3 tk3 Tb t2vs n3 F3 N3 ht3 o3
  have zx := (N3 _ (.tail _ (.head _))).1
  have zdx := (N3 _ (.tail _ (.tail _ (.head _)))).1
  have zH := (N3 _ (.tail _ (.tail _ (.tail _ (.head _))))).1
  have zx1 := (N3 _ (.tail _ (.tail _ (.tail _ (.tail _ (.tail _ (.head _))))))).1
  have zdx1 := (N3 _ (.tail _ (.tail _ (.tail _ (.tail _ (.tail _ (.tail _ (.head _)))))))).1
  have zH1 := (N3 _ (.tail _ (.tail _ (.tail _ (.tail _ (.tail _ (.tail _ (.tail _ (.head _))))))))).1
  have nxH := ne_cls zx zH ref_ne_type
  have ndH := ne_cls zdx zH (type_ne (by decide))
  have nxd := ne_cls zx zdx ref_ne_type
  have nx1H := ne_cls zx1 zH ref_ne_type
  have nd1H := ne_cls zdx1 zH (type_ne (by decide))
  simp only [List.forall_mem_cons] at o2 o3
  obtain ⟨⟨_, _, e1⟩, ⟨_, _, e2⟩, ⟨_, _, e3⟩, ⟨_, _, e4⟩, ⟨_, _, e5⟩, otl⟩ := o2
  obtain ⟨_, _, e9, _⟩ := o3
  have e9' : @Ne Nat Tb H2 := fun q => e9 q.symm
  have otl : OwnOff tl [H2] := fun p hp b hb => by rw [List.mem_singleton.mp hb]; exact (otl p hp).2.2
  k_steps
  refine Hold.mk (slide_at (x := x2) (dx := dx2) (H := H2) (St := St2) (Tr := Tr2) (ml := bo) (Tb := Tb) (sym := .ref B) (bs := bs) (cs := cs) (by assumption) (by assumption) X T (by k_mem) (by k_mem) (by k_updF) (by k_mem) e1 (by k_mem) e9' ht3 (hcs.mono fun _ _ _ z => z.mono fun p hp => .tail _ (.tail _ (.tail _ (.tail _ (.tail _ (.tail _ (.tail _ (.tail _ (.tail _ hp))))))))) (by omega) (by omega) (fun c hc hp => by rw [hb]; exact hptr' c hc hp) rfl (by k_room) (by k_units) ?_)
  intro h5 tk5 mvs n6 F5 N5 b5
  obtain ⟨tc, Nc, htc, hmc⟩ := cells_ledger F5 b5
  have b6 : Both (CellV h5) nvs (slid bs cs) := hnc.mono fun _ _ _ z => z.heap F5 N5 fun p hp => .tail _ (.tail _ (.tail _ (.tail _ (.tail _ (.tail _ (.tail _ (.tail _ (.tail _ hp))))))))
  have zH5 := (N5 _ (.tail _ (.tail _ (.tail _ (.head _))))).1
  obtain ⟨tz, htz⟩ : ∃ t, t = tc ++ tl := ⟨_, rfl⟩
  have hnz : Both (CellL h₀ tz) nvs (slid bs cs) := hnc.mono fun _ _ _ z => z.mono fun p hp => by rw [htz]; exact List.mem_append_right _ hp
  have hmz : Both (CellL h₀ tz) mvs (slid bs cs) := hmc.mono fun _ _ _ z => z.mono fun p hp => by rw [htz]; exact List.mem_append_left _ hp
  have htt : ∀ p ∈ tz, p.2.cls = .type "tuple" := fun p hp => by
    rw [htz] at hp
    exact (List.mem_append.mp hp).elim (htc p) (htt p)
  have Nz : News h₀ L h5 tz := fun p hp => by
    rw [htz] at hp
    exact (List.mem_append.mp hp).elim (Nc p) fun hp => N5 _ (.tail _ (.tail _ (.tail _ (.tail _ (.tail _ (.tail _ (.tail _ (.tail _ (.tail _ (hp))))))))))
  have otz : OwnOff tz [H2] := fun p hp b hb => by rw [List.mem_singleton.mp hb]; exact tl_off Nz htt zH5 (type_ne (by decide)) p hp
  have N6 : News h₀ L h5 ((x2, instObj 323 dx2) :: (dx2, dictOf (cellEs w.params (.ref B) H2 St2 Tr2 v1 v2 v3 v4 v5 v6 v7 vm w1 w2) 7) :: (H2, listOf mvs.toArray n6) :: (x, instObj 323 dx) :: (dx, dictOf (cellEs w.params (.ref B) H St Tr t1 t2 t3 t4 t5 t6 t7 tm u1 u2) 7) :: (H, listOf nvs.toArray n5) :: tz) := fun p hp => by
    simp only [List.mem_cons] at hp
    rcases hp with rfl | rfl | rfl | rfl | rfl | rfl | hp
    · exact N5 _ (.tail _ (.head _))
    · exact N5 _ (.tail _ (.tail _ (.head _)))
    · exact N5 _ (.tail _ (.tail _ (.tail _ (.head _))))
    · exact N5 _ (.tail _ (.tail _ (.tail _ (.tail _ (.tail _ (.head _))))))
    · exact N5 _ (.tail _ (.tail _ (.tail _ (.tail _ (.tail _ (.tail _ (.head _)))))))
    · exact N5 _ (.tail _ (.tail _ (.tail _ (.tail _ (.tail _ (.tail _ (.tail _ (.head _))))))))
    · exact Nz p hp
  clear N5 Nc Nz otl
  have hml := b5.length
  have hm1 : mvs.length < 100 := by omega
  k_steps
  refine Hold.mk (ne_lists (a := H) (b := H2) (ds := (slid bs cs).map cellD) (News.get (by assumption) (by k_mem)) (News.get (by assumption) (by k_mem)) (readsC b6).choose_spec
    (readsC b5).choose_spec (layC _) (by decide) (by k_units) ?_)
  k_steps
  rename (x2 < _ ∧ _) => ll
  refine Hold.mk (kbo_mul (vs := [Value.bool true]) (bs := [true]) (by assumption) (by assumption) (by is_list) (.cons _ .nil) (by omega) (by omega) (by simp only [List.length_cons, List.length_nil]; omega) ?_)
  intro ev h7 F7 N7 l7 _ _ _ _ _ _ _
  rw [Int.toNat_natCast, rep_flat] at N7
  have hrl : (List.replicate mvs.length true).length = mvs.length := List.length_replicate
  have e11 : @Ne Nat ev H2 := Nat.ne_of_gt (l7 (H2, _) (.tail _ (.tail _ (.tail _ (.head _)))))
  k_steps
  refine Hold.mk (fwd_at (by assumption) (by assumption) X T (ml := ev) (bs := List.replicate mvs.length true) (n := 0) (by k_mem) (by omega) rfl (by k_room) (by k_units) ?_)
  intro h8 tk8 Tc t3vs n8 F8 N8 ht8 o8
  simp only [List.forall_mem_cons] at o8
  have e12 : @Ne Nat Tc H2 := fun q => o8.2.2.2.2.1 q.symm
  obtain ⟨_, _, l13, _⟩ := ll
  have e13 := Nat.ne_of_gt l13
  k_steps
  refine Hold.mk (slide_at (x := x2) (dx := dx2) (H := H2) (St := St2) (Tr := Tr2) (ml := ev) (Tb := Tc) (sym := .ref B) (bs := List.replicate mvs.length true) (cs := slid bs cs) (by assumption) (by assumption) X T (by k_mem) (by k_mem) (by k_updF) (by k_mem) e11 (by k_mem) e12 ht8 (hmz.mono fun _ _ _ z => z.mono fun p hp => .tail _ (.tail _ (.tail _ (.tail _ (.tail _ (.tail _ (.tail _ (.tail _ (.tail _ (hp)))))))))) (by omega) (by omega) (fun c hc hp => by rw [hrl, hml, hsl]; exact hsp c hc hp) rfl (by k_room) (by k_units) ?_)
  intro h9 tk9 lvs n9 F9 N9 b9
  rw [slid_true hml.symm (fun c hc hp => by rw [hml, hsl]; exact hsp c hc hp)] at b9
  k_steps
  refine Hold.mk (eq_lists (a := H) (b := H2) (ds := (slid bs cs).map cellD) (News.get (by assumption) (by k_mem)) (News.get (by assumption) (by k_mem)) (readsC (hnz.mono fun _ _ _ z => z.heap F9 N9 fun p hp => .tail _ (.tail _ (.tail _ (.tail _ (.tail _ (.tail _ (.tail _ (.tail _ (.tail _ (hp))))))))))).choose_spec
    (readsC b9).choose_spec (layC _) (by decide) (by k_units) ?_)
  k_steps
  exact hQ _ _ _ (by assumption)
end
end

section
section
variable {w : World} {mean : ExcName → Option Value} {mg mb : Str → Option Value}
theorem whole {dp un : Nat} {fr : Option (List Env)} {gd : Option (List Code)} {h₀ : Heap} {L S : Addr} {fa : Addr} {cd : Value} {s : Shared} {m : Str → Option Value} {Q : Flow → Shared → Prop} {vs : List Value} {ns : List Int} {o1 o2 : Obj}
    (X : (hd.heap_39 w.params).In h₀) (T : Top hd.view_39 (looseW hd.view_39 []) mean mg mb h₀) (F : Fr h₀ L s.heap (fun y => if y = Str.ofString "script" then some (.ref S) else m y))
    (N : News h₀ L s.heap [(L + 1 + 1, o2), (L + 1, o1)]) (d1 : o1.data = .cell none) (d2 : o2.data = .cell none) (hS : h₀.IsList S vs.toArray) (hi : IntsAre vs ns) (hn : ns.length ≤ 63)
    (hdp : dp + 150 < recursionLimit) (hun : un + 800 < cLine)
    (hQ : ∀ (h' : Heap) (tk' : Nat) (m' : Str → Option Value), Fr h₀ L h' m' → Q (.ret (.bool true)) { s with heap := h', toks := tk' }) :
    wpAny (model PySem.Challenge.rw_rh0078_01.row.prog w) { handled := none, depth := dp, frames := fr, guards := gd, units := un } (execs (lawRest 0) (lawEnv L fa cd)) Q (fun _ _ => False) s := by
  refine stage1 X T F N d1 d2 hS hi hn hdp hun ?_
  intro h1 tk1 m1 rl fl sl B n tn rvs cs bs1 bs2 na nb nc oc1 oc2 tl F1 N1 c1 c2 hn1 hn9 hb1 hb2 hcl hcs hptr
  refine stage2 (s := { s with heap := h1, toks := tk1 }) X T F1 N1 c1 c2 hn1 hn9 hb1 hb2 hdp hun ?_
  intro h2 tk2 m2 dt kl tvs kvs nd nk F2 N2 ht hk
  refine stage3 (s := { s with heap := h2, toks := tk2 }) X T F2 N2 ht hk hn1 hn9 hb1 hb2 hcl hcs hptr hdp hun ?_
  intro h3 tk3 m3 dh dvs nn tl' F3 N3 hdv hsub
  refine stage4 (tl := []) (s := { s with heap := h3, toks := tk3 }) X T F3 N3 hdv (hcs.mono fun _ _ _ z => z.mono hsub) hn1 hn9 hb1 hb2 hcl hptr ht c1 c2 hk hdp hun ?_
  intro h4 tk4 m4 le x dx H St Tr t1 t2 t3 t4 t5 t6 t7 tm u1 u2 nvs nl n5 tz F4 N4 hnc hcs4 htt e3 e4 e5 e6 e7 e8
  refine stage5 (s := { s with heap := h4, toks := tk4 }) X T F4 N4 hnc hcs4 htt e3 e4 e5 e6 e7 e8 hn1 hn9 hb1 hb2 hcl hptr c1 c2 hdp hun ?_
  intro h5 tk5 m5 bo nvs5 nbo n6 tz5 F5 N5 hnc5 hcs5 htt5
  exact stage6 (s := { s with heap := h5, toks := tk5 }) X T F5 N5 hnc5 hcs5 htt5 hn1 hn9 (by rw [andb_length (by omega)]; omega) hcl hptr hdp hun fun h' tk' m' F' => hQ h' tk' m' F'
end
end

section
theorem the_law : PySem.Challenge.rw_rh0078_01.Holds := by
  w_on; o_law
  refine holds_open (q := hd.view_39) (loose := []) (Xt := xt) (XP := XL hd.view_39 []) (Yf := Hook.obs (kHook hd.heap_39 asK asK_eq)) (Ya := Hook.val (kHook hd.heap_39 asK asK_eq)) (YP := Hook.says (kHook hd.heap_39 asK asK_eq)) (N := 4732) left (Hook.of (kHook hd.heap_39 asK asK_eq)) (Hook.keeps (kHook hd.heap_39 asK asK_eq)) (fun s e => xl_of s (Bool.and_eq_true_iff.mp e).1) XL.keeps (by rfl) (by rfl) (by rfl) (fun s e => recFacts_of (Bool.and_eq_true_iff.mp e).2) (by rfl) (by first | assumption | decide +kernel) (by decide +kernel) ⟨rfl, rfl, rfl, rfl, rfl, by decide +kernel⟩ ?hw ?hc
  case hw => w_witness2
  k_go0
  rename Fr _ _ _ _ => F0
  rename Top _ _ _ _ _ _ => T0
  rename (IntsAre _ _) => hi
  rename (Heap.IsList _ _ _) => hS
  rename PyProof.Rows.News _ _ _ _ => N0
  rename ((hd.heap_39 _).In _) => KX
  rename (¬ _ < _) => hlen
  rename_i d1 d2 X0
  have d1' := d1.trans (by with_unfolding_all rfl : _ = Data.cell none)
  have d2' := d2.trans (by with_unfolding_all rfl : _ = Data.cell none)
  have F1 := fr_re (a := Str.ofString "script") (v := .ref _) F0 (by with_unfolding_all rfl)
  show wpAny _ _ (execs (lawRest 0) (lawEnv _ _ _)) _ _ _
  refine wpAny_mono (whole KX T0 F1 N0 d2' d1' hS hi (by omega) ?hd ?hu ?hQ) (fun _ _ z => z) (fun _ _ z => z.elim)
  case hd => k_room
  case hu => k_units
  case hQ => 
    intro h' tk' m' Fz
    clear F0 F1 N0
    k_end; wrow_close
end

end Mine

theorem PySem.Challenge.cw_rh0078_01_holds : PySem.Challenge.rw_rh0078_01.Holds := by
  exact Mine.the_law
