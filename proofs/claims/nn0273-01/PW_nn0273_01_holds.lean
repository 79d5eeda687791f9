import PyProof.Rows.All
import Wide.All
import OpenK.AllK
import Wide.FinOn
import PySem.Challenge.RW_nn0273_01
open PySem PySem.W PyProof.Rows PySem.Calls
set_option Elab.async false
set_option maxRecDepth 100000
set_option linter.all false
noncomputable section
namespace Mine
/-! TH -/
/-! the head: the whole top is run once, by the kernel; of its heap only the exception class's own objects are looked at -/
noncomputable def vw : Program := view PySem.Challenge.pw_nn0273_01 [1,3,4,5,6,8,9,10,11,12,13,14,15,16,17,18,20,21,22,24,25,27,28,29,30,31,32,33,34,35,36,37,38,39,40,41,42,43,44,45,47,48,49,50,51,52,53,54,55,56,57,58,59,60,61]
noncomputable def defRec : Stmt → Option DefRec
  | .FunctionDef name params body _ _ _ scope _ _ pos => some ⟨name, params, body, scope, pos⟩
  | _ => none
noncomputable def noRec : DefRec := ⟨"", default, [], default, default⟩
noncomputable def clsBody : Stmt → Option (List Stmt)
  | .ClassDef _ _ _ body _ _ _ _ _ _ _ => some body
  | _ => none
noncomputable def initR : DefRec := ((((PySem.Challenge.pw_nn0273_01.main.body.filterMap clsBody).head?).getD []).filterMap defRec).head?.getD noRec
/-! the heap behind the opening, behind the class, in the middle and at the end of the top -/
noncomputable def oB2 (P : Params) : Obj := { cls := Value.none, data := Data.dict #[{ hash := PyData.keyHash P "type.__subclasses__.Exception.0", key := Value.str "type.__subclasses__.Exception.0" 216, val := Value.int 31 0 }, { hash := PyData.keyHash P "type.__subclasses__.Exception.n", key := Value.str "type.__subclasses__.Exception.n" 217, val := Value.int 1 0 }] 2 }
noncomputable def oB3 (P : Params) : Obj := { cls := Value.type "dict", data := Data.dict #[{ hash := PyData.keyHash P "__name__", key := Value.str "__name__" 165, val := Value.str "cas.errors" 187 }, { hash := PyData.keyHash P "__doc__", key := Value.str "__doc__" 166, val := Value.none }, { hash := PyData.keyHash P "__package__", key := Value.str "__package__" 167, val := Value.none }, { hash := PyData.keyHash P "__loader__", key := Value.str "__loader__" 168, val := Value.builtin "__main__.__loader__#opaque" }, { hash := PyData.keyHash P "__spec__", key := Value.str "__spec__" 169, val := Value.none }, { hash := PyData.keyHash P "__annotations__", key := Value.str "__annotations__" 170, val := Value.ref 6 }, { hash := PyData.keyHash P "__builtins__", key := Value.str "__builtins__" 171, val := Value.ref 4 }, { hash := PyData.keyHash P "__file__", key := Value.str "__file__" 173, val := Value.str "/claim/cut.py" 172 }, { hash := PyData.keyHash P "__cached__", key := Value.str "__cached__" 174, val := Value.none }, { hash := PyData.keyHash P "CasFail", key := Value.str "CasFail" 219, val := Value.ref 31 }] 10 }
noncomputable def oA11 : Obj := { cls := Value.type "tuple", data := Data.seq #[] }
noncomputable def oA12 : Obj := { cls := Value.none, data := Data.fields #[] }
noncomputable def oB12 : Obj := { cls := Value.none, data := Data.fields #[Value.int 2 0, Value.int 0 0, Value.ref 20] }
noncomputable def oA13 : Obj := { cls := Value.type "code", data := Data.fields #[Value.str "<module>" 182, Value.str "<module>" 183, Value.str "/claim/cut.py" 184, Value.int 1 0, Value.int 0 0, Value.int 0 0, Value.int 0 0, Value.int 0 0, Value.ref 11, Value.bool false, Value.int 181 0, Value.ref 12, Value.none, Value.none, Value.none, Value.none, Value.int 185 0, Value.int 1 0, Value.str "/claim/cut.py" 186] }
noncomputable def oA14 : Obj := { cls := Value.type "frame", slots := #[some (Value.ref 13), some (Value.ref 3), some (Value.ref 3), none, some (Value.str "__main__" 164), none, some (Value.ref 0)] }
noncomputable def oB15 : Obj := { cls := Value.type "tuple", data := Data.seq #[Value.type "Exception"] }
noncomputable def oB16 : Obj := { cls := Value.type "builtin_function_or_method", data := Data.fields #[Value.builtin "type.__prepare__", Value.type "type"] }
noncomputable def oB17 (P : Params) : Obj := { cls := Value.type "dict", data := Data.dict #[{ hash := PyData.keyHash P "__module__", key := Value.str "__module__" 196, val := Value.str "cas.errors" 187 }, { hash := PyData.keyHash P "__qualname__", key := Value.str "__qualname__" 198, val := Value.str "CasFail" 197 }, { hash := PyData.keyHash P "__firstlineno__", key := Value.str "__firstlineno__" 200, val := Value.int 2 199 }, { hash := PyData.keyHash P "__init__", key := Value.str "__init__" 209, val := Value.ref 28 }, { hash := PyData.keyHash P "__static_attributes__", key := Value.str "__static_attributes__" 212, val := Value.ref 29 }] 5 }
noncomputable def oB18 : Obj := { cls := Value.type "tuple", data := Data.seq #[] }
noncomputable def oB19 : Obj := { cls := Value.none, data := Data.fields #[Value.int 4 0, Value.int 4 0, Value.ref 27] }
noncomputable def oB20 : Obj := { cls := Value.type "code", data := Data.fields #[Value.str "CasFail" 191, Value.str "CasFail" 192, Value.str "/claim/cut.py" 193, Value.int 2 0, Value.int 0 0, Value.int 0 0, Value.int 0 0, Value.int 0 0, Value.ref 18, Value.bool false, Value.int 181 0, Value.ref 19, Value.none, Value.none, Value.none, Value.none, Value.int 194 0, Value.int 2 0, Value.str "/claim/cut.py" 195] }
noncomputable def oB21 : Obj := { cls := Value.type "frame", slots := #[some (Value.ref 20), some (Value.ref 3), some (Value.ref 17), none, some (Value.str "cas.errors" 187), none, some (Value.ref 0)] }
noncomputable def oB22 : Obj := { cls := Value.type "tuple", data := Data.seq #[] }
noncomputable def oB23 : Obj := { cls := Value.none, data := Data.fields #[] }
noncomputable def oB24 : Obj := { cls := Value.type "tuple", data := Data.seq #[Value.str "self" 204, Value.str "kind" 205, Value.str "text" 206] }
noncomputable def oB25 : Obj := { cls := Value.type "tuple", data := Data.seq #[] }
noncomputable def oB26 : Obj := { cls := Value.none, data := Data.func { name := "__init__", qualname := "CasFail.__init__", params := initR.params, body := .stmts initR.body, scope := initR.scope, globals := 0, closure := [], defaults := Value.none, kwdefaults := Value.none } }
noncomputable def oB27 : Obj := { cls := Value.type "code", data := Data.fields #[Value.str "__init__" 201, Value.str "CasFail.__init__" 202, Value.str "/claim/cut.py" 203, Value.int 4 0, Value.int 3 0, Value.int 0 0, Value.int 0 0, Value.int 3 0, Value.ref 22, Value.bool true, Value.int 181 0, Value.ref 23, Value.none, Value.ref 24, Value.ref 25, Value.ref 26, Value.int 207 0, Value.int 4 0, Value.str "/claim/cut.py" 208] }
noncomputable def oB28 : Obj := ⟨.type "function", none, .func (methDef "__init__" "CasFail.__init__" initR.params initR.body initR.scope (.str "cas.errors" 187) (.ref 27) .none), #[]⟩
noncomputable def oB29 : Obj := { cls := Value.type "tuple", data := Data.seq #[Value.str "kind" 210, Value.str "text" 211] }
noncomputable def oB30 (P : Params) : Obj := { cls := Value.type "dict", data := Data.dict #[{ hash := PyData.keyHash P "__module__", key := Value.str "__module__" 196, val := Value.str "cas.errors" 187 }, { hash := PyData.keyHash P "__firstlineno__", key := Value.str "__firstlineno__" 200, val := Value.int 2 199 }, { hash := PyData.keyHash P "__init__", key := Value.str "__init__" 209, val := Value.ref 28 }, { hash := PyData.keyHash P "__static_attributes__", key := Value.str "__static_attributes__" 212, val := Value.ref 29 }, { hash := PyData.keyHash P "__weakref__", key := Value.str "__weakref__" 214, val := Value.ref 32 }, { hash := PyData.keyHash P "__doc__", key := Value.str "__doc__" 215, val := Value.none }] 3 }
noncomputable def oB31 : Obj := { cls := Value.type "type", data := Data.cls { name := "CasFail", bases := [Value.type "Exception"], mro := [Value.ref 31, Value.type "Exception", Value.type "BaseException", Value.type "object"], ns := 30, qualname := "CasFail" }, slots := #[some (Value.ref 15), none, some (Value.str "CasFail" 189), some (Value.str "CasFail" 197), some (Value.builtin "Exception.__new__"), some (Value.bool true)] }
noncomputable def oB32 : Obj := { cls := Value.type "getset_descriptor", data := Data.fields #[Value.str "__weakref__" 213, Value.ref 31, Value.builtin "ExceptionGroup.__weakref__", Value.none] }
noncomputable def oB33 : Obj := { cls := Value.type "super", data := Data.fields #[Value.ref 31, Value.ref 31, Value.ref 31] }
noncomputable def oB34 : Obj := { cls := Value.type "builtin_function_or_method", data := Data.fields #[Value.builtin "object.__init_subclass__", Value.ref 31] }
noncomputable def hpA (P : Params) : Heap := ⟨#[boot_o_0 P, boot_o_1 P, boot_o_2 P, boot_o_3 P, boot_o_4 P, boot_o_5 P, boot_o_6 P, boot_o_7 P, boot_o_8 P, boot_o_9 P, boot_o_10 P, oA11, oA12, oA13, oA14], {}⟩
noncomputable def hpB (P : Params) : Heap := ⟨#[boot_o_0 P, boot_o_1 P, oB2 P, oB3 P, boot_o_4 P, boot_o_5 P, boot_o_6 P, boot_o_7 P, boot_o_8 P, boot_o_9 P, boot_o_10 P, oA11, oB12, oA13, oA14, oB15, oB16, oB17 P, oB18, oB19, oB20, oB21, oB22, oB23, oB24, oB25, oB26, oB27, oB28, oB29, oB30 P, oB31, oB32, oB33, oB34], {}⟩
noncomputable def drs : List DefRec := PySem.Challenge.pw_nn0273_01.main.body.filterMap defRec
noncomputable def dr (k : Nat) : DefRec := (drs[k]?).getD noRec
/-! the objects that the top makes: code, its tables, the shape and the function of each def -/
noncomputable def tN (l : List (Str × Nat)) : Obj := ⟨.type "tuple", none, .seq ⟨l.map fun x => .str x.1 x.2⟩, #[]⟩
noncomputable def eF : Obj := ⟨.none, none, .fields #[], #[]⟩
noncomputable def cdO (n : Str) (t : Nat) (ln ac nl : Int) (r k : Nat) : Obj := ⟨.type "code", none, .fields #[.str n t, .str n (t + 1), .str "/claim/cut.py" (t + 2), .int ln 0, .int ac 0, .int 0 0, .int 0 0, .int nl 0, .ref r, .bool true, .int 181 0, .ref (r + 1), .none, .ref (r + 2), .ref (r + 3), .ref (r + 4), .int k 0, .int ln 0, .str "/claim/cut.py" (k + 1)], #[]⟩
noncomputable def shO (n : Str) (k : Nat) : Obj := ⟨.none, none, .func { name := n, qualname := n, params := (dr k).params, body := .stmts (dr k).body, scope := (dr k).scope, globals := 0, closure := [], defaults := .none, kwdefaults := .none }, #[]⟩
noncomputable def fnO (n : Str) (k : Nat) (m : Str) (t a : Nat) : Obj := ⟨.type "function", none, .func (methDef n n (dr k).params (dr k).body (dr k).scope (.str m t) (.ref a) .none), #[]⟩
noncomputable def en (P : Params) (n : Str) (t : Nat) (v : Value) : DictEntry := ⟨PyData.keyHash P n, .str n t, v⟩
noncomputable def oM3 (P : Params) : Obj := ⟨.type "dict", none, .dict #[en P "__name__" 165 (.str "cas.fields" 433), en P "__doc__" 166 (.none), en P "__package__" 167 (.none), en P "__loader__" 168 (.builtin "__main__.__loader__#opaque"), en P "__spec__" 169 (.none), en P "__annotations__" 170 (.ref 6), en P "__builtins__" 171 (.ref 4), en P "__file__" 173 (.str "/claim/cut.py" 172), en P "__cached__" 174 (.none), en P "CasFail" 219 (.ref 31), en P "extended" 233 (.ref 41), en P "inverse_mod" 244 (.ref 48), en P "least_divisor" 253 (.ref 55), en P "prime_factors" 263 (.ref 62), en P "mtrim" 273 (.ref 69), en P "mdegree" 280 (.ref 76), en P "madd" 291 (.ref 83), en P "mneg" 297 (.ref 88), en P "msub" 306 (.ref 95), en P "mscale" 312 (.ref 100), en P "mmul" 326 (.ref 107), en P "mdivmod" 342 (.ref 114), en P "mrest" 351 (.ref 121), en P "mmonic" 359 (.ref 128), en P "mpower_mod" 371 (.ref 135), en P "mgcd" 382 (.ref 142), en P "mextended" 397 (.ref 149), en P "minverse" 409 (.ref 156), en P "counted" 420 (.ref 163), en P "is_prime_mod" 432 (.ref 170), en P "gf_size" 442 (.ref 177), en P "gf_things" 448 (.ref 182), en P "gf_multiply" 458 (.ref 189), en P "gf_inverse" 467 (.ref 196), en P "gf_divide" 477 (.ref 203)] 35, #[]⟩
noncomputable def oF3 (P : Params) : Obj := ⟨.type "dict", none, .dict #[en P "__name__" 165 (.str "law_nn0273_01" 625), en P "__doc__" 166 (.none), en P "__package__" 167 (.none), en P "__loader__" 168 (.builtin "__main__.__loader__#opaque"), en P "__spec__" 169 (.none), en P "__annotations__" 170 (.ref 6), en P "__builtins__" 171 (.ref 4), en P "__file__" 173 (.str "/claim/cut.py" 172), en P "__cached__" 174 (.none), en P "CasFail" 219 (.ref 31), en P "extended" 233 (.ref 41), en P "inverse_mod" 244 (.ref 48), en P "least_divisor" 253 (.ref 55), en P "prime_factors" 263 (.ref 62), en P "mtrim" 273 (.ref 69), en P "mdegree" 280 (.ref 76), en P "madd" 291 (.ref 83), en P "mneg" 297 (.ref 88), en P "msub" 306 (.ref 95), en P "mscale" 312 (.ref 100), en P "mmul" 326 (.ref 107), en P "mdivmod" 342 (.ref 114), en P "mrest" 351 (.ref 121), en P "mmonic" 359 (.ref 128), en P "mpower_mod" 371 (.ref 135), en P "mgcd" 382 (.ref 142), en P "mextended" 397 (.ref 149), en P "minverse" 409 (.ref 156), en P "counted" 420 (.ref 163), en P "is_prime_mod" 432 (.ref 170), en P "gf_size" 442 (.ref 177), en P "gf_things" 448 (.ref 182), en P "gf_multiply" 458 (.ref 189), en P "gf_inverse" 467 (.ref 196), en P "gf_divide" 477 (.ref 203), en P "gf_power" 489 (.ref 210), en P "gf_order" 502 (.ref 217), en P "gf_generator" 512 (.ref 224), en P "gf_logarithm" 530 (.ref 231), en P "gf_conjugates" 541 (.ref 238), en P "number_of" 548 (.ref 245), en P "gf_trace" 560 (.ref 252), en P "gf_norm" 572 (.ref 259), en P "gf_least" 578 (.ref 264), en P "gf_at" 590 (.ref 271), en P "gf_is_square" 599 (.ref 278), en P "moebius" 605 (.ref 283), en P "count_prime_polys" 615 (.ref 290), en P "first_prime_poly" 624 (.ref 297), en P "_law_draws" 632 (.ref 302), en P "_law_take" 640 (.ref 309), en P "_law_cut" 648 (.ref 316), en P "_law_times" 660 (.ref 323), en P "_law_left" 666 (.ref 328), en P "_law_counted" 677 (.ref 335), en P "_law_primes" 683 (.ref 340), en P "_law_mul" 693 (.ref 347), en P "_law_plus" 699 (.ref 352), en P "_law_raised" 711 (.ref 359), en P "_law_value" 717 (.ref 364), en P "_law_reckoned_right" 723 (.ref 369), en P "_law_orders_right" 729 (.ref 374), en P "_law_sums_right" 745 (.ref 381), en P "law" 751 (.ref 386)] 64, #[]⟩
noncomputable def oM12 : Obj := { cls := Value.none, data := Data.fields #[Value.int 2 0, Value.int 0 0, Value.ref 20, Value.int 9 0, Value.int 0 0, Value.ref 40, Value.int 16 0, Value.int 0 0, Value.ref 47, Value.int 19 0, Value.int 0 0, Value.ref 54, Value.int 26 0, Value.int 0 0, Value.ref 61, Value.int 36 0, Value.int 0 0, Value.ref 68, Value.int 41 0, Value.int 0 0, Value.ref 75, Value.int 43 0, Value.int 0 0, Value.ref 82, Value.int 48 0, Value.int 0 0, Value.ref 87, Value.int 50 0, Value.int 0 0, Value.ref 94, Value.int 52 0, Value.int 0 0, Value.ref 99, Value.int 54 0, Value.int 0 0, Value.ref 106, Value.int 63 0, Value.int 0 0, Value.ref 113, Value.int 73 0, Value.int 0 0, Value.ref 120, Value.int 75 0, Value.int 0 0, Value.ref 127, Value.int 77 0, Value.int 0 0, Value.ref 134, Value.int 87 0, Value.int 0 0, Value.ref 141, Value.int 91 0, Value.int 0 0, Value.ref 148, Value.int 101 0, Value.int 0 0, Value.ref 155, Value.int 105 0, Value.int 0 0, Value.ref 162, Value.int 111 0, Value.int 0 0, Value.ref 169, Value.int 121 0, Value.int 0 0, Value.ref 176, Value.int 123 0, Value.int 0 0, Value.ref 181, Value.int 125 0, Value.int 0 0, Value.ref 188, Value.int 127 0, Value.int 0 0, Value.ref 195, Value.int 131 0, Value.int 0 0, Value.ref 202] }
noncomputable def oF12 : Obj := { cls := Value.none, data := Data.fields #[Value.int 2 0, Value.int 0 0, Value.ref 20, Value.int 9 0, Value.int 0 0, Value.ref 40, Value.int 16 0, Value.int 0 0, Value.ref 47, Value.int 19 0, Value.int 0 0, Value.ref 54, Value.int 26 0, Value.int 0 0, Value.ref 61, Value.int 36 0, Value.int 0 0, Value.ref 68, Value.int 41 0, Value.int 0 0, Value.ref 75, Value.int 43 0, Value.int 0 0, Value.ref 82, Value.int 48 0, Value.int 0 0, Value.ref 87, Value.int 50 0, Value.int 0 0, Value.ref 94, Value.int 52 0, Value.int 0 0, Value.ref 99, Value.int 54 0, Value.int 0 0, Value.ref 106, Value.int 63 0, Value.int 0 0, Value.ref 113, Value.int 73 0, Value.int 0 0, Value.ref 120, Value.int 75 0, Value.int 0 0, Value.ref 127, Value.int 77 0, Value.int 0 0, Value.ref 134, Value.int 87 0, Value.int 0 0, Value.ref 141, Value.int 91 0, Value.int 0 0, Value.ref 148, Value.int 101 0, Value.int 0 0, Value.ref 155, Value.int 105 0, Value.int 0 0, Value.ref 162, Value.int 111 0, Value.int 0 0, Value.ref 169, Value.int 121 0, Value.int 0 0, Value.ref 176, Value.int 123 0, Value.int 0 0, Value.ref 181, Value.int 125 0, Value.int 0 0, Value.ref 188, Value.int 127 0, Value.int 0 0, Value.ref 195, Value.int 131 0, Value.int 0 0, Value.ref 202, Value.int 133 0, Value.int 0 0, Value.ref 209, Value.int 144 0, Value.int 0 0, Value.ref 216, Value.int 153 0, Value.int 0 0, Value.ref 223, Value.int 158 0, Value.int 0 0, Value.ref 230, Value.int 174 0, Value.int 0 0, Value.ref 237, Value.int 180 0, Value.int 0 0, Value.ref 244, Value.int 182 0, Value.int 0 0, Value.ref 251, Value.int 188 0, Value.int 0 0, Value.ref 258, Value.int 194 0, Value.int 0 0, Value.ref 263, Value.int 202 0, Value.int 0 0, Value.ref 270, Value.int 207 0, Value.int 0 0, Value.ref 277, Value.int 209 0, Value.int 0 0, Value.ref 282, Value.int 214 0, Value.int 0 0, Value.ref 289, Value.int 220 0, Value.int 0 0, Value.ref 296, Value.int 226 0, Value.int 0 0, Value.ref 301, Value.int 231 0, Value.int 0 0, Value.ref 308, Value.int 236 0, Value.int 0 0, Value.ref 315, Value.int 241 0, Value.int 0 0, Value.ref 322, Value.int 247 0, Value.int 0 0, Value.ref 327, Value.int 253 0, Value.int 0 0, Value.ref 334, Value.int 259 0, Value.int 0 0, Value.ref 339, Value.int 267 0, Value.int 0 0, Value.ref 346, Value.int 269 0, Value.int 0 0, Value.ref 351, Value.int 273 0, Value.int 0 0, Value.ref 358, Value.int 278 0, Value.int 0 0, Value.ref 363, Value.int 284 0, Value.int 0 0, Value.ref 368, Value.int 300 0, Value.int 0 0, Value.ref 373, Value.int 315 0, Value.int 0 0, Value.ref 380, Value.int 330 0, Value.int 0 0, Value.ref 385] }
noncomputable def obM : List Obj := [oA11, eF, tN [("a", 225), ("b", 226), ("one", 227), ("other", 228), ("times", 229), ("rest", 230)], oA11, shO "extended" 0, cdO "extended" 222 9 2 3 35 231, fnO "extended" 0 "cas.ints" 220 40, oA11, eF, tN [("a", 237), ("m", 238), ("g", 239), ("s", 240), ("t", 241)], oA11, shO "inverse_mod" 1, cdO "inverse_mod" 234 16 2 3 42 242, fnO "inverse_mod" 1 "cas.ints" 220 47, oA11, eF, tN [("n", 248), ("begin", 249), ("found", 250)], oA11, shO "least_divisor" 2, cdO "least_divisor" 245 19 2 3 49 251, fnO "least_divisor" 2 "cas.ints" 220 54, oA11, eF, tN [("n", 257), ("found", 258), ("prime", 259), ("many", 260)], oA11, shO "prime_factors" 3, cdO "prime_factors" 254 26 1 3 56 261, fnO "prime_factors" 3 "cas.ints" 220 61, oA11, eF, tN [("a", 269), ("many", 270)], oA11, shO "mtrim" 4, cdO "mtrim" 266 36 1 3 63 271, fnO "mtrim" 4 "cas.mpoly" 264 68, oA11, eF, tN [("a", 277)], oA11, shO "mdegree" 5, cdO "mdegree" 274 41 1 3 70 278, fnO "mdegree" 5 "cas.mpoly" 264 75, oA11, eF, tN [("a", 284), ("b", 285), ("p", 286), ("found", 287), ("at", 288)], oA11, shO "madd" 6, cdO "madd" 281 43 3 3 77 289, fnO "madd" 6 "cas.mpoly" 264 82, oA11, eF, shO "mneg" 7, ({ cls := Value.type "code", data := Data.fields #[Value.str "mneg" 292, Value.str "mneg" 293, Value.str "/claim/cut.py" 294, Value.int 48 0, Value.int 2 0, Value.int 0 0, Value.int 0 0, Value.int 3 0, Value.ref 84, Value.bool true, Value.int 181 0, Value.ref 85, Value.none, Value.none, Value.none, Value.ref 86, Value.int 295 0, Value.int 48 0, Value.str "/claim/cut.py" 296] }), fnO "mneg" 7 "cas.mpoly" 264 87, oA11, eF, tN [("a", 301), ("b", 302), ("p", 303)], oA11, shO "msub" 8, cdO "msub" 298 50 3 3 89 304, fnO "msub" 8 "cas.mpoly" 264 94, oA11, eF, shO "mscale" 9, ({ cls := Value.type "code", data := Data.fields #[Value.str "mscale" 307, Value.str "mscale" 308, Value.str "/claim/cut.py" 309, Value.int 52 0, Value.int 3 0, Value.int 0 0, Value.int 0 0, Value.int 3 0, Value.ref 96, Value.bool true, Value.int 181 0, Value.ref 97, Value.none, Value.none, Value.none, Value.ref 98, Value.int 310 0, Value.int 52 0, Value.str "/claim/cut.py" 311] }), fnO "mscale" 9 "cas.mpoly" 264 99, oA11, eF, tN [("a", 316), ("b", 317), ("p", 318), ("found", 319), ("at", 320), ("one", 321), ("spot", 322), ("other", 323)], oA11, shO "mmul" 10, cdO "mmul" 313 54 3 3 101 324, fnO "mmul" 10 "cas.mpoly" 264 106, oA11, eF, tN [("a", 330), ("b", 331), ("p", 332), ("rest", 333), ("quotient", 334), ("turn", 335), ("at", 336), ("number", 337), ("spot", 338), ("other", 339)], oA11, shO "mdivmod" 11, cdO "mdivmod" 327 63 3 3 108 340, fnO "mdivmod" 11 "cas.mpoly" 264 113, oA11, eF, tN [("a", 346), ("b", 347), ("p", 348)], oA11, shO "mrest" 12, cdO "mrest" 343 73 3 3 115 349, fnO "mrest" 12 "cas.mpoly" 264 120, oA11, eF, tN [("a", 355), ("p", 356)], oA11, shO "mmonic" 13, cdO "mmonic" 352 75 2 3 122 357, fnO "mmonic" 13 "cas.mpoly" 264 127, oA11, eF, tN [("a", 363), ("n", 364), ("f", 365), ("p", 366), ("found", 367), ("square", 368)], oA11, shO "mpower_mod" 14, cdO "mpower_mod" 360 77 4 3 129 369, fnO "mpower_mod" 14 "cas.mpoly" 264 134, oA11, eF, tN [("a", 377), ("b", 378), ("p", 379)], oA11, shO "mgcd" 15, cdO "mgcd" 374 87 3 3 136 380, fnO "mgcd" 15 "cas.mgcd" 372 141, oA11, eF, tN [("a", 386), ("b", 387), ("p", 388), ("one", 389), ("other", 390), ("quotient", 391), ("rest", 392), ("later", 393), ("turn", 394)], oA11, shO "mextended" 16, cdO "mextended" 383 91 3 3 143 395, fnO "mextended" 16 "cas.mgcd" 372 148, oA11, eF, tN [("a", 401), ("f", 402), ("p", 403), ("common", 404), ("s", 405), ("t", 406)], oA11, shO "minverse" 17, cdO "minverse" 398 101 3 3 150 407, fnO "minverse" 17 "cas.mgcd" 372 155, oA11, eF, tN [("number", 415), ("p", 416), ("found", 417)], oA11, shO "counted" 18, cdO "counted" 412 105 2 3 157 418, fnO "counted" 18 "cas.splitting" 410 162, oA11, eF, tN [("f", 424), ("p", 425), ("many", 426), ("divisor", 427), ("times", 428), ("power", 429)], oA11, shO "is_prime_mod" 19, cdO "is_prime_mod" 421 111 2 3 164 430, fnO "is_prime_mod" 19 "cas.splitting" 410 169, oA11, eF, tN [("m", 438), ("p", 439)], oA11, shO "gf_size" 20, cdO "gf_size" 435 121 2 3 171 440, fnO "gf_size" 20 "cas.fields" 433 176, oA11, eF, shO "gf_things" 21, ({ cls := Value.type "code", data := Data.fields #[Value.str "gf_things" 443, Value.str "gf_things" 444, Value.str "/claim/cut.py" 445, Value.int 123 0, Value.int 2 0, Value.int 0 0, Value.int 0 0, Value.int 3 0, Value.ref 178, Value.bool true, Value.int 181 0, Value.ref 179, Value.none, Value.none, Value.none, Value.ref 180, Value.int 446 0, Value.int 123 0, Value.str "/claim/cut.py" 447] }), fnO "gf_things" 21 "cas.fields" 433 181, oA11, eF, tN [("a", 452), ("b", 453), ("m", 454), ("p", 455)], oA11, shO "gf_multiply" 22, cdO "gf_multiply" 449 125 4 3 183 456, fnO "gf_multiply" 22 "cas.fields" 433 188, oA11, eF, tN [("a", 462), ("m", 463), ("p", 464)], oA11, shO "gf_inverse" 23, cdO "gf_inverse" 459 127 3 3 190 465, fnO "gf_inverse" 23 "cas.fields" 433 195, oA11, eF, tN [("a", 471), ("b", 472), ("m", 473), ("p", 474)], oA11, shO "gf_divide" 24, cdO "gf_divide" 468 131 4 3 197 475, fnO "gf_divide" 24 "cas.fields" 433 202]
noncomputable def obF : List Obj := [oA11, eF, tN [("a", 481), ("n", 482), ("m", 483), ("p", 484), ("found", 485), ("square", 486)], oA11, shO "gf_power" 25, cdO "gf_power" 478 133 4 3 204 487, fnO "gf_power" 25 "cas.fields" 433 209, oA11, eF, tN [("a", 493), ("m", 494), ("p", 495), ("order", 496), ("prime", 497), ("many", 498), ("turn", 499)], oA11, shO "gf_order" 26, cdO "gf_order" 490 144 3 3 211 500, fnO "gf_order" 26 "cas.fields" 433 216, oA11, eF, tN [("m", 506), ("p", 507), ("number", 508), ("wanted", 509)], oA11, shO "gf_generator" 27, cdO "gf_generator" 503 153 2 3 218 510, fnO "gf_generator" 27 "cas.fields" 433 223, oA11, eF, tN [("a", 516), ("base", 517), ("m", 518), ("p", 519), ("order", 520), ("width", 521), ("small", 522), ("power", 523), ("at", 524), ("turn", 525), ("here", 526), ("great", 527)], oA11, shO "gf_logarithm" 28, cdO "gf_logarithm" 513 158 4 3 225 528, fnO "gf_logarithm" 28 "cas.fields" 433 230, oA11, eF, tN [("a", 534), ("m", 535), ("p", 536), ("found", 537), ("here", 538)], oA11, shO "gf_conjugates" 29, cdO "gf_conjugates" 531 174 3 3 232 539, fnO "gf_conjugates" 29 "cas.fields" 433 237, oA11, eF, tN [("a", 545)], oA11, shO "number_of" 30, cdO "number_of" 542 180 1 3 239 546, fnO "number_of" 30 "cas.fields" 433 244, oA11, eF, tN [("a", 552), ("m", 553), ("p", 554), ("found", 555), ("here", 556), ("turn", 557)], oA11, shO "gf_trace" 31, cdO "gf_trace" 549 182 3 3 246 558, fnO "gf_trace" 31 "cas.fields" 433 251, oA11, eF, tN [("a", 564), ("m", 565), ("p", 566), ("found", 567), ("here", 568), ("turn", 569)], oA11, shO "gf_norm" 32, cdO "gf_norm" 561 188 3 3 253 570, fnO "gf_norm" 32 "cas.fields" 433 258, oA11, eF, shO "gf_least" 33, ({ cls := Value.type "code", data := Data.fields #[Value.str "gf_least" 573, Value.str "gf_least" 574, Value.str "/claim/cut.py" 575, Value.int 194 0, Value.int 3 0, Value.int 0 0, Value.int 0 0, Value.int 3 0, Value.ref 260, Value.bool true, Value.int 181 0, Value.ref 261, Value.none, Value.none, Value.none, Value.ref 262, Value.int 576 0, Value.int 194 0, Value.str "/claim/cut.py" 577] }), fnO "gf_least" 33 "cas.fields" 433 263, oA11, eF, tN [("f", 582), ("a", 583), ("m", 584), ("p", 585), ("found", 586), ("number", 587)], oA11, shO "gf_at" 34, cdO "gf_at" 579 202 4 3 265 588, fnO "gf_at" 34 "cas.fields" 433 270, oA11, eF, tN [("a", 594), ("m", 595), ("p", 596)], oA11, shO "gf_is_square" 35, cdO "gf_is_square" 591 207 3 3 272 597, fnO "gf_is_square" 35 "cas.fields" 433 277, oA11, eF, shO "moebius" 36, ({ cls := Value.type "code", data := Data.fields #[Value.str "moebius" 600, Value.str "moebius" 601, Value.str "/claim/cut.py" 602, Value.int 209 0, Value.int 1 0, Value.int 0 0, Value.int 0 0, Value.int 3 0, Value.ref 279, Value.bool true, Value.int 181 0, Value.ref 280, Value.none, Value.none, Value.none, Value.ref 281, Value.int 603 0, Value.int 209 0, Value.str "/claim/cut.py" 604] }), fnO "moebius" 36 "cas.fields" 433 282, oA11, eF, tN [("p", 609), ("k", 610), ("found", 611), ("divisor", 612)], oA11, shO "count_prime_polys" 37, cdO "count_prime_polys" 606 214 2 3 284 613, fnO "count_prime_polys" 37 "cas.fields" 433 289, oA11, eF, tN [("p", 619), ("k", 620), ("number", 621)], oA11, shO "first_prime_poly" 38, cdO "first_prime_poly" 616 220 2 3 291 622, fnO "first_prime_poly" 38 "cas.fields" 433 296, oA11, eF, shO "_law_draws" 39, ({ cls := Value.type "code", data := Data.fields #[Value.str "_law_draws" 627, Value.str "_law_draws" 628, Value.str "/claim/cut.py" 629, Value.int 226 0, Value.int 1 0, Value.int 0 0, Value.int 0 0, Value.int 3 0, Value.ref 298, Value.bool true, Value.int 181 0, Value.ref 299, Value.none, Value.none, Value.none, Value.ref 300, Value.int 630 0, Value.int 226 0, Value.str "/claim/cut.py" 631] }), fnO "_law_draws" 39 "law_nn0273_01" 625 301, oA11, eF, tN [("draws", 636), ("many", 637)], oA11, shO "_law_take" 40, cdO "_law_take" 633 231 2 3 303 638, fnO "_law_take" 40 "law_nn0273_01" 625 308, oA11, eF, tN [("a", 644), ("found", 645)], oA11, shO "_law_cut" 41, cdO "_law_cut" 641 236 1 3 310 646, fnO "_law_cut" 41 "law_nn0273_01" 625 315, oA11, eF, tN [("a", 652), ("b", 653), ("p", 654), ("found", 655), ("at", 656), ("spot", 657)], oA11, shO "_law_times" 42, cdO "_law_times" 649 241 3 3 317 658, fnO "_law_times" 42 "law_nn0273_01" 625 322, oA11, eF, shO "_law_left" 43, ({ cls := Value.type "code", data := Data.fields #[Value.str "_law_left" 661, Value.str "_law_left" 662, Value.str "/claim/cut.py" 663, Value.int 247 0, Value.int 3 0, Value.int 0 0, Value.int 0 0, Value.int 3 0, Value.ref 324, Value.bool true, Value.int 181 0, Value.ref 325, Value.none, Value.none, Value.none, Value.ref 326, Value.int 664 0, Value.int 247 0, Value.str "/claim/cut.py" 665] }), fnO "_law_left" 43 "law_nn0273_01" 625 327, oA11, eF, tN [("number", 670), ("size", 671), ("p", 672), ("found", 673), ("turn", 674)], oA11, shO "_law_counted" 44, cdO "_law_counted" 667 253 3 3 329 675, fnO "_law_counted" 44 "law_nn0273_01" 625 334, oA11, eF, shO "_law_primes" 45, ({ cls := Value.type "code", data := Data.fields #[Value.str "_law_primes" 678, Value.str "_law_primes" 679, Value.str "/claim/cut.py" 680, Value.int 259 0, Value.int 2 0, Value.int 0 0, Value.int 0 0, Value.int 3 0, Value.ref 336, Value.bool true, Value.int 181 0, Value.ref 337, Value.none, Value.none, Value.none, Value.ref 338, Value.int 681 0, Value.int 259 0, Value.str "/claim/cut.py" 682] }), fnO "_law_primes" 45 "law_nn0273_01" 625 339, oA11, eF, tN [("a", 687), ("b", 688), ("m", 689), ("p", 690)], oA11, shO "_law_mul" 46, cdO "_law_mul" 684 267 4 3 341 691, fnO "_law_mul" 46 "law_nn0273_01" 625 346, oA11, eF, shO "_law_plus" 47, ({ cls := Value.type "code", data := Data.fields #[Value.str "_law_plus" 694, Value.str "_law_plus" 695, Value.str "/claim/cut.py" 696, Value.int 269 0, Value.int 3 0, Value.int 0 0, Value.int 0 0, Value.int 3 0, Value.ref 348, Value.bool true, Value.int 181 0, Value.ref 349, Value.none, Value.none, Value.none, Value.ref 350, Value.int 697 0, Value.int 269 0, Value.str "/claim/cut.py" 698] }), fnO "_law_plus" 47 "law_nn0273_01" 625 351, oA11, eF, tN [("a", 703), ("n", 704), ("m", 705), ("p", 706), ("found", 707), ("turn", 708)], oA11, shO "_law_raised" 48, cdO "_law_raised" 700 273 4 3 353 709, fnO "_law_raised" 48 "law_nn0273_01" 625 358, oA11, eF, shO "_law_value" 49, ({ cls := Value.type "code", data := Data.fields #[Value.str "_law_value" 712, Value.str "_law_value" 713, Value.str "/claim/cut.py" 714, Value.int 278 0, Value.int 4 0, Value.int 0 0, Value.int 0 0, Value.int 3 0, Value.ref 360, Value.bool true, Value.int 181 0, Value.ref 361, Value.none, Value.none, Value.none, Value.ref 362, Value.int 715 0, Value.int 278 0, Value.str "/claim/cut.py" 716] }), fnO "_law_value" 49 "law_nn0273_01" 625 363, oA11, eF, shO "_law_reckoned_right" 50, ({ cls := Value.type "code", data := Data.fields #[Value.str "_law_reckoned_right" 718, Value.str "_law_reckoned_right" 719, Value.str "/claim/cut.py" 720, Value.int 284 0, Value.int 5 0, Value.int 0 0, Value.int 0 0, Value.int 3 0, Value.ref 365, Value.bool true, Value.int 181 0, Value.ref 366, Value.none, Value.none, Value.none, Value.ref 367, Value.int 721 0, Value.int 284 0, Value.str "/claim/cut.py" 722] }), fnO "_law_reckoned_right" 50 "law_nn0273_01" 625 368, oA11, eF, shO "_law_orders_right" 51, ({ cls := Value.type "code", data := Data.fields #[Value.str "_law_orders_right" 724, Value.str "_law_orders_right" 725, Value.str "/claim/cut.py" 726, Value.int 300 0, Value.int 3 0, Value.int 0 0, Value.int 0 0, Value.int 3 0, Value.ref 370, Value.bool true, Value.int 181 0, Value.ref 371, Value.none, Value.none, Value.none, Value.ref 372, Value.int 727 0, Value.int 300 0, Value.str "/claim/cut.py" 728] }), fnO "_law_orders_right" 51 "law_nn0273_01" 625 373, oA11, eF, tN [("a", 733), ("m", 734), ("p", 735), ("whole", 736), ("product", 737), ("here", 738), ("turn", 739), ("least", 740), ("size", 741), ("number", 742)], oA11, shO "_law_sums_right" 52, cdO "_law_sums_right" 730 315 3 3 375 743, fnO "_law_sums_right" 52 "law_nn0273_01" 625 380, oA11, eF, shO "law" 53, ({ cls := Value.type "code", data := Data.fields #[Value.str "law" 746, Value.str "law" 747, Value.str "/claim/cut.py" 748, Value.int 330 0, Value.int 1 0, Value.int 0 0, Value.int 0 0, Value.int 3 0, Value.ref 382, Value.bool true, Value.int 181 0, Value.ref 383, Value.none, Value.none, Value.none, Value.ref 384, Value.int 749 0, Value.int 330 0, Value.str "/claim/cut.py" 750] }), fnO "law" 53 "law_nn0273_01" 625 385]
noncomputable def hpM (P : Params) : Heap := ⟨⟨[boot_o_0 P, boot_o_1 P, oB2 P, oM3 P, boot_o_4 P, boot_o_5 P, boot_o_6 P, boot_o_7 P, boot_o_8 P, boot_o_9 P, boot_o_10 P, oA11, oM12, oA13, oA14, oB15, oB16, oB17 P, oB18, oB19, oB20, oB21, oB22, oB23, oB24, oB25, oB26, oB27, oB28, oB29, oB30 P, oB31, oB32, oB33, oB34] ++ obM⟩, {}⟩
noncomputable def hpF (P : Params) : Heap := ⟨⟨[boot_o_0 P, boot_o_1 P, oB2 P, oF3 P, boot_o_4 P, boot_o_5 P, boot_o_6 P, boot_o_7 P, boot_o_8 P, boot_o_9 P, boot_o_10 P, oA11, oF12, oA13, oA14, oB15, oB16, oB17 P, oB18, oB19, oB20, oB21, oB22, oB23, oB24, oB25, oB26, oB27, oB28, oB29, oB30 P, oB31, oB32, oB33, oB34] ++ (obM ++ obF)⟩, {}⟩
noncomputable def kF (P : Params) : Frag := [(31, oB31), (30, oB30 P), (28, oB28), (27, oB27)]
/-- what an object that is a namespace holds under a name -/
noncomputable def dictVal (x : Str) (o : Option Obj) : Option Value := match o with
  | some ⟨_, _, .dict es _, _⟩ => (es.toList.find? (·.key.isStr x)).map (·.val)
  | _ => none
noncomputable def kH : Hook where
  α := List (Option Obj) × Option Value
  obs := fun s => ([31, 30, 28, 27].map s.heap.get?, dictVal "CasFail" (s.heap.get? mainGlobals))
  val := fun w => ((kF w.params).map fun p => some p.2, some (.ref 31))
  says := fun w h => InK kF w h ∧ dictVal "CasFail" (h.get? mainGlobals) = some (.ref 31)
  of := fun w s e => ⟨InK.of (as := [31, 30, 28, 27]) (fun _ => rfl) w s (congrArg Prod.fst e), congrArg Prod.snd e⟩
  keeps := fun w h h' x k => ⟨InK.keeps w h h' x.1 k, by
    have y := x.2
    cases e : h.get? mainGlobals with
    | none => rw [e] at y; cases y
    | some o => rw [e] at y; rw [k _ _ e]; exact y⟩
theorem mg_dict {h : Heap} {m : Str → Option Value} {x : Str} {v : Value} {N : Addr} (G : h.Ns N m) (e : dictVal x (h.get? N) = some v) : m x = some v := by
  obtain ⟨o, es, ep, ho, hd, _, hf⟩ := G
  rw [ho] at e
  obtain ⟨c, d, dt, sl⟩ := o
  cases hd
  unfold dictVal at e
  rw [← hf]
  unfold nsFind findBy
  rw [← Array.find?_toList]
  dsimp only at e
  cases q : es.toList.find? (·.key.isStr x) with
  | none => rw [q] at e; cases e
  | some en => rw [q] at e; cases e; rfl
noncomputable def bodyW : List Stmt := behindTheImports PySem.Challenge.pw_nn0273_01
noncomputable def envW : Env := { scope := PySem.Challenge.pw_nn0273_01.main.scope, locals := mainNs, globals := mainNs, cells := [], code := .ref 13, frame := some 14 }
noncomputable def cW : Code := .body bodyW envW
noncomputable def pos0 : Pos := ⟨0, 0, 0, 0⟩
noncomputable def posB : Pos := ⟨2, 0, 7, 24⟩
noncomputable def posM : Pos := ⟨131, 0, 132, 52⟩
noncomputable def posF : Pos := ⟨330, 0, 346, 15⟩
theorem pre_go : ∀ (w : World) (os : OsState), topGo treeTable PySem.Challenge.pw_nn0273_01 w 11 (some (.ref 6)) 12 ⟨boot_heap w.params, #[], boot_drawn, boot_toks, os⟩ (topStub PySem.Challenge.pw_nn0273_01) = some (⟨hpA w.params, #[], {}, 187, os⟩, ⟨denote treeTable cW, cW, pos0, [topFrame pos0]⟩) := by
  intro w os; kernel_rfl
theorem block_go : ∀ (w : World) (os : OsState), segRun treeTable PySem.Challenge.pw_nn0273_01 w 11 (some (.ref 6)) 1 1 ⟨hpA w.params, #[], {}, 187, os⟩ (blockOf bodyW envW cW pos0 [topFrame pos0]) = some (.next, ⟨hpA w.params, #[], {}, 187, os⟩, cW, pos0) := by
  intro w os; kernel_rfl
theorem cls_go : ∀ (w : World) (os : OsState), segRun treeTable PySem.Challenge.pw_nn0273_01 w 11 (some (.ref 6)) 1 240 ⟨hpA w.params, #[], {}, 187, os⟩ (piecesOf (bodyW.take 2) envW cW pos0 [topFrame pos0]) = some (.next, ⟨hpB w.params, #[], {}, 220, os⟩, cW, posB) := by
  intro w os; kernel_rfl
theorem mid_go : ∀ (w : World) (os : OsState), segRun treeTable PySem.Challenge.pw_nn0273_01 w 11 (some (.ref 6)) 1 1000 ⟨hpB w.params, #[], {}, 220, os⟩ (piecesOf ((bodyW.drop 2).take 30) envW cW posB [topFrame pos0]) = some (.next, ⟨hpM w.params, #[], {}, 478, os⟩, cW, posM) := by
  intro w os; kernel_rfl
theorem end_go : ∀ (w : World) (os : OsState), segRun treeTable PySem.Challenge.pw_nn0273_01 w 11 (some (.ref 6)) 1 1000 ⟨hpM w.params, #[], {}, 478, os⟩ (piecesOf ((bodyW.drop 2).drop 30) envW cW posM [topFrame pos0]) = some (.next, ⟨hpF w.params, #[], {}, 752, os⟩, cW, posF) := by
  intro w os; kernel_rfl
theorem fin_go : ∀ (w : World) (os : OsState), topRun treeTable PySem.Challenge.pw_nn0273_01 w 11 (some (.ref 6)) 2 ⟨hpF w.params, #[], {}, 752, os⟩ ⟨doneF .next, cW, posF, [topFrame pos0]⟩ = some ⟨hpF w.params, #[], {}, 752, os⟩ := by
  intro w os; kernel_rfl
noncomputable abbrev lookW (s : Shared) := openSeen vw [] (importedModules PySem.Challenge.pw_nn0273_01.main.body) (fun s => xlAt vw [] s && recOk [] s) true s
theorem look1 : ∀ (w : World) (os : OsState), (staticsOk (importedModules PySem.Challenge.pw_nn0273_01.main.body) (boot_heap w.params) (hpF w.params) && namesBound PySem.Challenge.pw_nn0273_01 (hpF w.params) && gensDone ⟨hpF w.params, #[], {}, 752, os⟩ && laidKept (boot_heap w.params) (hpF w.params)) = true := by
  intro w os; kernel_rfl
theorem look2 : ∀ (w : World) (os : OsState), (lookW ⟨hpF w.params, #[], {}, 752, os⟩).1 = (openGood vw []).1 := by
  intro w os; kernel_rfl
theorem look3 : ∀ (w : World) (os : OsState), (lookW ⟨hpF w.params, #[], {}, 752, os⟩).2 = (openGood vw []).2 := by
  intro w os; kernel_rfl
theorem look4 : ∀ (w : World) (os : OsState), Hook.obs kH ⟨hpF w.params, #[], {}, 752, os⟩ = Hook.val kH w := by
  intro w os; kernel_rfl
theorem boot_size : ∀ w : World, ((boot_heap w.params).isNs mainGlobals, (boot_heap w.params).objs.size, (boot_heap w.params).nsMap mainGlobals "__annotations__") = (true, 11, some (.ref 6)) := by
  intro w; kernel_rfl
theorem op_plain : opening PySem.Challenge.pw_nn0273_01 = plainProg PySem.Challenge.pw_nn0273_01.main.scope.names := by kernel_rfl
theorem op_fence : ∀ s : Shared, fenceModules? PySem.Challenge.pw_nn0273_01 s = some s := by
  intro s; kernel_rfl
theorem run3 (w : World) (os : OsState) : topRun treeTable PySem.Challenge.pw_nn0273_01 w 11 (some (.ref 6)) (1000 + 2) ⟨hpM w.params, #[], {}, 478, os⟩ (restOf ((bodyW.drop 2).drop 30) envW cW posM [topFrame pos0]) = some ⟨hpF w.params, #[], {}, 752, os⟩ := by
  have c := piece_app (rest := []) (end_go w os) (piece_nil (fin_go w os))
  rw [List.append_nil] at c
  exact c
theorem run2 (w : World) (os : OsState) : topRun treeTable PySem.Challenge.pw_nn0273_01 w 11 (some (.ref 6)) (1000 + (1000 + 2)) ⟨hpB w.params, #[], {}, 220, os⟩ (restOf (bodyW.drop 2) envW cW posB [topFrame pos0]) = some ⟨hpF w.params, #[], {}, 752, os⟩ := by
  have b := piece_app (mid_go w os) (run3 w os)
  rw [List.take_append_drop] at b
  exact b
theorem run1 (w : World) (os : OsState) : topRun treeTable PySem.Challenge.pw_nn0273_01 w 11 (some (.ref 6)) (1 + (240 + (1000 + (1000 + 2)))) ⟨hpA w.params, #[], {}, 187, os⟩ ⟨denote treeTable (.body bodyW envW), cW, pos0, [topFrame pos0]⟩ = some ⟨hpF w.params, #[], {}, 752, os⟩ := by
  have a := piece_app (cls_go w os) (run2 w os)
  rw [List.take_append_drop] at a
  exact piece_block (block_go w os) a
theorem run0 (w : World) (os : OsState) : topRun treeTable PySem.Challenge.pw_nn0273_01 w 11 (some (.ref 6)) (12 + (1 + (240 + (1000 + (1000 + 2))))) ⟨boot_heap w.params, #[], boot_drawn, boot_toks, os⟩ (topStub PySem.Challenge.pw_nn0273_01) = some ⟨hpF w.params, #[], {}, 752, os⟩ :=
  go_top (pre_go w os) (run1 w os)
theorem top_go (w : World) (os : OsState) : topRun treeTable PySem.Challenge.pw_nn0273_01 w 11 (some (.ref 6)) 4100 ⟨boot_heap w.params, #[], boot_drawn, boot_toks, os⟩ (topStub PySem.Challenge.pw_nn0273_01) = some ⟨hpF w.params, #[], {}, 752, os⟩ := by
  have g := topRun_mono 1845 _ _ _ _ (run0 w os)
  rw [show 12 + (1 + (240 + (1000 + (1000 + 2)))) + 1845 = 4100 from rfl] at g
  exact g
theorem topFrom_of {tb : String → Option Builtin} {p : Program} {w : World} {N m : Nat} {ann : Option Value} {s₀ s₁ : Shared} (z1 : s₀.heap.isNs mainGlobals = true) (zg : (s₀.gens.size == 0) = true) (z2 : s₀.heap.objs.size = m) (z3 : s₀.heap.nsMap mainGlobals "__annotations__" = ann)
    (r : topRun tb p w m ann N s₀ (topStub p) = some s₁) (l : (staticsOk (importedModules p.main.body) s₀.heap s₁.heap && namesBound p s₁.heap && gensDone s₁ && laidKept s₀.heap s₁.heap) = true) : topFrom tb p w N s₀ = some s₁ := by
  unfold topFrom
  rw [z1, zg, z2, z3, r]
  show (match staticsOk (importedModules p.main.body) s₀.heap s₁.heap && namesBound p s₁.heap && gensDone s₁ && laidKept s₀.heap s₁.heap with | true => some s₁ | false => none) = _
  rw [l]
theorem openEnds_of {tb : String → Option Builtin} {p : Program} {w : World} {N : Nat} {s₀ s₁ : Shared} {α : Type} {f : Shared → α} {v : α} (e : fencedOpening tb p w N = some s₀) (t : topFrom tb p w N s₀ = some s₁) (l : f s₁ = v) : (openEnds tb p w N).map f = some v := by
  unfold openEnds
  rw [e]
  show (topFrom tb p w N s₀).map f = _
  rw [t]
  exact congrArg some l
theorem opened {α : Type} {w : World} {N : Nat} {f : Shared → α} {v : α} {H : Heap} {g : Array GenState} {d : Drawn} {k : Nat} {p : Program} (e : (fencedOpening treeTable p w N).map (fun s => (s.heap, s.gens, s.drawn, s.toks)) = some (H, g, d, k))
    (t : ∀ os, ∃ s₁, topFrom treeTable p w N ⟨H, g, d, k, os⟩ = some s₁ ∧ f s₁ = v) : (openEnds treeTable p w N).map f = some v := by
  obtain ⟨⟨h, gs, d', k', os⟩, e1, e'⟩ := Option.map_eq_some_iff.mp e
  cases e'
  obtain ⟨s₁, a, b⟩ := t os
  exact openEnds_of e1 a b
theorem looks_all (w : World) (os : OsState) : (lookW ⟨hpF w.params, #[], {}, 752, os⟩, Hook.obs kH ⟨hpF w.params, #[], {}, 752, os⟩) = (openGood vw [], Hook.val kH w) := congr (congrArg Prod.mk (Prod.ext (look2 w os) (look3 w os))) (look4 w os)
theorem left_hd : LeftO PySem.Challenge.pw_nn0273_01 vw [] (fun s => xlAt vw [] s && recOk [] s) (Hook.obs kH) (Hook.val kH) 4100 := fun w =>
  opened (boot_open (N := 4100) op_plain (by rfl) op_fence w) fun os =>
    ⟨⟨hpF w.params, #[], {}, 752, os⟩, topFrom_of (Prod.mk.inj (boot_size w)).1 rfl (Prod.mk.inj (Prod.mk.inj (boot_size w)).2).1 (Prod.mk.inj (Prod.mk.inj (boot_size w)).2).2 (top_go w os) (look1 w os), looks_all w os⟩

/-! A1 -/

/-! heaps -/
noncomputable def Ext (h h' : Heap) : Prop := ∀ b o, h.get? b = some o → h'.get? b = some o
theorem Ext.refl (h : Heap) : Ext h h := fun _ _ e => e
theorem Ext.trans {a b c : Heap} (x : Ext a b) (y : Ext b c) : Ext a c := fun i o e => y i o (x i o e)
theorem Ext.push (h : Heap) (o : Obj) : Ext h (h.push o) := fun _ _ e => Heap.get?_push_of_some _ e
theorem Ext.none {h h' : Heap} (x : Ext h h') {a : Addr} (e : h'.get? a = none) : h.get? a = none := by
  cases q : h.get? a with
  | none => rfl
  | some o => rw [x a o q] at e; cases e
theorem get_size (h : Heap) : h.get? h.objs.size = none := by
  cases q : h.get? h.objs.size with
  | none => rfl
  | some o => exact absurd (Heap.lt_size q) (Nat.lt_irrefl _)
theorem get_ge {h : Heap} {a : Addr} (g : h.objs.size ≤ a) : h.get? a = none := by
  cases q : h.get? a with
  | none => rfl
  | some o => exact absurd (Heap.lt_size q) (Nat.not_lt.mpr g)

noncomputable abbrev AS := Addr → Prop
noncomputable def ExtO (X : AS) (h h' : Heap) : Prop := ∀ b o, ¬ X b → h.get? b = some o → h'.get? b = some o
theorem Ext.toO {h h' : Heap} (x : Ext h h') (X : AS) : ExtO X h h' := fun b o _ e => x b o e

noncomputable abbrev lstObj (vs : Array Value) (n : Nat) : Obj := ⟨.type "list", none, .seq vs n, #[]⟩
noncomputable abbrev tupObj (vs : Array Value) (n : Nat) : Obj := ⟨.type "tuple", none, .seq vs n, #[]⟩

mutual
inductive Rep (X : AS) (h : Heap) : Value → PyData → Prop
  | none : Rep X h .none .none
  | bool (b) : Rep X h (.bool b) (.bool b)
  | int (i t) : Rep X h (.int i t) (.int i)
  | ptr (a : Nat) : Rep X h (.ref a) (.dict [(.int (Int.ofNat a), .none)])
  | list {a o vs k xs} : ¬ X a → h.get? a = some o → (o.cls = .type "list" ∧ o.dict = none ∧ o.slots = #[]) → o.data = .seq vs k → RepL X h vs.toList xs → Rep X h (.ref a) (.list xs)
  | tuple {a o vs k xs} : ¬ X a → h.get? a = some o → o.cls = .type "tuple" → o.data = .seq vs k → RepL X h vs.toList xs → Rep X h (.ref a) (.tuple xs)
inductive RepL (X : AS) (h : Heap) : List Value → List PyData → Prop
  | nil : RepL X h [] []
  | cons {v vs d ds} : Rep X h v d → RepL X h vs ds → RepL X h (v :: vs) (d :: ds)
end

mutual
theorem Rep.ext {X : AS} {h h' : Heap} (k : ExtO X h h') : ∀ {v d}, Rep X h v d → Rep X h' v d
  | _, _, .none => .none
  | _, _, .bool b => .bool b
  | _, _, .int i t => .int i t
  | _, _, .ptr a => .ptr a
  | _, _, .list n g c d r => .list n (k _ _ n g) c d (RepL.ext k r)
  | _, _, .tuple n g c d r => .tuple n (k _ _ n g) c d (RepL.ext k r)
theorem RepL.ext {X : AS} {h h' : Heap} (k : ExtO X h h') : ∀ {v d}, RepL X h v d → RepL X h' v d
  | _, _, .nil => .nil
  | _, _, .cons a b => .cons (Rep.ext k a) (RepL.ext k b)
end
mutual
theorem Rep.mono {X Y : AS} {h : Heap} (k : ∀ a o, Y a → h.get? a = some o → X a) : ∀ {v d}, Rep X h v d → Rep Y h v d
  | _, _, .none => .none
  | _, _, .bool b => .bool b
  | _, _, .int i t => .int i t
  | _, _, .ptr a => .ptr a
  | _, _, .list n g c d r => .list (fun y => n (k _ _ y g)) g c d (RepL.mono k r)
  | _, _, .tuple n g c d r => .tuple (fun y => n (k _ _ y g)) g c d (RepL.mono k r)
theorem RepL.mono {X Y : AS} {h : Heap} (k : ∀ a o, Y a → h.get? a = some o → X a) : ∀ {v d}, RepL X h v d → RepL Y h v d
  | _, _, .nil => .nil
  | _, _, .cons a b => .cons (Rep.mono k a) (RepL.mono k b)
end
mutual
theorem Rep.reads {X : AS} {h : Heap} : ∀ {v d}, Rep X h v d → d.canLay0 = true → ∃ as, Reads h v d as
  | _, _, .none, _ => ⟨_, .none⟩
  | _, _, .bool b, _ => ⟨_, .bool b⟩
  | _, _, .int i t, _ => ⟨_, .int i t⟩
  | _, _, .ptr a, q => by cases q
  | _, _, .list _ g c d r, q => let ⟨_, q⟩ := RepL.reads r (by rw [PyData.canLay0] at q; exact q); ⟨_, .list g c.1 d q⟩
  | _, _, .tuple _ g c d r, q => let ⟨_, q⟩ := RepL.reads r (by rw [PyData.canLay0] at q; exact q); ⟨_, .tuple g c d q⟩
theorem RepL.reads {X : AS} {h : Heap} : ∀ {v d}, RepL X h v d → PyData.canLayAll0 d = true → ∃ as, ReadsAll h v d as
  | _, _, .nil, _ => ⟨_, .nil⟩
  | _, _, .cons a b, q => by
    rw [PyData.canLayAll0, Bool.and_eq_true] at q
    obtain ⟨_, p⟩ := Rep.reads a q.1
    obtain ⟨_, q⟩ := RepL.reads b q.2
    exact ⟨_, .cons p q⟩
end
theorem RepL.length {X : AS} {h : Heap} : ∀ {v d}, RepL X h v d → v.length = d.length
  | _, _, .nil => rfl
  | _, _, .cons _ b => by simp [RepL.length b]
theorem RepL.get {X : AS} {h : Heap} : ∀ {vs ds}, RepL X h vs ds → ∀ {i : Nat} {d}, ds[i]? = some d → ∃ v, vs[i]? = some v ∧ Rep X h v d
  | _, _, .nil, _, _, e => by simp at e
  | _, _, .cons a b, 0, _, e => by simp at e; subst e; exact ⟨_, rfl, a⟩
  | _, _, .cons a b, i+1, _, e => by
    obtain ⟨v, p, q⟩ := RepL.get b (i := i) (by simpa using e)
    exact ⟨v, by simpa using p, q⟩
theorem RepL.append {X : AS} {h : Heap} : ∀ {vs ds ws es}, RepL X h vs ds → RepL X h ws es → RepL X h (vs ++ ws) (ds ++ es)
  | _, _, _, _, .nil, r => r
  | _, _, _, _, .cons a b, r => .cons a (RepL.append b r)
theorem RepL.take {X : AS} {h : Heap} : ∀ {vs ds}, RepL X h vs ds → ∀ k, RepL X h (vs.take k) (ds.take k)
  | _, _, .nil, _ => by simpa using RepL.nil
  | _, _, .cons _ _, 0 => .nil
  | _, _, .cons a b, k+1 => .cons a (RepL.take b k)
theorem RepL.drop {X : AS} {h : Heap} : ∀ {vs ds}, RepL X h vs ds → ∀ k, RepL X h (vs.drop k) (ds.drop k)
  | _, _, .nil, _ => by simpa using RepL.nil
  | _, _, r, 0 => r
  | _, _, .cons _ b, k+1 => RepL.drop b k
theorem RepL.set {X : AS} {h : Heap} : ∀ {vs ds}, RepL X h vs ds → ∀ (k : Nat) {v d}, Rep X h v d → RepL X h (vs.set k v) (ds.set k d)
  | _, _, .nil, _, _, _, _ => .nil
  | _, _, .cons _ b, 0, _, _, r => .cons r b
  | _, _, .cons a b, k+1, _, _, r => .cons a (RepL.set b k r)
theorem RepL.reverse {X : AS} {h : Heap} : ∀ {vs ds}, RepL X h vs ds → RepL X h vs.reverse ds.reverse
  | _, _, .nil => .nil
  | _, _, .cons a b => by rw [List.reverse_cons, List.reverse_cons]; exact RepL.append (RepL.reverse b) (.cons a .nil)
theorem RepL.replicate {X : AS} {h : Heap} {vs ds} (r : RepL X h vs ds) : ∀ k, RepL X h (List.replicate k vs).flatten (List.replicate k ds).flatten
  | 0 => .nil
  | k+1 => by rw [List.replicate_succ, List.replicate_succ, List.flatten_cons, List.flatten_cons]; exact RepL.append r (RepL.replicate r k)

/-! the fixed things: program, world, the heap behind the top -/
noncomputable def freeNames : List Str := ["Exception", "len", "range", "max", "abs", "int", "list", "tuple", "enumerate", "zip", "any"]
structure Uni where
  prog : Program
  w : World
  hT : Heap
  mg : Str → Option Value
  mb : Str → Option Value
  g : hT.Ns mainGlobals mg
  b : hT.Ns builtinsNs mb
  nl : hT.NoLimit
  bt : ∀ x : Str, x ≠ "__name__" → mb x = bootBuiltins x
  recs : List DefRec
  fn : ∀ d ∈ recs, ∃ a o pm code doc, mg d.name = some (.ref a) ∧ hT.get? a = some o ∧ o.data = .func (docDef d.name d.params d.body d.scope pm code doc) ∧ hT.CodeRec code d.name
  free : ∀ x ∈ freeNames, mg x = none

noncomputable def AOK (n : Nat) (A : Around) : Prop := A.handled = none ∧ A.depth + 2 * n ≤ 900 ∧ A.units + 8 * n ≤ 9000
theorem AOK.le {n m : Nat} {A : Around} (x : AOK n A) (h : m ≤ n) : AOK m A := ⟨x.1, by have := x.2.1; omega, by have := x.2.2; omega⟩
theorem AOK.deeper {n : Nat} {A : Around} (x : AOK (n+1) A) (env : Env) : AOK n (A.deeper env) := ⟨x.1, by have := x.2.1; simp only [Around.deeper]; omega, by have := x.2.2; simp only [Around.deeper]; omega⟩

inductive Slot where
  | u
  | v (d : PyData)
  | o (l : List PyData)
  | k (l : List (List Int × Int))

noncomputable abbrev Store := List Slot
noncomputable abbrev Nm := List (Option Str)

structure EnvOK (sc : Scope) (env : Env) : Prop where
  es : env.scope = sc
  kf : sc.kind = .function
  gl : env.globals = mainGlobals
  bu : env.builtins = builtinsNs
  ce : ∀ x, sc.names.lookup x = some .cell → (env.cells.lookup x).isSome = true

/-- where the name lies -/
noncomputable def At (env : Env) (h : Heap) (m : Str → Option Value) (x : Str) (v : Value) : Prop :=
  (env.kindOf x = some .local ∧ m x = some v) ∨ ((env.kindOf x = some .cell ∨ env.kindOf x = some .free) ∧ ∃ c, env.cells.lookup x = some c ∧ h.IsCell c (some v))

noncomputable def stl (ρ : Store) : Store := @List.rec Slot (fun _ => Store) [] (fun _ r _ => r) ρ
noncomputable def shd (ρ : Store) : Slot := @List.rec Slot (fun _ => Slot) .u (fun s _ _ => s) ρ
/-- written with the recursors themselves: the kernel computes these fast -/
noncomputable def sget (ρ : Store) (i : Nat) : Slot := shd (@Nat.rec (fun _ => Store → Store) (fun ρ => ρ) (fun _ f ρ => f (stl ρ)) i ρ)
noncomputable def sset (ρ : Store) (i : Nat) (s : Slot) : Store :=
  @Nat.rec (fun _ => Store → Store) (fun ρ => @List.rec Slot (fun _ => Store) [s] (fun _ r _ => s :: r) ρ) (fun _ f ρ => @List.rec Slot (fun _ => Store) (.u :: f []) (fun x r _ => x :: f r) ρ) i ρ
theorem sget_nil : ∀ (i : Nat), sget [] i = .u
  | 0 => rfl
  | i + 1 => sget_nil i
theorem sget_sset (s : Slot) : ∀ (i j : Nat) (ρ : Store), sget (sset ρ i s) j = if j = i then s else sget ρ j
  | 0, 0, [] => rfl
  | 0, 0, _ :: _ => rfl
  | 0, j+1, [] => by rw [if_neg (Nat.succ_ne_zero j)]; rfl
  | 0, j+1, _ :: _ => by rw [if_neg (Nat.succ_ne_zero j)]; rfl
  | i+1, 0, [] => by rw [if_neg (Nat.succ_ne_zero i).symm]; rfl
  | i+1, 0, _ :: _ => by rw [if_neg (Nat.succ_ne_zero i).symm]; rfl
  | i+1, j+1, [] => by
    show sget (sset [] i s) j = _
    rw [sget_sset s i j []]
    by_cases q : j = i
    · rw [if_pos q, if_pos (by rw [q])]
    · rw [if_neg q, if_neg (fun e => q (Nat.succ.inj e))]; rfl
  | i+1, j+1, _ :: r => by
    show sget (sset r i s) j = _
    rw [sget_sset s i j r]
    by_cases q : j = i
    · rw [if_pos q, if_pos (by rw [q])]
    · rw [if_neg q, if_neg (fun e => q (Nat.succ.inj e))]; rfl

noncomputable def intV : Value → Int
  | .int i _ => i
  | _ => 0
/-- a dict of tuples of ints to ints -/
noncomputable def DictAt (U : Uni) (X : AS) (h : Heap) (a : Addr) (l : List (List Int × Int)) : Prop :=
  (a == sysModules) = false ∧ ∃ xs, h.DictOfH (tupleKind (intKind U.prog U.w)) a xs ∧ l = xs.map (fun x => (x.1, intV x.2.2)) ∧ ∀ x ∈ xs, ¬ X x.2.1 ∧ ∃ i t, x.2.2 = .int i t
theorem DictAt.keep {U : Uni} {X : AS} {h h' : Heap} {a : Addr} {l : List (List Int × Int)} (d : DictAt U X h a l) (k : ∀ o, h.get? a = some o → h'.get? a = some o) (x : ExtO X h h') : DictAt U X h' a l := by
  obtain ⟨sm, xs, ⟨o, es, ep, ho, he, hd, hes, hk, hn⟩, hl, hv⟩ := d
  refine ⟨sm, xs, ⟨o, es, ep, k _ ho, he, hd, hes, fun y hy => ?_, hn⟩, hl, hv⟩
  obtain ⟨o2, items, n, g, r⟩ := hk y hy
  exact ⟨o2, items, n, x _ _ (hv y hy).1 g, r⟩
theorem DictAt.mono {U : Uni} {X Y : AS} {h : Heap} {a : Addr} {l : List (List Int × Int)} (d : DictAt U X h a l) (k : ∀ b o, Y b → h.get? b = some o → X b) : DictAt U Y h a l := by
  obtain ⟨sm, xs, ⟨o, es, ep, ho, he, hd, hes, hk, hn⟩, hl, hv⟩ := d
  refine ⟨sm, xs, ⟨o, es, ep, ho, he, hd, hes, hk, hn⟩, hl, fun y hy => ⟨fun yy => ?_, (hv y hy).2⟩⟩
  obtain ⟨o2, items, n, g, r⟩ := hk y hy
  exact (hv y hy).1 (k _ _ yy g)
theorem DictAt.data {U : Uni} {X : AS} {h : Heap} {a : Addr} {l : List (List Int × Int)} (d : DictAt U X h a l) : ∃ o es ep, h.get? a = some o ∧ o.data = .dict es ep :=
  let ⟨_, _, ⟨o, es, ep, ho, _, hd, _⟩, _⟩ := d; ⟨o, es, ep, ho, hd⟩

noncomputable def SlotOK (U : Uni) (h₀ : Heap) (X : AS) (h : Heap) (val : Option Value) : Slot → Prop
  | .u => True
  | .v d => ∃ v, val = some v ∧ Rep X h v d
  | .o l => ∃ a vs n, val = some (.ref a) ∧ X a ∧ h₀.get? a = none ∧ h.get? a = some (lstObj vs n) ∧ RepL X h vs.toList l
  | .k l => ∃ a, val = some (.ref a) ∧ X a ∧ h₀.get? a = none ∧ DictAt U X h a l

noncomputable def Slot.own : Slot → Bool
  | .o _ => true
  | .k _ => true
  | _ => false

structure StC (U : Uni) (h₀ : Heap) (Xc : AS) (env : Env) (nm : Nm) (X : AS) (h : Heap) (ρ : Store) (m : Str → Option Value) (σ : Nat → Option Value) : Prop where
  base : Ext U.hT h₀
  ext : Ext h₀ h
  xcin : ∀ b, Xc b → ∃ o, h₀.get? b = some o
  sub : ∀ b, Xc b → X b
  xin : ∀ b, X b → ∃ o, h.get? b = some o
  xnew : ∀ b, X b → Xc b ∨ h₀.get? b = none
  ns : h.Ns env.locals m
  xl : X env.locals
  ln : h₀.get? env.locals = none
  cel : ∀ x c, env.cells.lookup x = some c → X c ∧ h₀.get? c = none ∧ ∃ v, h.IsCell c v
  capt : ∀ x y c, env.cells.lookup x = some c → env.cells.lookup y = some c → x = y
  at' : ∀ i x v, nm[i]? = some (some x) → σ i = some v → At env h m x v
  sl : ∀ i x, nm[i]? = some (some x) → SlotOK U h₀ X h (σ i) (sget ρ i)
  kd : ∀ i x a l, nm[i]? = some (some x) → sget ρ i = .k l → σ i = some (.ref a) → a ≠ env.locals
  ow : ∀ i j x y a, nm[i]? = some (some x) → nm[j]? = some (some y) → σ i = some (.ref a) → σ j = some (.ref a) → (sget ρ i).own = true → (sget ρ j).own = true → i = j

noncomputable def St (U : Uni) (h₀ : Heap) (Xc : AS) (env : Env) (nm : Nm) (X : AS) (h : Heap) (ρ : Store) : Prop := ∃ m σ, StC U h₀ Xc env nm X h ρ m σ

theorem At.ext {env : Env} {h h' : Heap} {m : Str → Option Value} {x : Str} {v : Value} (a : At env h m x v) (k : Ext h h') : At env h' m x v :=
  a.imp id fun ⟨c, a, b, d⟩ => ⟨c, a, b, d.keeps k⟩

theorem SlotOK.ext {U : Uni} {h₀ : Heap} {X : AS} {h h' : Heap} {val : Option Value} {s : Slot} (a : SlotOK U h₀ X h val s) (k : Ext h h') : SlotOK U h₀ X h' val s := by
  cases s with
  | u => trivial
  | v d => obtain ⟨v, e, r⟩ := a; exact ⟨v, e, r.ext (k.toO X)⟩
  | o l => obtain ⟨a, vs, n, e, x, f, g, r⟩ := a; exact ⟨a, vs, n, e, x, f, k _ _ g, r.ext (k.toO X)⟩
  | k l => obtain ⟨a, e, x, f, g⟩ := a; exact ⟨a, e, x, f, g.keep (fun o q => k _ _ q) (k.toO X)⟩

/-- the set may grow by what is new -/
noncomputable def Grow (X Y : AS) (h : Heap) : Prop := (∀ b, X b → Y b) ∧ ∀ b, Y b → X b ∨ h.get? b = none
theorem Grow.refl (X : AS) (h : Heap) : Grow X X h := ⟨fun _ x => x, fun _ x => .inl x⟩
theorem Rep.grow {X Y : AS} {h : Heap} {v d} (r : Rep X h v d) (g : Grow X Y h) : Rep Y h v d :=
  r.mono fun a o y e => (g.2 a y).resolve_right (by rw [e]; exact fun q => by cases q)
theorem RepL.grow {X Y : AS} {h : Heap} {v d} (r : RepL X h v d) (g : Grow X Y h) : RepL Y h v d :=
  r.mono fun a o y e => (g.2 a y).resolve_right (by rw [e]; exact fun q => by cases q)
theorem Rep.shrink {X Y : AS} {h : Heap} {v d} (r : Rep Y h v d) (g : ∀ b, X b → Y b) : Rep X h v d := r.mono fun a _ x _ => g a x
theorem RepL.shrink {X Y : AS} {h : Heap} {v d} (r : RepL Y h v d) (g : ∀ b, X b → Y b) : RepL X h v d := r.mono fun a _ x _ => g a x

theorem SlotOK.grow {U : Uni} {h₀ : Heap} {X Y : AS} {h : Heap} {val : Option Value} {s : Slot} (a : SlotOK U h₀ X h val s) (k : Grow X Y h) : SlotOK U h₀ Y h val s := by
  cases s with
  | u => trivial
  | v d => obtain ⟨v, e, r⟩ := a; exact ⟨v, e, r.grow k⟩
  | o l => obtain ⟨a, vs, n, e, x, f, g, r⟩ := a; exact ⟨a, vs, n, e, k.1 _ x, f, g, r.grow k⟩
  | k l => obtain ⟨a, e, x, f, g⟩ := a; exact ⟨a, e, k.1 _ x, f, g.mono fun b o y q => (k.2 b y).resolve_right (by rw [q]; exact fun z => by cases z)⟩

section
variable {U : Uni} {h₀ : Heap} {Xc : AS} {env : Env} {nm : Nm} {X Y : AS} {h h' : Heap} {ρ : Store} {m : Str → Option Value} {σ : Nat → Option Value}

theorem StC.ext' (S : StC U h₀ Xc env nm X h ρ m σ) (k : Ext h h') : StC U h₀ Xc env nm X h' ρ m σ where
  base := S.base
  ext := S.ext.trans k
  xcin := S.xcin
  sub := S.sub
  xin := fun b x => let ⟨o, e⟩ := S.xin b x; ⟨o, k _ _ e⟩
  xnew := S.xnew
  ns := S.ns.keeps k
  xl := S.xl
  ln := S.ln
  cel := fun x c e => let ⟨a, b, v, d⟩ := S.cel x c e; ⟨a, b, v, d.keeps k⟩
  capt := S.capt
  at' := fun i x v a b => (S.at' i x v a b).ext k
  sl := fun i x a => (S.sl i x a).ext k
  kd := S.kd
  ow := S.ow
theorem St.ext' (S : St U h₀ Xc env nm X h ρ) (k : Ext h h') : St U h₀ Xc env nm X h' ρ := let ⟨m, σ, s⟩ := S; ⟨m, σ, s.ext' k⟩
theorem StC.grow (S : StC U h₀ Xc env nm X h ρ m σ) (g : Grow X Y h) (y : ∀ b, Y b → ∃ o, h.get? b = some o) : StC U h₀ Xc env nm Y h ρ m σ where
  base := S.base
  ext := S.ext
  xcin := S.xcin
  sub := fun b x => g.1 b (S.sub b x)
  xin := y
  xnew := fun b x => (g.2 b x).elim (S.xnew b) fun e => .inr (S.ext.none e)
  ns := S.ns
  xl := g.1 _ S.xl
  ln := S.ln
  cel := fun x c e => let ⟨a, b, v, d⟩ := S.cel x c e; ⟨g.1 _ a, b, v, d⟩
  capt := S.capt
  at' := S.at'
  sl := fun i x a => (S.sl i x a).grow g
  kd := S.kd
  ow := S.ow
/-- the set grows by new places while the heap grows -/
theorem StC.alloc (S : StC U h₀ Xc env nm X h ρ m σ) (k : Ext h h') (g : Grow X Y h) (y : ∀ b, Y b → ∃ o, h'.get? b = some o) : StC U h₀ Xc env nm Y h' ρ m σ where
  base := S.base
  ext := S.ext.trans k
  xcin := S.xcin
  sub := fun b x => g.1 b (S.sub b x)
  xin := y
  xnew := fun b x => (g.2 b x).elim (S.xnew b) fun e => .inr (S.ext.none e)
  ns := S.ns.keeps k
  xl := g.1 _ S.xl
  ln := S.ln
  cel := fun x c e => let ⟨a, b, v, d⟩ := S.cel x c e; ⟨g.1 _ a, b, v, d.keeps k⟩
  capt := S.capt
  at' := fun i x v a b => (S.at' i x v a b).ext k
  sl := fun i x a => ((S.sl i x a).grow g).ext k
  kd := S.kd
  ow := S.ow
end


/-! A2 -/
section
variable {U : Uni} {h₀ : Heap} {Xc : AS} {env : Env} {nm : Nm} {X Y : AS} {h h' : Heap} {ρ : Store} {m : Str → Option Value} {σ : Nat → Option Value}

noncomputable def NmOK (nm : Nm) : Prop := ∀ (i j : Nat) (x : Str), nm[i]? = some (some x) → nm[j]? = some (some x) → i = j

theorem sameBut_out {a : Addr} (hs : Heap.SameBut a h h') (x : X a) : ExtO X h h' := fun b o n e => (hs.2 b (fun q => n (q ▸ x))).trans e
theorem xin_same {a : Addr} (hs : Heap.SameBut a h h') (ha : ∃ o, h'.get? a = some o) (xin : ∀ b, X b → ∃ o, h.get? b = some o) : ∀ b, X b → ∃ o, h'.get? b = some o := fun b x => by
  by_cases q : b = a
  · exact q ▸ ha
  · obtain ⟨o, e⟩ := xin b x; exact ⟨o, (hs.2 b q).trans e⟩
theorem ext_same {a : Addr} (hs : Heap.SameBut a h h') (e : Ext h₀ h) (f : h₀.get? a = none) : Ext h₀ h' := fun b o q => by
  by_cases c : b = a
  · subst c; rw [f] at q; cases q
  · exact (hs.2 b c).trans (e b o q)

theorem own_set {ρ : Store} {i j : Nat} {s : Slot} (k : j = i → (sget ρ j).own = true) (e : (sget (sset ρ i s) j).own = true) : (sget ρ j).own = true := by
  rw [sget_sset] at e
  by_cases q : j = i
  · exact k q
  · rwa [if_neg q] at e

/-- an own list is changed -/
theorem StC.mut (S : StC U h₀ Xc env nm X h ρ m σ) {i : Nat} {x : Str} {l l' : List PyData} {a : Addr} {vs : Array Value} {n : Nat}
    (hx : nm[i]? = some (some x)) (hl : sget ρ i = .o l) (ha : σ i = some (.ref a)) (hs : Heap.SameBut a h h') (g : h'.get? a = some (lstObj vs n)) (r : RepL X h vs.toList l') :
    StC U h₀ Xc env nm X h' (sset ρ i (.o l')) m σ := by
  have S0 := S.sl i x hx
  rw [hl] at S0
  obtain ⟨a', vs0, n0, e0, xa, fa, ga, ra⟩ := S0
  rw [ha] at e0; cases e0
  have hout : ExtO X h h' := sameBut_out hs xa
  have hL : env.locals ≠ a := by
    rintro rfl
    obtain ⟨o, es, ep, ho, hd, _⟩ := S.ns
    rw [ga] at ho; cases ho; cases hd
  have hcel : ∀ {c v}, h.IsCell c v → c ≠ a := by
    rintro c v ⟨o, ho, hd⟩ rfl
    rw [ga] at ho; cases ho; cases hd
  exact {
    base := S.base
    ext := ext_same hs S.ext fa
    xcin := S.xcin
    sub := S.sub
    xin := xin_same hs ⟨_, g⟩ S.xin
    xnew := S.xnew
    ns := S.ns.sameBut hs hL
    xl := S.xl
    ln := S.ln
    cel := fun y c e => let ⟨p, q, v, d⟩ := S.cel y c e; ⟨p, q, v, d.sameBut hs (hcel d)⟩
    capt := S.capt
    at' := fun j y v p q => (S.at' j y v p q).imp id fun ⟨k, c, e, d⟩ => ⟨k, c, e, d.sameBut hs (hcel d)⟩
    sl := fun j y hy => by
      rw [sget_sset]
      split
      · rename_i hj; subst hj
        exact ⟨a, vs, n, ha, xa, fa, g, r.ext hout⟩
      · rename_i hj
        have q := S.sl j y hy
        revert q
        cases hq : sget ρ j with
        | u => intro _; trivial
        | v d => rintro ⟨v, e, r⟩; exact ⟨v, e, r.ext hout⟩
        | o l2 =>
          rintro ⟨b, vs, n, e, x, f, g, r⟩
          have hb : b ≠ a := by
            rintro rfl
            exact hj (S.ow j i y _ b hy hx e ha (by rw [hq]; rfl) (by rw [hl]; rfl))
          exact ⟨b, vs, n, e, x, f, (hs.2 b hb).trans g, r.ext hout⟩
        | k l2 =>
          rintro ⟨b, e, x, f, gd⟩
          refine ⟨b, e, x, f, gd.keep (fun o q => (hs.2 b ?_).trans q) hout⟩
          intro hb
          obtain ⟨o, es, ep, ho, hd⟩ := gd.data
          rw [hb, ga] at ho; cases ho; cases hd
    kd := fun j y b l2 hy hq e => by
      rw [sget_sset] at hq
      split at hq
      · cases hq
      · exact S.kd j y b l2 hy hq e
    ow := fun j k y z b hy hz ey ez oy oz => S.ow j k y z b hy hz ey ez
      (own_set (fun e => by rw [e, hl]; rfl) oy) (own_set (fun e => by rw [e, hl]; rfl) oz) }

/-- the frame lets a list go into data -/
theorem StC.freeze (S : StC U h₀ Xc env nm X h ρ m σ) {i : Nat} {x : Str} {l : List PyData} (hx : nm[i]? = some (some x)) (hl : sget ρ i = .o l) :
    ∃ Y : AS, (∀ b, Y b → X b) ∧ (∀ b o fs, X b → h.get? b = some o → o.data = .fields fs → Y b) ∧ StC U h₀ Xc env nm Y h (sset ρ i (.v (.list l))) m σ := by
  have S0 := S.sl i x hx
  rw [hl] at S0
  obtain ⟨a, vs0, n0, e0, xa, fa, ga, ra⟩ := S0
  have hL : env.locals ≠ a := by
    rintro rfl
    obtain ⟨o, es, ep, ho, hd, _⟩ := S.ns
    rw [ga] at ho; cases ho; cases hd
  have hcel : ∀ {c v}, h.IsCell c v → c ≠ a := by
    rintro c v ⟨o, ho, hd⟩ rfl
    rw [ga] at ho; cases ho; cases hd
  have hsub : ∀ b, (X b ∧ b ≠ a) → X b := fun b x => x.1
  refine ⟨fun b => X b ∧ b ≠ a, hsub, (fun b o fs x e q => ⟨x, by rintro rfl; rw [ga] at e; cases e; cases q⟩), ?_⟩
  exact {
    base := S.base
    ext := S.ext
    xcin := S.xcin
    sub := fun b x => ⟨S.sub b x, by rintro rfl; obtain ⟨o, e⟩ := S.xcin b x; rw [fa] at e; cases e⟩
    xin := fun b x => S.xin b x.1
    xnew := fun b x => S.xnew b x.1
    ns := S.ns
    xl := ⟨S.xl, hL⟩
    ln := S.ln
    cel := fun y c e => let ⟨p, q, v, d⟩ := S.cel y c e; ⟨⟨p, hcel d⟩, q, v, d⟩
    capt := S.capt
    at' := S.at'
    sl := fun j y hy => by
      rw [sget_sset]
      split
      · rename_i hj; subst hj
        exact ⟨.ref a, e0, .list (fun q => q.2 rfl) ga ⟨rfl, rfl, rfl⟩ rfl (ra.shrink hsub)⟩
      · rename_i hj
        have q := S.sl j y hy
        revert q
        cases hq : sget ρ j with
        | u => intro _; trivial
        | v d => rintro ⟨v, e, r⟩; exact ⟨v, e, r.shrink hsub⟩
        | o l2 =>
          rintro ⟨b, vs, n, e, x, f, g, r⟩
          have hb : b ≠ a := by
            rintro rfl
            exact hj (S.ow j i y _ b hy hx e e0 (by rw [hq]; rfl) (by rw [hl]; rfl))
          exact ⟨b, vs, n, e, ⟨x, hb⟩, f, g, r.shrink hsub⟩
        | k l2 =>
          rintro ⟨b, e, x, f, g⟩
          have hb : b ≠ a := by
            rintro rfl
            exact hj (S.ow j i y _ b hy hx e e0 (by rw [hq]; rfl) (by rw [hl]; rfl))
          exact ⟨b, e, ⟨x, hb⟩, f, g.mono fun c o y _ => hsub c y⟩
    kd := fun j y b l2 hy hq e => by
      rw [sget_sset] at hq
      split at hq
      · cases hq
      · exact S.kd j y b l2 hy hq e
    ow := fun j k y z b hy hz ey ez oy oz => S.ow j k y z b hy hz ey ez
      (own_set (fun e => by rw [e, hl]; rfl) oy) (own_set (fun e => by rw [e, hl]; rfl) oz) }

noncomputable def XA (X : AS) (a : Addr) : AS := fun b => X b ∨ b = a
theorem XA.grow {a : Addr} (e : h.get? a = none) : Grow X (XA X a) h := ⟨fun _ x => .inl x, fun b y => y.imp id fun (q : b = a) => q.symm ▸ e⟩
theorem Rep.growA {v d} {a : Addr} (r : Rep X h v d) (e : h.get? a = Option.none) : Rep (XA X a) h v d := r.grow (XA.grow e)
theorem RepL.growA {v d} {a : Addr} (r : RepL X h v d) (e : h.get? a = Option.none) : RepL (XA X a) h v d := r.grow (XA.grow e)
theorem Rep.offA {v d} {a : Addr} (r : Rep (XA X a) h v d) : Rep X h v d := r.shrink fun _ x => .inl x
theorem RepL.offA {v d} {a : Addr} (r : RepL (XA X a) h v d) : RepL X h v d := r.shrink fun _ x => .inl x

/-- what a statement may do to others' things -/
structure Keeps (X Y : AS) (h h' : Heap) : Prop where
  rep : ∀ v d, Rep X h v d → Rep Y h' v d
  fld : ∀ b o fs, h.get? b = some o → o.data = .fields fs → h'.get? b = some o
  set : ∀ b o fs, X b → h.get? b = some o → o.data = .fields fs → Y b
theorem Keeps.ext (k : Ext h h') : Keeps X X h h' := ⟨fun _ _ r => r.ext (k.toO X), fun b o _ e _ => k b o e, fun _ _ _ x _ _ => x⟩
theorem Keeps.refl : Keeps X X h h := Keeps.ext (Ext.refl h)
theorem Keeps.trans {X Y Z : AS} {a b c : Heap} (p : Keeps X Y a b) (q : Keeps Y Z b c) : Keeps X Z a c :=
  ⟨fun v d r => q.rep v d (p.rep v d r), fun b o fs e f => q.fld b o fs (p.fld b o fs e f) f, fun b o fs x e f => q.set b o fs (p.set b o fs x e f) (p.fld b o fs e f) f⟩
theorem Keeps.shrink (k : ∀ b, Y b → X b) (q : ∀ b o fs, X b → h.get? b = some o → o.data = .fields fs → Y b) : Keeps X Y h h := ⟨fun _ _ r => r.shrink k, fun _ _ _ e _ => e, q⟩
theorem Keeps.grow (g : Grow X Y h) : Keeps X Y h h := ⟨fun _ _ r => r.grow g, (fun _ _ _ e _ => e), fun b _ _ x _ _ => g.1 b x⟩
theorem Keeps.same {a : Addr} (hs : Heap.SameBut a h h') (x : X a) (nf : ∀ o fs, h.get? a = some o → o.data ≠ .fields fs) : Keeps X X h h' :=
  ⟨fun _ _ r => r.ext (sameBut_out hs x), fun b o fs e f => (hs.2 b (by rintro rfl; exact nf o fs e f)).trans e, fun _ _ _ x _ _ => x⟩
theorem Keeps.repL (k : Keeps X Y h h') : ∀ {vs ds}, RepL X h vs ds → RepL Y h' vs ds
  | _, _, .nil => .nil
  | _, _, .cons a b => .cons (k.rep _ _ a) (Keeps.repL k b)

/-- what is stored -/
structure Fit (U : Uni) (h₀ : Heap) (nm : Nm) (X : AS) (h : Heap) (ρ : Store) (σ : Nat → Option Value) (L : Addr) (i : Nat) (v : Value) (s : Slot) : Prop where
  ok : SlotOK U h₀ X h (some v) s
  ap : s.own = true → ∀ j y, nm[j]? = some (some y) → (sget ρ j).own = true → σ j = some v → j = i
  nl : ∀ l a, s = .k l → v = .ref a → a ≠ L

theorem Fit.of_v {L : Addr} {i : Nat} {v : Value} {d : PyData} (r : Rep X h v d) : Fit U h₀ nm X h ρ σ L i v (.v d) := ⟨⟨v, rfl, r⟩, (fun e => by cases e), fun _ _ e => by cases e⟩

theorem StC.stored (S : StC U h₀ Xc env nm X h ρ m σ) (N : NmOK nm) {i : Nat} {x : Str} {v : Value} {s : Slot} (hx : nm[i]? = some (some x)) (F : Fit U h₀ nm X h ρ σ env.locals i v s)
    {a : Addr} {m' : Str → Option Value} (hs : Heap.SameBut a h h') (xa : X a) (fa : h₀.get? a = none) (ga : ∃ o, h'.get? a = some o ∧ ∀ vs n, o.data ≠ .seq vs n)
    (gb : ∃ o, h.get? a = some o ∧ ∀ vs n, o.data ≠ .seq vs n) (gc : a = env.locals ∨ ∃ v, h.IsCell a v)
    (ns : h'.Ns env.locals m') (cel : ∀ y c, env.cells.lookup y = some c → ∃ v, h'.IsCell c v) (av : At env h' m' x v)
    (ao : ∀ y w, y ≠ x → At env h m y w → At env h' m' y w) :
    StC U h₀ Xc env nm X h' (sset ρ i s) m' (fun j => if j = i then some v else σ j) := by
  have hout : ExtO X h h' := sameBut_out hs xa
  have ne : ∀ {b vs n}, h.get? b = some (lstObj vs n) → b ≠ a := by
    rintro b vs n e rfl
    obtain ⟨o, g, k⟩ := gb
    rw [g] at e; cases e; exact k _ _ rfl
  have slotk : ∀ {val s}, (∀ l b, s = .k l → val = some (.ref b) → b ≠ env.locals) → SlotOK U h₀ X h val s → SlotOK U h₀ X h' val s := by
    intro val s nl q
    revert q
    cases s with
    | u => intro _; trivial
    | v d => rintro ⟨v, e, r⟩; exact ⟨v, e, r.ext hout⟩
    | o l2 => rintro ⟨b, vs, n, e, x, f, g, r⟩; exact ⟨b, vs, n, e, x, f, (hs.2 b (ne g)).trans g, r.ext hout⟩
    | k l2 =>
      rintro ⟨b, e, x, f, gd⟩
      refine ⟨b, e, x, f, gd.keep (fun o q => (hs.2 b ?_).trans q) hout⟩
      intro hb
      rcases gc with hL | ⟨v, o, ho, hd⟩
      · exact nl _ _ rfl e (hb.trans hL)
      · obtain ⟨o', es, ep, ho', hd'⟩ := gd.data
        rw [hb, ho] at ho'; cases ho'; rw [hd] at hd'; cases hd'
  exact {
    base := S.base
    ext := ext_same hs S.ext fa
    xcin := S.xcin
    sub := S.sub
    xin := xin_same hs (let ⟨o, e, _⟩ := ga; ⟨o, e⟩) S.xin
    xnew := S.xnew
    ns := ns
    xl := S.xl
    ln := S.ln
    cel := fun y c e => let ⟨p, q, _⟩ := S.cel y c e; ⟨p, q, cel y c e⟩
    capt := S.capt
    at' := fun j y w hy e => by
      split at e
      · rename_i hj; subst hj
        cases e
        rw [hx] at hy; cases hy
        exact av
      · rename_i hj
        refine ao y w ?_ (S.at' j y w hy e)
        rintro rfl; exact hj (N j i y hy hx)
    sl := fun j y hy => by
      rw [sget_sset]
      split
      · exact slotk (fun l b e q => F.nl l b e (Option.some.inj q)) F.ok
      · exact slotk (fun l b e q => S.kd j y b l hy e q) (S.sl j y hy)
    kd := fun j y b l2 hy hq e => by
      rw [sget_sset] at hq
      split at hq
      · rename_i hj
        rw [if_pos hj] at e
        exact F.nl l2 b hq (Option.some.inj e)
      · rename_i hj
        rw [if_neg hj] at e
        exact S.kd j y b l2 hy hq e
    ow := fun j k y z b hy hz ey ez oy oz => by
      rw [sget_sset] at oy oz
      by_cases hj : j = i
      · by_cases hk : k = i
        · rw [hj, hk]
        · rw [if_pos hj] at ey oy
          rw [if_neg hk] at ez oz
          cases ey
          exact absurd (F.ap oy k z hz oz ez) hk
      · by_cases hk : k = i
        · rw [if_neg hj] at ey oy
          rw [if_pos hk] at ez oz
          cases ez
          exact absurd (F.ap oz j y hy oy ey) hj
        · rw [if_neg hj] at ey oy
          rw [if_neg hk] at ez oz
          exact S.ow j k y z b hy hz ey ez oy oz }

section
variable {A : Around} {E : Value → Shared → Prop} {s : Shared} {sc : Scope}
theorem kindOf_sc (V : EnvOK sc env) (x : Str) : env.kindOf x = sc.names.lookup x := by unfold Env.kindOf; rw [V.es]

/-- a name is stored -/
theorem store_nameW {M : Model} (W : AS) {i : Nat} {x : Str} {v : Value} {sl : Slot} {Q : Unit → Shared → Prop} (V : EnvOK sc env) (N : NmOK nm)
    (S : StC U h₀ Xc env nm X s.heap ρ m σ) (hx : nm[i]? = some (some x)) (hk : (sc.names.lookup x = some .local ∧ W env.locals) ∨ (sc.names.lookup x = some .cell ∧ (env.cells.lookup x).isSome = true ∧ ∀ c, env.cells.lookup x = some c → W c))
    (F : Fit U h₀ nm X s.heap ρ σ env.locals i v sl)
    (h : ∀ h' t' m', StC U h₀ Xc env nm X h' (sset ρ i sl) m' (fun j => if j = i then some v else σ j) → Keeps X X s.heap h' → ExtO W s.heap h' → Q () { s with heap := h', toks := t' }) :
    wpAny M A (storeName env x v) Q E s := by
  rcases hk with ⟨hk, w⟩ | ⟨hk, hc, w⟩
  · have hl : env.kindOf x = some .local := (kindOf_sc V x).trans hk
    refine wpAny_storeName_local hl S.ns (fun h' hn hs => ?_) (by rw [V.es, V.kf]; rfl)
    obtain ⟨oL, es, ep, hoL, hdL, _⟩ := id S.ns
    obtain ⟨oL', es', ep', hoL', hdL', _⟩ := id hn
    have hcL : ∀ {c v}, s.heap.IsCell c v → c ≠ env.locals := by
      rintro c v ⟨o, ho, hd⟩ rfl
      rw [hoL] at ho; cases ho; rw [hdL] at hd; cases hd
    refine h h' _ _ (S.stored N hx F hs S.xl S.ln ⟨_, hoL', fun vs n q => by rw [hdL'] at q; cases q⟩ ⟨_, hoL, fun vs n q => by rw [hdL] at q; cases q⟩ (.inl rfl) hn
      (fun y c e => let ⟨_, _, v, d⟩ := S.cel y c e; ⟨v, d.sameBut hs (hcL d)⟩) (.inl ⟨hl, by simp⟩) fun y w hy q => ?_)
      (Keeps.same hs S.xl fun o fs e q => by rw [hoL] at e; cases e; rw [hdL] at q; cases q) (sameBut_out hs w)
    rcases q with ⟨a, b⟩ | ⟨a, c, b, d⟩
    · exact .inl ⟨a, by simpa [hy] using b⟩
    · exact .inr ⟨a, c, b, d.sameBut hs (hcL d)⟩
  · have hl : env.kindOf x = some .cell := (kindOf_sc V x).trans hk
    obtain ⟨c, hc⟩ := Option.isSome_iff_exists.mp hc
    obtain ⟨xc, fc, v0, hv0⟩ := S.cel x c hc
    obtain ⟨o0, ho0, hd0⟩ := id hv0
    obtain ⟨oL, es, ep, hoL, hdL, _⟩ := id S.ns
    have hLc : env.locals ≠ c := by
      rintro rfl
      rw [hoL] at ho0; cases ho0; rw [hdL] at hd0; cases hd0
    refine wpAny_storeName_cell (by rw [V.es, V.kf]) hl hc hv0 fun h' hc' hs => ?_
    obtain ⟨o1, ho1, hd1⟩ := id hc'
    refine h h' s.toks m (S.stored N hx F hs xc fc ⟨o1, ho1, fun vs n q => by rw [hd1] at q; cases q⟩ ⟨o0, ho0, fun vs n q => by rw [hd0] at q; cases q⟩ (.inr ⟨_, hv0⟩) (S.ns.sameBut hs hLc)
      (fun y c' e => ?_) (.inr ⟨.inl hl, c, hc, hc'⟩) fun y w hy q => ?_)
      (Keeps.same hs xc fun o fs e q => by rw [ho0] at e; cases e; rw [hd0] at q; cases q) (sameBut_out hs (w c hc))
    · obtain ⟨_, _, v, d⟩ := S.cel y c' e
      by_cases q : c' = c
      · subst q; exact ⟨_, hc'⟩
      · exact ⟨v, d.sameBut hs q⟩
    · rcases q with ⟨a, b⟩ | ⟨a, c', b, d⟩
      · exact .inl ⟨a, b⟩
      · refine .inr ⟨a, c', b, d.sameBut hs ?_⟩
        rintro rfl
        exact hy (S.capt _ _ _ b hc)

theorem store_name {M : Model} {i : Nat} {x : Str} {v : Value} {sl : Slot} {Q : Unit → Shared → Prop} (V : EnvOK sc env) (N : NmOK nm)
    (S : StC U h₀ Xc env nm X s.heap ρ m σ) (hx : nm[i]? = some (some x)) (hk : sc.names.lookup x = some .local ∨ (sc.names.lookup x = some .cell ∧ (env.cells.lookup x).isSome = true))
    (F : Fit U h₀ nm X s.heap ρ σ env.locals i v sl)
    (h : ∀ h' t' m', StC U h₀ Xc env nm X h' (sset ρ i sl) m' (fun j => if j = i then some v else σ j) → Keeps X X s.heap h' → Q () { s with heap := h', toks := t' }) :
    wpAny M A (storeName env x v) Q E s :=
  store_nameW (fun _ => True) V N S hx (hk.imp (fun a => ⟨a, trivial⟩) fun a => ⟨a.1, a.2, fun _ _ => trivial⟩) F fun h' t' m' a b _ => h h' t' m' a b

/-- a name is read -/
theorem load_name {M : Model} {x : Str} {v : Value} {Q : Value → Shared → Prop} (V : EnvOK sc env) (ns : s.heap.Ns env.locals m) (a : At env s.heap m x v) (hn : (x == ("__classdict__" : Str)) = false)
    (q : Q v s) : wpAny M A (loadName env x) Q E s := by
  rcases a with ⟨a, b⟩ | ⟨a | a, c, b, d⟩
  · exact wpAny_loadName_local (by rw [V.es, V.kf]) a ns b q
  · exact wpAny_loadName_cell (by rw [V.es, V.kf]) a b d q
  · exact wpAny_loadName_free (by rw [V.es, V.kf]) a b d q hn
end
end

/-! A3 -/

noncomputable abbrev DE := Store → Option PyData
noncomputable abbrev DT := Store → Option Bool
noncomputable abbrev DL := Store → Option (List PyData)

noncomputable def SimE (U : Uni) (n : Nat) (sc : Scope) (nm : Nm) (e : Expr) (d : DE) : Prop :=
  ∀ (A : Around) (env : Env) (E : Value → Shared → Prop) (s : Shared) (h₀ : Heap) (Xc X : AS) (ρ : Store) (v : PyData) (Q : Value → Shared → Prop),
   AOK n A → EnvOK sc env → St U h₀ Xc env nm X s.heap ρ → d ρ = some v →
   (∀ val h' t', Ext s.heap h' → Rep X h' val v → Q val { s with heap := h', toks := t' }) →
   wpAny (model U.prog U.w) A (eval e env) Q E s
/-- a list, whoever holds it -/
noncomputable def SimB (U : Uni) (n : Nat) (sc : Scope) (nm : Nm) (e : Expr) (d : DL) : Prop :=
  ∀ (A : Around) (env : Env) (E : Value → Shared → Prop) (s : Shared) (h₀ : Heap) (Xc X : AS) (ρ : Store) (l : List PyData) (Q : Value → Shared → Prop),
   AOK n A → EnvOK sc env → St U h₀ Xc env nm X s.heap ρ → d ρ = some l →
   (∀ a vs h' t', Ext s.heap h' → h'.IsList a vs → RepL X h' vs.toList l → Q (.ref a) { s with heap := h', toks := t' }) →
   wpAny (model U.prog U.w) A (eval e env) Q E s
/-- a list just made -/
noncomputable def SimF (U : Uni) (n : Nat) (sc : Scope) (nm : Nm) (e : Expr) (d : DL) : Prop :=
  ∀ (A : Around) (env : Env) (E : Value → Shared → Prop) (s : Shared) (h₀ : Heap) (Xc X : AS) (ρ : Store) (l : List PyData) (Q : Value → Shared → Prop),
   AOK n A → EnvOK sc env → St U h₀ Xc env nm X s.heap ρ → d ρ = some l →
   (∀ a vs k h' t', Ext s.heap h' → s.heap.get? a = none → h'.get? a = some (lstObj vs k) → RepL (XA X a) h' vs.toList l → Q (.ref a) { s with heap := h', toks := t' }) →
   wpAny (model U.prog U.w) A (eval e env) Q E s
noncomputable def SimT (U : Uni) (n : Nat) (sc : Scope) (nm : Nm) (e : Expr) (d : DT) : Prop :=
  ∀ (A : Around) (env : Env) (E : Value → Shared → Prop) (s : Shared) (h₀ : Heap) (Xc X : AS) (ρ : Store) (b : Bool) (Q : Bool → Shared → Prop),
   AOK n A → EnvOK sc env → St U h₀ Xc env nm X s.heap ρ → d ρ = some b →
   (∀ h' t', Ext s.heap h' → Q b { s with heap := h', toks := t' }) →
   wpAny (model U.prog U.w) A (isTrue e env (eval e env)) Q E s
/-- several, one behind the other -/
noncomputable def SimL (U : Uni) (n : Nat) (sc : Scope) (nm : Nm) (es : List Expr) (d : DL) : Prop :=
  ∀ (pos : Pos) (A : Around) (env : Env) (E : Value → Shared → Prop) (s : Shared) (h₀ : Heap) (Xc X : AS) (ρ : Store) (l : List PyData) (Q : List Value → Shared → Prop),
   AOK n A → EnvOK sc env → St U h₀ Xc env nm X s.heap ρ → d ρ = some l →
   (∀ vals h' t', Ext s.heap h' → RepL X h' vals l → Q vals { s with heap := h', toks := t' }) →
   wpAny (model U.prog U.w) A (spliced (backTo pos (starEach es env))) Q E s

section
variable {U : Uni} {n : Nat} {sc : Scope} {nm : Nm}

theorem St.xin {h₀ : Heap} {Xc X : AS} {env : Env} {h : Heap} {ρ : Store} (S : St U h₀ Xc env nm X h ρ) : ∀ b, X b → ∃ o, h.get? b = some o := let ⟨_, _, s⟩ := S; s.xin
theorem St.notin {h₀ : Heap} {Xc X : AS} {env : Env} {h : Heap} {ρ : Store} (S : St U h₀ Xc env nm X h ρ) {a : Addr} (e : h.get? a = none) : ¬ X a := fun x => by
  obtain ⟨o, q⟩ := S.xin a x
  rw [e] at q; cases q
theorem St.top {h₀ : Heap} {Xc X : AS} {env : Env} {h : Heap} {ρ : Store} (S : St U h₀ Xc env nm X h ρ) : Ext U.hT h := let ⟨_, _, s⟩ := S; s.base.trans s.ext

noncomputable def elst (d : DL) : DE := fun ρ => match d ρ with | some l => some (.list l) | none => none
noncomputable def blst (d : DE) : DL := fun ρ => match d ρ with | some (.list l) => some l | _ => none

theorem SimF.toE {e : Expr} {d : DL} (k : SimF U n sc nm e d) : SimE U n sc nm e (elst d) := by
  intro A env E s h₀ Xc X ρ v Q hA hV hS hd h
  unfold elst at hd
  split at hd
  · rename_i l hl
    cases hd
    exact k A env E s h₀ Xc X ρ l Q hA hV hS hl fun a vs k h' t' x f g r => h _ h' t' x (.list (hS.notin f) g ⟨rfl, rfl, rfl⟩ rfl r.offA)
  · cases hd
theorem SimF.toB {e : Expr} {d : DL} (k : SimF U n sc nm e d) : SimB U n sc nm e d := by
  intro A env E s h₀ Xc X ρ l Q hA hV hS hd h
  exact k A env E s h₀ Xc X ρ l Q hA hV hS hd fun a vs k h' t' x _ g r => h a vs h' t' x ⟨_, g, rfl, _, rfl⟩ r.offA
theorem SimE.toB {e : Expr} {d : DE} (k : SimE U n sc nm e d) : SimB U n sc nm e (blst d) := by
  intro A env E s h₀ Xc X ρ l Q hA hV hS hd h
  unfold blst at hd
  split at hd
  · rename_i l' hl
    cases hd
    exact k A env E s h₀ Xc X ρ _ Q hA hV hS hl fun val h' t' x r => by
      cases r with
      | list na g c d r => exact h _ _ h' t' x ⟨_, g, c.1, _, d⟩ r
  · cases hd

/-! names, constants -/
noncomputable def evar (i : Nat) : DE := fun ρ => match sget ρ i with | .v d => some d | _ => none
noncomputable def bvar (i : Nat) : DL := fun ρ => match sget ρ i with | .o l => some l | .v (.list l) => some l | _ => none
noncomputable def econ (d : PyData) : DE := fun _ => some d

theorem SimE.name {x : Str} {pos : Pos} {i : Nat} (hx : nm[i]? = some (some x)) (hd : (x == ("__debug__" : Str)) = false) (hc : (x == ("__classdict__" : Str)) = false) :
    SimE U n sc nm (.Name x pos) (evar i) := by
  intro A env E s h₀ Xc X ρ v Q hA hV hS hv h
  obtain ⟨m, σ, S⟩ := hS
  have S0 := S.sl i x hx
  unfold evar at hv
  split at hv
  · rename_i d hq
    cases hv
    rw [hq] at S0
    obtain ⟨val, e, r⟩ := S0
    exact wpAny_Name (load_name hV S.ns (S.at' i x val hx e) hc (h val s.heap s.toks (Ext.refl _) r)) hd
  · cases hv
theorem SimB.name {x : Str} {pos : Pos} {i : Nat} (hx : nm[i]? = some (some x)) (hd : (x == ("__debug__" : Str)) = false) (hc : (x == ("__classdict__" : Str)) = false) :
    SimB U n sc nm (.Name x pos) (bvar i) := by
  intro A env E s h₀ Xc X ρ l Q hA hV hS hv h
  obtain ⟨m, σ, S⟩ := hS
  have S0 := S.sl i x hx
  unfold bvar at hv
  split at hv
  · rename_i l' hq
    cases hv
    rw [hq] at S0
    obtain ⟨a, vs, k, e, xa, fa, g, r⟩ := S0
    exact wpAny_Name (load_name hV S.ns (S.at' i x _ hx e) hc (h a vs s.heap s.toks (Ext.refl _) ⟨_, g, rfl, _, rfl⟩ r)) hd
  · rename_i l' hq
    cases hv
    rw [hq] at S0
    obtain ⟨val, e, r⟩ := S0
    cases r with
    | list na g c d r => exact wpAny_Name (load_name hV S.ns (S.at' i x _ hx e) hc (h _ _ s.heap s.toks (Ext.refl _) ⟨_, g, c.1, _, d⟩ r)) hd
  · cases hv

theorem SimE.int {i : Int} {k : Nat} {pos : Pos} : SimE U n sc nm (.Constant (.int i) k pos) (econ (.int i)) := by
  intro A env E s h₀ Xc X ρ v Q hA hV hS hv h
  cases hv
  exact wpAny_Constant_int (h _ s.heap _ (Ext.refl _) (.int i _))
theorem SimE.bool {i : Bool} {k : Nat} {pos : Pos} : SimE U n sc nm (.Constant (.bool i) k pos) (econ (.bool i)) := by
  intro A env E s h₀ Xc X ρ v Q hA hV hS hv h
  cases hv
  exact wpAny_pure (h _ s.heap s.toks (Ext.refl _) (.bool i))
theorem SimE.none {k : Nat} {pos : Pos} : SimE U n sc nm (.Constant .none k pos) (econ .none) := by
  intro A env E s h₀ Xc X ρ v Q hA hV hS hv h
  cases hv
  exact wpAny_pure (h _ s.heap s.toks (Ext.refl _) .none)

/-! ints -/
noncomputable def IRule (U : Uni) (op : Operator) (f : Int → Int → Option Int) : Prop :=
  ∀ (A : Around) (E : Value → Shared → Prop) (s : Shared) (x y : Int) (t u : Tok) (z : Int) (Q : Value → Shared → Prop), f x y = some z →
    (∀ t' k, Q (.int z t') { s with toks := k }) → wpAny (model U.prog U.w) A (binaryOp op (.int x t) (.int y u)) Q E s
noncomputable def iop (f : Int → Int → Option Int) (a b : DE) : DE := fun ρ => match a ρ with
  | some (.int x) => (match b ρ with
    | some (.int y) => (match f x y with | some z => some (.int z) | none => none)
    | _ => none)
  | _ => none
theorem iop_inv {f : Int → Int → Option Int} {a b : DE} {ρ : Store} {v : PyData} (h : iop f a b ρ = some v) : ∃ x y z, a ρ = some (.int x) ∧ b ρ = some (.int y) ∧ f x y = some z ∧ v = .int z := by
  unfold iop at h
  split at h
  · split at h
    · split at h
      · rename_i x hx _ y hy _ z hz
        exact ⟨x, y, z, hx, hy, hz, (Option.some.inj h).symm⟩
      · cases h
    · cases h
  · cases h
theorem SimE.iop {op : Operator} {f : Int → Int → Option Int} (R : IRule U op f) {l r : Expr} {pos : Pos} {a b : DE} (hl : SimE U n sc nm l a) (hr : SimE U n sc nm r b) :
    SimE U n sc nm (.BinOp l op r pos) (Mine.iop f a b) := by
  intro A env E s h₀ Xc X ρ v Q hA hV hS hv h
  obtain ⟨x, y, z, ha, hb, hf, rfl⟩ := iop_inv hv
  refine wpAny_BinOp (hl A env E s h₀ Xc X ρ _ _ hA hV hS ha fun v1 h1 t1 x1 r1 => ?_)
  refine hr A env E _ h₀ Xc X ρ _ _ hA hV (hS.ext' x1) hb fun v2 h2 t2 x2 r2 => ?_
  cases r1; cases r2
  exact R A E _ x y _ _ z Q hf fun t' k => h _ h2 k (x1.trans x2) (.int z t')

noncomputable def fadd (x y : Int) : Option Int := some (x + y)
noncomputable def fsub (x y : Int) : Option Int := some (x - y)
noncomputable def ieqb : Int → Int → Bool
  | .ofNat a, .ofNat b => Nat.beq a b
  | .negSucc a, .negSucc b => Nat.beq a b
  | _, _ => false
theorem ieqb_eq (x y : Int) : ieqb x y = decide (x = y) := by
  rw [Bool.eq_iff_iff, decide_eq_true_iff]
  cases x <;> cases y <;> simp [ieqb, Nat.beq_eq] <;> omega
noncomputable def iltb : Int → Int → Bool
  | .ofNat a, .ofNat b => Nat.blt a b
  | .negSucc a, .negSucc b => Nat.blt b a
  | .negSucc _, .ofNat _ => true
  | .ofNat _, .negSucc _ => false
theorem iltb_eq (x y : Int) : iltb x y = decide (x < y) := by
  rw [Bool.eq_iff_iff, decide_eq_true_iff]
  cases x <;> cases y <;> simp [iltb, Nat.blt_eq] <;> omega
end

/-! A4 -/
section
variable {U : Uni} {n : Nat} {sc : Scope} {nm : Nm}

theorem irule_add : IRule U .Add fadd := by
  intro A E s x y t u z Q hz h; cases hz; exact wpAny_add_int (h _ _)
theorem irule_sub : IRule U .Sub fsub := by
  intro A E s x y t u z Q hz h; cases hz; exact sub_int (h _ _)
noncomputable def fmul (x y : Int) : Option Int := match iltb x 4611686018427387904, iltb (-4611686018427387904) x with
  | true, true => some (x * y)
  | _, _ => none
theorem irule_mul : IRule U .Mult fmul := by
  intro A E s x y t u z Q hz h
  unfold fmul at hz
  split at hz
  · rename_i h1 h2
    rw [iltb_eq, decide_eq_true_iff] at h1 h2
    cases hz
    exact mul_int (h _ _) (IntMulOk.of_left (intBits_le_64 (by omega) (by omega)))
  · cases hz
noncomputable def ffdiv (x y : Int) : Option Int := match iltb 0 y, iltb y 4611686018427387904 with
  | true, true => some (x.fdiv y)
  | _, _ => none
theorem irule_fdiv : IRule U .FloorDiv ffdiv := by
  intro A E s x y t u z Q hz h
  unfold ffdiv at hz
  split at hz
  · rename_i h1 h2
    rw [iltb_eq, decide_eq_true_iff] at h1 h2
    cases hz
    refine floordiv_int (by omega) (h _ _) (.inl ?_)
    have hb := intBits_le_64 (k := y) (by omega) (by omega)
    have hy : (y == 0) = false := by simp; omega
    unfold Builtin.Int.intBits at hb
    simp only [hy, Bool.false_eq_true, if_false] at hb
    unfold Builtin.divisionGoesByPylong
    simp only [hy, Bool.false_eq_true, if_false]
    have : ¬ (y.natAbs.log2 / 30 + 1 > 300) := by omega
    simp [this]
  · cases hz
noncomputable def fmod (x y : Int) : Option Int := match iltb 0 y with
  | true => some (x.fmod y)
  | false => none
theorem irule_mod : IRule U .Mod fmod := by
  intro A E s x y t u z Q hz h
  unfold fmod at hz
  split at hz
  · rename_i h1
    rw [iltb_eq, decide_eq_true_iff] at h1
    cases hz
    exact mod_int' (by omega) (h _ _)
  · cases hz
noncomputable def fpow : Int → Int → Option Int
  | .ofNat a, .ofNat b => match Nat.blt a 1048576, Nat.blt b 1024 with
    | true, true => some (.ofNat (Nat.pow a b))
    | _, _ => none
  | _, _ => none
theorem irule_pow : IRule U .Pow fpow := by
  intro A E s x y t u z Q hz h
  unfold fpow at hz
  split at hz
  · rename_i a b
    split at hz
    · rename_i h1 h2
      rw [Nat.blt_eq] at h1 h2
      cases hz
      refine pow_int (Int.natCast_nonneg b) ?_ ?_
      · have hb := intBits_le_64 (k := Int.ofNat a) (by simp only [Int.ofNat_eq_natCast]; omega) (by simp only [Int.ofNat_eq_natCast]; omega)
        have : (Builtin.Int.intBits (Int.ofNat a) : Int) * (Int.ofNat b) ≤ 64 * 1024 := by
          apply Int.mul_le_mul (by omega) (by simp only [Int.ofNat_eq_natCast]; omega) (by simp only [Int.ofNat_eq_natCast]; omega) (by omega)
        omega
      · have e : (Int.ofNat a) ^ (Int.ofNat b).toNat = Int.ofNat (Nat.pow a b) := by
          show ((a : Int)) ^ b = ((a ^ b : Nat) : Int)
          exact (Int.natCast_pow a b).symm
        rw [e]; exact h _ _
    · cases hz
  · cases hz

noncomputable def eneg (a : DE) : DE := fun ρ => match a ρ with | some (.int x) => some (.int (-x)) | _ => none
theorem SimE.neg {e : Expr} {pos : Pos} {a : DE} (k : SimE U n sc nm e a) : SimE U n sc nm (.UnaryOp .USub e pos) (eneg a) := by
  intro A env E s h₀ Xc X ρ v Q hA hV hS hv h
  unfold eneg at hv
  split at hv
  · rename_i x hx
    cases hv
    refine UnaryOp_ (k A env E s h₀ Xc X ρ _ _ hA hV hS hx fun v1 h1 t1 x1 r1 => ?_)
    cases r1
    exact neg_int (h _ h1 _ x1 (.int _ _))
  · cases hv

/-! comparisons -/
noncomputable def Cmp (U : Uni) (n : Nat) (sc : Scope) (nm : Nm) (op : CmpOp) (l r : Expr) (d : DT) : Prop :=
  ∀ (A : Around) (env : Env) (E : Value → Shared → Prop) (s : Shared) (h₀ : Heap) (Xc X : AS) (ρ : Store) (b : Bool) (Q : Value → Shared → Prop),
   AOK n A → EnvOK sc env → St U h₀ Xc env nm X s.heap ρ → d ρ = some b →
   (∀ h' t', Ext s.heap h' → Q (.bool b) { s with heap := h', toks := t' }) →
   wpAny (model U.prog U.w) A (eval l env) (fun a s₁ => wpAny (model U.prog U.w) A (eval r env) (fun b s₂ => wpAny (model U.prog U.w) A (compareOp op a b) Q E s₂) E s₁) E s
noncomputable def ebool (d : DT) : DE := fun ρ => match d ρ with | some b => some (.bool b) | none => none
theorem Cmp.toT {op : CmpOp} {l r : Expr} {pos : Pos} {d : DT} (k : Cmp U n sc nm op l r d) (hm : behindInMarks op r = false := by with_unfolding_all rfl) : SimT U n sc nm (.Compare l [op] [r] pos) d := by
  intro A env E s h₀ Xc X ρ b Q hA hV hS hd h
  exact wpAny_isTrue_Compare1 (wpAny_mono (k A env E s h₀ Xc X ρ b _ hA hV hS hd fun h' t' x => wpAny_truthy_bool (h h' t' x)) (fun a s1 h1 => wpAny_mono h1 (fun b s2 h2 => h2) fun _ _ e => e) fun _ _ e => e) hm
theorem Cmp.toE {op : CmpOp} {l r : Expr} {pos : Pos} {d : DT} (k : Cmp U n sc nm op l r d) (hm : behindInMarks op r = false := by with_unfolding_all rfl) : SimE U n sc nm (.Compare l [op] [r] pos) (ebool d) := by
  intro A env E s h₀ Xc X ρ v Q hA hV hS hv h
  unfold ebool at hv
  split at hv
  · rename_i b hb
    cases hv
    exact wpAny_Compare1 (k A env E s h₀ Xc X ρ b _ hA hV hS hb fun h' t' x => h _ h' t' x (.bool b)) hm
  · cases hv

noncomputable def CRule (U : Uni) (op : CmpOp) (f : Int → Int → Bool) : Prop :=
  ∀ (A : Around) (E : Value → Shared → Prop) (s : Shared) (x y : Int) (t u : Tok) (Q : Value → Shared → Prop), Q (.bool (f x y)) s → wpAny (model U.prog U.w) A (compareOp op (.int x t) (.int y u)) Q E s
noncomputable def icmp (f : Int → Int → Bool) (a b : DE) : DT := fun ρ => match a ρ with
  | some (.int x) => (match b ρ with | some (.int y) => some (f x y) | _ => none)
  | _ => none
theorem Cmp.int {op : CmpOp} {f : Int → Int → Bool} (R : CRule U op f) {l r : Expr} {a b : DE} (hl : SimE U n sc nm l a) (hr : SimE U n sc nm r b) : Cmp U n sc nm op l r (icmp f a b) := by
  intro A env E s h₀ Xc X ρ v Q hA hV hS hv h
  unfold icmp at hv
  split at hv
  · rename_i x hx
    split at hv
    · rename_i y hy
      cases hv
      refine hl A env E s h₀ Xc X ρ _ _ hA hV hS hx fun v1 h1 t1 x1 r1 => ?_
      refine hr A env E _ h₀ Xc X ρ _ _ hA hV (hS.ext' x1) hy fun v2 h2 t2 x2 r2 => ?_
      cases r1; cases r2
      exact R A E _ x y _ _ _ (h h2 t2 (x1.trans x2))
    · cases hv
  · cases hv
noncomputable def cne (x y : Int) : Bool := !ieqb x y
noncomputable def cle (x y : Int) : Bool := !iltb y x
noncomputable def cgt (x y : Int) : Bool := iltb y x
noncomputable def cge (x y : Int) : Bool := !iltb x y
theorem crule_eq : CRule U .Eq ieqb := by
  intro A E s x y t u Q h
  rw [ieqb_eq] at h
  exact eq_int (by rw [show (x == y) = decide (x = y) from rfl]; exact h)
theorem crule_ne : CRule U .NotEq cne := by
  intro A E s x y t u Q h
  unfold cne at h; rw [ieqb_eq] at h
  exact ne_int (by rw [show (x != y) = !decide (x = y) from rfl]; exact h)
theorem crule_lt : CRule U .Lt iltb := by
  intro A E s x y t u Q h
  rw [iltb_eq] at h
  exact wpAny_lt_int h
theorem crule_le : CRule U .LtE cle := by
  intro A E s x y t u Q h
  unfold cle at h; rw [iltb_eq] at h
  exact le_int (by rw [show decide (x ≤ y) = !decide (y < x) from by by_cases q : x ≤ y <;> simp [q] <;> omega]; exact h)
theorem crule_gt : CRule U .Gt cgt := by
  intro A E s x y t u Q h
  unfold cgt at h; rw [iltb_eq] at h
  exact gt_int h
theorem crule_ge : CRule U .GtE cge := by
  intro A E s x y t u Q h
  unfold cge at h; rw [iltb_eq] at h
  exact ge_int (by rw [show decide (y ≤ x) = !decide (x < y) from by by_cases q : y ≤ x <;> simp [q] <;> omega]; exact h)

/-! equality of data -/
noncomputable def isFlat : PyData → Bool
  | .list _ => false
  | .tuple _ => false
  | .dict _ => false
  | .str _ => false
  | _ => true
noncomputable def flatEq : PyData → PyData → Option Bool
  | .int x, .int y => some (ieqb x y)
  | .bool x, .bool y => some (x == y)
  | .none, .none => some true
  | .none, .int _ => some false
  | .int _, .none => some false
  | _, _ => none
noncomputable def listEq : List PyData → List PyData → Option Bool
  | [], [] => some true
  | [], _ :: _ => some false
  | _ :: _, [] => some false
  | x :: xs, y :: ys => match flatEq x y with
    | some true => listEq xs ys
    | some false => some false
    | none => none
noncomputable def allFlat : List PyData → Bool
  | [] => true
  | x :: xs => match isFlat x with | true => allFlat xs | false => false
noncomputable def shal : PyData → Bool
  | .list xs => allFlat xs
  | x => isFlat x
noncomputable def allShal : List PyData → Bool
  | [] => true
  | x :: xs => match shal x with | true => allShal xs | false => false
noncomputable def peq : PyData → PyData → Option Bool
  | .list xs, .list ys => (match allFlat xs, allFlat ys with
    | true, true => listEq xs ys
    | _, _ => (match ys with | [] => (match allShal xs with | true => some false | false => none) | _ => none))
  | x, y => flatEq x y
theorem peq_nil {l : List PyData} (h : allFlat l = true) : peq (.list l) (.list []) = listEq l [] := by
  have e : peq (.list l) (.list []) = (match allFlat l, allFlat [] with | true, true => listEq l [] | _, _ => (match allShal l with | true => some false | false => none)) := rfl
  rw [e, h]; rfl

theorem flatEq_eqv {x y : PyData} {b : Bool} (h : flatEq x y = some b) : PyData.eqv x y = b ∧ y.depth = 0 := by
  unfold flatEq at h
  split at h <;> first | (cases h; done) | (cases h; simp [PyData.eqv, PyData.depth, ieqb_eq]; try rfl)
theorem listEq_eqv : ∀ {xs ys : List PyData} {b : Bool}, listEq xs ys = some b → PyData.eqvAll xs ys = b
  | [], [], _, h => by cases h; rfl
  | [], _ :: _, _, h => by cases h; rfl
  | _ :: _, [], _, h => by cases h; rfl
  | x :: xs, y :: ys, b, h => by
    unfold listEq at h
    split at h
    · rename_i q
      rw [PyData.eqvAll, (flatEq_eqv q).1, listEq_eqv h]; simp
    · rename_i q
      cases h
      rw [PyData.eqvAll, (flatEq_eqv q).1]; simp
    · cases h
theorem allFlat_depth : ∀ {ys : List PyData}, allFlat ys = true → PyData.depthAll ys = 0
  | [], _ => rfl
  | y :: ys, h => by
    unfold allFlat at h
    split at h
    · rename_i q
      rw [PyData.depthAll, allFlat_depth h]
      cases y <;> first | (cases q; done) | simp [PyData.depth]
    · cases h
theorem peq_eqv {x y : PyData} {b : Bool} (h : peq x y = some b) : PyData.eqv x y = b ∧ y.depth ≤ 1 := by
  unfold peq at h
  split at h
  · rename_i xs ys
    split at h
    · rename_i q
      refine ⟨by rw [PyData.eqv, listEq_eqv h], ?_⟩
      rw [PyData.depth, allFlat_depth q]; omega
    · rename_i hne
      split at h
      · split at h
        · cases h
          cases xs with
          | nil => exact (hne rfl rfl).elim
          | cons x r => exact ⟨rfl, by simp [PyData.depth, PyData.depthAll]⟩
        · cases h
      · cases h
  · exact ⟨(flatEq_eqv h).1, by rw [(flatEq_eqv h).2]; omega⟩
theorem isFlat_clean {y : PyData} (h : isFlat y = true) : y.canLay0 = true := by
  cases y <;> first | rfl | cases h
theorem allFlat_clean : ∀ {ys : List PyData}, allFlat ys = true → PyData.canLayAll0 ys = true
  | [], _ => rfl
  | y :: ys, h => by
    unfold allFlat at h
    split at h
    · rename_i q
      rw [PyData.canLayAll0, isFlat_clean q, allFlat_clean h]; rfl
    · cases h
theorem flatEq_clean {x y : PyData} {b : Bool} (h : flatEq x y = some b) : x.canLay0 = true ∧ y.canLay0 = true := by
  unfold flatEq at h
  split at h <;> first | exact ⟨rfl, rfl⟩ | cases h
theorem shal_clean {d : PyData} (h : shal d = true) : d.canLay0 = true := by
  unfold shal at h
  split at h
  · rw [PyData.canLay0]; exact allFlat_clean h
  · exact isFlat_clean h
theorem allShal_clean : ∀ {ys : List PyData}, allShal ys = true → PyData.canLayAll0 ys = true
  | [], _ => rfl
  | y :: ys, h => by
    unfold allShal at h
    split at h
    · rename_i q
      rw [PyData.canLayAll0, shal_clean q, allShal_clean h]; rfl
    · cases h
theorem peq_clean {x y : PyData} {b : Bool} (h : peq x y = some b) : x.canLay0 = true ∧ y.canLay0 = true := by
  unfold peq at h
  split at h
  · split at h
    · rename_i q1 q2
      exact ⟨by rw [PyData.canLay0]; exact allFlat_clean q1, by rw [PyData.canLay0]; exact allFlat_clean q2⟩
    · split at h
      · split at h
        · rename_i q
          exact ⟨by rw [PyData.canLay0]; exact allShal_clean q, rfl⟩
        · cases h
      · cases h
  · exact flatEq_clean h

/-- an operand that can be read -/
noncomputable def SimR (U : Uni) (n : Nat) (sc : Scope) (nm : Nm) (e : Expr) (d : DE) : Prop :=
  ∀ (A : Around) (env : Env) (E : Value → Shared → Prop) (s : Shared) (h₀ : Heap) (Xc X : AS) (ρ : Store) (v : PyData) (Q : Value → Shared → Prop),
   AOK n A → EnvOK sc env → St U h₀ Xc env nm X s.heap ρ → d ρ = some v →
   (∀ val h' t', Ext s.heap h' → (v.canLay0 = true → ∃ as, Reads h' val v as) → Q val { s with heap := h', toks := t' }) →
   wpAny (model U.prog U.w) A (eval e env) Q E s
theorem SimE.toR {e : Expr} {d : DE} (k : SimE U n sc nm e d) : SimR U n sc nm e d := by
  intro A env E s h₀ Xc X ρ v Q hA hV hS hd h
  exact k A env E s h₀ Xc X ρ v Q hA hV hS hd fun val h' t' x r => h val h' t' x r.reads
theorem SimB.toR {e : Expr} {d : DL} (k : SimB U n sc nm e d) : SimR U n sc nm e (elst d) := by
  intro A env E s h₀ Xc X ρ v Q hA hV hS hd h
  unfold elst at hd
  split at hd
  · rename_i l hl
    cases hd
    exact k A env E s h₀ Xc X ρ l Q hA hV hS hl fun a vs h' t' x ⟨_, g, c, _, d⟩ r => h _ h' t' x fun cl => let ⟨as, q⟩ := r.reads (by rw [PyData.canLay0] at cl; exact cl); ⟨_, .list g c d q⟩
  · cases hd

noncomputable def deq (a b : DE) : DT := fun ρ => match a ρ with
  | some x => (match b ρ with | some y => peq x y | none => none)
  | none => none
noncomputable def dne (a b : DE) : DT := fun ρ => match a ρ with
  | some x => (match b ρ with | some y => (match peq x y with | some b => some (!b) | none => none) | none => none)
  | none => none
theorem units64 {A : Around} (h : AOK n A) : A.units + 64 < cLine := by have := h.2.2; unfold cLine; omega
theorem Cmp.eq {l r : Expr} {a b : DE} (hl : SimR U n sc nm l a) (hr : SimR U n sc nm r b) : Cmp U n sc nm .Eq l r (deq a b) := by
  intro A env E s h₀ Xc X ρ v Q hA hV hS hv h
  unfold deq at hv
  split at hv
  · rename_i x hx
    split at hv
    · rename_i y hy
      refine hl A env E s h₀ Xc X ρ _ _ hA hV hS hx fun v1 h1 t1 x1 r1 => ?_
      refine hr A env E _ h₀ Xc X ρ _ _ hA hV (hS.ext' x1) hy fun v2 h2 t2 x2 r2 => ?_
      obtain ⟨e, dp⟩ := peq_eqv hv
      obtain ⟨c1, c2⟩ := peq_clean hv
      obtain ⟨as1, r1⟩ := r1 c1
      obtain ⟨as2, r2⟩ := r2 c2
      exact SeqAt.compareEq_reads (Reads.keeps x2 r1) r2 c1 c2 (by have := units64 hA; omega) (by rw [e]; exact h h2 t2 (x1.trans x2))
    · cases hv
  · cases hv
theorem Cmp.ne {l r : Expr} {a b : DE} (hl : SimR U n sc nm l a) (hr : SimR U n sc nm r b) : Cmp U n sc nm .NotEq l r (dne a b) := by
  intro A env E s h₀ Xc X ρ v Q hA hV hS hv h
  unfold dne at hv
  split at hv
  · rename_i x hx
    split at hv
    · rename_i y hy
      split at hv
      · rename_i b hb
        cases hv
        refine hl A env E s h₀ Xc X ρ _ _ hA hV hS hx fun v1 h1 t1 x1 r1 => ?_
        refine hr A env E _ h₀ Xc X ρ _ _ hA hV (hS.ext' x1) hy fun v2 h2 t2 x2 r2 => ?_
        obtain ⟨e, dp⟩ := peq_eqv hb
        obtain ⟨c1, c2⟩ := peq_clean hb
        obtain ⟨as1, r1⟩ := r1 c1
        obtain ⟨as2, r2⟩ := r2 c2
        exact SeqAt.compareNe_reads (Reads.keeps x2 r1) r2 c1 c2 (by have := units64 hA; omega) (by rw [e]; exact h h2 t2 (x1.trans x2))
      · cases hv
    · cases hv
  · cases hv

/-! «in» a list -/
noncomputable def pin (d : PyData) : List PyData → Option Bool
  | [] => some false
  | x :: xs => match peq x d with
    | some true => some true
    | some false => pin d xs
    | none => none
theorem shal_depth {d : PyData} (h : shal d = true) : d.depth ≤ 1 := by
  unfold shal at h
  split at h
  · rw [PyData.depth, allFlat_depth h]; omega
  · cases d <;> first | (cases h; done) | simp [PyData.depth]
theorem pin_any {d : PyData} : ∀ {xs : List PyData} {b : Bool}, pin d xs = some b → (xs.any fun y => PyData.eqv y d) = b
  | [], _, h => by cases h; rfl
  | x :: xs, b, h => by
    unfold pin at h
    split at h
    · rename_i q
      cases h
      rw [List.any_cons, (peq_eqv q).1]; rfl
    · rename_i q
      rw [List.any_cons, (peq_eqv q).1, pin_any h]; rfl
    · cases h
noncomputable def tin (a : DE) (b : DL) : DT := fun ρ => match a ρ with
  | some x => (match b ρ with | some l => (match shal x, allShal l with | true, true => pin x l | _, _ => none) | none => none)
  | none => none
theorem Cmp.isin {l r : Expr} {a : DE} {b : DL} (hl : SimR U n sc nm l a) (hr : SimB U n sc nm r b) : Cmp U n sc nm .In l r (tin a b) := by
  intro A env E s h₀ Xc X ρ v Q hA hV hS hv h
  unfold tin at hv
  split at hv
  · rename_i x hx
    split at hv
    · rename_i y hy
      split at hv
      · rename_i hsh hal
        refine hl A env E s h₀ Xc X ρ _ _ hA hV hS hx fun v1 h1 t1 x1 r1 => ?_
        refine hr A env E _ h₀ Xc X ρ _ _ hA hV (hS.ext' x1) hy fun a2 vs2 h2 t2 x2 g2 r2 => ?_
        have c1 := shal_clean hsh
        have cl := allShal_clean hal
        obtain ⟨as, q⟩ := r2.reads cl
        obtain ⟨_, r1⟩ := r1 c1
        obtain ⟨_, g2, c2, _, d2⟩ := g2
        refine SeqAt.in_list_reads (.list g2 c2 d2 q) (Reads.keeps x2 r1) cl c1 ?_ (by rw [pin_any hv]; exact h h2 t2 (x1.trans x2))
        have := units64 hA
        have := shal_depth hsh
        omega
      · cases hv
    · cases hv
  · cases hv

/-! truth -/
noncomputable def tnot (d : DT) : DT := fun ρ => match d ρ with | some b => some (!b) | none => none
noncomputable def tand (a b : DT) : DT := fun ρ => match a ρ with | some true => b ρ | some false => some false | none => none
noncomputable def tor (a b : DT) : DT := fun ρ => match a ρ with | some true => some true | some false => b ρ | none => none
theorem SimT.not {e : Expr} {pos : Pos} {d : DT} (k : SimT U n sc nm e d) : SimT U n sc nm (.UnaryOp .Not e pos) (tnot d) := by
  intro A env E s h₀ Xc X ρ b Q hA hV hS hd h
  unfold tnot at hd
  split at hd
  · rename_i c hc
    cases hd
    exact isTrue_not (k A env E s h₀ Xc X ρ c _ hA hV hS hc h)
  · cases hd
noncomputable def AllT (U : Uni) (n : Nat) (sc : Scope) (nm : Nm) (op : BoolOp) (es : List Expr) (d : DT) : Prop :=
  ∀ (A : Around) (env : Env) (E : Value → Shared → Prop) (s : Shared) (h₀ : Heap) (Xc X : AS) (ρ : Store) (b : Bool) (Q : Bool → Shared → Prop),
   AOK n A → EnvOK sc env → St U h₀ Xc env nm X s.heap ρ → d ρ = some b →
   (∀ h' t', Ext s.heap h' → Q b { s with heap := h', toks := t' }) →
   wpAny (model U.prog U.w) A (allTrue op es env) Q E s
theorem AllT.toT {op : BoolOp} {es : List Expr} {pos : Pos} {d : DT} (k : AllT U n sc nm op es d) : SimT U n sc nm (.BoolOp op es pos) d := by
  intro A env E s h₀ Xc X ρ b Q hA hV hS hd h
  exact wpAny_isTrue_BoolOp (k A env E s h₀ Xc X ρ b Q hA hV hS hd h)
theorem AllT.one {op : BoolOp} {e : Expr} {d : DT} (k : SimT U n sc nm e d) : AllT U n sc nm op [e] d := by
  intro A env E s h₀ Xc X ρ b Q hA hV hS hd h
  rw [arm_allTrue_cons]
  refine wpAny_bind (k A env E s h₀ Xc X ρ b _ hA hV hS hd fun h' t' x => ?_)
  cases op <;> cases b <;> exact wpAny_pure (h h' t' x)
theorem AllT.and {e : Expr} {es : List Expr} {d d' : DT} (k : SimT U n sc nm e d) (k' : AllT U n sc nm .And es d') : AllT U n sc nm .And (e :: es) (tand d d') := by
  intro A env E s h₀ Xc X ρ b Q hA hV hS hd h
  rw [arm_allTrue_cons]
  unfold tand at hd
  split at hd
  · rename_i q
    refine wpAny_bind (k A env E s h₀ Xc X ρ _ _ hA hV hS q fun h' t' x => ?_)
    exact k' A env E _ h₀ Xc X ρ b Q hA hV (hS.ext' x) hd fun h2 t2 x2 => h h2 t2 (x.trans x2)
  · rename_i q
    cases hd
    exact wpAny_bind (k A env E s h₀ Xc X ρ _ _ hA hV hS q fun h' t' x => wpAny_pure (h h' t' x))
  · cases hd
theorem AllT.or {e : Expr} {es : List Expr} {d d' : DT} (k : SimT U n sc nm e d) (k' : AllT U n sc nm .Or es d') : AllT U n sc nm .Or (e :: es) (tor d d') := by
  intro A env E s h₀ Xc X ρ b Q hA hV hS hd h
  rw [arm_allTrue_cons]
  unfold tor at hd
  split at hd
  · rename_i q
    cases hd
    exact wpAny_bind (k A env E s h₀ Xc X ρ _ _ hA hV hS q fun h' t' x => wpAny_pure (h h' t' x))
  · rename_i q
    refine wpAny_bind (k A env E s h₀ Xc X ρ _ _ hA hV hS q fun h' t' x => ?_)
    exact k' A env E _ h₀ Xc X ρ b Q hA hV (hS.ext' x) hd fun h2 t2 x2 => h h2 t2 (x.trans x2)
  · cases hd

/-- the truth of a value -/
noncomputable def truth : PyData → Option Bool
  | .bool b => some b
  | .list [] => some false
  | .list (_ :: l) => (match Nat.blt l.length 4294967296 with | true => some true | false => none)
  | _ => none
theorem truthy_rep {A : Around} {E : Value → Shared → Prop} {s : Shared} {X : AS} {v : Value} {d : PyData} {b : Bool} {Q : Bool → Shared → Prop} (r : Rep X s.heap v d) (t : truth d = some b)
    (h : ∀ t', Q b { s with toks := t' }) : wpAny (model U.prog U.w) A (truthy v) Q E s := by
  unfold truth at t
  split at t
  · cases t; cases r; exact wpAny_truthy_bool (h s.toks)
  · cases t
    cases r with
    | @list a o vs k _ _ g c d r =>
      have hl := r.length
      simp only [Array.length_toList, List.length_nil] at hl
      refine wpAny_truthy_list ⟨_, g, c.1, _, d⟩ (by omega) ?_
      have : (!vs.isEmpty) = false := by simp [Array.size_eq_zero_iff.mp hl]
      rw [this]; exact h _
  · rename_i l
    split at t
    · rename_i q
      rw [Nat.blt_eq] at q
      cases t
      cases r with
      | @list a o vs k _ _ g c d r =>
        have hl := r.length
        simp only [Array.length_toList, List.length_cons] at hl
        refine wpAny_truthy_list ⟨_, g, c.1, _, d⟩ (by omega) ?_
        have : (!vs.isEmpty) = true := by
          rw [Bool.not_eq_true', ← Bool.not_eq_true, Array.isEmpty_iff_size_eq_zero]; omega
        rw [this]; exact h _
    · cases t
  · cases t
noncomputable def tval (d : DE) : DT := fun ρ => match d ρ with | some v => truth v | none => none
theorem SimT.val {e : Expr} {d : DE} (k : SimE U n sc nm e d)
    (he : ∀ env whole, PySem.isTrue e env whole = (do let v ← whole; standAt e.pos; holding [v] (truthy v)) := by intro _ _; with_unfolding_all rfl) : SimT U n sc nm e (tval d) := by
  intro A env E s h₀ Xc X ρ b Q hA hV hS hd h
  unfold tval at hd
  split at hd
  · rename_i v hv
    exact isTrue_plain (k A env E s h₀ Xc X ρ v _ hA hV hS hv fun val h' t' x r => truthy_rep r hd fun t2 => h h' t2 x) (he _ _)
  · cases hd

noncomputable def eand (a b : DE) : DE := fun ρ => match a ρ with | some v => (match truth v with | some true => b ρ | some false => some v | none => none) | none => none
noncomputable def eor (a b : DE) : DE := fun ρ => match a ρ with | some v => (match truth v with | some true => some v | some false => b ρ | none => none) | none => none
theorem SimE.bone {op : BoolOp} {e : Expr} {pos : Pos} {d : DE} (k : SimE U n sc nm e d) : SimE U n sc nm (.BoolOp op [e] pos) d := by
  intro A env E s h₀ Xc X ρ v Q hA hV hS hv h
  exact BoolOp_one (k A env E s h₀ Xc X ρ v Q hA hV hS hv h)
theorem SimE.or {e f : Expr} {es : List Expr} {pos : Pos} {d d' : DE} (k : SimE U n sc nm e d) (k' : SimE U n sc nm (.BoolOp .Or (f :: es) pos) d') : SimE U n sc nm (.BoolOp .Or (e :: f :: es) pos) (eor d d') := by
  intro A env E s h₀ Xc X ρ v Q hA hV hS hv h
  unfold eor at hv
  split at hv
  · rename_i w hw
    refine BoolOp_or (k A env E s h₀ Xc X ρ w _ hA hV hS hw fun val h' t' x r => ?_)
    split at hv
    · rename_i q
      cases hv
      exact truthy_rep r q fun t2 => h val h' t2 x r
    · rename_i q
      exact truthy_rep r q fun t2 => k' A env E _ h₀ Xc X ρ v Q hA hV (hS.ext' x) hv fun val2 h2 t3 x2 r2 => h val2 h2 t3 (x.trans x2) r2
    · cases hv
  · cases hv

noncomputable def eife (t : DT) (a b : DE) : DE := fun ρ => match t ρ with | some true => a ρ | some false => b ρ | none => none
theorem SimE.ife {t a b : Expr} {pos : Pos} {dt : DT} {da db : DE} (kt : SimT U n sc nm t dt) (ka : SimE U n sc nm a da) (kb : SimE U n sc nm b db) : SimE U n sc nm (.IfExp t a b pos) (eife dt da db) := by
  intro A env E s h₀ Xc X ρ v Q hA hV hS hv h
  unfold eife at hv
  split at hv
  · rename_i q
    refine IfExp_ (kt A env E s h₀ Xc X ρ _ _ hA hV hS q fun h' t' x => ?_)
    rw [if_pos rfl]
    exact ka A env E _ h₀ Xc X ρ v Q hA hV (hS.ext' x) hv fun val2 h2 t3 x2 r2 => h val2 h2 t3 (x.trans x2) r2
  · rename_i q
    refine IfExp_ (kt A env E s h₀ Xc X ρ _ _ hA hV hS q fun h' t' x => ?_)
    rw [if_neg Bool.false_ne_true]
    exact kb A env E _ h₀ Xc X ρ v Q hA hV (hS.ext' x) hv fun val2 h2 t3 x2 r2 => h val2 h2 t3 (x.trans x2) r2
  · cases hv
end

/-! A5 -/
section
variable {U : Uni} {n : Nat} {sc : Scope} {nm : Nm}

/-! global names -/
section
variable {A : Around} {E : Value → Shared → Prop} {s : Shared} {env : Env}
theorem glob_any {x : Str} {pos : Pos} {v : Value} {Q : Value → Shared → Prop} (V : EnvOK sc env) (k : Ext U.hT s.heap) (hk : sc.names.lookup x = some .globalImplicit) (hv : U.mg x = some v) (hd : (x == ("__debug__" : Str)) = false)
    (h : Q v s) : wpAny (model U.prog U.w) A (eval (.Name x pos) env) Q E s :=
  Name_function_global (by rw [V.es, V.kf]) ((kindOf_sc V x).trans hk) (loadGlobal_global (by rw [V.gl]; exact U.g.keeps k) hv h) hd
theorem boot_any {x : Str} {pos : Pos} {v : Value} {Q : Value → Shared → Prop} (V : EnvOK sc env) (k : Ext U.hT s.heap) (hk : sc.names.lookup x = some .globalImplicit) (hf : x ∈ freeNames) (hn : x ≠ "__name__") (hv : bootBuiltins x = some v) (hd : (x == ("__debug__" : Str)) = false)
    (h : Q v s) : wpAny (model U.prog U.w) A (eval (.Name x pos) env) Q E s :=
  Name_function_global (by rw [V.es, V.kf]) ((kindOf_sc V x).trans hk) (loadGlobal_builtin (by rw [V.gl]; exact U.g.keeps k) (U.free x hf) (by rw [V.bu]; exact U.b.keeps k) ((U.bt x hn).trans hv) h) hd
end

/-! several expressions -/
noncomputable def lnil : DL := fun _ => some []
noncomputable def lcons (a : DE) (b : DL) : DL := fun ρ => match a ρ with | some x => (match b ρ with | some l => some (x :: l) | none => none) | none => none
theorem SimL.nil : SimL U n sc nm [] lnil := by
  intro pos A env E s h₀ Xc X ρ l Q hA hV hS hd h
  cases hd
  exact spliced_nil (h [] s.heap s.toks (Ext.refl _) .nil)
theorem SimL.cons {e : Expr} {es : List Expr} {a : DE} {b : DL} (k : SimE U n sc nm e a) (k' : SimL U n sc nm es b)
    (hst : ∀ env rest, starEach (e :: rest) env = (false, eval e env) :: starEach rest env := by intro _ _; with_unfolding_all rfl) : SimL U n sc nm (e :: es) (lcons a b) := by
  intro pos A env E s h₀ Xc X ρ l Q hA hV hS hd h
  unfold lcons at hd
  split at hd
  · rename_i x hx
    split at hd
    · rename_i l' hl
      cases hd
      rw [hst]
      show wpAny _ _ (spliced ((false, eval e env) :: backTo pos (starEach es env))) _ _ _
      refine spliced_cons (k A env E s h₀ Xc X ρ x _ hA hV hS hx fun v1 h1 t1 x1 r1 => ?_)
      exact k' pos A env E _ h₀ Xc X ρ l' _ hA hV (hS.ext' x1) hl fun vs h2 t2 x2 r2 => h _ h2 t2 (x1.trans x2) (.cons (r1.ext (x2.toO X)) r2)
    · cases hd
  · cases hd

/-- a length that fits -/
noncomputable def fits (d : DL) : DL := fun ρ => match d ρ with | some l => (match Nat.blt l.length 1048576 with | true => some l | false => none) | none => none
theorem fits_inv {d : DL} {ρ : Store} {l : List PyData} (h : fits d ρ = some l) : d ρ = some l ∧ l.length < 1048576 := by
  unfold fits at h
  split at h
  · rename_i l' hl
    split at h
    · rename_i q
      rw [Nat.blt_eq] at q
      cases h
      exact ⟨hl, q⟩
    · cases h
  · cases h

theorem SimF.disp {es : List Expr} {pos : Pos} {d : DL} (k : SimL U n sc nm es d) : SimF U n sc nm (.List es pos) (fits d) := by
  intro A env E s h₀ Xc X ρ l Q hA hV hS hd h
  obtain ⟨hd, hn⟩ := fits_inv hd
  refine List_ (k pos A env E s h₀ Xc X ρ l _ hA hV hS hd fun vs h1 t1 x1 r1 => ?_)
  have hsz := r1.length
  refine wpAny_newObj_type ?_ (by show vs.toArray.size ≤ sizeLine; rw [List.size_toArray, sizeLine_eq]; omega)
  exact h _ vs.toArray 0 _ t1 (x1.trans (Ext.push _ _)) (x1.none (get_size _)) (Heap.get?_push_size _ rfl) ((r1.growA (get_size _)).ext ((Ext.push _ _).toO _))
noncomputable def etup (d : DL) : DE := fun ρ => match fits d ρ with | some l => some (.tuple l) | none => none
theorem SimE.tup {es : List Expr} {k0 : Nat} {pos : Pos} {d : DL} (k : SimL U n sc nm es d) : SimE U n sc nm (.Tuple es k0 pos) (etup d) := by
  intro A env E s h₀ Xc X ρ v Q hA hV hS hd h
  unfold etup at hd
  split at hd
  · rename_i l hl
    cases hd
    obtain ⟨hd, hn⟩ := fits_inv hl
    refine Tuple_ (k pos A env E s h₀ Xc X ρ l _ hA hV hS hd fun vs h1 t1 x1 r1 => ?_)
    have hsz := r1.length
    refine wpAny_newObj_type ?_ (by show vs.toArray.size ≤ sizeLine; rw [List.size_toArray, sizeLine_eq]; omega)
    exact h _ _ t1 (x1.trans (Ext.push _ _)) (.tuple (hS.notin (x1.none (get_size _))) (Heap.get?_push_size _ rfl) rfl rfl (by simpa using r1.ext ((Ext.push _ _).toO X)))
  · cases hd

/-! items -/
noncomputable def ltl (l : List PyData) : List PyData := @List.rec PyData (fun _ => List PyData) [] (fun _ r _ => r) l
noncomputable def lhd (l : List PyData) : Option PyData := @List.rec PyData (fun _ => Option PyData) none (fun x _ _ => some x) l
noncomputable def lget (l : List PyData) (i : Nat) : Option PyData := lhd (@Nat.rec (fun _ => List PyData → List PyData) (fun l => l) (fun _ f l => f (ltl l)) i l)
theorem lget_eq : ∀ (l : List PyData) (i : Nat), lget l i = l[i]?
  | [], 0 => rfl
  | [], i + 1 => (lget_eq [] i).trans (by simp)
  | _ :: _, 0 => rfl
  | x :: r, i + 1 => (show lget (x :: r) (i + 1) = lget r i from rfl).trans ((lget_eq r i).trans (by simp))
noncomputable def litem (l : List PyData) : Int → Option PyData
  | .ofNat k => (match Nat.blt k 4294967296 with | true => lget l k | false => none)
  | .negSucc k => (match Nat.blt k l.length, Nat.blt k 4294967296 with | true, true => lget l (l.length - (k + 1)) | _, _ => none)
noncomputable def lidx (a : DL) (b : DE) : DE := fun ρ => match a ρ with
  | some l => (match b ρ with | some (.int i) => litem l i | _ => none)
  | none => none
noncomputable def tidx (a b : DE) : DE := fun ρ => match a ρ with
  | some (.tuple l) => (match b ρ with | some (.int i) => litem l i | _ => none)
  | _ => none
theorem SimE.lidx {e i : Expr} {pos : Pos} {a : DL} {b : DE} (ka : SimB U n sc nm e a) (kb : SimE U n sc nm i b)
    (hs : ∀ o v, subscripted i false o v = operate [o, v] (getItem o v) := by intro _ _; with_unfolding_all rfl) : SimE U n sc nm (.Subscript e i pos) (Mine.lidx a b) := by
  intro A env E s h₀ Xc X ρ v Q hA hV hS hv h
  unfold Mine.lidx at hv
  split at hv
  · rename_i l hl
    split at hv
    · rename_i j hj
      refine Subscript_ (ka A env E s h₀ Xc X ρ l _ hA hV hS hl fun a vs h1 t1 x1 g1 r1 => ?_)
      refine kb A env E _ h₀ Xc X ρ _ _ hA hV (hS.ext' x1) hj fun v2 h2 t2 x2 r2 => ?_
      cases r2
      have g2 : h2.IsList a vs := let ⟨o, p, q⟩ := g1; ⟨o, x2 _ _ p, q⟩
      have rr := r1.ext (x2.toO X)
      unfold litem at hv
      split at hv
      · rename_i k
        split at hv
        · rename_i q
          rw [Nat.blt_eq] at q
          rw [lget_eq] at hv
          obtain ⟨w, hw, rw'⟩ := rr.get hv
          exact tail_any g2.typeIs slot_list_getitem.lookup (wpAny_getItem_list g2 (Int.natCast_nonneg k) (by simp only [Int.ofNat_eq_natCast]; omega) (by simpa using hw)
            (h w h2 t2 (x1.trans x2) rw')) (hs _ _)
        · cases hv
      · rename_i k
        split at hv
        · rename_i q1 q2
          rw [Nat.blt_eq] at q1 q2
          rw [lget_eq] at hv
          obtain ⟨w, hw, rw'⟩ := rr.get hv
          have hlen := rr.length
          rw [Array.length_toList] at hlen
          refine tail_any g2.typeIs slot_list_getitem.lookup (wpAny_getItem_list_neg g2 (Int.negSucc_lt_zero k) (by rw [Int.negSucc_eq]; omega) (by rw [Int.negSucc_eq]; omega) ?_
            (h w h2 t2 (x1.trans x2) rw')) (hs _ _)
          have e : (Int.negSucc k + (vs.size : Int)).toNat = l.length - (k + 1) := by rw [Int.negSucc_eq]; omega
          rw [e]
          simpa using hw
        · cases hv
    · cases hv
  · cases hv
theorem seqIndex_of' {l : List PyData} {i : Int} {v : PyData} (h : litem l i = some v) : -(2 ^ 63) ≤ i ∧ i < 2 ^ 63 ∧ ∃ j, seqIndex? i l.length = some j ∧ l[j]? = some v := by
  unfold litem at h
  split at h
  · rename_i k
    split at h
    · rename_i q
      rw [Nat.blt_eq] at q
      rw [lget_eq] at h
      have hk : k < l.length := by
        rcases Nat.lt_or_ge k l.length with c | c
        · exact c
        · rw [List.getElem?_eq_none c] at h; cases h
      exact ⟨by simp only [Int.ofNat_eq_natCast]; omega, by simp only [Int.ofNat_eq_natCast]; omega, k, seqIndex_of (Int.natCast_nonneg k) (by simp only [Int.ofNat_eq_natCast]; omega), h⟩
    · cases h
  · rename_i k
    split at h
    · rename_i q1 q2
      rw [Nat.blt_eq] at q1 q2
      rw [lget_eq] at h
      refine ⟨by rw [Int.negSucc_eq]; omega, by rw [Int.negSucc_eq]; omega, l.length - (k + 1), ?_, h⟩
      rw [seqIndex_neg (Int.negSucc_lt_zero k) (by rw [Int.negSucc_eq]; omega)]
      congr 1
      rw [Int.negSucc_eq]; omega
    · cases h
theorem SimE.tidx {e i : Expr} {pos : Pos} {a b : DE} (ka : SimE U n sc nm e a) (kb : SimE U n sc nm i b)
    (hs : ∀ o v, subscripted i false o v = operate [o, v] (getItem o v) := by intro _ _; with_unfolding_all rfl) : SimE U n sc nm (.Subscript e i pos) (Mine.tidx a b) := by
  intro A env E s h₀ Xc X ρ v Q hA hV hS hv h
  unfold Mine.tidx at hv
  split at hv
  · rename_i l hl
    split at hv
    · rename_i j hj
      refine Subscript_ (ka A env E s h₀ Xc X ρ _ _ hA hV hS hl fun v1 h1 t1 x1 r1 => ?_)
      refine kb A env E _ h₀ Xc X ρ _ _ hA hV (hS.ext' x1) hj fun v2 h2 t2 x2 r2 => ?_
      cases r2
      cases r1 with
      | @tuple a o vs k _ na g c d r =>
        have rr := r.ext (x2.toO X)
        obtain ⟨lo, hi, m, hm, hv⟩ := seqIndex_of' hv
        obtain ⟨w, hw, rw'⟩ := rr.get hv
        have hlen := rr.length
        exact item_tupleT (l := vs.toList) ⟨o, x2 _ _ g, c, k, d⟩ lo hi (by rw [hlen]; exact hm) hw (h w h2 t2 (x1.trans x2) rw') (hs _ _)
    · cases hv
  · cases hv

/-! cuts -/
noncomputable def lupto (a : DL) (b : DE) : DL := fun ρ => match a ρ with
  | some l => (match b ρ with | some (.int (.ofNat k)) => (match Nat.blt l.length 1048576 with | true => some (l.take k) | false => none) | _ => none)
  | none => none
theorem SimF.upto {e u : Expr} {p pos : Pos} {a : DL} {b : DE} (ka : SimB U n sc nm e a) (kb : SimE U n sc nm u b) (ht : ∀ o r, letTemporaryGo e o r = pure () := by intro _ _; with_unfolding_all rfl) :
    SimF U n sc nm (.Subscript e (.Slice none (some u) none p) pos) (lupto a b) := by
  intro A env E s h₀ Xc X ρ l Q hA hV hS hd h
  unfold lupto at hd
  split at hd
  · rename_i l' hl
    split at hd
    · rename_i k hk
      split at hd
      · rename_i q
        rw [Nat.blt_eq] at q
        cases hd
        refine wpAny_Subscript_list_slice (ka A env E s h₀ Xc X ρ l' _ hA hV hS hl fun a vs h1 t1 x1 g1 r1 => ?_) ht
        rw [evalPart_none, evalPart_some]
        refine wpAny_pure (kb A env E _ h₀ Xc X ρ _ _ hA hV (hS.ext' x1) hk fun v2 h2 t2 x2 r2 => ?_)
        cases r2
        have g2 : h2.IsList a vs := let ⟨o, p, q⟩ := g1; ⟨o, x2 _ _ p, q⟩
        have rr := r1.ext (x2.toO X)
        have hlen := rr.length
        rw [Array.length_toList] at hlen
        refine ⟨a, vs, none, some (k : Int), rfl, g2, by rw [sizeLine_eq]; omega, .none, .int _ _, ?_⟩
        rw [slicePick_upto']
        have x3 : ∀ (o1 o2 : Obj), Ext h2 ((h2.push o1).push o2) := fun o1 o2 => (Ext.push _ _).trans (Ext.push _ _)
        have hz : ∀ o1 : Obj, (h2.push o1).objs.size = h2.objs.size + 1 := fun o1 => Heap.size_push ..
        refine h (h2.objs.size + 1) (vs.toList.take k).toArray 0 _ t2 ((x1.trans x2).trans (x3 _ _)) ((x1.trans x2).none (get_ge (Nat.le_succ _))) ?_ (((by simpa using rr.take k : RepL X h2 (vs.toList.take k).toArray.toList _).growA (get_ge (Nat.le_succ _))).ext ((x3 _ _).toO _))
        rw [← hz]
        exact Heap.get?_push_size _ rfl
      · cases hd
    · cases hd
  · cases hd

/-! + and * of lists -/
noncomputable def lcat (a b : DL) : DL := fun ρ => match a ρ with
  | some l => (match b ρ with | some k => (match Nat.blt (l.length + k.length) 1048576 with | true => some (l ++ k) | false => none) | none => none)
  | none => none
theorem SimF.cat {e f : Expr} {pos : Pos} {a b : DL} (ka : SimB U n sc nm e a) (kb : SimB U n sc nm f b) : SimF U n sc nm (.BinOp e .Add f pos) (lcat a b) := by
  intro A env E s h₀ Xc X ρ l Q hA hV hS hd h
  unfold lcat at hd
  split at hd
  · rename_i l1 hl1
    split at hd
    · rename_i l2 hl2
      split at hd
      · rename_i q
        rw [Nat.blt_eq] at q
        cases hd
        refine wpAny_BinOp (ka A env E s h₀ Xc X ρ l1 _ hA hV hS hl1 fun a1 vs1 h1 t1 x1 g1 r1 => ?_)
        refine kb A env E _ h₀ Xc X ρ l2 _ hA hV (hS.ext' x1) hl2 fun a2 vs2 h2 t2 x2 g2 r2 => ?_
        have g1' : h2.IsList a1 vs1 := let ⟨o, p, q⟩ := g1; ⟨o, x2 _ _ p, q⟩
        have r1' := r1.ext (x2.toO X)
        have n1 := r1.length
        have n2 := r2.length
        rw [Array.length_toList] at n1 n2
        obtain ⟨⟨c1, d1, dt1, sl1⟩, o1, e1, k1, f1⟩ := g1'
        obtain ⟨⟨c2, d2, dt2, sl2⟩, o2, e2, k2, f2⟩ := g2
        simp only at e1 f1 e2 f2
        subst e1 f1 e2 f2
        refine concat_meets ⟨_, o1, rfl⟩ ⟨_, o2, rfl⟩ noFill_list_add seq_list_add PySem.F.slot_list_add PySem.F.entry_list_add (PySem.F.args_list_add_2 _ _)
          (list_addW a1 a2 vs1 vs2 k1 k2 d1 d2 sl1 sl2 (by rw [sizeLine_eq]; omega)) ⟨o1, o2, ?_⟩
        exact h _ (vs1 ++ vs2) 0 _ t2 ((x1.trans x2).trans (Ext.push _ _)) ((x1.trans x2).none (get_size _)) (Heap.get?_push_size _ rfl)
          (by rw [Array.toList_append]; exact ((RepL.append r1' r2).growA (get_size _)).ext ((Ext.push _ _).toO _))
      · cases hd
    · cases hd
  · cases hd

theorem foldl_cat (vs : Array Value) : ∀ (k : Nat) (acc : Array Value), (List.foldl (fun x1 x2 => x1 ++ x2) acc (List.replicate k vs)).toList = acc.toList ++ (List.replicate k vs.toList).flatten
  | 0, acc => by simp
  | k + 1, acc => by
    rw [List.replicate_succ, List.foldl_cons, foldl_cat vs k, List.replicate_succ, List.flatten_cons, Array.toList_append, List.append_assoc]
noncomputable def lrepN (l : List PyData) : Nat → List PyData
  | 0 => []
  | k + 1 => l ++ lrepN l k
theorem lrepN_eq (l : List PyData) : ∀ k, lrepN l k = (List.replicate k l).flatten
  | 0 => rfl
  | k + 1 => by rw [lrepN, lrepN_eq l k, List.replicate_succ, List.flatten_cons]
noncomputable def lrep (a : DL) (b : DE) : DL := fun ρ => match a ρ with
  | some l => (match b ρ with
    | some (.int (.ofNat k)) => (match Nat.blt (l.length * k) 1048576, Nat.blt k 1048576 with | true, true => some (lrepN l k) | _, _ => none)
    | some (.int (.negSucc k)) => (match Nat.blt k 1048576 with | true => some [] | _ => none)
    | _ => none)
  | none => none
theorem SimF.rep {e f : Expr} {pos : Pos} {a : DL} {b : DE} (ka : SimF U n sc nm e a) (kb : SimE U n sc nm f b) : SimF U n sc nm (.BinOp e .Mult f pos) (lrep a b) := by
  intro A env E s h₀ Xc X ρ l Q hA hV hS hd h
  unfold lrep at hd
  split at hd
  · rename_i l1 hl1
    have key : ∀ (x : Int) (l2 : List PyData), b ρ = some (.int x) → -1048577 < x → x < 1048577 → l1.length * x.toNat < 1048576 → (List.replicate x.toNat l1).flatten = l2 →
        (∀ a vs k h' t', Ext s.heap h' → s.heap.get? a = none → h'.get? a = some (lstObj vs k) → RepL (XA X a) h' vs.toList l2 → Q (.ref a) { s with heap := h', toks := t' }) →
        wpAny (model U.prog U.w) A (eval (.BinOp e .Mult f pos) env) Q E s := by
      intro x l2 hx lo hi hsz hl2 h
      refine wpAny_BinOp (ka A env E s h₀ Xc X ρ l1 _ hA hV hS hl1 fun a1 vs1 k1 h1 t1 x1 f1 g1 r1 => ?_)
      refine kb A env E _ h₀ Xc X ρ _ _ hA hV (hS.ext' x1) hx fun v2 h2 t2 x2 r2 => ?_
      cases r2
      rename_i u
      have g1' := x2 _ _ g1
      have r1' := r1.offA.ext (x2.toO X)
      have n1 := r1.length
      rw [Array.length_toList] at n1
      rw [← n1] at hsz
      refine wpAny_binaryOp_repeat_ref (T := "list") (U := "int") (by decide) ⟨_, g1', rfl⟩ (fun s' => typeIs_int s' x _) noFill_list_mul PySem.F.fills_int_mul PySem.F.slot_int_rmul repeat_list PySem.F.slot_int_index.lookup
        (call_meets PySem.F.slot_int_rmul (typeIs_int _ x _) PySem.F.entry_int_rmul (PySem.F.args_int_rmul_2 _ _) (int___rmul___int_list x _ a1 vs1 k1)
          ⟨g1', rfl, ⟨_, g1', rfl⟩, call_meets PySem.F.slot_list_mul ⟨_, g1', rfl⟩ PySem.F.entry_list_mul (PySem.F.args_list_mul_2 _ _)
            (AutoListH.list___mul___list_int_3 a1 vs1 k1 x u (by simp [Builtin.List.listFitsIndex]; omega) (by omega) (by simp [Builtin.List.listTooLong, sizeLine]; omega)) ⟨g1', ?_⟩⟩)
      refine h _ _ 0 _ t2 ((x1.trans x2).trans (Ext.push _ _)) ((x1.trans x2).none (get_size _)) (Heap.get?_push_size _ rfl) ?_
      rw [foldl_cat]
      have e0 : (#[] : Array Value).toList ++ (List.replicate (if vs1.isEmpty = true then 0 else x.toNat) vs1.toList).flatten = (List.replicate x.toNat vs1.toList).flatten := by
        by_cases q : vs1.isEmpty = true
        · rw [if_pos q]
          have : vs1.toList = [] := by simpa using q
          rw [this]
          simp
        · rw [if_neg q]; simp
      rw [e0, ← hl2]
      exact ((RepL.replicate r1' _).growA (get_size _)).ext ((Ext.push _ _).toO _)
    split at hd
    · rename_i k hk
      split at hd
      · rename_i q1 q2
        rw [Nat.blt_eq] at q1 q2
        cases hd
        refine key _ _ hk ?_ ?_ ?_ ?_ h
        · simp only [Int.ofNat_eq_natCast]; omega
        · simp only [Int.ofNat_eq_natCast]; omega
        · simpa using q1
        · rw [lrepN_eq]; rfl
      · cases hd
    · rename_i k hk
      split at hd
      · rename_i q1
        rw [Nat.blt_eq] at q1
        cases hd
        refine key _ _ hk ?_ ?_ ?_ ?_ h
        · rw [Int.negSucc_eq]; omega
        · rw [Int.negSucc_eq]; omega
        · simp
        · simp
      · cases hd
    · cases hd
  · cases hd
end

/-! A6 -/
theorem boot_abs : bootBuiltins "abs" = some (.builtin "abs") := by decide +kernel
theorem boot_max : bootBuiltins "max" = some (.builtin "max") := by decide +kernel
theorem boot_any' : bootBuiltins "any" = some (.builtin "any") := by decide +kernel
theorem boot_range : bootBuiltins "range" = some (.type "range") := by decide +kernel
theorem boot_int : bootBuiltins "int" = some (.type "int") := by decide +kernel
theorem boot_list : bootBuiltins "list" = some (.type "list") := by decide +kernel
theorem boot_tuple : bootBuiltins "tuple" = some (.type "tuple") := by decide +kernel
theorem boot_enum : bootBuiltins "enumerate" = some (.type "enumerate") := by decide +kernel
theorem boot_zip : bootBuiltins "zip" = some (.type "zip") := by decide +kernel

section
variable {U : Uni} {n : Nat} {sc : Scope} {nm : Nm}
section
variable {A : Around} {E : Value → Shared → Prop} {s : Shared} {env : Env}
theorem callB {x : Str} {fp pos : Pos} {e : Expr} {es : List Expr} {id : String} {Q : Value → Shared → Prop} (V : EnvOK sc env) (k : Ext U.hT s.heap) (hk : sc.names.lookup x = some .globalImplicit) (hf : x ∈ freeNames) (hn : x ≠ "__name__")
    (hv : bootBuiltins x = some (.builtin id)) (hd : (x == ("__debug__" : Str)) = false)
    (hst : starEach (e :: es) env = (false, eval e env) :: starEach es env) (hp : (backTo pos ((false, eval e env) :: starEach es env)).any (·.1) = false)
    (h : wpAny (model U.prog U.w) A (spliced (backTo pos (starEach (e :: es) env))) (fun vs s₁ => wpAny (model U.prog U.w) A (call (.builtin id) vs []) Q E s₁) E s) :
    wpAny (model U.prog U.w) A (eval (.Call (.Name x fp) (e :: es) [] pos) env) Q E s := by
  refine wpAny_Call_NameR (boot_any V k hk hf hn hv hd ?_)
  rw [hst] at h ⊢
  exact callWith_builtin hp (evalArgs_plain h)
theorem callT {x : Str} {fp pos : Pos} {e : Expr} {es : List Expr} {T : String} {Q : Value → Shared → Prop} (V : EnvOK sc env) (k : Ext U.hT s.heap) (hk : sc.names.lookup x = some .globalImplicit) (hf : x ∈ freeNames) (hn : x ≠ "__name__")
    (hv : bootBuiltins x = some (.type T)) (hd : (x == ("__debug__" : Str)) = false)
    (hst : starEach (e :: es) env = (false, eval e env) :: starEach es env) (hp : (backTo pos ((false, eval e env) :: starEach es env)).any (·.1) = false)
    (h : wpAny (model U.prog U.w) A (spliced (backTo pos (starEach (e :: es) env))) (fun vs s₁ => wpAny (model U.prog U.w) A (call (.type T) vs []) Q E s₁) E s) :
    wpAny (model U.prog U.w) A (eval (.Call (.Name x fp) (e :: es) [] pos) env) Q E s := by
  refine wpAny_Call_NameR (boot_any V k hk hf hn hv hd ?_)
  rw [hst] at h ⊢
  exact PyProof.Rows.callWith_type hp (evalArgs_plain h)
end
/-- one argument, whoever holds it -/
theorem spl1 {A : Around} {E : Value → Shared → Prop} {s : Shared} {env : Env} {e : Expr} {pos : Pos} {Q : List Value → Shared → Prop} (hst : starEach [e] env = [(false, eval e env)])
    (h : wpAny (model U.prog U.w) A (eval e env) (fun v s1 => Q [v] s1) E s) : wpAny (model U.prog U.w) A (spliced (backTo pos (starEach [e] env))) Q E s := by
  rw [hst]
  exact spliced_cons (wpAny_mono h (fun v s1 h1 => spliced_nil h1) fun _ _ e => e)

noncomputable abbrev Plain1 (e : Expr) : Prop := ∀ env, starEach [e] env = [(false, eval e env)]

noncomputable def elen (b : DL) : DE := fun ρ => match b ρ with
  | some l => (match Nat.blt l.length 4294967296 with | true => some (.int (.ofNat l.length)) | false => none)
  | none => none
theorem SimE.len {e : Expr} {fp pos : Pos} {d : DL} (k : SimB U n sc nm e d) (hk : sc.names.lookup (Str.ofString "len") = some .globalImplicit) (hst : Plain1 e := by intro _; with_unfolding_all rfl) :
    SimE U n sc nm (.Call (.Name "len" fp) [e] [] pos) (elen d) := by
  intro A env E s h₀ Xc X ρ v Q hA hV hS hv h
  unfold elen at hv
  split at hv
  · rename_i l hl
    split at hv
    · rename_i q
      rw [Nat.blt_eq] at q
      cases hv
      refine callB hV hS.top hk (by decide +kernel) (by decide +kernel) boot_len (by decide +kernel) (hst env) (by rfl) (spl1 (hst env) ?_)
      refine k A env E s h₀ Xc X ρ l _ hA hV hS hl fun a vs h1 t1 x1 g1 r1 => ?_
      have n1 := r1.length
      rw [Array.length_toList] at n1
      refine call_len_list g1 (by omega) ?_
      rw [n1]
      exact h _ h1 _ x1 (.int _ _)
    · cases hv
  · cases hv

noncomputable def iabs : Int → Int
  | .ofNat k => .ofNat k
  | .negSucc k => .ofNat (k + 1)
theorem iabs_eq (x : Int) : (if x < 0 then -x else x) = iabs x := by
  cases x with
  | ofNat k => rw [if_neg (by simp only [Int.ofNat_eq_natCast]; omega)]; rfl
  | negSucc k => rw [if_pos (Int.negSucc_lt_zero k)]; rfl
noncomputable def eabs (a : DE) : DE := fun ρ => match a ρ with | some (.int x) => some (.int (iabs x)) | _ => none
theorem SimE.abs {e : Expr} {fp pos : Pos} {d : DE} (k : SimE U n sc nm e d) (hk : sc.names.lookup (Str.ofString "abs") = some .globalImplicit) (hst : Plain1 e := by intro _; with_unfolding_all rfl) :
    SimE U n sc nm (.Call (.Name "abs" fp) [e] [] pos) (eabs d) := by
  intro A env E s h₀ Xc X ρ v Q hA hV hS hv h
  unfold eabs at hv
  split at hv
  · rename_i x hx
    cases hv
    refine callB hV hS.top hk (by decide +kernel) (by decide +kernel) boot_abs (by decide +kernel) (hst env) (by rfl) (spl1 (hst env) ?_)
    refine k A env E s h₀ Xc X ρ _ _ hA hV hS hx fun v1 h1 t1 x1 r1 => ?_
    cases r1
    exact call_abs_int fun u tk => by rw [iabs_eq]; exact h _ h1 tk x1 (.int _ _)
  · cases hv
noncomputable def eint (a : DE) : DE := fun ρ => match a ρ with | some (.int x) => some (.int x) | _ => none
theorem SimE.toint {e : Expr} {fp pos : Pos} {d : DE} (k : SimE U n sc nm e d) (hk : sc.names.lookup (Str.ofString "int") = some .globalImplicit) (hst : Plain1 e := by intro _; with_unfolding_all rfl) :
    SimE U n sc nm (.Call (.Name "int" fp) [e] [] pos) (eint d) := by
  intro A env E s h₀ Xc X ρ v Q hA hV hS hv h
  unfold eint at hv
  split at hv
  · rename_i x hx
    cases hv
    refine callT hV hS.top hk (by decide +kernel) (by decide +kernel) boot_int (by decide +kernel) (hst env) (by rfl) (spl1 (hst env) ?_)
    refine k A env E s h₀ Xc X ρ _ _ hA hV hS hx fun v1 h1 t1 x1 r1 => ?_
    cases r1
    exact call_int_int (h _ h1 t1 x1 (.int _ _))
  · cases hv

noncomputable def emax (a b : DE) : DE := fun ρ => match a ρ with
  | some (.int x) => (match b ρ with | some (.int y) => (match iltb x y with | true => some (.int y) | false => some (.int x)) | _ => none)
  | _ => none
theorem SimE.max {e f : Expr} {fp pos : Pos} {a b : DE} (ka : SimE U n sc nm e a) (kb : SimE U n sc nm f b) (hk : sc.names.lookup (Str.ofString "max") = some .globalImplicit)
    (hst : ∀ env, starEach [e, f] env = [(false, eval e env), (false, eval f env)] := by intro _; with_unfolding_all rfl) :
    SimE U n sc nm (.Call (.Name "max" fp) [e, f] [] pos) (emax a b) := by
  intro A env E s h₀ Xc X ρ v Q hA hV hS hv h
  unfold emax at hv
  split at hv
  · rename_i x hx
    split at hv
    · rename_i y hy
      have hst' : starEach (e :: [f]) env = (false, eval e env) :: starEach [f] env := by
        have h1 := hst env
        have h2 : starEach [f] env = [(false, eval f env)] ∨ starEach (e :: [f]) env = (false, eval e env) :: starEach [f] env := by
          cases e <;> first | exact .inr rfl | skip
          rename_i e0 p0
          exfalso
          rw [arm_starEach_Starred] at h1
          injection h1 with h1 _
          injection h1 with h1 _
          cases h1
        rcases h2 with h2 | h2
        · rw [h2, h1]
        · exact h2
      have hf : starEach [f] env = [(false, eval f env)] := by
        have := hst env
        rw [hst'] at this
        injection this
      refine callB hV hS.top hk (by decide +kernel) (by decide +kernel) boot_max (by decide +kernel) hst' (by rw [hf]; rfl) ?_
      rw [hst', hf]
      refine spliced_cons (ka A env E s h₀ Xc X ρ _ _ hA hV hS hx fun v1 h1 t1 x1 r1 => ?_)
      refine spliced_cons (kb A env E _ h₀ Xc X ρ _ _ hA hV (hS.ext' x1) hy fun v2 h2 t2 x2 r2 => spliced_nil ?_)
      cases r1; cases r2
      refine max_two_ints hA.1 fun h3 t3 x3 => ?_
      rw [iltb_eq] at hv
      by_cases q : y > x
      · rw [if_pos q]
        have q' : x < y := q
        rw [decide_eq_true q'] at hv
        cases hv
        exact h _ h3 t3 ((x1.trans x2).trans x3) (.int _ _)
      · rw [if_neg q]
        have q' : ¬ x < y := q
        rw [decide_eq_false q'] at hv
        cases hv
        exact h _ h3 t3 ((x1.trans x2).trans x3) (.int _ _)
    · cases hv
  · cases hv

theorem SimF.list {e : Expr} {fp pos : Pos} {d : DL} (k : SimB U n sc nm e d) (hk : sc.names.lookup (Str.ofString "list") = some .globalImplicit) (hst : Plain1 e := by intro _; with_unfolding_all rfl) :
    SimF U n sc nm (.Call (.Name "list" fp) [e] [] pos) (fits d) := by
  intro A env E s h₀ Xc X ρ l Q hA hV hS hv h
  obtain ⟨hl, q⟩ := fits_inv hv
  refine callT hV hS.top hk (by decide +kernel) (by decide +kernel) boot_list (by decide +kernel) (hst env) (by rfl) (spl1 (hst env) ?_)
  refine k A env E s h₀ Xc X ρ l _ hA hV hS hl fun a vs h1 t1 x1 g1 r1 => ?_
  have n1 := r1.length
  rw [Array.length_toList] at n1
  obtain ⟨o, g, c, k, d⟩ := g1
  refine call_list_seq a (.inl rfl) g c d (fun h2 c2 x2 g2 => ?_) (by rw [sizeLine_eq]; omega)
  exact h _ vs c2 h2 t1 (x1.trans x2) (x1.none (get_size _)) g2 ((r1.growA (get_size _)).ext (Ext.toO x2 _))
noncomputable def etupl (b : DL) : DE := fun ρ => match fits b ρ with | some l => some (.tuple l) | none => none
theorem SimE.tuple {e : Expr} {fp pos : Pos} {d : DL} (k : SimB U n sc nm e d) (hk : sc.names.lookup (Str.ofString "tuple") = some .globalImplicit) (hst : Plain1 e := by intro _; with_unfolding_all rfl) :
    SimE U n sc nm (.Call (.Name "tuple" fp) [e] [] pos) (etupl d) := by
  intro A env E s h₀ Xc X ρ l Q hA hV hS hv h
  unfold etupl at hv
  split at hv
  · rename_i l hl
    cases hv
    obtain ⟨hl, q⟩ := fits_inv hl
    refine callT hV hS.top hk (by decide +kernel) (by decide +kernel) boot_tuple (by decide +kernel) (hst env) (by rfl) (spl1 (hst env) ?_)
    refine k A env E s h₀ Xc X ρ l _ hA hV hS hl fun a vs h1 t1 x1 g1 r1 => ?_
    have n1 := r1.length
    rw [Array.length_toList] at n1
    refine call_tuple_list g1 (fun h2 x2 => ?_) (by rw [sizeLine_eq]; omega)
    refine h _ _ t1 ((x1.trans x2).trans (Ext.push _ _)) (.tuple (hS.notin ((x1.trans x2).none (get_size _))) (Heap.get?_push_size _ rfl) rfl rfl ?_)
    exact (r1.ext (Ext.toO x2 X)).ext ((Ext.push _ _).toO X)
  · cases hv

/-! calls of the text's defs -/
noncomputable def CallOK (U : Uni) (f : Str) (n : Nat) (F : List PyData → Option PyData) : Prop :=
  ∀ (A : Around) (E : Value → Shared → Prop) (s : Shared) (X : AS) (vals : List Value) (args : List PyData) (r : PyData) (fa : Addr) (Q : Value → Shared → Prop),
    AOK n A → Ext U.hT s.heap → (∀ b, X b → ∃ o, s.heap.get? b = some o) → U.mg f = some (.ref fa) → RepL X s.heap vals args → F args = some r →
    (∀ val h' t', Ext s.heap h' → Rep X h' val r → Q val { s with heap := h', toks := t' }) → wpAny (model U.prog U.w) A (call (.ref fa) vals []) Q E s

noncomputable def ecall (F : List PyData → Option PyData) (d : DL) : DE := fun ρ => match d ρ with | some l => F l | none => none
theorem SimE.call {f : Str} {fp pos : Pos} {e : Expr} {es : List Expr} {F : List PyData → Option PyData} {d : DL} {m : Nat} {dr : DefRec} (kf : CallOK U f m F) (ka : SimL U n sc nm (e :: es) d) (hm : m ≤ n)
    (hr : dr ∈ U.recs) (hrn : dr.name = f) (hk : sc.names.lookup f = some .globalImplicit) (hd : (f == ("__debug__" : Str)) = false)
    (hst : ∀ env, starEach (e :: es) env = (false, eval e env) :: starEach es env := by intro _; with_unfolding_all rfl) :
    SimE U n sc nm (.Call (.Name f fp) (e :: es) [] pos) (ecall F d) := by
  intro A env E s h₀ Xc X ρ v Q hA hV hS hv h
  unfold ecall at hv
  split at hv
  · rename_i l hl
    obtain ⟨fa, o, pm, code, doc, hg, ho, hdt, _⟩ := U.fn dr hr
    rw [hrn] at hg
    refine wpAny_Call_NameR (glob_any hV hS.top hk hg hd ?_)
    have K := ka pos A env E s h₀ Xc X ρ l (fun vs s1 => (s1.heap.get? fa = some o ∧ o.data = .func (docDef dr.name dr.params dr.body dr.scope pm code doc)) ∧ wpAny (model U.prog U.w) A (PySem.call (.ref fa) ([] ++ vs) []) Q E s1) hA hV hS hl
      fun vs h1 t1 x1 r1 => ⟨⟨x1 _ _ (hS.top _ _ ho), hdt⟩, kf A E _ X vs l v fa Q (hA.le hm) (hS.top.trans x1) (fun b x => let ⟨o, e⟩ := hS.xin b x; ⟨o, x1 _ _ e⟩) hg r1 hv
        fun val h2 t2 x2 r2 => h val h2 t2 (x1.trans x2) r2⟩
    rw [hst env] at K ⊢
    exact callWith_function (evalArgs_plain K)
  · cases hv
end

/-! A7 -/

inductive R where
  | nx (ρ : Store)
  | rt (d : PyData)
noncomputable abbrev C := Store → Option R

noncomputable def Post (U : Uni) (h₀ : Heap) (Xc : AS) (env : Env) (nm : Nm) (X : AS) (s : Shared) (Q : Flow → Shared → Prop) : R → Prop
  | .nx ρ' => ∀ Y h' t', St U h₀ Xc env nm Y h' ρ' → Keeps X Y s.heap h' → Q .next { s with heap := h', toks := t' }
  | .rt d => ∀ val h' t', Ext h₀ h' → Rep Xc h' val d → Q (.ret val) { s with heap := h', toks := t' }

noncomputable def Sim1 (U : Uni) (n : Nat) (sc : Scope) (nm : Nm) (st : Stmt) (c : C) : Prop :=
  ∀ (A : Around) (env : Env) (E : Value → Shared → Prop) (s : Shared) (h₀ : Heap) (Xc X : AS) (ρ : Store) (r : R) (Q : Flow → Shared → Prop),
   AOK n A → EnvOK sc env → NmOK nm → St U h₀ Xc env nm X s.heap ρ → c ρ = some r → Post U h₀ Xc env nm X s Q r → wpAny (model U.prog U.w) A (exec st env) Q E s
noncomputable def SimS (U : Uni) (n : Nat) (sc : Scope) (nm : Nm) (ss : List Stmt) (c : C) : Prop :=
  ∀ (A : Around) (env : Env) (E : Value → Shared → Prop) (s : Shared) (h₀ : Heap) (Xc X : AS) (ρ : Store) (r : R) (Q : Flow → Shared → Prop),
   AOK n A → EnvOK sc env → NmOK nm → St U h₀ Xc env nm X s.heap ρ → c ρ = some r → Post U h₀ Xc env nm X s Q r → wpAny (model U.prog U.w) A (execs ss env) Q E s

section
variable {U : Uni} {n : Nat} {sc : Scope} {nm : Nm}

theorem Post.after {h₀ : Heap} {Xc : AS} {env : Env} {X Y : AS} {s : Shared} {h1 : Heap} {t1 : Nat} {Q : Flow → Shared → Prop} {r : R} (k : Keeps X Y s.heap h1) (h : Post U h₀ Xc env nm X s Q r) :
    Post U h₀ Xc env nm Y { s with heap := h1, toks := t1 } Q r := by
  cases r with
  | nx ρ' => intro Z h2 t2 S k2; exact h Z h2 t2 S (k.trans k2)
  | rt d => exact h

noncomputable def cskip : C := fun ρ => some (.nx ρ)
noncomputable def cseq (a b : C) : C := fun ρ => match a ρ with
  | some (.nx ρ') => b ρ'
  | r => r
theorem SimS.nil : SimS U n sc nm [] cskip := by
  intro A env E s h₀ Xc X ρ r Q hA hV N hS hc h
  cases hc
  exact wpAny_execs_nil (h X s.heap s.toks hS Keeps.refl)
theorem SimS.cons {st : Stmt} {ss : List Stmt} {a b : C} (k : Sim1 U n sc nm st a) (k' : SimS U n sc nm ss b) : SimS U n sc nm (st :: ss) (cseq a b) := by
  intro A env E s h₀ Xc X ρ r Q hA hV N hS hc h
  unfold cseq at hc
  refine wpAny_execs_cons ?_
  split at hc
  · rename_i ρ' hq
    refine k A env E s h₀ Xc X ρ _ _ hA hV N hS hq ?_
    intro Y h1 t1 S1 k1
    exact k' A env E _ h₀ Xc Y ρ' r Q hA hV N S1 hc (h.after k1)
  · rename_i r' hq
    cases ha : a ρ with
    | none => rw [ha] at hc; cases hc
    | some r0 =>
      rw [ha] at hc; cases hc
      cases r with
      | nx ρ' => exact absurd ha (hq ρ')
      | rt d => exact k A env E s h₀ Xc X ρ _ _ hA hV N hS ha fun val h1 t1 x1 r1 => h val h1 t1 x1 r1
theorem SimS.one {st : Stmt} {a : C} (k : Sim1 U n sc nm st a) : SimS U n sc nm [st] a := by
  intro A env E s h₀ Xc X ρ r Q hA hV N hS hc h
  refine wpAny_execs_cons (k A env E s h₀ Xc X ρ r _ hA hV N hS hc ?_)
  cases r with
  | nx ρ' => intro Y h1 t1 S1 k1; exact wpAny_execs_nil (h Y h1 t1 S1 k1)
  | rt d => intro val h1 t1 x1 r1; exact h val h1 t1 x1 r1

/-- a list of the frame's own becomes plain data (no step of the text's) -/
noncomputable def cfreeze (i : Nat) (c : C) : C := fun ρ => match sget ρ i with
  | .o l => c (sset ρ i (.v (.list l)))
  | _ => none
theorem SimS.freeze {ss : List Stmt} {c : C} {i : Nat} {x : Str} (hx : nm[i]? = some (some x)) (k : SimS U n sc nm ss c) : SimS U n sc nm ss (cfreeze i c) := by
  intro A env E s h₀ Xc X ρ r Q hA hV N hS hc h
  unfold cfreeze at hc
  split at hc
  · rename_i l hl
    obtain ⟨m, σ, S⟩ := hS
    obtain ⟨Y, sub, sf, S'⟩ := S.freeze hx hl
    exact k A env E s h₀ Xc Y _ r Q hA hV N ⟨m, σ, S'⟩ hc (h.after (Keeps.shrink sub sf))
  · cases hc

noncomputable def cret (d : DE) : C := fun ρ => match d ρ with | some v => some (.rt v) | none => none
theorem St.sub' {h₀ : Heap} {Xc X : AS} {env : Env} {h : Heap} {ρ : Store} (S : St U h₀ Xc env nm X h ρ) : ∀ b, Xc b → X b := let ⟨_, _, s⟩ := S; s.sub
theorem St.ext0 {h₀ : Heap} {Xc X : AS} {env : Env} {h : Heap} {ρ : Store} (S : St U h₀ Xc env nm X h ρ) : Ext h₀ h := let ⟨_, _, s⟩ := S; s.ext
theorem Sim1.ret {e : Expr} {pos : Pos} {d : DE} (k : SimE U n sc nm e d) : Sim1 U n sc nm (.Return (some e) pos) (cret d) := by
  intro A env E s h₀ Xc X ρ r Q hA hV N hS hc h
  unfold cret at hc
  split at hc
  · rename_i v hv
    cases hc
    exact wpAny_Return_some (k A env E s h₀ Xc X ρ v _ hA hV hS hv fun val h1 t1 x1 r1 => h val h1 t1 (hS.ext0.trans x1) (r1.shrink hS.sub'))
  · cases hc

noncomputable def NameKindOK (sc : Scope) (x : Str) : Prop := sc.names.lookup x = some .local ∨ sc.names.lookup x = some .cell

theorem hk_of {env : Env} {x : Str} (V : EnvOK sc env) (h : NameKindOK sc x) : sc.names.lookup x = some .local ∨ (sc.names.lookup x = some .cell ∧ (env.cells.lookup x).isSome = true) :=
  h.imp id fun e => ⟨e, V.ce x e⟩

noncomputable def cset (i : Nat) (d : DE) : C := fun ρ => match d ρ with | some v => some (.nx (sset ρ i (.v v))) | none => none
theorem Sim1.asg {x : Str} {p pos : Pos} {e : Expr} {d : DE} {i : Nat} (hx : nm[i]? = some (some x)) (hk : NameKindOK sc x) (k : SimE U n sc nm e d)
    (hs : ∀ env, swapsWith e (some (.Name x p)) pos.line env = pure false := by intro _; with_unfolding_all rfl) : Sim1 U n sc nm (.Assign [.Name x p] e pos) (cset i d) := by
  intro A env E s h₀ Xc X ρ r Q hA hV N hS hc h
  unfold cset at hc
  split at hc
  · rename_i v hv
    cases hc
    refine wpAny_Assign_Name (k A env E s h₀ Xc X ρ v _ hA hV hS hv fun val h1 t1 x1 r1 => ?_) (hs env)
    obtain ⟨m, σ, S⟩ := hS.ext' x1
    exact store_name hV N S hx (hk_of hV hk) (Fit.of_v r1) fun h2 t2 m2 S2 k2 => h X h2 t2 ⟨_, _, S2⟩ ((Keeps.ext x1).trans k2)
  · cases hc

/-- a new list of the frame's own -/
theorem StC.own {h₀ h h' : Heap} {Xc X : AS} {env : Env} {ρ : Store} {m : Str → Option Value} {σ : Nat → Option Value} {a : Addr} {i : Nat} {vs : Array Value} {k : Nat} {l : List PyData}
    (S : StC U h₀ Xc env nm X h ρ m σ) (x : Ext h h') (f : h.get? a = none) (g : h'.get? a = some (lstObj vs k)) (r : RepL (XA X a) h' vs.toList l) :
    StC U h₀ Xc env nm (XA X a) h' ρ m σ ∧ Fit U h₀ nm (XA X a) h' ρ σ env.locals i (.ref a) (.o l) ∧ Keeps X (XA X a) h h' := by
  refine ⟨S.alloc x (XA.grow f) fun b y => ?_, ⟨⟨a, vs, k, rfl, .inr rfl, S.ext.none f, g, r⟩, fun _ j y hy ow e => ?_, fun _ _ e => by cases e⟩, ⟨fun v d q => (q.growA f).ext (x.toO _), (fun b o fs e _ => x b o e), fun b o fs y _ _ => .inl y⟩⟩
  · rcases y with y | rfl
    · obtain ⟨o, e⟩ := S.xin b y; exact ⟨o, x _ _ e⟩
    · exact ⟨_, g⟩
  · exfalso
    have q := S.sl j y hy
    revert q ow
    cases hq : sget ρ j with
    | u => intro ow; cases ow
    | v d => intro ow; cases ow
    | o l => rintro _ ⟨b, vs, n, e', x', f', g', _⟩; rw [e] at e'; cases e'; rw [f] at g'; cases g'
    | k l => rintro _ ⟨b, e', x', f', g'⟩; rw [e] at e'; cases e'; obtain ⟨o, q⟩ := S.xin _ x'; rw [f] at q; cases q
noncomputable def cseto (i : Nat) (d : DL) : C := fun ρ => match d ρ with | some l => some (.nx (sset ρ i (.o l))) | none => none
theorem Sim1.asgo {x : Str} {p pos : Pos} {e : Expr} {d : DL} {i : Nat} (hx : nm[i]? = some (some x)) (hk : NameKindOK sc x) (k : SimF U n sc nm e d)
    (hs : ∀ env, swapsWith e (some (.Name x p)) pos.line env = pure false := by intro _; with_unfolding_all rfl) : Sim1 U n sc nm (.Assign [.Name x p] e pos) (cseto i d) := by
  intro A env E s h₀ Xc X ρ r Q hA hV N hS hc h
  unfold cseto at hc
  split at hc
  · rename_i l hl
    cases hc
    refine wpAny_Assign_Name (k A env E s h₀ Xc X ρ l _ hA hV hS hl fun a vs k1 h1 t1 x1 f1 g1 r1 => ?_) (hs env)
    obtain ⟨m, σ, S⟩ := hS
    obtain ⟨S1, F1, K1⟩ := S.own (i := i) x1 f1 g1 r1
    exact store_name hV N S1 hx (hk_of hV hk) F1 fun h2 t2 m2 S2 k2 => h _ h2 t2 ⟨_, _, S2⟩ (K1.trans k2)
  · cases hc

/-! own lists: append, pop, a place -/
theorem own_at {h₀ h : Heap} {Xc X : AS} {env : Env} {ρ : Store} {m : Str → Option Value} {σ : Nat → Option Value} {i : Nat} {x : Str} {l : List PyData}
    (S : StC U h₀ Xc env nm X h ρ m σ) (hx : nm[i]? = some (some x)) (hl : sget ρ i = .o l) : ∃ a vs k, σ i = some (.ref a) ∧ X a ∧ h.get? a = some (lstObj vs k) ∧ RepL X h vs.toList l := by
  have S0 := S.sl i x hx
  rw [hl] at S0
  obtain ⟨a, vs, k, e, xa, _, g, r⟩ := S0
  exact ⟨a, vs, k, e, xa, g, r⟩

theorem mut_post {h₀ : Heap} {Xc X : AS} {env : Env} {s : Shared} {ρ : Store} {m : Str → Option Value} {σ : Nat → Option Value} {i : Nat} {x : Str} {l l' : List PyData} {a : Addr} {vs : Array Value} {k : Nat}
    (S : StC U h₀ Xc env nm X s.heap ρ m σ) (hx : nm[i]? = some (some x)) (hl : sget ρ i = .o l) (ha : σ i = some (.ref a)) (g : s.heap.get? a = some (lstObj vs k)) (f : Array Value → Array Value) (xa : X a) (r : RepL X s.heap (f vs).toList l') :
    St U h₀ Xc env nm X (s.heap.update a (Obj.mapSeq f)) (sset ρ i (.o l')) ∧ Keeps X X s.heap (s.heap.update a (Obj.mapSeq f)) :=
  ⟨⟨m, σ, S.mut hx hl ha (Heap.SameBut.update ..) (IsL.update g f) r⟩, Keeps.same (Heap.SameBut.update ..) xa fun o fs e q => by rw [g] at e; cases e; cases q⟩

noncomputable def cappend (i : Nat) (d : DE) : C := fun ρ => match sget ρ i with
  | .o l => (match d ρ with
    | some v => (match Nat.blt l.length 1048576 with | true => some (.nx (sset ρ i (.o (l ++ [v])))) | false => none)
    | none => none)
  | _ => none
theorem Sim1.append {x : Str} {p ap cp pos : Pos} {e : Expr} {d : DE} {i : Nat} (hx : nm[i]? = some (some x)) (hd : (x == ("__debug__" : Str)) = false) (hcd : (x == ("__classdict__" : Str)) = false)
    (k : SimE U n sc nm e d) (hline : (ap.endLine == cp.line) = true) (hi : sc.kind = .function)
    (hst : ∀ env, starEach [e] env = [(false, eval e env)] := by intro _; with_unfolding_all rfl) :
    Sim1 U n sc nm (.Expr (.Call (.Attribute (.Name x p) "append" ap) [e] [] cp) pos) (cappend i d) := by
  intro A env E s h₀ Xc X ρ r Q hA hV N hS hc h
  unfold cappend at hc
  split at hc
  · rename_i l hl
    split at hc
    · rename_i v hv
      split at hc
      · rename_i q
        rw [Nat.blt_eq] at q
        cases hc
        obtain ⟨m, σ, S⟩ := id hS
        obtain ⟨a, vs, k1, ha, xa, g, rl⟩ := own_at S hx hl
        refine wpAny_Expr ?_ (by unfold interactive; rw [hV.es, hi]; rfl) rfl
        refine wpAny_Call_method (T := "list") (id := "list.append") rfl (by rw [hst]; rfl) hline PySem.F.plainAttrs_list slot_list_append type_list_append ?_
        refine wpAny_Name (load_name hV S.ns (S.at' i x _ hx ha) hcd ⟨⟨_, g, rfl⟩, (fun b e => by cases e; exact ⟨_, g, rfl⟩), ?_⟩) hd
        rw [hst]
        refine P.append_list (k A env E s h₀ Xc X ρ v _ hA hV hS hv fun val h1 t1 x1 r1 => ?_)
        have n1 := rl.length
        rw [Array.length_toList] at n1
        refine ⟨vs, k1, by rw [sizeLine_eq]; omega, x1 _ _ g, ?_⟩
        have S1 := S.ext' x1
        obtain ⟨S2, K2⟩ := mut_post (s := { s with heap := h1, toks := t1 }) (l' := l ++ [v]) S1 hx hl ha (x1 _ _ g) (fun xs => xs.push val) xa (by rw [Array.toList_push]; exact RepL.append (rl.ext (x1.toO X)) (.cons r1 .nil))
        exact h X _ t1 S2 ((Keeps.ext x1).trans K2)
      · cases hc
    · cases hc
  · cases hc

noncomputable def isInt : PyData → Bool
  | .int _ => true
  | _ => false
noncomputable def llast : List PyData → Option PyData
  | [] => none
  | [x] => some x
  | _ :: y :: r => llast (y :: r)
theorem llast_eq : ∀ (l : List PyData), llast l = l[l.length - 1]?
  | [] => rfl
  | [x] => rfl
  | _ :: y :: r => by rw [llast, llast_eq (y :: r)]; simp
noncomputable def ldrop1 : List PyData → List PyData
  | [] => []
  | [_] => []
  | x :: y :: r => x :: ldrop1 (y :: r)
theorem ldrop1_eq : ∀ (l : List PyData), ldrop1 l = l.take (l.length - 1)
  | [] => rfl
  | [x] => rfl
  | x :: y :: r => by
    rw [ldrop1, ldrop1_eq (y :: r)]
    simp
noncomputable def cpop (i : Nat) : C := fun ρ => match sget ρ i with
  | .o l => (match llast l with
    | some (.int _) => (match Nat.blt l.length 1048576 with | true => some (.nx (sset ρ i (.o (ldrop1 l)))) | false => none)
    | _ => none)
  | _ => none
theorem erase_last (vs : Array Value) : (vs.eraseIdxIfInBounds (vs.size - 1)).toList = vs.toList.take (vs.size - 1) := by
  unfold Array.eraseIdxIfInBounds
  split
  · rename_i q
    rw [Array.toList_eraseIdx]
    obtain ⟨l⟩ := vs
    simp only [List.size_toArray] at q ⊢
    rw [List.eraseIdx_eq_take_drop_succ, List.drop_of_length_le (by omega), List.append_nil]
  · rename_i q
    have : vs.toList = [] := by
      have : vs.size = 0 := by omega
      simpa using this
    rw [this]; simp
theorem Sim1.pop {x : Str} {p ap cp pos : Pos} {i : Nat} (hx : nm[i]? = some (some x)) (hd : (x == ("__debug__" : Str)) = false) (hcd : (x == ("__classdict__" : Str)) = false)
    (hline : (ap.endLine == cp.line) = true) (hi : sc.kind = .function) :
    Sim1 U n sc nm (.Expr (.Call (.Attribute (.Name x p) "pop" ap) [] [] cp) pos) (cpop i) := by
  intro A env E s h₀ Xc X ρ r Q hA hV N hS hc h
  unfold cpop at hc
  split at hc
  · rename_i l hl
    split at hc
    · rename_i j hj
      split at hc
      · rename_i q
        rw [Nat.blt_eq] at q
        cases hc
        obtain ⟨m, σ, S⟩ := id hS
        obtain ⟨a, vs, k1, ha, xa, g, rl⟩ := own_at S hx hl
        refine wpAny_Expr ?_ (by unfold interactive; rw [hV.es, hi]; rfl) rfl
        refine wpAny_Call_method (T := "list") (id := "list.pop") rfl rfl hline PySem.F.plainAttrs_list PySem.F.slot_list_pop PySem.F.type_list_pop ?_
        refine wpAny_Name (load_name hV S.ns (S.at' i x _ hx ha) hcd ⟨⟨_, g, rfl⟩, (fun b e => by cases e; exact ⟨_, g, rfl⟩), ?_⟩) hd
        have n1 := rl.length
        rw [Array.length_toList] at n1
        rw [llast_eq] at hj
        obtain ⟨w, hw, rw'⟩ := rl.get hj
        rw [← n1] at hw
        cases rw'
        obtain ⟨S2, K2⟩ := mut_post (l' := ldrop1 l) S hx hl ha g (fun xs => xs.eraseIdxIfInBounds (vs.size - 1)) xa (by rw [erase_last, ldrop1_eq, n1]; exact rl.take _)
        exact P.pop_list g (by simpa using hw) (h X _ s.toks S2 K2) (by rw [sizeLine_eq]; omega)
      · cases hc
    · cases hc
  · cases hc

noncomputable def lsetN (l : List PyData) (i : Nat) (v : PyData) : List PyData :=
  @Nat.rec (fun _ => List PyData → List PyData) (fun l => @List.rec PyData (fun _ => List PyData) [] (fun _ r _ => v :: r) l) (fun _ f l => @List.rec PyData (fun _ => List PyData) [] (fun x r _ => x :: f r) l) i l
theorem lsetN_eq : ∀ (l : List PyData) (i : Nat) (v : PyData), lsetN l i v = l.set i v
  | [], 0, v => rfl
  | [], i + 1, v => rfl
  | _ :: r, 0, v => rfl
  | x :: r, i + 1, v => by
    show x :: lsetN r i v = x :: r.set i v
    rw [lsetN_eq r i v]
noncomputable def lset (l : List PyData) (i : Nat) (v : PyData) : Option (List PyData) := match Nat.blt i l.length with | true => some (lsetN l i v) | false => none
theorem lset_eq (l : List PyData) (i : Nat) (v : PyData) (l' : List PyData) (h : lset l i v = some l') : i < l.length ∧ l' = l.set i v := by
  unfold lset at h
  split at h
  · rename_i q
    rw [Nat.blt_eq] at q
    cases h
    exact ⟨q, lsetN_eq l i v⟩
  · cases h
theorem setItem_own {A : Around} {E : Value → Shared → Prop} {s : Shared} {l : Addr} {items : Array Value} {n : Nat} {k : Int} {t : Tok} {v : Value} {Q : Unit → Shared → Prop} (ho : s.heap.get? l = some (lstObj items n))
    (h0 : 0 ≤ k) (hfit : k < 2 ^ 63) (hn : k < items.size) (hQ : Q () { s with heap := s.heap.update l (Obj.mapSeq (·.setIfInBounds k.toNat v)) }) :
    wpAny (model U.prog U.w) A (setItem (.ref l) (.int k t) v) Q E s := by
  have hl : s.heap.IsList l items := ⟨_, ho, rfl, n, rfl⟩
  unfold setItem
  try with_reducible refine wpAny_holding ?_
  first | refine wpAny_bind (wpAny_pure ?_) | skip
  refine wpAny_bind (wpAny_sequenceKey hl.typeIs (by decide) ?_)
  refine wpAny_bind (wpAny_callSpecial?_slot (name := Str.ofString "__setitem__") hl.typeIs slot_list_setitem
    (wpAny_call_entry slot_list_setitem hl.typeIs entry_list_setitem ?_ (args_list_setitem _ _ _)))
  show wpAny _ _ (Builtin.List.listSubscript? (.int k t) >>= _) _ _ s
  refine wpAny_bind (wpAny_listSubscript_int (fitsIndex_of h0 hfit) ?_)
  clear hfit
  obtain ⟨j, rfl⟩ := Int.eq_ofNat_of_zero_le h0
  have hj : j < items.size := by omega
  have hx' : items[j]? = some items[j] := Array.getElem?_eq_getElem hj
  show wpAny _ _ ((seqItemAt l j >>= fun r => pure (r.map (j, ·))) >>= _) _ _ s
  refine wpAny_bind (wpAny_bind (wpAny_seqItemAt ho rfl (wpAny_pure ?_)))
  rw [hx']
  show wpAny _ _ (setSeqItemAt l j v >>= _) _ _ s
  refine wpAny_bind (wpAny_setSeqItemAt ho rfl ?_)
  first
    | exact wpAny_bind (wpAny_pure (wpAny_pure ⟨.none, rfl, wpAny_pure hQ⟩))
    | exact wpAny_pure ⟨.none, rfl, wpAny_pure hQ⟩

noncomputable def csetat (i : Nat) (j v : DE) : C := fun ρ => match v ρ with
  | some w => (match j ρ with
    | some (.int (.ofNat k)) => (match sget ρ i with
      | .o l => (match Nat.blt k 4294967296 with
        | true => (match lset l k w with | some l' => some (.nx (sset ρ i (.o l'))) | none => none)
        | false => none)
      | _ => none)
    | _ => none)
  | none => none
theorem Sim1.setat {x : Str} {p sp pos : Pos} {e ix : Expr} {v j : DE} {i : Nat} (hx : nm[i]? = some (some x)) (hd : (x == ("__debug__" : Str)) = false) (hcd : (x == ("__classdict__" : Str)) = false)
    (kv : SimE U n sc nm e v) (kj : SimE U n sc nm ix j)
    (hs : ∀ env, swapsWith e (some (.Subscript (.Name x p) ix sp)) pos.line env = pure false := by intro _; with_unfolding_all rfl) :
    Sim1 U n sc nm (.Assign [.Subscript (.Name x p) ix sp] e pos) (csetat i j v) := by
  intro A env E s h₀ Xc X ρ r Q hA hV N hS hc h
  unfold csetat at hc
  split at hc
  · rename_i w hw
    split at hc
    · rename_i k hk
      split at hc
      · rename_i l hl
        split at hc
        · rename_i q
          rw [Nat.blt_eq] at q
          split at hc
          · rename_i l' hl'
            cases hc
            obtain ⟨m, σ, S⟩ := id hS
            obtain ⟨a, vs, k1, ha, xa, g, rl⟩ := own_at S hx hl
            refine wpAny_Assign_Subscript (kv A env E s h₀ Xc X ρ w _ hA hV hS hw fun v1 h1 t1 x1 r1 => ?_) (hs env)
            have S1 := S.ext' x1
            refine wpAny_Name (load_name hV S1.ns (S1.at' i x _ hx ha) hcd ?_) hd
            refine kj A env E _ h₀ Xc X ρ _ _ hA hV ⟨m, σ, S1⟩ hk fun v2 h2 t2 x2 r2 => ?_
            cases r2
            have S2 := S1.ext' x2
            have g2 := x2 _ _ (x1 _ _ g)
            have n1 := rl.length
            rw [Array.length_toList] at n1
            obtain ⟨b1, b2⟩ := lset_eq _ _ _ _ hl'
            refine setItem_own g2 (Int.natCast_nonneg k) (by simp only [Int.ofNat_eq_natCast]; omega) (by simp only [Int.ofNat_eq_natCast]; omega) ?_
            obtain ⟨S3, K3⟩ := mut_post (s := { s with heap := h2, toks := t2 }) (l' := l') S2 hx hl ha g2 (fun xs => xs.setIfInBounds k v1) xa (by
              rw [Array.toList_setIfInBounds, b2]; exact RepL.set ((rl.ext (x1.toO X)).ext (x2.toO X)) k (r1.ext (x2.toO X)))
            exact h X _ t2 S3 ((Keeps.ext (x1.trans x2)).trans K3)
          · cases hc
        · cases hc
      · cases hc
    · cases hc
  · cases hc

/-! += of ints -/
noncomputable def caug (i : Nat) (d : DE) : C := fun ρ => match sget ρ i with
  | .v (.int x) => (match d ρ with | some (.int y) => some (.nx (sset ρ i (.v (.int (x + y))))) | _ => none)
  | _ => none
theorem Sim1.aug {x : Str} {p pos : Pos} {e : Expr} {d : DE} {i : Nat} (hx : nm[i]? = some (some x)) (hk : NameKindOK sc x) (hcd : (x == ("__classdict__" : Str)) = false) (k : SimE U n sc nm e d) :
    Sim1 U n sc nm (.AugAssign (.Name x p) .Add e pos) (caug i d) := by
  intro A env E s h₀ Xc X ρ r Q hA hV N hS hc h
  unfold caug at hc
  split at hc
  · rename_i u hu
    split at hc
    · rename_i y hy
      cases hc
      obtain ⟨m, σ, S⟩ := id hS
      have S0 := S.sl i x hx
      rw [hu] at S0
      obtain ⟨v0, e0, r0⟩ := S0
      refine wpAny_AugAssign_Name (load_name hV S.ns (S.at' i x _ hx e0) hcd ?_)
      refine k A env E s h₀ Xc X ρ _ _ hA hV hS hy fun v1 h1 t1 x1 r1 => ?_
      cases r0; cases r1
      refine wpAny_iadd_int ?_
      have S1 := S.ext' x1
      exact store_name (s := { s with heap := h1, toks := t1 + 1 }) hV N S1 hx (hk_of hV hk) (Fit.of_v (.int _ _)) fun h2 t2 m2 S2 k2 => h X h2 t2 ⟨_, _, S2⟩ ((Keeps.ext x1).trans k2)
    · cases hc
  · cases hc

/-! if, while -/
noncomputable def cif (t : DT) (a b : C) : C := fun ρ => match t ρ with | some true => a ρ | some false => b ρ | none => none
theorem Sim1.ife {t : Expr} {a b : List Stmt} {pos : Pos} {dt : DT} {ca cb : C} (kt : SimT U n sc nm t dt) (ka : SimS U n sc nm a ca) (kb : SimS U n sc nm b cb) : Sim1 U n sc nm (.If t a b pos) (cif dt ca cb) := by
  intro A env E s h₀ Xc X ρ r Q hA hV N hS hc h
  unfold cif at hc
  split at hc
  · rename_i q
    refine wpAny_If (kt A env E s h₀ Xc X ρ _ _ hA hV hS q fun h1 t1 x1 => ?_)
    rw [if_pos rfl]
    exact ka A env E _ h₀ Xc X ρ r Q hA hV N (hS.ext' x1) hc (h.after (Keeps.ext x1))
  · rename_i q
    refine wpAny_If (kt A env E s h₀ Xc X ρ _ _ hA hV hS q fun h1 t1 x1 => ?_)
    rw [if_neg Bool.false_ne_true]
    exact kb A env E _ h₀ Xc X ρ r Q hA hV N (hS.ext' x1) hc (h.after (Keeps.ext x1))
  · cases hc

noncomputable def cwhile (t : DT) (b : C) : Nat → C
  | 0 => fun _ => none
  | k + 1 => fun ρ => match t ρ with
    | some false => some (.nx ρ)
    | some true => (match b ρ with
      | some (.nx ρ') => cwhile t b k ρ'
      | r => r)
    | none => none
theorem Sim1.while {t : Expr} {b : List Stmt} {pos : Pos} {dt : DT} {cb : C} (kt : SimT U n sc nm t dt) (kb : SimS U n sc nm b cb) (f : Nat) : Sim1 U n sc nm (.While t b [] pos) (cwhile dt cb f) := by
  intro A env E s h₀ Xc X ρ r Q hA hV N hS hc h
  refine wpAny_While ?_
  refine codeAny_whileLoop (fun k s' => ∃ Y h' t' ρ', s' = { s with heap := h', toks := t' } ∧ St U h₀ Xc env nm Y h' ρ' ∧ Keeps X Y s.heap h' ∧ cwhile dt cb k ρ' = some r) ?_ f ⟨X, s.heap, s.toks, ρ, rfl, hS, Keeps.refl, hc⟩
  rintro k _ ⟨Y, h1, t1, ρ1, rfl, S1, K1, hc1⟩
  cases k with
  | zero => cases hc1
  | succ k =>
    unfold cwhile at hc1
    split at hc1
    · rename_i q
      cases hc1
      refine kt A env _ _ h₀ Xc Y ρ1 _ _ hA hV S1 q fun h2 t2 x2 => ?_
      rw [if_neg Bool.false_ne_true]
      exact wpAny_execs_nil (h Y h2 t2 (S1.ext' x2) (K1.trans (Keeps.ext x2)))
    · rename_i q
      refine kt A env _ _ h₀ Xc Y ρ1 _ _ hA hV S1 q fun h2 t2 x2 => ?_
      rw [if_pos rfl]
      cases hb : cb ρ1 with
      | none => rw [hb] at hc1; cases hc1
      | some r1 =>
        rw [hb] at hc1
        refine kb A env _ _ h₀ Xc Y ρ1 r1 _ hA hV N (S1.ext' x2) hb ?_
        cases r1 with
        | nx ρ2 =>
          intro Z h3 t3 S3 K3
          exact ⟨k, Nat.lt_succ_self _, Z, h3, t3, ρ2, rfl, S3, (K1.trans (Keeps.ext x2)).trans K3, hc1⟩
        | rt d =>
          intro val h3 t3 x3 r3
          cases hc1
          exact h val h3 t3 x3 r3
    · cases hc1
end

/-! A8 -/

structure Slots (U : Uni) (h₀ : Heap) (Y : AS) (h hs : Heap) (zs : List (Value × Slot)) : Prop where
  ok : ∀ z ∈ zs, SlotOK U h₀ Y h (some z.1) z.2 ∧ (z.2.own = true → ∃ a, z.1 = .ref a ∧ hs.get? a = none)
  ap : zs.Pairwise fun z w => z.2.own = true → w.2.own = true → z.1 ≠ w.1

theorem Slots.reverse {U : Uni} {h₀ : Heap} {Y : AS} {h hs : Heap} {zs : List (Value × Slot)} (S : Slots U h₀ Y h hs zs) : Slots U h₀ Y h hs zs.reverse :=
  ⟨fun z m => S.ok z (List.mem_reverse.mp m), List.pairwise_reverse.mpr (S.ap.imp fun k a b e => k b a e.symm)⟩

/-- values and own lists, one behind the other -/
noncomputable def SimSl (U : Uni) (n : Nat) (sc : Scope) (nm : Nm) (es : List Expr) (d : Store → Option (List Slot)) : Prop :=
  ∀ (pos : Pos) (A : Around) (env : Env) (E : Value → Shared → Prop) (s : Shared) (h₀ : Heap) (Xc X : AS) (ρ : Store) (l : List Slot) (Q : List Value → Shared → Prop),
   AOK n A → EnvOK sc env → St U h₀ Xc env nm X s.heap ρ → d ρ = some l →
   (∀ zs Y h' t', Ext s.heap h' → Grow X Y s.heap → (∀ b, Y b → ∃ o, h'.get? b = some o) → Slots U h₀ Y h' s.heap zs → zs.map (·.2) = l → Q (zs.map (·.1)) { s with heap := h', toks := t' }) →
   wpAny (model U.prog U.w) A (spliced (backTo pos (starEach es env))) Q E s

section
variable {U : Uni} {n : Nat} {sc : Scope} {nm : Nm}

noncomputable def slnil : Store → Option (List Slot) := fun _ => some []
noncomputable def slv (a : DE) (b : Store → Option (List Slot)) : Store → Option (List Slot) := fun ρ => match a ρ with | some x => (match b ρ with | some l => some (.v x :: l) | none => none) | none => none
noncomputable def slo (a : DL) (b : Store → Option (List Slot)) : Store → Option (List Slot) := fun ρ => match a ρ with | some x => (match b ρ with | some l => some (.o x :: l) | none => none) | none => none
theorem SimSl.nil : SimSl U n sc nm [] slnil := by
  intro pos A env E s h₀ Xc X ρ l Q hA hV hS hd h
  cases hd
  exact spliced_nil (h [] X s.heap s.toks (Ext.refl _) (Grow.refl X _) hS.xin ⟨(fun z m => by cases m), .nil⟩ rfl)
theorem SimSl.consv {e : Expr} {es : List Expr} {a : DE} {b : Store → Option (List Slot)} (k : SimE U n sc nm e a) (k' : SimSl U n sc nm es b)
    (hst : ∀ env rest, starEach (e :: rest) env = (false, eval e env) :: starEach rest env := by intro _ _; with_unfolding_all rfl) : SimSl U n sc nm (e :: es) (slv a b) := by
  intro pos A env E s h₀ Xc X ρ l Q hA hV hS hd h
  unfold slv at hd
  split at hd
  · rename_i x hx
    split at hd
    · rename_i l' hl
      cases hd
      rw [hst]
      show wpAny _ _ (spliced ((false, eval e env) :: backTo pos (starEach es env))) _ _ _
      refine spliced_cons (k A env E s h₀ Xc X ρ x _ hA hV hS hx fun v1 h1 t1 x1 r1 => ?_)
      refine k' pos A env E _ h₀ Xc X ρ l' _ hA hV (hS.ext' x1) hl fun zs Y h2 t2 x2 g2 y2 s2 e2 => ?_
      refine h ((v1, .v x) :: zs) Y h2 t2 (x1.trans x2) ⟨g2.1, fun b q => (g2.2 b q).imp id x1.none⟩ y2 ⟨fun z m => ?_, List.pairwise_cons.mpr ⟨(fun w m o => by cases o), s2.ap⟩⟩ (by rw [List.map_cons, e2])
      rcases List.mem_cons.mp m with rfl | m
      · exact ⟨⟨v1, rfl, (r1.grow g2).ext (x2.toO Y)⟩, fun o => by cases o⟩
      · exact ⟨(s2.ok z m).1, fun o => let ⟨a, e, f⟩ := (s2.ok z m).2 o; ⟨a, e, x1.none f⟩⟩
    · cases hd
  · cases hd
theorem SimSl.conso {e : Expr} {es : List Expr} {a : DL} {b : Store → Option (List Slot)} (k : SimF U n sc nm e a) (k' : SimSl U n sc nm es b)
    (hst : ∀ env rest, starEach (e :: rest) env = (false, eval e env) :: starEach rest env := by intro _ _; with_unfolding_all rfl) : SimSl U n sc nm (e :: es) (slo a b) := by
  intro pos A env E s h₀ Xc X ρ l Q hA hV hS hd h
  unfold slo at hd
  split at hd
  · rename_i x hx
    split at hd
    · rename_i l' hl
      cases hd
      rw [hst]
      show wpAny _ _ (spliced ((false, eval e env) :: backTo pos (starEach es env))) _ _ _
      refine spliced_cons (k A env E s h₀ Xc X ρ x _ hA hV hS hx fun a1 vs k1 h1 t1 x1 f1 g1 r1 => ?_)
      obtain ⟨m, σ, S⟩ := hS
      obtain ⟨S1, F1, K1⟩ := S.own (i := 0) x1 f1 g1 r1
      refine k' pos A env E _ h₀ Xc _ ρ l' _ hA hV ⟨m, σ, S1⟩ hl fun zs Y h2 t2 x2 g2 y2 s2 e2 => ?_
      refine h ((.ref a1, .o x) :: zs) Y h2 t2 (x1.trans x2) ⟨fun b q => g2.1 b (.inl q), fun b q => ?_⟩ y2 ⟨fun z m => ?_, List.pairwise_cons.mpr ⟨fun w m _ o q => ?_, s2.ap⟩⟩ (by rw [List.map_cons, e2])
      · rcases g2.2 b q with q | q
        · rcases q with q | rfl
          · exact .inl q
          · exact .inr f1
        · exact .inr (x1.none q)
      · rcases List.mem_cons.mp m with rfl | m
        · exact ⟨⟨a1, vs, k1, rfl, g2.1 _ (.inr rfl), S.ext.none f1, x2 _ _ g1, (r1.grow g2).ext (x2.toO Y)⟩, fun _ => ⟨a1, rfl, f1⟩⟩
        · exact ⟨(s2.ok z m).1, fun o => let ⟨a, e, f⟩ := (s2.ok z m).2 o; ⟨a, e, x1.none f⟩⟩
      · obtain ⟨a, e, f⟩ := (s2.ok w m).2 o
        have q' : Value.ref a1 = w.1 := q
        rw [e] at q'
        cases q'
        rw [show ({ s with heap := h1, toks := t1 } : Shared).heap.get? a1 = h1.get? a1 from rfl, g1] at f
        cases f
    · cases hd
  · cases hd

/-- what a frame writes when it stores a name -/
noncomputable def FW (lo : Bool) (env : Env) : AS := fun b => b = env.locals ∨ (lo = false ∧ ∃ y, env.cells.lookup y = some b)
noncomputable abbrev NKO (lo : Bool) (sc : Scope) (x : Str) : Prop := sc.names.lookup x = some .local ∨ (lo = false ∧ sc.names.lookup x = some .cell)
theorem hk_lo {lo : Bool} {env : Env} {x : Str} (V : EnvOK sc env) (h : NKO lo sc x) : (sc.names.lookup x = some .local ∧ FW lo env env.locals) ∨ (sc.names.lookup x = some .cell ∧ (env.cells.lookup x).isSome = true ∧ ∀ c, env.cells.lookup x = some c → FW lo env c) :=
  h.imp (fun e => ⟨e, .inl rfl⟩) fun e => ⟨e.2, V.ce x e.2, fun c q => .inr ⟨e.1, x, q⟩⟩

theorem FW.notlist {lo : Bool} {h₀ h : Heap} {Xc X : AS} {env : Env} {ρ : Store} {m : Str → Option Value} {σ : Nat → Option Value} (S : StC U h₀ Xc env nm X h ρ m σ) {a : Addr} {vs : Array Value} {k : Nat} (g : h.get? a = some (lstObj vs k)) : ¬ FW lo env a := by
  rintro (rfl | ⟨_, y, e⟩)
  · obtain ⟨o, es, ep, ho, hd, _⟩ := S.ns
    rw [g] at ho; cases ho; cases hd
  · obtain ⟨_, _, v, o, ho, hd⟩ := S.cel y a e
    rw [g] at ho; cases ho; cases hd
theorem FW.sub {lo : Bool} {h₀ h : Heap} {Xc X : AS} {env : Env} {ρ : Store} {m : Str → Option Value} {σ : Nat → Option Value} (S : StC U h₀ Xc env nm X h ρ m σ) : ∀ b, FW lo env b → X b := by
  rintro b (rfl | ⟨_, y, e⟩)
  · exact S.xl
  · exact (S.cel y b e).1
theorem SlotOK.extO {lo : Bool} {h₀ h h' : Heap} {Xc X : AS} {env : Env} {ρ : Store} {m : Str → Option Value} {σ : Nat → Option Value} {v : Option Value} {sl : Slot} (S : StC U h₀ Xc env nm X h ρ m σ) (k : ExtO (FW lo env) h h')
    (nl : ∀ l a, sl = .k l → v = some (.ref a) → a ≠ env.locals) (q : SlotOK U h₀ X h v sl) : SlotOK U h₀ X h' v sl := by
  have k' : ExtO X h h' := fun b o n e => k b o (fun w => n (FW.sub S b w)) e
  cases sl with
  | u => trivial
  | v d => obtain ⟨v, e, r⟩ := q; exact ⟨v, e, r.ext k'⟩
  | o l2 => obtain ⟨b, vs, n, e, x, f, g, r⟩ := q; exact ⟨b, vs, n, e, x, f, k _ _ (FW.notlist S g) g, r.ext k'⟩
  | k l2 =>
    obtain ⟨b, e, x, f, g⟩ := q
    refine ⟨b, e, x, f, g.keep (fun o q => k _ _ ?_ q) k'⟩
    rintro (hb | ⟨_, y, hb⟩)
    · exact nl _ _ rfl e hb
    · obtain ⟨_, _, v, o, ho, hd⟩ := S.cel y b hb
      obtain ⟨o', es, ep, ho', hd'⟩ := g.data
      rw [ho] at ho'; cases ho'; rw [hd] at hd'; cases hd'

/-- the targets: names -/
inductive Tg (lo : Bool) (sc : Scope) (nm : Nm) (env : Env) : List (Value → Sem Unit) → List Nat → Prop
  | nil : Tg lo sc nm env [] []
  | cons {x : Str} {i : Nat} {f : Value → Sem Unit} {fs : List (Value → Sem Unit)} {is : List Nat} : nm[i]? = some (some x) → NKO lo sc x →
      (∀ (M : Model) (A : Around) (v : Value) (Q : Unit → Shared → Prop) (E : Value → Shared → Prop) (s : Shared), wpAny M A (storeName env x v) Q E s → wpAny M A (f v) Q E s) → Tg lo sc nm env fs is → Tg lo sc nm env (f :: fs) (i :: is)

noncomputable def setSl : List Nat → List Slot → Store → Option Store
  | [], [], ρ => some ρ
  | i :: is, s :: ss, ρ => setSl is ss (sset ρ i s)
  | _, _, _ => none

theorem assignInOrder_cons (t : Value → Sem Unit) (ts : List (Value → Sem Unit)) (x : Value) (xs : List Value) : assignInOrder (t :: ts) (x :: xs) = (do holding xs (t x); assignInOrder ts xs) := rfl
theorem bind_all {lo : Bool} {env : Env} (hV : EnvOK sc env) (N : NmOK nm) {A : Around} {E : Value → Shared → Prop} {h₀ : Heap} {Xc X : AS} {hs : Heap} {Q : Unit → Shared → Prop} {fs : List (Value → Sem Unit)} {is : List Nat} (hL : ∃ o, hs.get? env.locals = some o) (T : Tg lo sc nm env fs is) :
    ∀ {s : Shared} {ρ ρ' : Store} {m : Str → Option Value} {σ : Nat → Option Value} {zs : List (Value × Slot)}, StC U h₀ Xc env nm X s.heap ρ m σ → Slots U h₀ X s.heap hs zs →
      (∀ z ∈ zs, z.2.own = true → ∀ j y, nm[j]? = some (some y) → (sget ρ j).own = true → σ j ≠ some z.1) → setSl is (zs.map (·.2)) ρ = some ρ' →
      (∀ h' t', St U h₀ Xc env nm X h' ρ' → Keeps X X s.heap h' → ExtO (FW lo env) s.heap h' → Q () { s with heap := h', toks := t' }) → wpAny (model U.prog U.w) A (assignInOrder fs (zs.map (·.1))) Q E s := by
  induction T with
  | nil =>
    intro s ρ ρ' m σ zs S Z F e h
    cases zs with
    | nil =>
      cases e
      exact wpAny_pure (h s.heap s.toks ⟨m, σ, S⟩ Keeps.refl fun b o _ e => e)
    | cons z zs => cases e
  | @cons x i f fs is hx hk hf T ih =>
    intro s ρ ρ' m σ zs S Z F e h
    cases zs with
    | nil => cases e
    | cons z zs =>
      rw [List.map_cons, assignInOrder_cons]
      refine wpAny_bind (wpAny_holding (hf _ _ _ _ _ _ ?_))
      have hz := Z.ok z List.mem_cons_self
      obtain ⟨hp, hq⟩ := List.pairwise_cons.mp Z.ap
      refine store_nameW (FW lo env) (sl := z.2) hV N S hx (hk_lo hV hk) ⟨hz.1, (fun o j y hy ow q => absurd q (F z List.mem_cons_self o j y hy ow)), fun l a ek ev => by
        obtain ⟨b, e, f⟩ := hz.2 (by rw [ek]; rfl)
        rw [ev] at e; cases e
        rintro rfl
        obtain ⟨o, g⟩ := hL
        rw [f] at g; cases g⟩ fun h1 t1 m1 S1 K1 X1 => ?_
      refine ih (s := { s with heap := h1, toks := t1 }) S1 ⟨fun w mw => ⟨(Z.ok w (List.mem_cons_of_mem _ mw)).1.extO S X1 (fun l a ek ev => by
        obtain ⟨b, e, f⟩ := (Z.ok w (List.mem_cons_of_mem _ mw)).2 (by rw [ek]; rfl)
        rw [Option.some.inj ev] at e; cases e
        rintro rfl
        obtain ⟨o, g⟩ := hL
        rw [f] at g; cases g), (Z.ok w (List.mem_cons_of_mem _ mw)).2⟩, hq⟩ (fun w mw ow j y hy oj => ?_) e
        fun h2 t2 S2 K2 X2 => h h2 t2 S2 (K1.trans K2) fun b o nw q => X2 b o nw (X1 b o nw q)
      rw [sget_sset] at oj
      split
      · rename_i hj
        rw [if_pos hj] at oj
        intro q
        exact hp w mw oj ow (Option.some.inj q)
      · rename_i hj
        rw [if_neg hj] at oj
        exact F w (List.mem_cons_of_mem _ mw) ow j y hy oj

/-! tuples on both sides -/
noncomputable def env0 (sc : Scope) : Env := { scope := sc, locals := 0, globals := 0, cells := [] }
theorem sw_env {env env' : Env} (e : env.scope = env'.scope) (t : List Expr) (v : Expr) : swappedStores t v env = swappedStores t v env' := by
  unfold swappedStores Env.kindOf Env.blockKind
  rw [e]

inductive NamesAt (lo : Bool) (nm : Nm) (sc : Scope) : List Expr → List Nat → Prop
  | nil : NamesAt lo nm sc [] []
  | cons {x : Str} {p : Pos} {i : Nat} {es : List Expr} {is : List Nat} : nm[i]? = some (some x) → NKO lo sc x → NamesAt lo nm sc es is → NamesAt lo nm sc (.Name x p :: es) (i :: is)
inductive StrsAt (nm : Nm) (sc : Scope) : List Str → List Nat → Prop
  | nil : StrsAt nm sc [] []
  | cons {x : Str} {i : Nat} {es : List Str} {is : List Nat} : nm[i]? = some (some x) → NKO false sc x → StrsAt nm sc es is → StrsAt nm sc (x :: es) (i :: is)
theorem NamesAt.tg {lo : Bool} {env : Env} {es : List Expr} {is : List Nat} (k : NamesAt lo nm sc es is) : Tg lo sc nm env ((assignEach es env).map (·.2)) is := by
  induction k with
  | nil => exact .nil
  | cons hx hk _ ih => exact .cons hx hk (fun M A v Q E s h => PyProof.Rows.assign_Name h) ih
theorem NamesAt.star {lo : Bool} {env : Env} {es : List Expr} {is : List Nat} (k : NamesAt lo nm sc es is) : (assignEach es env).findIdx? (·.1) = none ∧ (assignEach es env).length = es.length := by
  induction k with
  | nil => exact ⟨rfl, rfl⟩
  | @cons x p i es is hx hk _ ih =>
    have e : assignEach (.Name x p :: es) env = (false, assign (.Name x p) env) :: assignEach es env := rfl
    rw [e]
    refine ⟨?_, by simp [ih.2]⟩
    rw [List.findIdx?_cons]
    simp [ih.1]
theorem StrsAt.tg {env : Env} {es : List Str} {is : List Nat} (k : StrsAt nm sc es is) : Tg false sc nm env (es.map fun x => bindName env x) is := by
  induction k with
  | nil => exact .nil
  | cons hx hk _ ih => exact .cons hx hk (fun M A v Q E s h => wpAny_bindName h) ih

noncomputable def cslots (is : List Nat) (d : Store → Option (List Slot)) : C := fun ρ => match d ρ with
  | some l => (match setSl is l ρ with | some ρ' => some (.nx ρ') | none => none)
  | none => none
theorem setSl_len : ∀ {is : List Nat} {l : List Slot} {ρ ρ' : Store}, setSl is l ρ = some ρ' → is.length = l.length
  | [], [], _, _, _ => rfl
  | i :: is, x :: l, ρ, ρ', h => by
    have h' : setSl is l (sset ρ i x) = some ρ' := h
    simp [setSl_len h']
theorem NamesAt.len {lo : Bool} {es : List Expr} {is : List Nat} (k : NamesAt lo nm sc es is) : es.length = is.length := by
  induction k with
  | nil => rfl
  | cons _ _ _ ih => simp [ih]
theorem StrsAt.len {es : List Str} {is : List Nat} (k : StrsAt nm sc es is) : es.length = is.length := by
  induction k with
  | nil => rfl
  | cons _ _ _ ih => simp [ih]

theorem apart_of {h₀ h h' : Heap} {Xc X : AS} {env : Env} {ρ : Store} {m : Str → Option Value} {σ : Nat → Option Value} {Y : AS} {zs : List (Value × Slot)} (S : StC U h₀ Xc env nm X h ρ m σ) (Z : Slots U h₀ Y h' h zs) :
    ∀ z ∈ zs, z.2.own = true → ∀ j y, nm[j]? = some (some y) → (sget ρ j).own = true → σ j ≠ some z.1 := by
  intro z mz oz j y hy oj e
  obtain ⟨a, ea, fa⟩ := (Z.ok z mz).2 oz
  rw [ea] at e
  have q := S.sl j y hy
  revert q oj
  cases hq : sget ρ j with
  | u => intro oj; cases oj
  | v d => intro oj; cases oj
  | o l => rintro _ ⟨b, vs, n, e', x', f', g', _⟩; rw [e] at e'; cases e'; rw [fa] at g'; cases g'
  | k l => rintro _ ⟨b, e', x', f', g'⟩; rw [e] at e'; cases e'; obtain ⟨o, q⟩ := S.xin _ x'; rw [fa] at q; cases q

theorem Keeps.alloc {X Y : AS} {h h' : Heap} (g : Grow X Y h) (x : Ext h h') : Keeps X Y h h' := ⟨fun _ _ q => (q.grow g).ext (x.toO Y), (fun b o _ e _ => x b o e), fun b _ _ y _ _ => g.1 b y⟩
theorem ext_but {h h' : Heap} (x : Heap.ExtBut h.objs.size h h') : Ext h h' := fun b o e => x b o (Nat.ne_of_lt (Heap.lt_size e)) e

noncomputable def slrev (d : Store → Option (List Slot)) : Store → Option (List Slot) := fun ρ => match d ρ with | some l => some l.reverse | none => none
theorem bind_tuple {lo : Bool} {env : Env} (hV : EnvOK sc env) (N : NmOK nm) {A : Around} {E : Value → Shared → Prop} {h₀ h1 : Heap} {Xc X Y : AS} {s : Shared} {ρ ρ' : Store} {zs zs' : List (Value × Slot)} {fs : List (Value → Sem Unit)} {is : List Nat} {Q : Unit → Shared → Prop}
    (hS : St U h₀ Xc env nm X s.heap ρ) (x1 : Ext s.heap h1) (g1 : Grow X Y s.heap) (y1 : ∀ b, Y b → ∃ o, h1.get? b = some o) (z1 : Slots U h₀ Y h1 s.heap zs) (hz : zs' = zs ∨ zs' = zs.reverse)
    (T : Tg lo sc nm env fs is) (e : setSl is (zs'.map (·.2)) ρ = some ρ') {h2 : Heap} {t2 : Nat} (x2 : Ext h1 h2)
    (h : ∀ h' t', St U h₀ Xc env nm Y h' ρ' → Keeps X Y s.heap h' → Q () { s with heap := h', toks := t' }) :
    wpAny (model U.prog U.w) A (assignInOrder fs (zs'.map (·.1))) Q E { s with heap := h2, toks := t2 } := by
  obtain ⟨m, σ, S⟩ := hS
  have S1 := (S.alloc x1 g1 y1).ext' x2
  have z2 : Slots U h₀ Y h2 s.heap zs := ⟨fun z mz => ⟨(z1.ok z mz).1.ext x2, (z1.ok z mz).2⟩, z1.ap⟩
  have z3 : Slots U h₀ Y h2 s.heap zs' := by rcases hz with rfl | rfl; exact z2; exact z2.reverse
  have F := apart_of S z3
  exact bind_all (s := { s with heap := h2, toks := t2 }) hV N (let ⟨o, _, _, g, _⟩ := S.ns; ⟨o, g⟩) T S1 z3 F e fun h3 t3 S3 K3 _ => h h3 t3 S3 ((Keeps.alloc g1 (x1.trans x2)).trans K3)

/-- the rows' order of the stores is turned -/
theorem Sim1.swap {ts vs : List Expr} {k0 k1 : Nat} {tp vp pos : Pos} {names : List Str} {is : List Nat} {d : Store → Option (List Slot)} (k : SimSl U n sc nm vs d) (hn : StrsAt nm sc names.reverse is)
    (hw : swappedStores [.Tuple ts k0 tp] (.Tuple vs k1 vp) (env0 sc) = pure (some names)) (hl3 : names.length ≤ 16 := by decide)
    (hs : ∀ env, swapsWithSole [.Tuple ts k0 tp] (.Tuple vs k1 vp) pos.line env = pure false := by intro _; with_unfolding_all rfl) :
    Sim1 U n sc nm (.Assign [.Tuple ts k0 tp] (.Tuple vs k1 vp) pos) (cslots is (slrev d)) := by
  intro A env E s h₀ Xc X ρ r Q hA hV N hS hc h
  unfold cslots at hc
  split at hc
  · rename_i l' hl'
    unfold slrev at hl'
    split at hl'
    · rename_i l hl
      cases hl'
      split at hc
      · rename_i ρ' hρ
        cases hc
        refine Assign_Tuple_swapped (names := names) (Tuple_ (k vp A env E s h₀ Xc X ρ l _ hA hV hS hl fun zs Y h1 t1 x1 g1 y1 z1 e1 => ?_)) (hs env) ((sw_env (by rw [hV.es]; rfl) _ _).trans hw)
        have hlen : zs.length = names.length := by
          have a := setSl_len hρ
          have b := hn.len
          have c : zs.length = l.length := by rw [← e1]; simp
          simp only [List.length_reverse] at a b
          omega
        refine wpAny_newObj_type ?_ (by show (zs.map (·.1)).toArray.size ≤ sizeLine; rw [List.size_toArray, List.length_map, hlen, sizeLine_eq]; omega)
        have ht : (h1.push (tupObj (zs.map (·.1)).toArray 0)).IsTuple h1.objs.size (zs.map (·.1)).toArray := ⟨_, Heap.get?_push_size _ rfl, rfl, 0, rfl⟩
        have hsz : names.length = (zs.map (·.1)).toArray.size := by rw [List.size_toArray, List.length_map, hlen]
        rw [hsz]
        refine wpAny_unpackItems_tuple hA.1 ht fun h2 x2 => ?_
        have e2 : ((zs.map (·.1)).toArray.toList).reverse = zs.reverse.map (·.1) := by simp
        rw [e2]
        refine bind_tuple hV N hS x1 g1 y1 z1 (.inr rfl) hn.tg ?_ ((Ext.push _ _).trans (ext_but x2)) fun h3 t3 S3 K3 => h Y h3 t3 S3 K3
        rw [List.map_reverse, e1]
        exact hρ
      · cases hc
    · cases hl'
  · cases hc

/-- a tuple written out, its parts stored in their order -/
theorem Sim1.tupa {ts vs : List Expr} {k0 k1 : Nat} {tp vp pos : Pos} {is : List Nat} {d : Store → Option (List Slot)} (k : SimSl U n sc nm vs d) (hn : NamesAt false nm sc ts is)
    (hw : swappedStores [.Tuple ts k0 tp] (.Tuple vs k1 vp) (env0 sc) = pure none) (hl3 : ts.length ≤ 16 := by decide)
    (hs : ∀ env, swapsWithSole [.Tuple ts k0 tp] (.Tuple vs k1 vp) pos.line env = pure false := by intro _; with_unfolding_all rfl) :
    Sim1 U n sc nm (.Assign [.Tuple ts k0 tp] (.Tuple vs k1 vp) pos) (cslots is d) := by
  intro A env E s h₀ Xc X ρ r Q hA hV N hS hc h
  unfold cslots at hc
  split at hc
  · rename_i l hl
    split at hc
    · rename_i ρ' hρ
      cases hc
      refine Assign_Tuple (Tuple_ (k vp A env E s h₀ Xc X ρ l _ hA hV hS hl fun zs Y h1 t1 x1 g1 y1 z1 e1 => ?_)) (hs env) ((sw_env (by rw [hV.es]; rfl) _ _).trans hw)
      have hlen : zs.length = ts.length := by
        have a := setSl_len hρ
        have b := hn.len
        have c : zs.length = l.length := by rw [← e1]; simp
        omega
      refine wpAny_newObj_type ?_ (by show (zs.map (·.1)).toArray.size ≤ sizeLine; rw [List.size_toArray, List.length_map, hlen, sizeLine_eq]; omega)
      have ht : (h1.push (tupObj (zs.map (·.1)).toArray 0)).IsTuple h1.objs.size (zs.map (·.1)).toArray := ⟨_, Heap.get?_push_size _ rfl, rfl, 0, rfl⟩
      refine wpAny_assign_Tuple hA.1 ht (by rw [(hn.star).2, List.size_toArray, List.length_map, hlen]) (hn.star).1 fun h2 x2 => ?_
      refine bind_tuple hV N hS x1 g1 y1 z1 (.inl rfl) hn.tg (by rw [e1]; exact hρ) ((Ext.push _ _).trans (ext_but x2)) fun h3 t3 S3 K3 => h Y h3 t3 S3 K3
    · cases hc
  · cases hc

/-! a tuple's value unpacked -/
noncomputable def setAll : List Nat → List PyData → Store → Option Store
  | [], [], ρ => some ρ
  | i :: is, s :: ss, ρ => setAll is ss (sset ρ i (.v s))
  | _, _, _ => none
theorem setAll_sl : ∀ {is : List Nat} {l : List PyData} {ρ ρ' : Store}, setAll is l ρ = some ρ' → setSl is (l.map .v) ρ = some ρ'
  | [], [], _, _, h => h
  | i :: is, x :: l, ρ, ρ', h => by
    have h' : setAll is l (sset ρ i (.v x)) = some ρ' := h
    exact setAll_sl (is := is) (l := l) h'
noncomputable def asgTup (is : List Nat) : PyData → Store → Option Store
  | .tuple l, ρ => setAll is l ρ
  | _, _ => none
/-- a value assigned to a target -/
noncomputable def AsgOK (lo : Bool) (U : Uni) (n : Nat) (sc : Scope) (nm : Nm) (t : Expr) (f : PyData → Store → Option Store) : Prop :=
  ∀ (A : Around) (env : Env) (E : Value → Shared → Prop) (s : Shared) (h₀ : Heap) (Xc X : AS) (ρ ρ' : Store) (val : Value) (v : PyData) (Q : Unit → Shared → Prop),
   AOK n A → EnvOK sc env → NmOK nm → St U h₀ Xc env nm X s.heap ρ → Rep X s.heap val v → f v ρ = some ρ' →
   (∀ h' t', St U h₀ Xc env nm X h' ρ' → Keeps X X s.heap h' → ExtO (FW lo env) s.heap h' → Q () { s with heap := h', toks := t' }) →
   wpAny (model U.prog U.w) A (assign t env val) Q E s

theorem slots_of {h₀ h hs : Heap} {X : AS} : ∀ {vs : List Value} {l : List PyData}, RepL X h vs l → Slots U h₀ X h hs (vs.zip (l.map .v)) ∧ (vs.zip (l.map Slot.v)).map (·.1) = vs ∧ (vs.zip (l.map Slot.v)).map (·.2) = l.map .v := by
  intro vs l r
  have hl := r.length
  refine ⟨⟨fun z m => ?_, ?_⟩, ?_, ?_⟩
  · clear hl
    induction vs generalizing l with
    | nil => simp at m
    | cons v vs ih =>
      cases r with
      | cons r1 r2 =>
        rw [List.map_cons, List.zip_cons_cons] at m
        rcases List.mem_cons.mp m with rfl | m
        · exact ⟨⟨_, rfl, r1⟩, fun o => by cases o⟩
        · exact ih r2 m
  · clear hl
    induction vs generalizing l with
    | nil => simp
    | cons v vs ih =>
      cases r with
      | cons r1 r2 =>
        rw [List.map_cons, List.zip_cons_cons]
        exact List.pairwise_cons.mpr ⟨(fun w m o => by cases o), ih r2⟩
  · rw [List.map_fst_zip]; simp [hl]
  · rw [List.map_snd_zip]; simp [hl]

theorem AsgOK.tup {lo : Bool} {ts : List Expr} {k0 : Nat} {tp : Pos} {is : List Nat} (hn : NamesAt lo nm sc ts is) : AsgOK lo U n sc nm (.Tuple ts k0 tp) (asgTup is) := by
  intro A env E s h₀ Xc X ρ ρ' val v Q hA hV N hS hr hc h
  unfold asgTup at hc
  split at hc
  · rename_i l
    cases hr with
    | @tuple a o vs k _ na g c d r =>
      obtain ⟨Z, e1, e2⟩ := slots_of (U := U) (h₀ := h₀) (hs := s.heap) r
      obtain ⟨m, σ, S⟩ := hS
      have hc' := setAll_sl hc
      have hlen : vs.size = ts.length := by
        have a := setSl_len hc'
        have b := hn.len
        have c := r.length
        simp only [List.length_map, Array.length_toList] at a c
        omega
      refine wpAny_assign_Tuple hA.1 ⟨o, g, c, k, d⟩ (by rw [(hn.star).2, hlen]) (hn.star).1 fun h2 x2 => ?_
      have x2' := ext_but x2
      rw [← e1]
      refine bind_all (s := { s with heap := h2 }) (zs := vs.toList.zip (l.map Slot.v)) hV N (let ⟨o, _, _, g, _⟩ := S.ns; ⟨o, g⟩) hn.tg (S.ext' x2') ⟨fun z m => ⟨(Z.ok z m).1.ext x2', (Z.ok z m).2⟩, Z.ap⟩ (apart_of S Z) (by rw [e2]; exact hc')
        fun h3 t3 S3 K3 X3 => h h3 t3 S3 ((Keeps.ext x2').trans K3) fun b o nw q => X3 b o nw (x2' b o q)
  · cases hc
noncomputable def asgName (i : Nat) (v : PyData) (ρ : Store) : Option Store := some (sset ρ i (.v v))
theorem AsgOK.name {lo : Bool} {x : Str} {p : Pos} {i : Nat} (hx : nm[i]? = some (some x)) (hk : NKO lo sc x) : AsgOK lo U n sc nm (.Name x p) (asgName i) := by
  intro A env E s h₀ Xc X ρ ρ' val v Q hA hV N hS hr hc h
  cases hc
  obtain ⟨m, σ, S⟩ := hS
  exact PyProof.Rows.assign_Name (store_nameW (FW lo env) hV N S hx (hk_lo hV hk) (Fit.of_v hr) fun h1 t1 m1 S1 K1 X1 => h h1 t1 ⟨_, _, S1⟩ K1 X1)

noncomputable def cunp (f : PyData → Store → Option Store) (d : DE) : C := fun ρ => match d ρ with
  | some v => (match f v ρ with | some ρ' => some (.nx ρ') | none => none)
  | none => none
/-- a, b = f(..) -/
theorem Sim1.unp {ts : List Expr} {k0 : Nat} {tp pos : Pos} {is : List Nat} {e : Expr} {d : DE} (k : SimE U n sc nm e d) (hn : NamesAt false nm sc ts is)
    (hw : ∀ env, swappedStores [.Tuple ts k0 tp] e env = pure none := by intro _; with_unfolding_all rfl)
    (hs : ∀ env, swapsWithSole [.Tuple ts k0 tp] e pos.line env = pure false := by intro _; with_unfolding_all rfl) :
    Sim1 U n sc nm (.Assign [.Tuple ts k0 tp] e pos) (cunp (asgTup is) d) := by
  intro A env E s h₀ Xc X ρ r Q hA hV N hS hc h
  unfold cunp at hc
  split at hc
  · rename_i v hv
    split at hc
    · rename_i ρ' hρ
      cases hc
      refine Assign_Tuple (k A env E s h₀ Xc X ρ v _ hA hV hS hv fun val h1 t1 x1 r1 => ?_) (hs env) (hw env)
      exact AsgOK.tup hn A env E { s with heap := h1, toks := t1 } h₀ Xc X ρ ρ' val v _ hA hV N (hS.ext' x1) r1 hρ fun h2 t2 S2 K2 _ => h X h2 t2 S2 ((Keeps.ext x1).trans K2)
    · cases hc
  · cases hc
end

/-! A9 -/

/-- something that hands out items one by one -/
structure Src (U : Uni) (strong : Bool) (tg : Expr) (it : Value) (items : List PyData) (S : AS) (J : Nat → Heap → Prop) (src : AS → Heap → Prop) : Prop where
  jk : ∀ k h h', J k h → (∀ b o, S b → h.get? b = some o → h'.get? b = some o) → J k h'
  jd : ∀ k h b, J k h → S b → ∃ o, h.get? b = some o ∧ (strong = true → ∃ fs, o.data = .fields fs)
  se : ∀ Y h h', src Y h → Ext h h' → src Y h'
  sg : ∀ Y Z h, src Y h → Grow Y Z h → src Z h
  sk : strong = true → ∀ Y Z h h', src Y h → (∀ v d, Rep Y h v d → Rep Z h' v d) → src Z h'
  next : ∀ (A : Around) (E : Value → Shared → Prop) (s : Shared) (X : AS) (k : Nat) (Q : Option Value → Shared → Prop), A.handled = none → (∀ b, S b → X b) → (∀ b, X b → ∃ o, s.heap.get? b = some o) →
    J k s.heap → src X s.heap →
    (match items[k]? with
      | some d => ∀ val h' t', J (k + 1) h' → Rep X h' val d → (∀ b o, ¬ S b → s.heap.get? b = some o → h'.get? b = some o) → Q (some val) { s with heap := h', toks := t' }
      | none => ∀ h' t', (∀ b o, ¬ S b → s.heap.get? b = some o → h'.get? b = some o) → Q none { s with heap := h', toks := t' }) →
    wpAny (model U.prog U.w) A (pyNext it) (fun r s₁ => match r with | none => Q none s₁ | some v => wpAny (model U.prog U.w) A (letOwnedTupleGo tg it v) (fun _ s₂ => Q (some v) s₂) E s₁) E s

theorem letGo_other {A : Around} {E : Value → Shared → Prop} {s : Shared} {U : Uni} {tg : Expr} {i : Addr} {v : Value} {T : String} {fs : Array Value} {o : Obj} {Q : Unit → Shared → Prop}
    (g : s.heap.get? i = some o) (hc : o.cls = .type T) (hd : o.data = .fields fs) (hT : (["enumerate", "zip", "dict_itemiterator", "dict_reverseitemiterator", "odict_iterator", "itertools.zip_longest", "itertools.pairwise"].contains T) = false)
    (h : Q () s) : wpAny (model U.prog U.w) A (letOwnedTupleGo tg (.ref i) v) Q E s := by
  obtain ⟨c, d, dt, sl⟩ := o
  simp only at hc hd
  subst hc hd
  have key : ∀ a : Addr, wpAny (model U.prog U.w) A (do
      let o ← load i
      match o.cls, o.data with
      | .type n, .fields vs =>
        if ["enumerate", "zip", "dict_itemiterator", "dict_reverseitemiterator", "odict_iterator", "itertools.zip_longest", "itertools.pairwise"].contains n && vs[0]? == some (rawInt a) then
          rule "for.unpacks-the-owned-tuple"
          updateField i 0 .none
      | _, _ => pure () : Sem Unit) Q E s := by
    intro a
    refine wpAny_bind (wpAny_load g ?_)
    show wpAny _ _ (if _ then _ else _) _ _ _
    rw [if_neg (by rw [hT]; simp)]
    exact wpAny_pure h
  unfold letOwnedTupleGo
  split
  · cases v <;> first | exact key _ | exact wpAny_pure h
  · cases v <;> first | exact key _ | exact wpAny_pure h
  · exact wpAny_pure h

section
variable {U : Uni} {n : Nat} {sc : Scope} {nm : Nm}

theorem Src.list {strong : Bool} {tg : Expr} {i l : Addr} {items : List PyData} (src : AS → Heap → Prop) (hsrc : ∀ X h, src X h → ∃ vs, h.IsList l vs ∧ RepL X h vs.toList items)
    (se : ∀ Y h h', src Y h → Ext h h' → src Y h') (sg : ∀ Y Z h, src Y h → Grow Y Z h → src Z h) (sk : strong = true → ∀ Y Z h h', src Y h → (∀ v d, Rep Y h v d → Rep Z h' v d) → src Z h') :
    Src U strong tg (.ref i) items (fun b => b = i) (fun k h => h.IsListIter i l k) src where
  jk := fun k h h' ⟨o, g, c, d⟩ x => ⟨o, x i o rfl g, c, d⟩
  jd := fun k h b ⟨o, g, c, d⟩ e => ⟨o, by rw [e]; exact g, fun _ => ⟨_, d⟩⟩
  se := se
  sg := sg
  sk := sk
  next := by
    intro A E s X k Q hh hS hX hJ hs h
    obtain ⟨vs, hl, r⟩ := hsrc X s.heap hs
    have hlen := r.length
    rw [Array.length_toList] at hlen
    split at h
    · rename_i d hd
      obtain ⟨w, hw, rw'⟩ := r.get hd
      refine wpAny_pyNext_list_item hJ hl (by simpa using hw) fun h1 j1 s1 => ?_
      obtain ⟨o, g, c, dd⟩ := id j1
      refine letGo_other g c dd (by decide) (h w h1 _ j1 (rw'.ext ?_) fun b o ne e => (s1.2 b ne).trans e)
      exact sameBut_out s1 (hS i rfl)
    · rename_i hd
      have : vs[k]? = none := by
        rw [Array.getElem?_eq_none_iff]
        have := List.getElem?_eq_none_iff.mp hd
        omega
      exact wpAny_pyNext_list_end hh hJ hl this fun h1 x1 => h h1 s.toks fun b o ne e => x1 b o ne e

noncomputable def rangeItems (c : Int) : Nat → Int → List PyData
  | 0, _ => []
  | k + 1, a => .int a :: rangeItems c k (a + c)
theorem rangeItems_get (c : Int) : ∀ (m k : Nat) (a : Int), (rangeItems c m a)[k]? = if k < m then some (.int (a + k * c)) else none
  | 0, k, a => by simp [rangeItems]
  | m + 1, 0, a => by simp [rangeItems]
  | m + 1, k + 1, a => by
    rw [rangeItems, List.getElem?_cons_succ, rangeItems_get c m k (a + c)]
    by_cases q : k < m
    · rw [if_pos q, if_pos (by omega)]
      congr 2
      push_cast
      rw [Int.add_mul]; omega
    · rw [if_neg q, if_neg (by omega)]
theorem Src.range {strong : Bool} {x : Str} {p : Pos} {i : Addr} (a c : Int) (m : Nat) :
    Src U strong (.Name x p) (.ref i) (rangeItems c m a) (fun b => b = i) (fun k h => IsRangeIter h i (a + k * c) ((m : Int) - k) c) (fun _ _ => True) where
  jk := fun k h h' g f => f i _ rfl g
  jd := fun k h b g e => by
    have e' : b = i := e
    subst e'
    exact ⟨_, g, fun _ => ⟨_, rfl⟩⟩
  se := fun _ _ _ _ _ => trivial
  sg := fun _ _ _ _ _ => trivial
  sk := fun _ _ _ _ _ _ _ => trivial
  next := by
    intro A E s X k Q hh hS hX hJ hs h
    rw [rangeItems_get] at h
    by_cases q : k < m
    · rw [if_pos q] at h
      refine wpAny_pyNext_range_item hJ (by omega) fun h1 j1 s1 => ?_
      refine wpAny_pure (h _ h1 _ ?_ (.int _ _) fun b o ne e => (s1.2 b ne).trans e)
      have e1 : a + ((k + 1 : Nat) : Int) * c = a + k * c + c := by push_cast; rw [Int.add_mul]; omega
      have e2 : (m : Int) - ((k + 1 : Nat) : Int) = m - k - 1 := by push_cast; omega
      rw [e1, e2]; exact j1
    · rw [if_neg q] at h
      exact wpAny_pyNext_range_end hh hJ (by omega) fun h1 x1 => h h1 s.toks fun b o ne e => x1 b o ne e

noncomputable def enumItems : Nat → List PyData → List PyData
  | _, [] => []
  | k, x :: r => .tuple [.int (.ofNat k), x] :: enumItems (k + 1) r
theorem enumItems_get : ∀ (l : List PyData) (j k : Nat), (enumItems j l)[k]? = (l[k]?).map fun x => .tuple [.int ((j + k : Nat) : Int), x]
  | [], j, k => by simp [enumItems]
  | x :: r, j, 0 => by simp [enumItems]
  | x :: r, j, k + 1 => by
    rw [enumItems, List.getElem?_cons_succ, enumItems_get r (j + 1) k, List.getElem?_cons_succ, show j + 1 + k = j + (k + 1) from by omega]
theorem Src.enum {strong : Bool} {ts : List Expr} {k0 : Nat} {tp : Pos} {e i l : Addr} {items : List PyData} (hei : e ≠ i) (src : AS → Heap → Prop) (hsrc : ∀ X h, src X h → ∃ vs, h.IsList l vs ∧ RepL X h vs.toList items)
    (se : ∀ Y h h', src Y h → Ext h h' → src Y h') (sg : ∀ Y Z h, src Y h → Grow Y Z h → src Z h) (sk : strong = true → ∀ Y Z h h', src Y h → (∀ v d, Rep Y h v d → Rep Z h' v d) → src Z h') :
    Src U strong (.Tuple ts k0 tp) (.ref e) (enumItems 0 items) (fun b => b = e ∨ b = i) (fun k h => (∃ old, IsEnum h e i k old) ∧ h.IsListIter i l k) src where
  jk := fun k h h' ⟨⟨old, g⟩, ⟨o, g2, c, d⟩⟩ x => ⟨⟨old, x e _ (.inl rfl) g⟩, ⟨o, x i _ (.inr rfl) g2, c, d⟩⟩
  jd := fun k h b ⟨⟨old, g⟩, ⟨o, g2, c, d⟩⟩ q => by
    rcases q with rfl | rfl
    · exact ⟨_, g, fun _ => ⟨_, rfl⟩⟩
    · exact ⟨_, g2, fun _ => ⟨_, d⟩⟩
  se := se
  sg := sg
  sk := sk
  next := by
    intro A E s X k Q hh hS hX hJ hs h
    obtain ⟨⟨old, he⟩, hi⟩ := hJ
    obtain ⟨vs, hl, r⟩ := hsrc X s.heap hs
    have hlen := r.length
    rw [Array.length_toList] at hlen
    rw [enumItems_get, Nat.zero_add] at h
    cases hd : items[k]? with
    | some d =>
      rw [hd] at h
      obtain ⟨w, hw, rw'⟩ := r.get hd
      refine wpAny_pyNext_enum_item he hi hl (by simpa using hw) hei fun h1 e1 j1 t1 z1 x1 => ?_
      refine wpAny_letOwnedTupleGo_enum e1 fun h2 e2 s2 => ?_
      have hne : s.heap.objs.size ≠ e := Nat.ne_of_gt (Heap.lt_size he)
      have out : ∀ b o, ¬ (b = e ∨ b = i) → s.heap.get? b = some o → h2.get? b = some o := fun b o ne g => (s2.2 b (fun q => ne (.inl q))).trans (x1 b o (fun q => ne (.inl q)) (fun q => ne (.inr q)) g)
      refine h _ h2 _ ⟨⟨w, ?_⟩, j1.extBut s2.extBut hei.symm⟩ ?_ out
      · have : ((k : Int) + 1) = ((k + 1 : Nat) : Int) := by push_cast; rfl
        rw [← this]; exact e2
      · refine .tuple (fun x => ?_) ((s2.2 _ hne).trans t1) rfl rfl (.cons (.int _ _) (.cons (rw'.ext fun b o nx g => out b o (fun q => nx (hS b q)) g) .nil))
        obtain ⟨o, g⟩ := hX _ x
        rw [get_size] at g; cases g
    | none =>
      rw [hd] at h
      have : vs[k]? = none := by
        rw [Array.getElem?_eq_none_iff]
        have := List.getElem?_eq_none_iff.mp hd
        omega
      exact wpAny_pyNext_enum_end hh he hi hl this fun h1 x1 => h h1 s.toks fun b o ne e => x1 b o (fun q => ne (.inr q)) e

/-- an expression to go through -/
noncomputable def SimI (U : Uni) (strong : Bool) (n : Nat) (sc : Scope) (nm : Nm) (e tg : Expr) (d : DL) : Prop :=
  ∀ (A : Around) (env : Env) (E : Value → Shared → Prop) (s : Shared) (h₀ : Heap) (Xc X : AS) (ρ : Store) (l : List PyData) (Q : Value → Shared → Prop),
   AOK n A → EnvOK sc env → St U h₀ Xc env nm X s.heap ρ → d ρ = some l →
   (∀ it S J src hm h' t', Src U strong tg it l S J src → Ext s.heap hm → Ext hm h' → (∀ b, S b → hm.get? b = none) → J 0 h' → src X hm →
      (∀ (A : Around) (E : Value → Shared → Prop) (s : Shared) (Q : Value → Shared → Prop) k, J k s.heap → Q it s → wpAny (model U.prog U.w) A (pyIter it) Q E s) → Q it { s with heap := h', toks := t' }) →
   wpAny (model U.prog U.w) A (eval e env) (fun x s₁ => wpAny (model U.prog U.w) A (pyIter x) Q E s₁) E s

theorem SimI.weak {e tg : Expr} {d : DL} (k : SimB U n sc nm e d) : SimI U false n sc nm e tg d := by
  intro A env E s h₀ Xc X ρ l Q hA hV hS hd h
  refine k A env E s h₀ Xc X ρ l _ hA hV hS hd fun a vs h1 t1 x1 g1 r1 => ?_
  refine wpAny_pyIter_list g1 ?_
  refine h (.ref h1.objs.size) _ _ (fun Y hh => hh.IsList a vs ∧ RepL Y hh vs.toList l) h1 _ t1
    (Src.list (l := a) _ (fun X h q => ⟨vs, q⟩) (fun Y h h' q x => ⟨let ⟨o, g, c⟩ := q.1; ⟨o, x _ _ g, c⟩, q.2.ext (x.toO Y)⟩) (fun Y Z h q g => ⟨q.1, q.2.grow g⟩) fun e => by cases e)
    x1 (Ext.push _ _) (fun b e => by rw [e]; exact get_size _) ⟨_, Heap.get?_push_size _ rfl, rfl, rfl⟩ ⟨g1, r1⟩ fun A E s Q k j q => wpAny_pyIter_listiter j q
theorem SimI.strong {e tg : Expr} {d : DE} (k : SimE U n sc nm e d) : SimI U true n sc nm e tg (blst d) := by
  intro A env E s h₀ Xc X ρ l Q hA hV hS hd h
  unfold blst at hd
  split at hd
  · rename_i l' hl
    cases hd
    refine k A env E s h₀ Xc X ρ _ _ hA hV hS hl fun v1 h1 t1 x1 r1 => ?_
    obtain ⟨a, vs, rfl, g1, rr⟩ : ∃ a vs, v1 = .ref a ∧ h1.IsList a vs ∧ RepL X h1 vs.toList l := by
      cases r1 with
      | list na g c d r => exact ⟨_, _, rfl, ⟨_, g, c.1, _, d⟩, r⟩
    refine wpAny_pyIter_list (s := { s with heap := h1, toks := t1 }) g1 ?_
    refine h (.ref h1.objs.size) _ _ (fun Y hh => Rep Y hh (.ref a) (.list l)) h1 _ t1
      (Src.list (l := a) _ (fun X h q => by cases q with | list na g c d r => exact ⟨_, ⟨_, g, c.1, _, d⟩, r⟩) (fun Y h h' q x => q.ext (x.toO Y)) (fun Y Z h q g => q.grow g) fun _ Y Z h h' q k => k _ _ q)
      x1 (Ext.push _ _) (fun b e => by rw [e]; exact get_size _) ⟨_, Heap.get?_push_size _ rfl, rfl, rfl⟩ r1 fun A E s Q k j q => wpAny_pyIter_listiter j q
  · cases hd

noncomputable def benum (d : DL) : DL := fun ρ => match d ρ with | some l => some (enumItems 0 l) | none => none
theorem SimI.enumW {e : Expr} {fp pos tp : Pos} {ts : List Expr} {k0 : Nat} {d : DL} (k : SimB U n sc nm e d) (hk : sc.names.lookup (Str.ofString "enumerate") = some .globalImplicit) (hst : Plain1 e := by intro _; with_unfolding_all rfl) :
    SimI U false n sc nm (.Call (.Name "enumerate" fp) [e] [] pos) (.Tuple ts k0 tp) (benum d) := by
  intro A env E s h₀ Xc X ρ l Q hA hV hS hd h
  unfold benum at hd
  split at hd
  · rename_i l' hl
    cases hd
    refine callT hV hS.top hk (by decide +kernel) (by decide +kernel) boot_enum (by decide +kernel) (hst env) (by rfl) (spl1 (hst env) ?_)
    refine k A env E s h₀ Xc X ρ l' _ hA hV hS hl fun a vs h1 t1 x1 g1 r1 => ?_
    refine call_enumerate_list g1 fun h2 e2 j2 z2 x2 => wpAny_pyIter_enum e2 ?_
    refine h _ _ _ (fun Y hh => hh.IsList a vs ∧ RepL Y hh vs.toList l') h1 _ t1
      (Src.enum (l := a) (Nat.succ_ne_self _) _ (fun X h q => ⟨vs, q⟩) (fun Y h h' q x => ⟨let ⟨o, g, c⟩ := q.1; ⟨o, x _ _ g, c⟩, q.2.ext (x.toO Y)⟩) (fun Y Z h q g => ⟨q.1, q.2.grow g⟩) fun e => by cases e)
      x1 x2 (fun b e => by rcases e with rfl | rfl; exact get_ge (Nat.le_succ _); exact get_size _) ⟨⟨_, e2⟩, j2⟩ ⟨g1, r1⟩ fun A E s Q k j q => let ⟨⟨_, g⟩, _⟩ := j; wpAny_pyIter_enum g q
  · cases hd
theorem SimI.enumS {e : Expr} {fp pos tp : Pos} {ts : List Expr} {k0 : Nat} {d : DE} (k : SimE U n sc nm e d) (hk : sc.names.lookup (Str.ofString "enumerate") = some .globalImplicit) (hst : Plain1 e := by intro _; with_unfolding_all rfl) :
    SimI U true n sc nm (.Call (.Name "enumerate" fp) [e] [] pos) (.Tuple ts k0 tp) (benum (blst d)) := by
  intro A env E s h₀ Xc X ρ l Q hA hV hS hd h
  unfold benum blst at hd
  split at hd
  · rename_i l' hl
    cases hd
    split at hl
    · rename_i l0 hl0
      cases hl
      refine callT hV hS.top hk (by decide +kernel) (by decide +kernel) boot_enum (by decide +kernel) (hst env) (by rfl) (spl1 (hst env) ?_)
      refine k A env E s h₀ Xc X ρ _ _ hA hV hS hl0 fun v1 h1 t1 x1 r1 => ?_
      obtain ⟨a, vs, rfl, g1, rr⟩ : ∃ a vs, v1 = .ref a ∧ h1.IsList a vs ∧ RepL X h1 vs.toList l' := by
        cases r1 with
        | list na g c d r => exact ⟨_, _, rfl, ⟨_, g, c.1, _, d⟩, r⟩
      refine call_enumerate_list (s := { s with heap := h1, toks := t1 }) g1 fun h2 e2 j2 z2 x2 => wpAny_pyIter_enum e2 ?_
      refine h _ _ _ (fun Y hh => Rep Y hh (.ref a) (.list l')) h1 _ t1
        (Src.enum (l := a) (Nat.succ_ne_self _) _ (fun X h q => by cases q with | list na g c d r => exact ⟨_, ⟨_, g, c.1, _, d⟩, r⟩) (fun Y h h' q x => q.ext (x.toO Y)) (fun Y Z h q g => q.grow g) fun _ Y Z h h' q k => k _ _ q)
        x1 x2 (fun b e => by rcases e with rfl | rfl; exact get_ge (Nat.le_succ _); exact get_size _) ⟨⟨_, e2⟩, j2⟩ r1 fun A E s Q k j q => let ⟨⟨_, g⟩, _⟩ := j; wpAny_pyIter_enum g q
    · cases hl
  · cases hd
end

/-! A10 -/
section
variable {U : Uni} {n : Nat} {sc : Scope} {nm : Nm}

noncomputable def small62 (x : Int) : Bool := match iltb x 4611686018427387904, iltb (-4611686018427387904) x with | true, true => true | _, _ => false
theorem small62_spec {x : Int} (h : small62 x = true) : -(2 ^ 62) ≤ x ∧ x < 2 ^ 62 := by
  unfold small62 at h
  split at h
  · rename_i a b
    rw [iltb_eq, decide_eq_true_iff] at a b
    omega
  · cases h

theorem range_src {A : Around} {E : Value → Shared → Prop} {s : Shared} {x : Str} {p : Pos} {r : Addr} {a b c : Int} {t u v : Tok} {strong : Bool} {m : Nat} {Q : Value → Shared → Prop} (hr : IsRange s.heap r a b c t u v) (hsm : Builtin.Range.small a b c = true)
    (hm : Builtin.Range.rangeSize a b c = m)
    (h : ∀ it S J src h' t', Src U strong (.Name x p) it (rangeItems c m a) S J src → Ext s.heap h' → (∀ b, S b → s.heap.get? b = none) → J 0 h' → (∀ X, src X s.heap) →
      (∀ (A : Around) (E : Value → Shared → Prop) (s : Shared) (Q : Value → Shared → Prop) k, J k s.heap → Q it s → wpAny (model U.prog U.w) A (pyIter it) Q E s) → Q it { s with heap := h', toks := t' }) :
    wpAny (model U.prog U.w) A (pyIter (.ref r)) Q E s := by
  refine wpAny_pyIter_range hr hsm ?_
  refine h _ _ _ _ _ s.toks (Src.range (i := s.heap.objs.size) a c m) (Ext.push _ _) (fun b e => by rw [e]; exact get_size _) ?_ (fun _ => trivial) ?_
  · show IsRangeIter _ _ (a + ((0 : Nat) : Int) * c) ((m : Int) - ((0 : Nat) : Int)) c
    rw [hm]
    have e1 : a + ((0 : Nat) : Int) * c = a := by simp
    have e2 : (m : Int) - ((0 : Nat) : Int) = m := by simp
    rw [e1, e2]
    exact Heap.get?_push_size _ rfl
  · intro A E s Q k j q
    have hT : s.TypeIs (.ref _) "range_iterator" := ⟨_, j, rfl⟩
    refine wpAny_pyIter_slot hT PySem.F.slot_range_iterator_iter (wpAny_call_entry PySem.F.slot_range_iterator_iter hT PySem.F.entry_range_iterator_iter ?_ (PySem.F.args_range_iterator_iter_1 _))
    exact wpAny_pure ⟨_, rfl, "range_iterator", _, hT, PySem.F.slot_range_iterator_next.lookup, q⟩

noncomputable def brange1 (b : DE) : DL := fun ρ => match b ρ with
  | some (.int y) => (match small62 y with | true => some (rangeItems 1 y.toNat 0) | false => none)
  | _ => none
noncomputable def brange2 (a b : DE) : DL := fun ρ => match a ρ with
  | some (.int x) => (match b ρ with
    | some (.int y) => (match small62 x, small62 y with | true, true => some (rangeItems 1 (y - x).toNat x) | _, _ => none)
    | _ => none)
  | _ => none
noncomputable def brange3 (a b c : DE) : DL := fun ρ => match a ρ with
  | some (.int x) => (match b ρ with
    | some (.int y) => (match c ρ with
      | some (.int (.negSucc 0)) => (match small62 x, small62 y with | true, true => some (rangeItems (-1) (x - y).toNat x) | _, _ => none)
      | _ => none)
    | _ => none)
  | _ => none
theorem one_size (a b : Int) : Builtin.Range.rangeSize a b 1 = ((b - a).toNat : Int) := by
  rw [rangeSize_one]; split <;> omega
theorem SimI.range1 {strong : Bool} {e : Expr} {fp pos px : Pos} {x : Str} {b : DE} (k : SimE U n sc nm e b) (hk : sc.names.lookup (Str.ofString "range") = some .globalImplicit) (hst : Plain1 e := by intro _; with_unfolding_all rfl) :
    SimI U strong n sc nm (.Call (.Name "range" fp) [e] [] pos) (.Name x px) (brange1 b) := by
  intro A env E s h₀ Xc X ρ l Q hA hV hS hd h
  unfold brange1 at hd
  split at hd
  · rename_i y hy
    split at hd
    · rename_i q
      obtain ⟨q1, q2⟩ := small62_spec q
      cases hd
      refine callT hV hS.top hk (by decide +kernel) (by decide +kernel) boot_range (by decide +kernel) (hst env) (by rfl) (spl1 (hst env) ?_)
      refine k A env E s h₀ Xc X ρ _ _ hA hV hS hy fun v1 h1 t1 x1 r1 => ?_
      cases r1
      refine call_range_1 ?_
      refine range_src (strong := strong) (x := x) (p := px) (m := y.toNat) (IsRange.new ..) (small_one (by decide) (by decide) q1 q2) (by rw [one_size]; simp) fun it S J src h2 t2 SR x2 f2 j2 s2 i2 => ?_
      exact h it S J src _ h2 t2 SR (x1.trans (Ext.push _ _)) x2 f2 j2 (s2 X) i2
    · cases hd
  · cases hd
theorem SimI.range2 {strong : Bool} {e f : Expr} {fp pos px : Pos} {x : Str} {a b : DE} (ka : SimE U n sc nm e a) (kb : SimE U n sc nm f b) (hk : sc.names.lookup (Str.ofString "range") = some .globalImplicit)
    (hst : ∀ env rest, starEach (e :: rest) env = (false, eval e env) :: starEach rest env := by intro _ _; with_unfolding_all rfl) (hst2 : Plain1 f := by intro _; with_unfolding_all rfl) :
    SimI U strong n sc nm (.Call (.Name "range" fp) [e, f] [] pos) (.Name x px) (brange2 a b) := by
  intro A env E s h₀ Xc X ρ l Q hA hV hS hd h
  unfold brange2 at hd
  split at hd
  · rename_i u hu
    split at hd
    · rename_i y hy
      split at hd
      · rename_i p1 p2
        obtain ⟨q1, q2⟩ := small62_spec p1
        obtain ⟨q3, q4⟩ := small62_spec p2
        cases hd
        refine callT hV hS.top hk (by decide +kernel) (by decide +kernel) boot_range (by decide +kernel) (hst env _) (by rw [hst2]; rfl) ?_
        rw [hst, hst2]
        refine spliced_cons (ka A env E s h₀ Xc X ρ _ _ hA hV hS hu fun v1 h1 t1 x1 r1 => ?_)
        refine spliced_cons (kb A env E _ h₀ Xc X ρ _ _ hA hV (hS.ext' x1) hy fun v2 h2 t2 x2 r2 => spliced_nil ?_)
        cases r1; cases r2
        refine call_range_2 ?_
        refine range_src (strong := strong) (x := x) (p := px) (m := (y - u).toNat) (IsRange.new ..) (small_one q1 q2 q3 q4) (one_size _ _) fun it S J src h3 t3 SR x3 f3 j3 s3 i3 => ?_
        exact h it S J src _ h3 t3 SR ((x1.trans x2).trans (Ext.push _ _)) x3 f3 j3 (s3 X) i3
      · cases hd
    · cases hd
  · cases hd
theorem SimI.range3 {strong : Bool} {e f g : Expr} {fp pos px : Pos} {x : Str} {a b c : DE} (ka : SimE U n sc nm e a) (kb : SimE U n sc nm f b) (kc : SimE U n sc nm g c) (hk : sc.names.lookup (Str.ofString "range") = some .globalImplicit)
    (hst : ∀ env rest, starEach (e :: rest) env = (false, eval e env) :: starEach rest env := by intro _ _; with_unfolding_all rfl)
    (hst' : ∀ env rest, starEach (f :: rest) env = (false, eval f env) :: starEach rest env := by intro _ _; with_unfolding_all rfl) (hst2 : Plain1 g := by intro _; with_unfolding_all rfl) :
    SimI U strong n sc nm (.Call (.Name "range" fp) [e, f, g] [] pos) (.Name x px) (brange3 a b c) := by
  intro A env E s h₀ Xc X ρ l Q hA hV hS hd h
  unfold brange3 at hd
  split at hd
  · rename_i u hu
    split at hd
    · rename_i y hy
      split at hd
      · rename_i hc
        split at hd
        · rename_i p1 p2
          obtain ⟨q1, q2⟩ := small62_spec p1
          obtain ⟨q3, q4⟩ := small62_spec p2
          cases hd
          refine callT hV hS.top hk (by decide +kernel) (by decide +kernel) boot_range (by decide +kernel) (hst env _) (by rw [hst', hst2]; rfl) ?_
          rw [hst, hst', hst2]
          refine spliced_cons (ka A env E s h₀ Xc X ρ _ _ hA hV hS hu fun v1 h1 t1 x1 r1 => ?_)
          refine spliced_cons (kb A env E _ h₀ Xc X ρ _ _ hA hV (hS.ext' x1) hy fun v2 h2 t2 x2 r2 => ?_)
          refine spliced_cons (kc A env E _ h₀ Xc X ρ _ _ hA hV (hS.ext' (x1.trans x2)) hc fun v3 h3 t3 x3 r3 => spliced_nil ?_)
          cases r1; cases r2; cases r3
          refine PySem.call_range_3 (by decide) ?_ (.inl ?_)
          · refine range_src (strong := strong) (x := x) (p := px) (m := (u - y).toNat) (IsRange.new ..) (small_down q1 q2 q3 q4) (rangeSize_downNat _ _) fun it S J src h4 t4 SR x4 f4 j4 s4 i4 => ?_
            exact h it S J src _ h4 t4 SR (((x1.trans x2).trans x3).trans (Ext.push _ _)) x4 f4 j4 (s4 X) i4
          · unfold Builtin.divisionGoesByPylong
            simp
            intro q
            exact absurd q (by decide)
        · cases hd
      · cases hd
    · cases hd
  · cases hd

/-! for -/
noncomputable def forAll (f : PyData → Store → Option Store) (b : C) : List PyData → C
  | [], ρ => some (.nx ρ)
  | x :: r, ρ => match f x ρ with
    | some ρ1 => (match b ρ1 with
      | some (.nx ρ2) => forAll f b r ρ2
      | q => q)
    | none => none
noncomputable def cfor (d : DL) (f : PyData → Store → Option Store) (b : C) : C := fun ρ => match d ρ with | some l => forAll f b l ρ | none => none

theorem codeAny_forLoopG {A : Around} {s : Shared} {Rz : Result → Shared → Prop} {target it body orelse env} (I : Nat → Shared → Prop)
    (turn : ∀ m s, I m s → wpAny (model U.prog U.w) A (pyNext it) (fun r s₁ => match r with
      | none => wpAny (model U.prog U.w) A (execs orelse env) (fun f s₃ => Rz (.ok f) s₃) (notedBy (model U.prog U.w) A env fun e s' => Rz (.error e) s') s₁
      | some v => wpAny (model U.prog U.w) A (letOwnedTupleGo target it v) (fun _ s₁ => wpAny (model U.prog U.w) A (assign target env v) (fun _ s₂ => wpAny (model U.prog U.w) A (execs body env) (fun f s₃ => match f with
          | .next | .cont => ∃ m', m' < m ∧ I m' s₃
          | .brk => Rz (.ok .next) s₃
          | .ret v => Rz (.ok (.ret v)) s₃) (notedBy (model U.prog U.w) A env fun e s' => Rz (.error e) s') s₂) (notedBy (model U.prog U.w) A env fun e s' => Rz (.error e) s') s₁) (notedBy (model U.prog U.w) A env fun e s' => Rz (.error e) s') s₁) (notedBy (model U.prog U.w) A env fun e s' => Rz (.error e) s') s)
    (m : Nat) (h : I m s) : codeAny (model U.prog U.w) A (.forLoop target it body orelse env) Rz s := by
  refine codeAny_loop' rfl I (fun n s hI => ?_) m h
  show wpAny _ A ((forTurn target it body orelse env).onRaise (fun x => do noteFrame x env; theTreesLotGoes x)) _ _ s
  refine wpAny_noted ?_
  simp only [forTurn]
  refine wpAny_bind (wpAny_standAt (wpAny_bind (wpAny_onRaise (wpAny_mono (turn n s hI) (fun r s₁ h₁ => ?_) fun _ _ h' => wpAny_standAt h'))))
  cases r with
  | none => exact wpAny_pure (.inr ⟨rfl, codeAny_block h₁⟩)
  | some v =>
    refine wpAny_bind (wpAny_mono h₁ (fun _ s₁' h₁' => ?_) fun _ _ h' => h')
    refine wpAny_bind (wpAny_mono h₁' (fun _ s₂ h₂ => wpAny_bind (wpAny_mono h₂ (fun f s₃ h₃ => ?_) fun _ _ h' => h')) fun _ _ h' => h')
    cases f with
    | next => exact wpAny_pure (.inl ⟨rfl, h₃⟩)
    | cont => exact wpAny_pure (.inl ⟨rfl, h₃⟩)
    | brk => exact wpAny_pure h₃
    | ret v => exact wpAny_pure h₃

/-- things of the set are written (no list, no frame, no cell among them) -/
theorem StC.step {h₀ h h' : Heap} {Xc X : AS} {env : Env} {ρ : Store} {m : Str → Option Value} {σ : Nat → Option Value} {S : AS} (St' : StC U h₀ Xc env nm X h ρ m σ) (hS : ∀ b, S b → X b)
    (hn : ∀ b, S b → h₀.get? b = none) (nl : ∀ b vs k, S b → h.get? b ≠ some (lstObj vs k)) (nd : ∀ b l, S b → ¬ DictAt U X h b l) (nL : ¬ S env.locals) (nC : ∀ y c, env.cells.lookup y = some c → ¬ S c)
    (out : ∀ b o, ¬ S b → h.get? b = some o → h'.get? b = some o) (hd : ∀ b, S b → ∃ o, h'.get? b = some o) : StC U h₀ Xc env nm X h' ρ m σ := by
  have hout : ExtO X h h' := fun b o nx e => out b o (fun q => nx (hS b q)) e
  exact {
    base := St'.base
    ext := fun b o e => out b o (fun q => by rw [hn b q] at e; cases e) (St'.ext b o e)
    xcin := St'.xcin
    sub := St'.sub
    xin := fun b x => by
      by_cases q : S b
      · exact hd b q
      · obtain ⟨o, e⟩ := St'.xin b x; exact ⟨o, out b o q e⟩
    xnew := St'.xnew
    ns := let ⟨o, es, ep, e, r⟩ := St'.ns; ⟨o, es, ep, out _ _ nL e, r⟩
    xl := St'.xl
    ln := St'.ln
    cel := fun x c e => let ⟨a, b, v, o, g, d⟩ := St'.cel x c e; ⟨a, b, v, o, out _ _ (nC x c e) g, d⟩
    capt := St'.capt
    at' := fun i x v a b => (St'.at' i x v a b).imp id fun ⟨k, c, e, o, g, d⟩ => ⟨k, c, e, o, out _ _ (nC x c e) g, d⟩
    sl := fun i x a => by
      have q := St'.sl i x a
      revert q
      cases sget ρ i with
      | u => intro _; trivial
      | v d => rintro ⟨v, e, r⟩; exact ⟨v, e, r.ext hout⟩
      | o l2 => rintro ⟨b, vs, n, e, x, f, g, r⟩; exact ⟨b, vs, n, e, x, f, out _ _ (fun q => nl _ _ _ q g) g, r.ext hout⟩
      | k l2 => rintro ⟨b, e, x, f, g⟩; exact ⟨b, e, x, f, g.keep (fun o q => out _ _ (fun z => nd _ l2 z g) q) hout⟩
    kd := St'.kd
    ow := St'.ow }
/-- .. and leave the set -/
theorem StC.drop {h₀ h h' : Heap} {Xc X : AS} {env : Env} {ρ : Store} {m : Str → Option Value} {σ : Nat → Option Value} {S : AS} (St' : StC U h₀ Xc env nm X h ρ m σ) (hS : ∀ b, S b → X b)
    (hn : ∀ b, S b → h₀.get? b = none) (nl : ∀ b vs k, S b → h.get? b ≠ some (lstObj vs k)) (nL : ¬ S env.locals) (nC : ∀ y c, env.cells.lookup y = some c → ¬ S c)
    (nk : ∀ i x a, nm[i]? = some (some x) → (sget ρ i).own = true → σ i = some (.ref a) → ¬ S a)
    (out : ∀ b o, ¬ S b → h.get? b = some o → h'.get? b = some o) : StC U h₀ Xc env nm (fun b => X b ∧ ¬ S b) h' ρ m σ := by
  have hout : ExtO X h h' := fun b o nx e => out b o (fun q => nx (hS b q)) e
  have sub : ∀ b, (X b ∧ ¬ S b) → X b := fun b x => x.1
  exact {
    base := St'.base
    ext := fun b o e => out b o (fun q => by rw [hn b q] at e; cases e) (St'.ext b o e)
    xcin := St'.xcin
    sub := fun b x => ⟨St'.sub b x, fun q => by obtain ⟨o, e⟩ := St'.xcin b x; rw [hn b q] at e; cases e⟩
    xin := fun b x => by obtain ⟨o, e⟩ := St'.xin b x.1; exact ⟨o, out b o x.2 e⟩
    xnew := fun b x => St'.xnew b x.1
    ns := let ⟨o, es, ep, e, r⟩ := St'.ns; ⟨o, es, ep, out _ _ nL e, r⟩
    xl := ⟨St'.xl, nL⟩
    ln := St'.ln
    cel := fun x c e => let ⟨a, b, v, o, g, d⟩ := St'.cel x c e; ⟨⟨a, nC x c e⟩, b, v, o, out _ _ (nC x c e) g, d⟩
    capt := St'.capt
    at' := fun i x v a b => (St'.at' i x v a b).imp id fun ⟨k, c, e, o, g, d⟩ => ⟨k, c, e, o, out _ _ (nC x c e) g, d⟩
    sl := fun i x a => by
      have q := St'.sl i x a
      have nk' := nk i x
      revert q
      cases hsl : sget ρ i with
      | u => intro _; trivial
      | v d => rintro ⟨v, e, r⟩; exact ⟨v, e, (r.ext hout).shrink sub⟩
      | o l2 => rintro ⟨b, vs, n, e, x, f, g, r⟩; exact ⟨b, vs, n, e, ⟨x, fun q => nl _ _ _ q g⟩, f, out _ _ (fun q => nl _ _ _ q g) g, (r.ext hout).shrink sub⟩
      | k l2 =>
        rintro ⟨b, e, x, f, g⟩
        have nb := nk' b a (by rw [hsl]; rfl) e
        exact ⟨b, e, ⟨x, nb⟩, f, (g.keep (fun o q => out _ _ nb q) hout).mono fun c o y _ => sub c y⟩
    kd := St'.kd
    ow := St'.ow }
end

/-! A11 -/
section
variable {U : Uni} {n : Nat} {sc : Scope} {nm : Nm}

theorem Keeps.step {X : AS} {S : AS} {h h' : Heap} (hS : ∀ b, S b → X b) (out : ∀ b o, ¬ S b → h.get? b = some o → h'.get? b = some o) : ∀ v d, Rep X h v d → Rep X h' v d :=
  fun _ _ r => r.ext fun b o nx e => out b o (fun q => nx (hS b q)) e

/-- a loop's turns -/
theorem Sim1.for {e tg : Expr} {body : List Stmt} {pos : Pos} {d : DL} {f : PyData → Store → Option Store} {b : C} (ki : SimI U true n sc nm e tg d) (kt : AsgOK false U n sc nm tg f) (kb : SimS U n sc nm body b)
    (hs : ∀ env x, foldedSetIterable e env x = pure x := by intro _ _; with_unfolding_all rfl) : Sim1 U n sc nm (.For tg e body [] pos) (cfor d f b) := by
  intro A env E s h₀ Xc X ρ r Q hA hV N hS hc h
  unfold cfor at hc
  split at hc
  · rename_i l hl
    refine wpAny_For (ki A env E s h₀ Xc X ρ l _ hA hV hS hl fun it S J src hm h1 t1 SR xm x1 fS j1 s1 _ => ?_) (hs env)
    have f0 : ∀ b, S b → s.heap.get? b = none := fun b q => xm.none (fS b q)
    have f00 : ∀ b, S b → h₀.get? b = none := fun b q => hS.ext0.none (f0 b q)
    -- what the loop's set is
    have gX : Grow X (fun b => X b ∨ S b) s.heap := ⟨fun b q => .inl q, fun b q => q.imp id (f0 b)⟩
    have gXm : Grow X (fun b => X b ∨ S b) hm := ⟨fun b q => .inl q, fun b q => q.imp id (fS b)⟩
    have nl : ∀ {k : Nat} {hh : Heap}, J k hh → ∀ b vs k', S b → hh.get? b ≠ some (lstObj vs k') := by
      intro k hh j b vs k' q e
      obtain ⟨o, g, w⟩ := SR.jd k hh b j q
      obtain ⟨fs, w⟩ := w rfl
      rw [g] at e; cases e; cases w
    have nd : ∀ {k : Nat} {hh : Heap} {Y : AS}, J k hh → ∀ b l', S b → ¬ DictAt U Y hh b l' := by
      intro k hh Y j b l' q dd
      obtain ⟨o, g, w⟩ := SR.jd k hh b j q
      obtain ⟨fs, w⟩ := w rfl
      obtain ⟨o', es, ep, g', d'⟩ := dd.data
      rw [g] at g'; cases g'; rw [w] at d'; cases d'
    have nL : ∀ {hh : Heap} {Y : AS} {ρ' : Store} {m σ}, StC U h₀ Xc env nm Y hh ρ' m σ → ∀ {k : Nat}, J k hh → ¬ S env.locals := by
      intro hh Y ρ' m σ S1 k j q
      obtain ⟨o, g, w⟩ := SR.jd k hh _ j q
      obtain ⟨fs, w⟩ := w rfl
      obtain ⟨o', es, ep, g', d', _⟩ := S1.ns
      rw [g] at g'; cases g'; rw [w] at d'; cases d'
    have nC : ∀ {hh : Heap} {Y : AS} {ρ' : Store} {m σ}, StC U h₀ Xc env nm Y hh ρ' m σ → ∀ {k : Nat}, J k hh → ∀ y c, env.cells.lookup y = some c → ¬ S c := by
      intro hh Y ρ' m σ S1 k j y c hc q
      obtain ⟨o, g, w⟩ := SR.jd k hh _ j q
      obtain ⟨fs, w⟩ := w rfl
      obtain ⟨_, _, v, o', g', d'⟩ := S1.cel y c hc
      rw [g] at g'; cases g'; rw [w] at d'; cases d'
    obtain ⟨m, σ, S0⟩ := id hS
    have S1 : StC U h₀ Xc env nm (fun b => X b ∨ S b) h1 ρ m σ := S0.alloc (xm.trans x1) gX fun b q => by
      rcases q with q | q
      · obtain ⟨o, e⟩ := S0.xin b q; exact ⟨o, x1 _ _ (xm _ _ e)⟩
      · obtain ⟨o, e, _⟩ := SR.jd 0 h1 b j1 q; exact ⟨o, e⟩
    have K1 : Keeps X (fun b => X b ∨ S b) s.heap h1 := Keeps.alloc gX (xm.trans x1)
    have s1' : src (fun b => X b ∨ S b) h1 := SR.se _ _ _ (SR.sg _ _ _ s1 gXm) x1
    refine codeAny_forLoopG (fun w s' => ∃ (k : Nat) (Y : AS) (h' : Heap) (t' : Nat) (ρ' : Store), w = l.length + 1 - k ∧ k ≤ l.length ∧ s' = { s with heap := h', toks := t' } ∧ St U h₀ Xc env nm Y h' ρ' ∧ (∀ b, S b → Y b) ∧ Keeps X Y s.heap h' ∧ J k h' ∧ src Y h' ∧ forAll f b (l.drop k) ρ' = some r)
      ?_ (l.length + 1) ⟨0, _, h1, t1, ρ, by simp, Nat.zero_le _, rfl, ⟨m, σ, S1⟩, fun b q => .inr q, K1, j1, s1', by simpa using hc⟩
    rintro w _ ⟨k, Y, h2, t2, ρ2, rfl, hk, rfl, ⟨m2, σ2, S2⟩, sy, K2, j2, s2, hc2⟩
    have step := SR.next A (notedBy (model U.prog U.w) A env fun e s' => cameBackBy (model U.prog U.w) A env E e s') { s with heap := h2, toks := t2 } Y k
    cases hd : l[k]? with
    | none =>
      have hk' : k = l.length := by have := List.getElem?_eq_none_iff.mp hd; omega
      rw [hk', List.drop_length] at hc2
      cases hc2
      have fin := step (fun r s' => match r with
        | none => Q .next s'
        | some _ => False) hA.1 sy S2.xin j2 s2 (by
          rw [hd]
          intro h3 t3 out
          have S3 := S2.drop (h' := h3) sy f00 (nl j2) (nL S2 j2) (nC S2 j2) (fun i x a hx ow ea q => by
            have z := S2.sl i x hx
            revert z ow
            cases hq : sget ρ2 i with
            | u => intro ow; cases ow
            | v d => intro ow; cases ow
            | o l => rintro _ ⟨b, vs, n, e', x', f', g', _⟩; rw [ea] at e'; cases e'; exact nl j2 _ _ _ q g'
            | k l => rintro _ ⟨b, e', x', f', g'⟩; rw [ea] at e'; cases e'; exact nd j2 _ _ q g') out
          refine h _ h3 t3 ⟨m2, σ2, S3⟩ ⟨fun v d q => ((Keeps.step sy out) v d (K2.rep v d q)).shrink (fun b q => q.1), (fun b o fs e q => out b o (fun z => by rw [f0 b z] at e; cases e) (K2.fld b o fs e q)), fun b o fs x e q => ⟨K2.set b o fs x e q, fun z => by rw [f0 b z] at e; cases e⟩⟩)
      refine wpAny_mono fin (fun r s' h' => ?_) fun _ _ e => e
      cases r with
      | none => exact wpAny_execs_nil h'
      | some v => exact wpAny_mono h' (fun _ _ f => f.elim) fun _ _ e => e
    | some d =>
      have hdrop : l.drop k = d :: l.drop (k + 1) := by
        obtain ⟨q, e⟩ := List.getElem?_eq_some_iff.mp hd
        rw [List.drop_eq_getElem_cons q, e]
      rw [hdrop] at hc2
      unfold forAll at hc2
      split at hc2
      · rename_i ρ3 hf
        have hk1 : k < l.length := (List.getElem?_eq_some_iff.mp hd).1
        have turn := step (fun rv s' => match rv with
          | none => False
          | some v => wpAny (model U.prog U.w) A (assign tg env v) (fun _ s₂ => wpAny (model U.prog U.w) A (execs body env) (fun fl s₃ => match fl with
            | .next | .cont => ∃ m', m' < l.length + 1 - k ∧ ∃ (k : Nat) (Y : AS) (h' : Heap) (t' : Nat) (ρ' : Store), m' = l.length + 1 - k ∧ k ≤ l.length ∧ s₃ = { s with heap := h', toks := t' } ∧ St U h₀ Xc env nm Y h' ρ' ∧ (∀ b, S b → Y b) ∧ Keeps X Y s.heap h' ∧ J k h' ∧ src Y h' ∧ forAll f b (l.drop k) ρ' = some r
            | .brk => Q .next s₃
            | .ret v => Q (.ret v) s₃) (notedBy (model U.prog U.w) A env fun e s' => cameBackBy (model U.prog U.w) A env E e s') s₂) (notedBy (model U.prog U.w) A env fun e s' => cameBackBy (model U.prog U.w) A env E e s') s') hA.1 sy S2.xin j2 s2 (by
            rw [hd]
            intro val h3 t3 j3 r3 out
            have S3 := S2.step (h' := h3) sy f00 (nl j2) (nd j2) (nL S2 j2) (nC S2 j2) out fun b q => let ⟨o, g, _⟩ := SR.jd _ h3 b j3 q; ⟨o, g⟩
            have K3 : Keeps X Y s.heap h3 := ⟨fun v d q => (Keeps.step sy out) v d (K2.rep v d q), (fun b o fs e q => out b o (fun z => by rw [f0 b z] at e; cases e) (K2.fld b o fs e q)), K2.set⟩
            have s3 : src Y h3 := SR.sk rfl Y Y h2 h3 s2 (Keeps.step sy out)
            refine kt A env _ { s with heap := h3, toks := t3 } h₀ Xc Y ρ2 ρ3 val d _ hA hV N ⟨m2, σ2, S3⟩ r3 hf fun h4 t4 S4 K4 X4 => ?_
            have s4 := SR.sk rfl Y Y h3 h4 s3 K4.rep
            have jf : ∀ {k' : Nat} {ha hb : Heap} {Ya Yb : AS}, J k' ha → Keeps Ya Yb ha hb → J k' hb := fun j K => SR.jk _ _ _ j fun b o q e => by
              obtain ⟨o', e', w⟩ := SR.jd _ _ b j q
              obtain ⟨fs, w⟩ := w rfl
              rw [e'] at e; cases e
              exact K.fld b _ fs e' w
            have j4 : J (k + 1) h4 := jf j3 K4
            cases hb : b ρ3 with
            | none => rw [hb] at hc2; cases hc2
            | some r1 =>
              rw [hb] at hc2
              refine kb A env _ { s with heap := h4, toks := t4 } h₀ Xc Y ρ3 r1 _ hA hV N S4 hb ?_
              cases r1 with
              | rt d1 =>
                intro val5 h5 t5 x5 r5
                cases hc2
                exact h val5 h5 t5 x5 r5
              | nx ρ5 =>
                intro Z h5 t5 S5 K5
                refine ⟨l.length + 1 - (k + 1), by omega, k + 1, Z, h5, t5, ρ5, rfl, hk1, rfl, S5, fun b q => ?_, (K3.trans K4).trans K5, jf j4 K5, SR.sk rfl Y Z h4 h5 s4 K5.rep, hc2⟩
                obtain ⟨o, e, w⟩ := SR.jd _ h4 b j4 q
                obtain ⟨fs, w⟩ := w rfl
                exact K5.set b o fs (sy b q) e w)
        refine wpAny_mono turn (fun rv s' h' => ?_) fun _ _ e => e
        cases rv with
        | none => exact h'.elim
        | some v => exact h'
      · cases hc2
  · cases hc
end

/-! A12 -/

/-! the closure of a comprehension -/
noncomputable def closGo (cells : List (Str × Addr)) : List (Str × NameKind) → List (Str × Addr) → List (Str × Addr)
  | [], acc => acc
  | (x, k) :: r, acc => if (k == .free) = true then closGo cells r ((x, (cells.lookup x).getD 0) :: acc) else closGo cells r acc

theorem clos_eq {env : Env} : ∀ (names : List (Str × NameKind)) (acc : List (Str × Addr)), (∀ x ∈ names, x.2 = .free → (env.cells.lookup x.1).isSome = true) →
    (forIn names acc fun (x : Str × NameKind) (cs : List (Str × Addr)) => (if (x.2 == .free) = true then (do let c ← cellOf env x.1; pure (ForInStep.yield ((x.1, c) :: cs))) else pure (ForInStep.yield cs) : Sem (ForInStep (List (Str × Addr))))) = pure (closGo env.cells names acc)
  | [], acc, _ => by rw [List.forIn_nil]; rfl
  | (x, k) :: r, acc, h => by
    rw [List.forIn_cons]
    unfold closGo
    by_cases q : (k == NameKind.free) = true
    · have hq : k = .free := by simpa using q
      obtain ⟨c, hc⟩ := Option.isSome_iff_exists.mp (h (x, k) List.mem_cons_self hq)
      have hc' : env.cells.lookup x = some c := hc
      have e : cellOf env x = pure c := by unfold cellOf; rw [hc']
      simp only [q, if_true, e, pure_bind, hc', Option.getD_some]
      exact clos_eq r _ fun y hy => h y (List.mem_cons_of_mem _ hy)
    · simp only [q, if_false, pure_bind]
      exact clos_eq r _ fun y hy => h y (List.mem_cons_of_mem _ hy)
theorem clos_pure {env : Env} {scope : Scope} (h : ∀ x ∈ scope.names, x.2 = .free → (env.cells.lookup x.1).isSome = true) : closureFor scope env = pure (closGo env.cells scope.names []) := by
  have e := clos_eq (env := env) scope.names [] h
  unfold closureFor
  have e2 : (forIn scope.names ([] : List (Str × Addr)) fun x cs => match x with
      | (name, kind) => if (kind == .free) = true then (do let c ← cellOf env name; pure (ForInStep.yield ((name, c) :: cs))) else pure (ForInStep.yield cs)) = (pure (closGo env.cells scope.names []) : Sem _) := e
  first
    | (rw [show (do
        let cs ← forIn scope.names ([] : List (Str × Addr)) fun x cs => match x with
          | (name, kind) => if (kind == .free) = true then (do let c ← cellOf env name; pure (ForInStep.yield ((name, c) :: cs))) else pure (ForInStep.yield cs)
        pure cs : Sem _) = _ from by rw [e2]; rfl])
    | (simp only [e2, pure_bind])
    | (simp only [e2]; rfl)
theorem closGo_mem {cells : List (Str × Addr)} : ∀ (names : List (Str × NameKind)) (acc : List (Str × Addr)), (∀ x ∈ names, x.2 = .free → (cells.lookup x.1).isSome = true) → (∀ y ∈ acc, cells.lookup y.1 = some y.2) →
    (∀ y ∈ closGo cells names acc, cells.lookup y.1 = some y.2) ∧ (∀ y ∈ acc, y ∈ closGo cells names acc) ∧ ∀ x ∈ names, x.2 = .free → ∃ c, (x.1, c) ∈ closGo cells names acc
  | [], acc, _, ha => ⟨ha, fun y hy => hy, fun x hx => by cases hx⟩
  | (x, k) :: r, acc, h, ha => by
    unfold closGo
    by_cases q : (k == NameKind.free) = true
    · have hq : k = .free := by simpa using q
      obtain ⟨c, hc⟩ := Option.isSome_iff_exists.mp (h (x, k) List.mem_cons_self hq)
      have hc' : cells.lookup x = some c := hc
      rw [if_pos q, hc', Option.getD_some]
      obtain ⟨p1, p2, p3⟩ := closGo_mem r ((x, c) :: acc) (fun y hy => h y (List.mem_cons_of_mem _ hy)) (fun y hy => by
        rcases List.mem_cons.mp hy with rfl | hy
        · exact hc'
        · exact ha y hy)
      refine ⟨p1, fun y hy => p2 y (List.mem_cons_of_mem _ hy), fun y hy hf => ?_⟩
      rcases List.mem_cons.mp hy with rfl | hy
      · exact ⟨c, p2 _ List.mem_cons_self⟩
      · exact p3 y hy hf
    · rw [if_neg q]
      obtain ⟨p1, p2, p3⟩ := closGo_mem r acc (fun y hy => h y (List.mem_cons_of_mem _ hy)) ha
      refine ⟨p1, p2, fun y hy hf => ?_⟩
      rcases List.mem_cons.mp hy with rfl | hy
      · exact absurd (by rw [show k = NameKind.free from hf]; rfl) q
      · exact p3 y hy hf
theorem lookup_of_mem' {α : Type} : ∀ {l : List (Str × α)} {x : Str} {c : α}, (x, c) ∈ l → (l.lookup x).isSome = true
  | (y, d) :: r, x, c, h => by
    rw [List.lookup_cons]
    cases hb : x == y with
    | true => rfl
    | false =>
      rcases List.mem_cons.mp h with e | h
      · cases e; simp at hb
      · exact lookup_of_mem' h

noncomputable def relS (sc scope : Scope) : Scope := relabel scope (env0 sc)
theorem relabel_eq {sc scope : Scope} {env : Env} (V : EnvOK sc env) : relabel scope env = relS sc scope := by
  unfold relS relabel Env.kindOf
  rw [V.es]; rfl

/-- what a comprehension sees of the frame's names: as it was printed, checked by computation -/
structure CapOK (sc : Scope) (nm : Nm) (scope : Scope) (nm' : Nm) (caps : List Nat) : Prop where
  kf : scope.kind = .function
  nc : ∀ y ∈ scope.names, y.2 ≠ .cell
  hn : ∀ x ∈ scope.names, x.2 = .local → scope.names.lookup x.1 = some .local
  fr : ∀ x ∈ scope.names, x.2 = .free → sc.names.lookup x.1 = some .cell
  cap : ∀ i x, nm'[i]? = some (some x) → (scope.names.lookup x = some .local ∧ i ∉ caps) ∨ ((x, NameKind.free) ∈ scope.names ∧ (relS sc scope).names.lookup x = some .cell ∧ nm[i]? = some (some x))
  nm : NmOK nm'

noncomputable def capB (sc : Scope) (nm : Nm) (scope : Scope) (nm' : Nm) (caps : List Nat) : Bool :=
  (scope.kind == .function) && scope.names.all (fun y => y.2 != .cell) && scope.names.all (fun x => x.2 != .local || scope.names.lookup x.1 == some .local) &&
  scope.names.all (fun x => x.2 != .free || sc.names.lookup x.1 == some .cell) &&
  (List.range nm'.length).all (fun i => match nm'[i]? with
    | some (some x) => (scope.names.lookup x == some .local && !caps.contains i) || (scope.names.contains (x, NameKind.free) && (relS sc scope).names.lookup x == some .cell && nm[i]? == some (some x))
    | _ => true) &&
  (List.range nm'.length).all (fun i => (List.range nm'.length).all fun j => i == j || (match nm'[i]? with | some (some x) => nm'[j]? != some (some x) | _ => true))
theorem capB_spec {sc : Scope} {nm : Nm} {scope : Scope} {nm' : Nm} {caps : List Nat} (h : capB sc nm scope nm' caps = true) : CapOK sc nm scope nm' caps := by
  unfold capB at h
  simp only [Bool.and_eq_true, List.all_eq_true, bne_iff_ne, ne_eq, Bool.or_eq_true, beq_iff_eq, Bool.not_eq_true', List.mem_range] at h
  obtain ⟨⟨⟨⟨⟨h1, h2⟩, h3⟩, h4⟩, h5⟩, h6⟩ := h
  have lt : ∀ {i : Nat} {x : Str}, nm'[i]? = some (some x) → i < nm'.length := fun e => (List.getElem?_eq_some_iff.mp e).1
  refine ⟨h1, h2, fun x hx e => (h3 x hx).resolve_left (fun q => q e), fun x hx e => (h4 x hx).resolve_left (fun q => q e), fun i x e => ?_, fun i j x ei ej => ?_⟩
  · have := h5 i (lt e)
    rw [e] at this
    simp only [Bool.or_eq_true, Bool.and_eq_true, beq_iff_eq, Bool.not_eq_true'] at this
    rcases this with ⟨a, b⟩ | ⟨⟨a, b⟩, c⟩
    · exact .inl ⟨a, fun q => by rw [List.contains_iff_mem.mpr q] at b; cases b⟩
    · exact .inr ⟨List.contains_iff_mem.mp a, b, c⟩
  · have := h6 i (lt ei) j (lt ej)
    rw [ei] at this
    rcases this with a | a
    · exact a
    · simp [ej] at a

noncomputable def nmem (i : Nat) : List Nat → Bool
  | [] => false
  | x :: r => match Nat.beq x i with | true => true | false => nmem i r
theorem nmem_spec {i : Nat} : ∀ {l : List Nat}, nmem i l = true → i ∈ l
  | x :: r, h => by
    unfold nmem at h
    split at h
    · rename_i q
      rw [Nat.eq_of_beq_eq_true q]; exact List.mem_cons_self
    · exact List.mem_cons_of_mem _ (nmem_spec h)
noncomputable def capGo : List Nat → Nat → Store → Store
  | _, _, [] => []
  | caps, i, s :: r => (match nmem i caps with
    | true => (match s with | .v d => .v d | _ => .u)
    | false => .u) :: capGo caps (i + 1) r
theorem capGo_get (caps : List Nat) : ∀ (ρ : Store) (b i : Nat), sget (capGo caps b ρ) i = .u ∨ (b + i ∈ caps ∧ ∃ d, sget ρ i = .v d ∧ sget (capGo caps b ρ) i = .v d)
  | [], b, i => .inl (sget_nil i)
  | s :: r, b, 0 => by
    show shd (capGo caps b (s :: r)) = .u ∨ (b + 0 ∈ caps ∧ ∃ d, s = .v d ∧ shd (capGo caps b (s :: r)) = .v d)
    unfold capGo
    cases hc : nmem b caps with
    | false => exact .inl rfl
    | true =>
      cases s with
      | v d => exact .inr ⟨nmem_spec hc, d, rfl, rfl⟩
      | _ => exact .inl rfl
  | s :: r, b, i + 1 => by
    have := capGo_get caps r (b + 1) i
    rcases this with h | ⟨h, d, e1, e2⟩
    · exact .inl h
    · exact .inr ⟨by rw [show b + (i + 1) = b + 1 + i from by omega]; exact h, d, e1, e2⟩
noncomputable def NoOwn (ρ : Store) : Prop := ∀ i, (sget ρ i).own = false
theorem capGo_noOwn (caps : List Nat) (ρ : Store) : NoOwn (capGo caps 0 ρ) := fun i => by
  rcases capGo_get caps ρ 0 i with h | ⟨_, d, _, h⟩ <;> rw [h] <;> rfl

/-- only plain data is put into a store -/
noncomputable def Plainly (f : PyData → Store → Option Store) : Prop := ∀ v ρ ρ', f v ρ = some ρ' → NoOwn ρ → NoOwn ρ'
theorem noOwn_set {ρ : Store} (N : NoOwn ρ) (i : Nat) (v : PyData) : NoOwn (sset ρ i (.v v)) := fun j => by
  rw [sget_sset]; split; rfl; exact N j
theorem Plainly.name (i : Nat) : Plainly (asgName i) := by
  intro v ρ ρ' h N; cases h; exact noOwn_set N i v
theorem plain_all : ∀ (is : List Nat) (l : List PyData) (ρ ρ' : Store), setAll is l ρ = some ρ' → NoOwn ρ → NoOwn ρ'
  | [], [], _, _, h, N => by cases h; exact N
  | [], _ :: _, _, _, h, _ => by cases h
  | _ :: _, [], _, _, h, _ => by cases h
  | i :: is, x :: l, ρ, ρ', h, N => plain_all is l _ ρ' (by exact h) (noOwn_set N i x)
theorem Plainly.tup (is : List Nat) : Plainly (asgTup is) := by
  intro v ρ ρ' h N
  unfold asgTup at h
  split at h
  · exact plain_all _ _ _ _ h N
  · cases h

/-- places are written that hold no name of the frame -/
theorem StC.stepN {U : Uni} {nm : Nm} {h₀ h h' : Heap} {Xc X : AS} {env : Env} {ρ : Store} {m : Str → Option Value} {σ : Nat → Option Value} {S : AS} (St' : StC U h₀ Xc env nm X h ρ m σ) (N : NoOwn ρ) (hS : ∀ b, S b → X b)
    (hn : ∀ b, S b → h₀.get? b = none) (nL : ¬ S env.locals) (nC : ∀ y c, env.cells.lookup y = some c → ¬ S c)
    (out : ∀ b o, ¬ S b → h.get? b = some o → h'.get? b = some o) (hd : ∀ b, S b → ∃ o, h'.get? b = some o) : StC U h₀ Xc env nm X h' ρ m σ := by
  have hout : ExtO X h h' := fun b o nx e => out b o (fun q => nx (hS b q)) e
  exact {
    base := St'.base
    ext := fun b o e => out b o (fun q => by rw [hn b q] at e; cases e) (St'.ext b o e)
    xcin := St'.xcin
    sub := St'.sub
    xin := fun b x => by
      by_cases q : S b
      · exact hd b q
      · obtain ⟨o, e⟩ := St'.xin b x; exact ⟨o, out b o q e⟩
    xnew := St'.xnew
    ns := let ⟨o, es, ep, e, r⟩ := St'.ns; ⟨o, es, ep, out _ _ nL e, r⟩
    xl := St'.xl
    ln := St'.ln
    cel := fun x c e => let ⟨a, b, v, o, g, d⟩ := St'.cel x c e; ⟨a, b, v, o, out _ _ (nC x c e) g, d⟩
    capt := St'.capt
    at' := fun i x v a b => (St'.at' i x v a b).imp id fun ⟨k, c, e, o, g, d⟩ => ⟨k, c, e, o, out _ _ (nC x c e) g, d⟩
    sl := fun i x a => by
      have q := St'.sl i x a
      have ni := N i
      revert q ni
      cases sget ρ i with
      | u => intro _ _; trivial
      | v d => rintro ⟨v, e, r⟩ _; exact ⟨v, e, r.ext hout⟩
      | o l2 => intro _ ni; cases ni
      | k l2 => intro _ ni; cases ni
    kd := St'.kd
    ow := St'.ow }

/-! A13 -/

noncomputable def SimTs (U : Uni) (n : Nat) (sc : Scope) (nm : Nm) (ifs : List Expr) (d : DT) : Prop :=
  ∀ (A : Around) (env : Env) (E : Value → Shared → Prop) (s : Shared) (h₀ : Heap) (Xc X : AS) (ρ : Store) (b : Bool) (Q : Bool → Shared → Prop),
   AOK n A → EnvOK sc env → St U h₀ Xc env nm X s.heap ρ → d ρ = some b →
   (∀ h' t', Ext s.heap h' → Q b { s with heap := h', toks := t' }) →
   wpAny (model U.prog U.w) A (forIn ifs true fun c r => if r = true then do let ok ← isTrue c env (eval c env); pure (ForInStep.yield ok) else pure (ForInStep.yield r)) Q E s
noncomputable def ttrue : DT := fun _ => some true

noncomputable def compAll (f : PyData → Store → Option Store) (t : DT) (e : DE) : List PyData → Store → Option (List PyData)
  | [], _ => some []
  | x :: r, ρ => match f x ρ with
    | some ρ1 => (match t ρ1 with
      | some true => (match e ρ1 with
        | some v => (match compAll f t e r ρ1 with | some l => some (v :: l) | none => none)
        | none => none)
      | some false => compAll f t e r ρ1
      | none => none)
    | none => none
noncomputable def lcomp (caps : List Nat) (d : DL) (f : PyData → Store → Option Store) (t : DT) (e : DE) : DL := fun ρ => match d ρ with
  | some l => (match Nat.blt l.length 1048576 with | true => compAll f t e l (capGo caps 0 ρ) | false => none)
  | none => none

section
variable {U : Uni} {n : Nat} {sc : Scope} {nm : Nm}
theorem SimTs.nil : SimTs U n sc nm [] ttrue := by
  intro A env E s h₀ Xc X ρ b Q hA hV hS hd h
  cases hd
  exact wpAny_tests_nil (h s.heap s.toks (Ext.refl _))
theorem SimTs.one {c : Expr} {d : DT} (k : SimT U n sc nm c d) : SimTs U n sc nm [c] d := by
  intro A env E s h₀ Xc X ρ b Q hA hV hS hd h
  exact wpAny_tests_one (k A env E s h₀ Xc X ρ b Q hA hV hS hd h)

theorem codeAny_compLoopG {A : Around} {s : Shared} {Rz : Result → Shared → Prop} {elt target iter : Expr} {ifs : List Expr} {scope : Scope} {pos : Pos} {it acc : Value} {env : Env} (I : Nat → Shared → Prop)
    (turn : ∀ w s, I w s → wpAny (model U.prog U.w) A (pyNext it) (fun r s₁ => match r with
      | none => Rz (.ok .next) s₁
      | some v => wpAny (model U.prog U.w) A (letOwnedTupleGo target it v) (fun _ s₁ => wpAny (model U.prog U.w) A (assign target env v) (fun _ s₂ =>
          wpAny (model U.prog U.w) A (forIn ifs true fun c r => if r = true then do let ok ← isTrue c env (eval c env); pure (ForInStep.yield ok) else pure (ForInStep.yield r)) (fun ok s₃ =>
            if ok = true then wpAny (model U.prog U.w) A (eval elt env) (fun x s₄ =>
              wpAny (model U.prog U.w) A (call (.builtin "list.append") [acc, x]) (fun _ s₅ => ∃ m, m < w ∧ I m s₅) (notedBy (model U.prog U.w) A env fun e s' => Rz (.error e) s') s₄) (notedBy (model U.prog U.w) A env fun e s' => Rz (.error e) s') s₃
            else ∃ m, m < w ∧ I m s₃) (notedBy (model U.prog U.w) A env fun e s' => Rz (.error e) s') s₂) (notedBy (model U.prog U.w) A env fun e s' => Rz (.error e) s') s₁) (notedBy (model U.prog U.w) A env fun e s' => Rz (.error e) s') s₁) (notedBy (model U.prog U.w) A env fun e s' => Rz (.error e) s') s)
    (w : Nat) (h : I w s) : codeAny (model U.prog U.w) A (.compLoop (.ListComp elt [⟨target, iter, ifs, 0⟩] scope pos) 0 it acc env) Rz s := by
  refine codeAny_loop rfl I (fun n s hI => ?_) w h
  show wpAny _ A ((compTurn (.ListComp elt [⟨target, iter, ifs, 0⟩] scope pos) 0 it acc env).onRaise (fun x => do noteFrame x env; theTreesLotGoes x)) _ _ s
  refine wpAny_noted ?_
  rw [compTurn_list]
  refine wpAny_bind (wpAny_standAt (wpAny_bind (wpAny_mono (turn n s hI) (fun r s₁ h₁ => ?_) fun _ _ h' => h')))
  cases r with
  | none => exact wpAny_pure h₁
  | some v =>
    refine wpAny_bind (wpAny_mono h₁ (fun _ s₁' h₁' => ?_) fun _ _ h' => h')
    refine wpAny_bind (wpAny_mono h₁' (fun _ s₂ h₂ => wpAny_bind (wpAny_mono h₂ (fun ok s₃ h₃ => ?_) fun _ _ h' => h')) fun _ _ h' => h')
    cases ok with
    | false => exact wpAny_pure ⟨rfl, h₃⟩
    | true =>
      exact wpAny_bind (wpAny_bind (wpAny_mono h₃ (fun x s₄ h₄ => wpAny_bind (wpAny_mono h₄ (fun _ s₅ h₅ => wpAny_pure (wpAny_pure ⟨rfl, h₅⟩)) fun _ _ h' => h')) fun _ _ h' => h'))

theorem append_exact {A : Around} {E : Value → Shared → Prop} {s : Shared} {D : Addr} {vs : Array Value} {k : Nat} {x : Value} {Q : Value → Shared → Prop} (g : s.heap.get? D = some (lstObj vs k)) (hsz : vs.size ≤ sizeLine)
    (h : Q .none { s with heap := s.heap.update D (Obj.mapSeq fun xs => xs.push x) }) : wpAny (model U.prog U.w) A (call (.builtin "list.append") [.ref D, x]) Q E s :=
  call_meets PySem.F.slot_list_append ⟨_, g, rfl⟩ PySem.F.entry_list_append (PySem.F.args_list_append_2 _ _) (PySem.list_append D vs k x hsz) ⟨g, h⟩

/-- the frame of a comprehension -/
theorem comp_frame {env : Env} {scope : Scope} {nm' : Nm} {caps : List Nat} {h₀ h h4 : Heap} {Xc X Z : AS} {ρ : Store} {C : Addr} {m' : Str → Option Value} (hV : EnvOK sc env) (hc : CapOK sc nm scope nm' caps)
    (hS : St U h₀ Xc env nm X h ρ) (x : Ext h h4) (g : Grow X Z h) (y : ∀ b, Z b → ∃ o, h4.get? b = some o) (zC : Z C) (fC : h.get? C = none) (ns : h4.Ns C m') :
    EnvOK (relS sc scope) (compEnvC scope (closGo env.cells scope.names []) C env) ∧
    St U h₀ Xc (compEnvC scope (closGo env.cells scope.names []) C env) nm' Z h4 (capGo caps 0 ρ) ∧
    (∀ x c, (closGo env.cells scope.names []).lookup x = some c → env.cells.lookup x = some c) := by
  obtain ⟨m, σ, S⟩ := hS
  obtain ⟨p1, _, p3⟩ := closGo_mem (cells := env.cells) scope.names [] (fun x hx hf => hV.ce _ (hc.fr x hx hf)) (fun y hy => by cases hy)
  have cle : ∀ x c, (closGo env.cells scope.names []).lookup x = some c → env.cells.lookup x = some c := fun x c e => p1 _ (mem_of_lookup e)
  have clx : ∀ x c, (x, NameKind.free) ∈ scope.names → env.cells.lookup x = some c → (closGo env.cells scope.names []).lookup x = some c := fun x c hx e => by
    obtain ⟨c', hc'⟩ := p3 _ hx rfl
    obtain ⟨c2, h2⟩ := Option.isSome_iff_exists.mp (lookup_of_mem' hc')
    rw [h2]
    have := cle _ _ h2
    rw [e] at this; exact this.symm
  refine ⟨⟨relabel_eq hV, hc.kf, hV.gl, hV.bu, fun x e => ?_⟩, ?_, cle⟩
  · have hm := mem_of_lookup e
    have hm' : (x, NameKind.cell) ∈ scope.names.map fun (n, k) => if (k == .free && (env0 sc).scope.kind == .function && (env0 sc).kindOf n == some .cell) then (n, NameKind.cell) else (n, k) := hm
    obtain ⟨⟨n0, k0⟩, hmem, he⟩ := List.mem_map.mp hm'
    dsimp only at he
    split at he
    · rename_i q
      simp only [Bool.and_eq_true, beq_iff_eq] at q
      have hx : n0 = x := (Prod.mk.inj he).1
      subst hx
      have hk : k0 = .free := q.1.1
      subst hk
      obtain ⟨c', hc'⟩ := p3 _ hmem rfl
      exact lookup_of_mem' hc'
    · cases he
      exact absurd rfl (hc.nc _ hmem)
  · have no := capGo_noOwn caps ρ
    have gg := capGo_get caps ρ 0
    generalize hρ' : capGo caps 0 ρ = ρ' at no gg
    have key : ∀ i x, nm'[i]? = some (some x) → sget ρ' i = .u ∨ (∃ d, sget ρ i = .v d ∧ sget ρ' i = .v d ∧ (x, NameKind.free) ∈ scope.names ∧ (relS sc scope).names.lookup x = some .cell ∧ nm[i]? = some (some x)) := by
      intro i x hx
      rcases gg i with q | ⟨q, d, e1, e2⟩
      · exact .inl q
      · rcases hc.cap i x hx with ⟨_, b⟩ | b
        · exact absurd (by simpa using q) b
        · exact .inr ⟨d, e1, e2, b⟩
    refine ⟨m', fun i => match sget ρ' i with | .v _ => σ i | _ => none, ?_⟩
    exact {
      base := S.base
      ext := S.ext.trans x
      xcin := S.xcin
      sub := fun b q => g.1 b (S.sub b q)
      xin := y
      xnew := fun b q => (g.2 b q).elim (S.xnew b) fun e => .inr (S.ext.none e)
      ns := ns
      xl := zC
      ln := S.ext.none fC
      cel := fun x' c e => let ⟨a, b, v, d⟩ := S.cel x' c (cle _ _ e); ⟨g.1 _ a, b, v, d.keeps x⟩
      capt := fun x' y' c e1 e2 => S.capt x' y' c (cle _ _ e1) (cle _ _ e2)
      at' := fun i x' v hx e => by
        rcases key i x' hx with q | ⟨d, e1, e2, f1, f2, f3⟩
        · rw [q] at e; cases e
        · rw [e2] at e
          have hk := hc.fr _ f1 rfl
          rcases S.at' i x' v f3 e with ⟨a, _⟩ | ⟨_, c, b, d⟩
          · rw [kindOf_sc hV, hk] at a; cases a
          · refine .inr ⟨.inl ?_, c, clx _ _ f1 b, d.keeps x⟩
            show (relabel scope env).names.lookup x' = _
            rw [relabel_eq hV]; exact f2
      sl := fun i x' hx => by
        rcases key i x' hx with q | ⟨d, e1, e2, f1, f2, f3⟩
        · rw [q]; trivial
        · have z := S.sl i x' f3
          rw [e1] at z
          obtain ⟨v, ev, r⟩ := z
          rw [e2]
          exact ⟨v, ev, (r.grow g).ext (x.toO Z)⟩
      kd := fun i x' a l hx e => by have := no i; rw [e] at this; cases this
      ow := fun i j _ _ _ _ _ _ _ oi => by rw [no i] at oi; cases oi }

theorem comp_core {env : Env} {scope : Scope} {nm' : Nm} {caps : List Nat} {A : Around} {E : Value → Shared → Prop} {s : Shared} {h₀ : Heap} {Xc X : AS} {ρ : Store} {l : List PyData} {strong : Bool} {elt tg iter : Expr} {ifs : List Expr} {pos : Pos}
    {d : DL} {f : PyData → Store → Option Store} {t : DT} {e : DE} {RR : Value → Addr → Result → Shared → Prop}
    (hc : CapOK sc nm scope nm' caps) (ki : SimI U strong n sc nm iter tg d) (kt : AsgOK true U n (relS sc scope) nm' tg f) (pf : Plainly f) (kts : SimTs U n (relS sc scope) nm' ifs t) (ke : SimE U n (relS sc scope) nm' elt e)
    (hA : AOK n A) (hV : EnvOK sc env) (hS : St U h₀ Xc env nm X s.heap ρ) (hl : lcomp caps d f t e ρ = some l)
    (hR : ∀ D C vs k h' t' m', Ext s.heap h' → s.heap.get? D = none → s.heap.get? C = none → D ≠ C → h'.get? D = some (lstObj vs k) → RepL (fun b => X b ∨ b = D ∨ b = C) h' vs.toList l → h'.Ns C m' →
      RR (.ref D) C (.ok .next) { s with heap := h', toks := t' }) :
    wpAny (model U.prog U.w) A (eval iter env) (fun xv s₁ => wpAny (model U.prog U.w) A (pyIter xv) (fun it s₂ => wpAny (model U.prog U.w) A (newList []) (fun acc s₃ =>
      wpAny (model U.prog U.w) A (newFunctionEnv scope env.globals (closGo env.cells scope.names []) [] env.qual none .none (some env)) (fun cenv s₄ =>
        codeAny (model U.prog U.w) A (.compStart (.ListComp elt [⟨tg, iter, ifs, 0⟩] scope pos) 0 it acc { cenv with scope := relabel scope env }) (RR acc cenv.locals) s₄) E s₃) E s₂) E s₁) E s := by
  unfold lcomp at hl
  split at hl
  · rename_i items hd
    split at hl
    · rename_i hsz
      rw [Nat.blt_eq] at hsz
      refine ki A env E s h₀ Xc X ρ items _ hA hV hS hd fun it S J src hm h1 t1 SR xm x1 fS j1 s1 self => ?_
      refine wpAny_newObj_type (wpAny_newFunctionEnv hc.nc (by intro y hy; simp at hy) (fun h4 hns4 hsb4 => ?_) hc.kf)
      dsimp only at hns4 hsb4 ⊢
      generalize hH2 : h1.push { cls := .type "list", dict := none, data := .seq ([] : List Value).toArray } = H2 at hns4 hsb4 ⊢
      have hC : H2.objs.size = h1.objs.size + 1 := by rw [← hH2, Heap.size_push]
      have hDC : h1.objs.size ≠ H2.objs.size := by rw [hC]; exact Nat.ne_of_lt (Nat.lt_succ_self _)
      have x4 : Ext h1 h4 := fun b o q => hsb4.extBut b o (by rw [hC]; exact Nat.ne_of_lt (Nat.lt_succ_of_lt (Heap.lt_size q))) (Heap.get?_push_of_some _ (hH2 ▸ Heap.get?_push_of_some _ q))
      have gD : h4.get? h1.objs.size = some (lstObj #[] 0) := hsb4.extBut _ _ hDC (Heap.get?_push_of_some _ (hH2 ▸ Heap.get?_push_size _ rfl))
      have fD : h1.get? h1.objs.size = none := get_size _
      have fC : h1.get? H2.objs.size = none := get_ge (by rw [hC]; exact Nat.le_succ _)
      generalize h1.objs.size = D at hDC gD fD ⊢
      generalize H2.objs.size = C at hns4 hDC fC ⊢
      clear hH2 hC hsb4
      have xs1 : Ext s.heap h1 := xm.trans x1
      have f0 : ∀ b, S b → s.heap.get? b = none := fun b q => xm.none (fS b q)
      have f00 : ∀ b, S b → h₀.get? b = none := fun b q => hS.ext0.none (f0 b q)
      have SD : ¬ S D := fun q => by obtain ⟨o, e, _⟩ := SR.jd 0 h1 _ j1 q; rw [fD] at e; cases e
      have SC : ¬ S C := fun q => by obtain ⟨o, e, _⟩ := SR.jd 0 h1 _ j1 q; rw [fC] at e; cases e
      have grow : Grow X (fun b => X b ∨ S b ∨ b = D ∨ b = C) s.heap := ⟨fun b q => .inl q, fun b q => by
        rcases q with q | q | rfl | rfl
        · exact .inl q
        · exact .inr (f0 b q)
        · exact .inr (xs1.none fD)
        · exact .inr (xs1.none fC)⟩
      have growm : Grow X (fun b => X b ∨ S b ∨ b = D ∨ b = C) hm := ⟨fun b q => .inl q, fun b q => by
        rcases q with q | q | rfl | rfl
        · exact .inl q
        · exact .inr (fS b q)
        · exact .inr (x1.none fD)
        · exact .inr (x1.none fC)⟩
      have j4 : J 0 h4 := SR.jk _ _ _ j1 fun b o _ e => x4 b o e
      have yin : ∀ b, (X b ∨ S b ∨ b = D ∨ b = C) → ∃ o, h4.get? b = some o := fun b q => by
        rcases q with q | q | rfl | rfl
        · obtain ⟨o, e⟩ := hS.xin b q; exact ⟨o, x4 _ _ (xs1 _ _ e)⟩
        · obtain ⟨o, e, _⟩ := SR.jd 0 h1 b j1 q; exact ⟨o, x4 _ _ e⟩
        · exact ⟨_, gD⟩
        · obtain ⟨o, _, _, e, _⟩ := hns4; exact ⟨o, e⟩
      obtain ⟨V', S4, cle⟩ := comp_frame (scope := scope) hV hc hS (xs1.trans x4) grow yin (.inr (.inr (.inr rfl))) (xs1.none fC) hns4
      generalize hZ : (fun b => X b ∨ S b ∨ b = D ∨ b = C) = Z at grow growm yin S4
      have zS : ∀ b, S b → Z b := fun b q => by rw [← hZ]; exact .inr (.inl q)
      have zD : Z D := by rw [← hZ]; exact .inr (.inr (.inl rfl))
      have sm : src Z hm := SR.sg _ _ _ s1 growm
      have hcell : ∀ y c, (closGo env.cells scope.names []).lookup y = some c → ∃ o, s.heap.get? c = some o := fun y c q => by
        obtain ⟨m, σ, S⟩ := hS
        obtain ⟨_, _, v, o, g, _⟩ := S.cel y c (cle _ _ q)
        exact ⟨o, g⟩
      have hCS : ∀ y c, (closGo env.cells scope.names []).lookup y = some c → ¬ S c := fun y c q z => by
        obtain ⟨o, g⟩ := hcell y c q
        rw [f0 c z] at g; cases g
      have hCD : ∀ y c, (closGo env.cells scope.names []).lookup y = some c → c ≠ D := fun y c q z => by
        obtain ⟨o, g⟩ := hcell y c q
        rw [z, xs1.none fD] at g; cases g
      have loop : ∀ t4 : Nat, codeAny (model U.prog U.w) A (.compLoop (.ListComp elt [⟨tg, iter, ifs, 0⟩] scope pos) 0 it (.ref D) (compEnvC scope (closGo env.cells scope.names []) C env)) (RR (.ref D) C) { s with heap := h4, toks := t4 } := by
        intro t4
        refine codeAny_compLoopG (fun w s' => ∃ (k : Nat) (h' : Heap) (t' : Nat) (ρ' : Store) (vs : Array Value) (kk : Nat) (done rest : List PyData), w = items.length + 1 - k ∧ k ≤ items.length ∧ s' = { s with heap := h', toks := t' } ∧
            St U h₀ Xc (compEnvC scope (closGo env.cells scope.names []) C env) nm' Z h' ρ' ∧ NoOwn ρ' ∧ Ext hm h' ∧ J k h' ∧ h'.get? D = some (lstObj vs kk) ∧ RepL Z h' vs.toList done ∧ done.length ≤ k ∧ done ++ rest = l ∧ compAll f t e (items.drop k) ρ' = some rest)
          ?_ (items.length + 1) ⟨0, h4, t4, _, #[], 0, [], l, by simp, Nat.zero_le _, rfl, S4, capGo_noOwn _ _, x1.trans x4, j4, gD, .nil, Nat.le_refl _, rfl, by simpa using hl⟩
        rintro w _ ⟨k, h5, t5, ρ5, vs, kk, done, rest, rfl, hk, rfl, S5, N5, x5, j5, g5, r5, hdk, htot, hc5⟩
        have step := SR.next A (notedBy (model U.prog U.w) A (compEnvC scope (closGo env.cells scope.names []) C env) fun e s' => RR (.ref D) C (.error e) s') { s with heap := h5, toks := t5 } Z k
        obtain ⟨m5, σ5, S5c⟩ := id S5
        cases hdd : items[k]? with
        | none =>
          have hk' : k = items.length := by have := List.getElem?_eq_none_iff.mp hdd; omega
          rw [hk', List.drop_length] at hc5
          cases hc5
          rw [List.append_nil] at htot
          subst htot
          refine wpAny_mono (step (fun rv s' => match rv with
            | none => RR (.ref D) C (.ok .next) s'
            | some _ => False) hA.1 zS S5.xin j5 (SR.se _ _ _ sm x5) (by
              rw [hdd]
              intro h6 t6 out
              have eo : ExtO Z h5 h6 := fun b o nz q => out b o (fun z => nz (zS b z)) q
              refine hR D C vs kk h6 t6 m5 (fun b o q => out b o (fun z => by rw [f0 b z] at q; cases q) (x5 _ _ (xm _ _ q))) (xs1.none fD) (xs1.none fC) hDC (out _ _ SD g5) ((r5.ext eo).shrink fun b q => ?_) ?_
              · rw [← hZ]
                rcases q with q | q | q
                · exact .inl q
                · exact .inr (.inr (.inl q))
                · exact .inr (.inr (.inr q))
              · obtain ⟨o, es, ep, g, q⟩ := S5c.ns
                exact ⟨o, es, ep, out _ _ SC g, q⟩)) (fun rv s' h' => ?_) fun _ _ e => e
          cases rv with
          | none => exact h'
          | some v => exact wpAny_mono h' (fun _ _ f => f.elim) fun _ _ e => e
        | some dd =>
          have hdrop : items.drop k = dd :: items.drop (k + 1) := by
            obtain ⟨q, e⟩ := List.getElem?_eq_some_iff.mp hdd
            rw [List.drop_eq_getElem_cons q, e]
          have hk1 : k < items.length := (List.getElem?_eq_some_iff.mp hdd).1
          rw [hdrop] at hc5
          unfold compAll at hc5
          split at hc5
          · rename_i ρ6 hf
            have N6 := pf _ _ _ hf N5
            refine wpAny_mono (step (fun rv s' => match rv with
              | none => False
              | some v => wpAny (model U.prog U.w) A (assign tg (compEnvC scope (closGo env.cells scope.names []) C env) v) (fun _ s₂ =>
                  wpAny (model U.prog U.w) A (forIn ifs true fun c r => if r = true then do let ok ← isTrue c (compEnvC scope (closGo env.cells scope.names []) C env) (eval c (compEnvC scope (closGo env.cells scope.names []) C env)); pure (ForInStep.yield ok) else pure (ForInStep.yield r)) (fun ok s₃ =>
                    if ok = true then wpAny (model U.prog U.w) A (eval elt (compEnvC scope (closGo env.cells scope.names []) C env)) (fun x s₄ =>
                      wpAny (model U.prog U.w) A (call (.builtin "list.append") [.ref D, x]) (fun _ s₅ => ∃ m, m < items.length + 1 - k ∧ ∃ (k : Nat) (h' : Heap) (t' : Nat) (ρ' : Store) (vs : Array Value) (kk : Nat) (done rest : List PyData), m = items.length + 1 - k ∧ k ≤ items.length ∧ s₅ = { s with heap := h', toks := t' } ∧
                        St U h₀ Xc (compEnvC scope (closGo env.cells scope.names []) C env) nm' Z h' ρ' ∧ NoOwn ρ' ∧ Ext hm h' ∧ J k h' ∧ h'.get? D = some (lstObj vs kk) ∧ RepL Z h' vs.toList done ∧ done.length ≤ k ∧ done ++ rest = l ∧ compAll f t e (items.drop k) ρ' = some rest)
                        (notedBy (model U.prog U.w) A (compEnvC scope (closGo env.cells scope.names []) C env) fun e s' => RR (.ref D) C (.error e) s') s₄) (notedBy (model U.prog U.w) A (compEnvC scope (closGo env.cells scope.names []) C env) fun e s' => RR (.ref D) C (.error e) s') s₃
                    else ∃ m, m < items.length + 1 - k ∧ ∃ (k : Nat) (h' : Heap) (t' : Nat) (ρ' : Store) (vs : Array Value) (kk : Nat) (done rest : List PyData), m = items.length + 1 - k ∧ k ≤ items.length ∧ s₃ = { s with heap := h', toks := t' } ∧
                        St U h₀ Xc (compEnvC scope (closGo env.cells scope.names []) C env) nm' Z h' ρ' ∧ NoOwn ρ' ∧ Ext hm h' ∧ J k h' ∧ h'.get? D = some (lstObj vs kk) ∧ RepL Z h' vs.toList done ∧ done.length ≤ k ∧ done ++ rest = l ∧ compAll f t e (items.drop k) ρ' = some rest)
                    (notedBy (model U.prog U.w) A (compEnvC scope (closGo env.cells scope.names []) C env) fun e s' => RR (.ref D) C (.error e) s') s₂) (notedBy (model U.prog U.w) A (compEnvC scope (closGo env.cells scope.names []) C env) fun e s' => RR (.ref D) C (.error e) s') s') hA.1 zS S5.xin j5 (SR.se _ _ _ sm x5) (by
              rw [hdd]
              intro val h6 t6 j6 r6 out
              have eo : ExtO Z h5 h6 := fun b o nz q => out b o (fun z => nz (zS b z)) q
              have x6 : Ext hm h6 := fun b o q => out b o (fun z => by rw [fS b z] at q; cases q) (x5 _ _ q)
              have S6 : StC U h₀ Xc (compEnvC scope (closGo env.cells scope.names []) C env) nm' Z h6 ρ5 m5 σ5 := S5c.stepN N5 zS f00 SC hCS out fun b q => let ⟨o, g, _⟩ := SR.jd _ h6 b j6 q; ⟨o, g⟩
              refine kt A _ _ { s with heap := h6, toks := t6 } h₀ Xc Z ρ5 ρ6 val dd _ hA V' hc.nm ⟨m5, σ5, S6⟩ r6 hf fun h7 t7 S7 K7 X7 => ?_
              have fw : ∀ b, FW true (compEnvC scope (closGo env.cells scope.names []) C env) b → b = C := fun b q => by
                rcases q with q | ⟨q, _⟩
                · exact q
                · cases q
              have x7 : Ext hm h7 := fun b o q => X7 b o (fun z => by rw [fw b z, x1.none fC] at q; cases q) (x6 _ _ q)
              have j7 : J (k + 1) h7 := SR.jk _ _ _ j6 fun b o z q => X7 b o (fun w => SC (fw b w ▸ z)) q
              have g7 : h7.get? D = some (lstObj vs kk) := X7 _ _ (fun w => hDC (fw _ w)) (out _ _ SD g5)
              have r7 : RepL Z h7 vs.toList done := K7.repL (r5.ext eo)
              cases hb : t ρ6 with
              | none => rw [hb] at hc5; cases hc5
              | some b0 =>
                rw [hb] at hc5
                refine kts A _ _ { s with heap := h7, toks := t7 } h₀ Xc Z ρ6 b0 _ hA V' S7 hb fun h8 t8 x8 => ?_
                have S8 := S7.ext' x8
                have j8 : J (k + 1) h8 := SR.jk _ _ _ j7 fun b o _ q => x8 b o q
                cases b0 with
                | false =>
                  rw [if_neg Bool.false_ne_true]
                  exact ⟨items.length + 1 - (k + 1), by omega, k + 1, h8, t8, ρ6, vs, kk, done, rest, rfl, hk1, rfl, S8, N6, x7.trans x8, j8, x8 _ _ g7, r7.ext (x8.toO Z), by omega, htot, hc5⟩
                | true =>
                  rw [if_pos rfl]
                  dsimp only at hc5
                  cases hv : e ρ6 with
                  | none => rw [hv] at hc5; cases hc5
                  | some v =>
                    rw [hv] at hc5
                    dsimp only at hc5
                    cases hr : compAll f t e (items.drop (k + 1)) ρ6 with
                    | none => rw [hr] at hc5; cases hc5
                    | some rest' =>
                      rw [hr] at hc5
                      cases hc5
                      refine ke A _ _ { s with heap := h8, toks := t8 } h₀ Xc Z ρ6 v _ hA V' S8 hv fun val9 h9 t9 x9 r9 => ?_
                      have n9 := r7.length
                      rw [Array.length_toList] at n9
                      have g9 := x9 _ _ (x8 _ _ g7)
                      refine append_exact g9 (by rw [sizeLine_eq]; omega) ?_
                      obtain ⟨m9, σ9, S9⟩ := S8.ext' x9
                      have sb := Heap.SameBut.update h9 D (Obj.mapSeq fun xs => xs.push val9)
                      have g10 := IsL.update g9 fun xs => xs.push val9
                      have r10 : RepL Z h9 (vs.push val9).toList (done ++ [v]) := by rw [Array.toList_push]; exact RepL.append (r7.ext ((x8.trans x9).toO Z)) (.cons r9 .nil)
                      refine ⟨items.length + 1 - (k + 1), by omega, k + 1, _, t9, ρ6, _, _, done ++ [v], rest', rfl, hk1, rfl, ⟨m9, σ9, S9.stepN N6 (S := fun b => b = D) (fun b q => by rw [q]; exact zD) (fun b q => by rw [q]; exact hS.ext0.none (xs1.none fD)) (fun q => hDC q.symm) (fun y c q z => hCD y c q z)
                        (fun b o nb q => (sb.2 b nb).trans q) fun b q => by rw [q]; exact ⟨_, g10⟩⟩, N6, fun b o q => (sb.2 b (fun z => by rw [z, x1.none fD] at q; cases q)).trans (x9 _ _ (x8 _ _ (x7 _ _ q))),
                        SR.jk _ _ _ j8 fun b o z q => (sb.2 b (fun w => SD (w ▸ z))).trans (x9 _ _ q), g10, r10.ext (sameBut_out sb zD), by simp; omega, by rw [List.append_assoc]; exact htot, hr⟩)) (fun rv s' h' => ?_) fun _ _ e => e
            cases rv with
            | none => exact h'.elim
            | some v => exact h'
          · cases hc5
      refine codeAny_compStart_list (loop _) (self A _ _ _ 0 j4 (loop _))
    · cases hl
  · cases hl
end

/-! A14 -/
section
variable {U : Uni} {n : Nat} {sc : Scope} {nm : Nm}

theorem SimF.comp {scope : Scope} {nm' : Nm} {caps : List Nat} {strong : Bool} {elt tg iter : Expr} {ifs : List Expr} {pos : Pos}
    {d : DL} {f : PyData → Store → Option Store} {t : DT} {e : DE}
    (hc : CapOK sc nm scope nm' caps) (ki : SimI U strong n sc nm iter tg d) (kt : AsgOK true U n (relS sc scope) nm' tg f) (pf : Plainly f) (kts : SimTs U n (relS sc scope) nm' ifs t) (ke : SimE U n (relS sc scope) nm' elt e)
    (hs : ∀ env x, foldedSetIterable iter env x = pure x := by intro _ _; with_unfolding_all rfl) :
    SimF U n sc nm (.ListComp elt [⟨tg, iter, ifs, 0⟩] scope pos) (lcomp caps d f t e) := by
  intro A env E s h₀ Xc X ρ l Q hA hV hS hl h
  rw [eval_ListComp]
  have hcl : closureFor scope env = pure (closGo env.cells scope.names []) := clos_pure fun x hx hf => hV.ce _ (hc.fr x hx hf)
  refine wpAny_comprehension_free (use := none) rfl (hs env) hcl hc.kf hc.hn
    (comp_core (RR := fun acc C => compPost (model U.prog U.w) A E none Q acc C) hc ki kt pf kts ke hA hV hS hl ?_)
  intro D C vs k h1 t1 m1 x1 fD fC hDC gD r1 ns1
  refine ⟨m1, ns1, fun h2 s2 => ?_⟩
  refine h D vs k h2 t1 (fun b o q => (s2.2 b (fun z => by rw [z, fC] at q; cases q)).trans (x1 b o q)) fD ((s2.2 D hDC).trans gD) ?_
  exact (r1.ext (sameBut_out s2 (.inr (.inr rfl)))).shrink fun b q => q.imp id fun q => .inl q

theorem swaps_env {env env' : Env} (e : env.scope = env'.scope) (v : Expr) (t : Option Expr) (l : Nat) : swapsWith v t l env = swapsWith v t l env' := by
  unfold swapsWith Env.kindOf Env.blockKind
  rw [e]

theorem Sim1.asgComp {x : Str} {p : Pos} {i : Nat} {scope : Scope} {nm' : Nm} {caps : List Nat} {strong : Bool} {elt tg iter : Expr} {ifs : List Expr} {pos spos : Pos}
    {d : DL} {f : PyData → Store → Option Store} {t : DT} {e : DE} (hx : nm[i]? = some (some x)) (hk : NameKindOK sc x)
    (hc : CapOK sc nm scope nm' caps) (ki : SimI U strong n sc nm iter tg d) (kt : AsgOK true U n (relS sc scope) nm' tg f) (pf : Plainly f) (kts : SimTs U n (relS sc scope) nm' ifs t) (ke : SimE U n (relS sc scope) nm' elt e)
    (hsw : swapsWith (.ListComp elt [⟨tg, iter, ifs, 0⟩] scope pos) (some (.Name x p)) spos.line (env0 sc) = pure true)
    (hs : ∀ env x, foldedSetIterable iter env x = pure x := by intro _ _; with_unfolding_all rfl) :
    Sim1 U n sc nm (.Assign [.Name x p] (.ListComp elt [⟨tg, iter, ifs, 0⟩] scope pos) spos) (cseto i (lcomp caps d f t e)) := by
  intro A env E s h₀ Xc X ρ r Q hA hV N hS hcc h
  unfold cseto at hcc
  split at hcc
  · rename_i l hl
    cases hcc
    rw [exec_Assign_Name_used _ _ _ _ ((swaps_env (by rw [hV.es]; rfl) _ _ _).trans hsw)]
    refine wpAny_bind (wpAny_standAt (wpAny_bind ?_))
    show wpAny _ A (do let _ ← comprehension (.ListComp elt [⟨tg, iter, ifs, 0⟩] scope pos) scope env _ (newList []) false (eval iter env) (some (assign (.Name x p) env))) _ _ s
    have hcl : closureFor scope env = pure (closGo env.cells scope.names []) := clos_pure fun x hx hf => hV.ce _ (hc.fr x hx hf)
    refine wpAny_bind (wpAny_mono (wpAny_comprehension_free (use := some (assign (.Name x p) env)) (Q := fun _ s' => Q .next s') rfl (hs env) hcl hc.kf hc.hn
      (comp_core (RR := fun acc C => compPost (model U.prog U.w) A E (some (assign (.Name x p) env)) (fun _ s' => Q .next s') acc C) hc ki kt pf kts ke hA hV hS hl ?_))
      (fun _ s' hq => wpAny_pure (wpAny_pure hq)) fun _ _ e => e)
    intro D C vs k h1 t1 m1 x1 fD fC hDC gD r1 ns1
    obtain ⟨m, σ, S⟩ := hS
    have grow : Grow X (fun b => X b ∨ b = D ∨ b = C) s.heap := ⟨fun b q => .inl q, fun b q => by
      rcases q with q | rfl | rfl
      · exact .inl q
      · exact .inr fD
      · exact .inr fC⟩
    have gC : ∃ o, h1.get? C = some o := let ⟨o, _, _, g, _⟩ := ns1; ⟨o, g⟩
    have S1 := S.alloc x1 grow fun b q => by
      rcases q with q | rfl | rfl
      · obtain ⟨o, e⟩ := S.xin b q; exact ⟨o, x1 _ _ e⟩
      · exact ⟨_, gD⟩
      · exact gC
    have K1 := Keeps.alloc grow x1
    have old : ∀ j y a, nm[j]? = some (some y) → (sget ρ j).own = true → σ j = some (.ref a) → ∃ o, s.heap.get? a = some o := by
      intro j y a hy ow e
      have q := S.sl j y hy
      revert q ow
      cases hq : sget ρ j with
      | u => intro ow; cases ow
      | v d => intro ow; cases ow
      | o l => rintro _ ⟨b, vs, n, e', x', f', g', _⟩; rw [e] at e'; cases e'; exact ⟨_, g'⟩
      | k l => rintro _ ⟨b, e', x', f', g'⟩; rw [e] at e'; cases e'; exact S.xin _ x'
    have hL : ∃ o, s.heap.get? env.locals = some o := let ⟨o, _, _, g, _⟩ := S.ns; ⟨o, g⟩
    have hLC : env.locals ≠ C := by rintro rfl; obtain ⟨o, g⟩ := hL; rw [fC] at g; cases g
    have hcC : ∀ y c, env.cells.lookup y = some c → c ≠ C := by
      rintro y c e rfl
      obtain ⟨_, _, v, o, g, _⟩ := S.cel y c e
      rw [fC] at g; cases g
    have F1 : Fit U h₀ nm (fun b => X b ∨ b = D ∨ b = C) h1 ρ σ env.locals i (.ref D) (.o l) :=
      ⟨⟨D, vs, k, rfl, .inr (.inl rfl), S.ext.none fD, gD, r1⟩, (fun _ j y hy ow e => by
        obtain ⟨o, g⟩ := old j y D hy ow e
        rw [fD] at g; cases g), fun _ _ e => by cases e⟩
    refine PyProof.Rows.assign_Name (store_nameW (s := { s with heap := h1, toks := t1 }) (FW false env) hV N S1 hx (hk_lo hV (hk.imp id fun q => ⟨rfl, q⟩)) F1 fun h2 t2 m2 S2 K2 X2 => ?_)
    have nfC : ¬ FW false env C := by
      rintro (q | ⟨_, y, q⟩)
      · exact hLC q.symm
      · exact hcC y C q rfl
    obtain ⟨oC, es, ep, gC1, dC, rC⟩ := id ns1
    have gC2 : h2.get? C = some oC := X2 _ _ nfC gC1
    refine ⟨m1, ⟨oC, es, ep, gC2, dC, rC⟩, fun h3 s3 => ?_⟩
    have nl : ∀ vs k, h2.get? C ≠ some (lstObj vs k) := fun vs k q => by rw [gC2] at q; cases q; cases dC
    have S3 := S2.drop (S := fun b => b = C) (h' := h3) (fun b q => by rw [q]; exact .inr (.inr rfl)) (fun b q => by rw [q]; exact S.ext.none fC) (fun b vs k q => by rw [q]; exact nl vs k) hLC (fun y c e => hcC y c e)
      (fun j y a hy ow e q => by
        rw [q] at e
        split at e
        · cases e; exact hDC rfl
        · rename_i hj
          rw [sget_sset, if_neg hj] at ow
          obtain ⟨o, g⟩ := old j y C hy ow e
          rw [fC] at g; cases g)
      fun b o nb q => (s3.2 b nb).trans q
    refine h _ h3 t2 ⟨_, _, S3⟩ ((K1.trans K2).trans ⟨fun v d r => (r.ext (sameBut_out s3 (.inr (.inr rfl)))).shrink fun b q => q.1, fun b o fs g q => (s3.2 b (by rintro rfl; rw [gC2] at g; cases g; rw [dC] at q; cases q)).trans g,
      fun b o fs xb g q => ⟨xb, by rintro rfl; rw [gC2] at g; cases g; rw [dC] at q; cases q⟩⟩)
  · cases hcc
end

/-! A15 -/

theorem bindL_other {kk : Str → Option NameKind} {x : Str} : ∀ (bs : List (Str × Value)) (m : Str → Option Value), (∀ y ∈ bs, y.1 ≠ x) → bindL kk bs m x = m x
  | [], m, _ => rfl
  | (y, v) :: r, m, h => by
    unfold bindL
    rw [bindL_other r _ fun z hz => h z (List.mem_cons_of_mem _ hz)]
    have : y ≠ x := h (y, v) List.mem_cons_self
    split
    · exact if_neg fun e => this e.symm
    · rfl
theorem bindC_other {kk : Str → Option NameKind} {x : Str} : ∀ (bs : List (Str × Value)) (m : Str → Option Value), (∀ y ∈ bs, y.1 ≠ x) → bindC kk bs m x = m x
  | [], m, _ => rfl
  | (y, v) :: r, m, h => by
    unfold bindC
    rw [bindC_other r _ fun z hz => h z (List.mem_cons_of_mem _ hz)]
    have : y ≠ x := h (y, v) List.mem_cons_self
    split
    · rfl
    · exact if_neg fun e => this e.symm
theorem bindL_mem {kk : Str → Option NameKind} {x : Str} {v : Value} (hk : kk x = some .local) : ∀ (bs : List (Str × Value)) (m : Str → Option Value), (bs.Pairwise fun a b => a.1 ≠ b.1) → (x, v) ∈ bs → bindL kk bs m x = some v
  | [], m, _, h => by cases h
  | (y, w) :: r, m, hp, h => by
    obtain ⟨h1, h2⟩ := List.pairwise_cons.mp hp
    unfold bindL
    rcases List.mem_cons.mp h with e | h
    · cases e
      rw [bindL_other r _ fun z hz q => h1 z hz q.symm, if_pos hk]
      simp
    · exact bindL_mem hk r _ h2 h
theorem bindC_mem {kk : Str → Option NameKind} {x : Str} {v : Value} (hk : kk x ≠ some .local) : ∀ (bs : List (Str × Value)) (m : Str → Option Value), (bs.Pairwise fun a b => a.1 ≠ b.1) → (x, v) ∈ bs → bindC kk bs m x = some v
  | [], m, _, h => by cases h
  | (y, w) :: r, m, hp, h => by
    obtain ⟨h1, h2⟩ := List.pairwise_cons.mp hp
    unfold bindC
    rcases List.mem_cons.mp h with e | h
    · cases e
      rw [bindC_other r _ fun z hz q => h1 z hz q.symm, if_neg hk]
      simp
    · exact bindC_mem hk r _ h2 h
theorem cellsFrom_acc {x : Str} : ∀ (names : List (Str × NameKind)) (k : Nat) (acc : List (Str × Addr)), (acc.lookup x).isSome = true → ((cellsFrom k names acc).lookup x).isSome = true
  | [], _, _, h => h
  | (y, kd) :: r, k, acc, h => by
    unfold cellsFrom
    split
    · refine cellsFrom_acc r _ _ ?_
      rw [List.lookup_cons]
      split
      · rfl
      · exact h
    · exact cellsFrom_acc r _ _ h
theorem cellsFrom_some {x : Str} : ∀ (names : List (Str × NameKind)) (k : Nat) (acc : List (Str × Addr)), (x, NameKind.cell) ∈ names → ((cellsFrom k names acc).lookup x).isSome = true
  | (y, kd) :: r, k, acc, h => by
    unfold cellsFrom
    rcases List.mem_cons.mp h with e | h
    · cases e
      show ((cellsFrom (k + 1) r ((x, k) :: acc)).lookup x).isSome = true
      refine cellsFrom_acc r _ _ ?_
      simp [List.lookup_cons]
    · split
      · exact cellsFrom_some r _ _ h
      · exact cellsFrom_some r _ _ h

/-- checked by computation -/
noncomputable def entB (sc : Scope) (ps : List Str) (nm : Nm) : Bool :=
  (sc.kind == .function) && !sc.isCoroutine && !sc.isGenerator && ps.all (fun x => sc.names.lookup x == some .local || sc.names.lookup x == some .cell) &&
  (List.range ps.length).all (fun i => nm[i]? == some ps[i]?) && 
  (List.range nm.length).all (fun i => (List.range nm.length).all fun j => i == j || (match nm[i]? with | some (some x) => nm[j]? != some (some x) | _ => true))
noncomputable def runArgs (k : Nat) (c : C) : List PyData → Option PyData := fun args => match Nat.beq args.length k with
  | true => (match c (args.map .v) with | some (.rt d) => some d | _ => none)
  | false => none
theorem sget_map : ∀ (l : List PyData) (i : Nat), sget (l.map Slot.v) i = match l[i]? with | some d => .v d | none => .u
  | [], i => by rw [List.map_nil, sget_nil]; simp
  | d :: r, 0 => rfl
  | d :: r, i + 1 => by
    rw [List.map_cons, List.getElem?_cons_succ]
    exact sget_map r i

section
variable {U : Uni} {n : Nat}
structure EntOK (sc : Scope) (ps : List Str) (nm : Nm) : Prop where
  kf : sc.kind = .function
  co : sc.isCoroutine = false
  ge : sc.isGenerator = false
  kd : ∀ x ∈ ps, sc.names.lookup x = some .local ∨ sc.names.lookup x = some .cell
  at' : ∀ (i : Nat) (x : Str), ps[i]? = some x → nm[i]? = some (some x)
  no : NmOK nm
theorem entB_spec {sc : Scope} {ps : List Str} {nm : Nm} (h : entB sc ps nm = true) : EntOK sc ps nm := by
  unfold entB at h
  simp only [Bool.and_eq_true, List.all_eq_true, Bool.or_eq_true, beq_iff_eq, Bool.not_eq_true', List.mem_range] at h
  obtain ⟨⟨⟨⟨⟨h1, h2⟩, h3⟩, h4⟩, h5⟩, h6⟩ := h
  have lt : ∀ {i : Nat} {x : Str}, nm[i]? = some (some x) → i < nm.length := fun e => (List.getElem?_eq_some_iff.mp e).1
  refine ⟨h1, h2, h3, h4, fun i x e => ?_, fun i j x ei ej => ?_⟩
  · have := h5 i (List.getElem?_eq_some_iff.mp e).1
    rw [e] at this
    exact this
  · have := h6 i (lt ei) j (lt ej)
    rw [ei] at this
    rcases this with a | a
    · exact a
    · simp [ej] at a

theorem CallOK.of {dr : DefRec} {ps : List Str} {nm : Nm} {c : C} (hr : dr ∈ U.recs) (hb : entB dr.scope ps nm = true)
    (hbind : ∀ pm cd doc (vals : List Value), vals.length = ps.length → bindArgs (docDef dr.name dr.params dr.body dr.scope pm cd doc) ⟨vals, []⟩ = pure (ps.zip vals))
    (K : SimS U n dr.scope nm dr.body c) : CallOK U dr.name (n + 1) (runArgs ps.length c) := by
  intro A E s X vals args r fa Q hA hT hX hg hR hF h
  have B := entB_spec hb
  unfold runArgs at hF
  split at hF
  · rename_i hlen
    have hlen := Nat.eq_of_beq_eq_true hlen
    split at hF
    · rename_i d hc
      cases hF
      obtain ⟨a, o, pm, cd, doc, hg', ho, hdt, hcd⟩ := U.fn dr hr
      rw [hg] at hg'; cases hg'
      have hvl : vals.length = ps.length := hR.length.trans hlen
      have hnd : ps.Nodup := by
        rw [List.nodup_iff_pairwise_ne, List.pairwise_iff_getElem]
        intro i j hi hj hij e
        have := B.no i j ps[i] (B.at' i _ (List.getElem?_eq_getElem hi)) (by rw [e]; exact B.at' j _ (List.getElem?_eq_getElem hj))
        omega
      have hpw : ((ps.zip vals).Pairwise fun a b => a.1 ≠ b.1) := by
        have : ((ps.zip vals).map (·.1)) = ps := by
          rw [show (fun (x : Str × Value) => x.1) = Prod.fst from rfl, List.map_fst_zip]; omega
        rw [← this, List.nodup_iff_pairwise_ne, List.pairwise_map] at hnd
        exact hnd
      refine wpAny_call (call_cells_ret (by have := hA.2.1; unfold recursionLimit; omega) (hT _ _ ho) hdt (U.nl.keeps hT) (hcd.keeps hT) (hbind pm cd doc vals hvl) (fun x hx => ?_) (fun h1 t1 F Cc => ?_) B.co B.ge B.kf)
      · have : x.1 ∈ ps := (List.of_mem_zip (a := x.1) (b := x.2) hx).1
        rcases B.kd _ this with q | q
        · exact .inl q
        · exact .inr ⟨q, cellsFrom_some _ _ _ (mem_of_lookup q)⟩
      · refine K (A.deeper _) (envOfC dr.name dr.scope s.heap.objs.size fa cd) _ { s with heap := h1, toks := t1 } s.heap X (fun b => X b ∨ b = s.heap.objs.size ∨ ∃ y, (cellsFrom (s.heap.objs.size + 1) dr.scope.names []).lookup y = some b) (args.map .v) (.rt r) _ (hA.deeper _)
          ⟨rfl, B.kf, rfl, rfl, fun x e => cellsFrom_some _ _ _ (mem_of_lookup e)⟩ B.no ⟨bindL (envOfC dr.name dr.scope s.heap.objs.size fa cd).kindOf (ps.zip vals) fun _ => none, fun i => vals[i]?, ?_⟩ hc (fun val h2 t2 x2 r2 => h val h2 t2 x2 r2)
        have cnew : ∀ y c, (cellsFrom (s.heap.objs.size + 1) dr.scope.names []).lookup y = some c → s.heap.get? c = none := fun y c e => get_ge (Nat.le_of_lt (Cc.above y c (mem_of_lookup e)))
        have grow : Grow X (fun b => X b ∨ b = s.heap.objs.size ∨ ∃ y, (cellsFrom (s.heap.objs.size + 1) dr.scope.names []).lookup y = some b) s.heap := ⟨fun b q => .inl q, fun b q => by
          rcases q with q | rfl | ⟨y, e⟩
          · exact .inl q
          · exact .inr (get_size _)
          · exact .inr (cnew y b e)⟩
        exact {
          base := hT
          ext := F.keep
          xcin := hX
          sub := fun b q => .inl q
          xin := fun b q => by
            rcases q with q | rfl | ⟨y, e⟩
            · obtain ⟨o, g⟩ := hX b q; exact ⟨o, F.keep _ _ g⟩
            · obtain ⟨o, _, _, g, _⟩ := F.ns; exact ⟨o, g⟩
            · obtain ⟨o, g, _⟩ := Cc.cell y b e; exact ⟨o, g⟩
          xnew := fun b q => grow.2 b q
          ns := F.ns
          xl := .inr (.inl rfl)
          ln := get_size _
          cel := fun x c e => ⟨.inr (.inr ⟨x, e⟩), cnew x c e, _, Cc.cell x c e⟩
          capt := fun x y c ex ey => name_of_addr Cc.apart (mem_of_lookup ex) (mem_of_lookup ey)
          at' := fun i x v ei ev => by
            have hi : i < ps.length := hvl ▸ (List.getElem?_eq_some_iff.mp ev).1
            have hp := B.at' i _ (List.getElem?_eq_getElem hi)
            rw [ei] at hp
            have hx : x = ps[i] := Option.some.inj (Option.some.inj hp)
            have hmem : (x, v) ∈ ps.zip vals := by
              rw [List.mem_iff_getElem?]
              exact ⟨i, by rw [List.getElem?_zip_eq_some]; exact ⟨by rw [hx]; exact List.getElem?_eq_getElem hi, ev⟩⟩
            have hxm : x ∈ ps := (List.of_mem_zip hmem).1
            rcases B.kd x hxm with q | q
            · exact .inl ⟨q, bindL_mem q _ _ hpw hmem⟩
            · obtain ⟨c, hc⟩ := Option.isSome_iff_exists.mp (cellsFrom_some dr.scope.names (s.heap.objs.size + 1) [] (mem_of_lookup q))
              exact .inr ⟨.inl q, c, hc, (bindC_mem (kk := (envOfC dr.name dr.scope s.heap.objs.size fa cd).kindOf) (m := fun _ => none) (by show dr.scope.names.lookup x ≠ _; rw [q]; decide) _ hpw hmem) ▸ Cc.cell x c hc⟩
          sl := fun i x ei => by
            rw [sget_map]
            cases hd : args[i]? with
            | none => trivial
            | some d =>
              obtain ⟨w, hw, rw'⟩ := hR.get hd
              exact ⟨w, hw, (rw'.grow grow).ext (Ext.toO F.keep _)⟩
          kd := fun i x a l _ e => by
            rw [sget_map] at e
            split at e <;> cases e
          ow := fun i j x y a _ _ _ _ oi => by
            rw [sget_map] at oi
            split at oi <;> cases oi }
    · cases hF
  · cases hF
end

/-! A16 -/
section
variable {U : Uni} {n : Nat} {sc : Scope} {nm : Nm}

/-! a[::-1] -/
noncomputable def lrev (a : DL) (b : DE) : DL := fun ρ => match a ρ with
  | some l => (match b ρ with | some (.int (.negSucc 0)) => (match Nat.blt l.length 1048576 with | true => some l.reverse | false => none) | _ => none)
  | none => none
theorem SimF.rev {e u : Expr} {p pos : Pos} {a : DL} {b : DE} (ka : SimB U n sc nm e a) (kb : SimE U n sc nm u b) (ht : ∀ o r, letTemporaryGo e o r = pure () := by intro _ _; with_unfolding_all rfl) :
    SimF U n sc nm (.Subscript e (.Slice none none (some u) p) pos) (lrev a b) := by
  intro A env E s h₀ Xc X ρ l Q hA hV hS hd h
  unfold lrev at hd
  split at hd
  · rename_i l' hl
    split at hd
    · rename_i hk
      split at hd
      · rename_i q
        rw [Nat.blt_eq] at q
        cases hd
        refine wpAny_Subscript_Slice_step (T := "list") slot_list_getitem.lookup (ka A env E s h₀ Xc X ρ l' _ hA hV hS hl fun a vs h1 t1 x1 g1 r1 => ?_) ht
        refine wpAny_Slice ?_
        rw [evalPart_none, evalPart_some]
        refine wpAny_pure (wpAny_pure (kb A env E _ h₀ Xc X ρ _ _ hA hV (hS.ext' x1) hk fun v2 h2 t2 x2 r2 => ?_))
        cases r2
        have g2 : h2.IsList a vs := let ⟨o, p, q⟩ := g1; ⟨o, x2 _ _ p, q⟩
        have rr := r1.ext (x2.toO X)
        have hlen := rr.length
        rw [Array.length_toList] at hlen
        have g3 : ∀ o1 : Obj, (h2.push o1).IsList a vs := fun o1 => let ⟨o, p, q⟩ := g2; ⟨o, Ext.push _ _ _ _ p, q⟩
        refine ⟨(g3 _).typeIs, wpAny_getItem_list_slice (lo := none) (hi := none) (st := some (Int.negSucc 0)) (g3 _) (Heap.IsSliceOf.new ..) .none .none (.int _ _) (by decide) ?_ (by rw [sizeLine_eq]; omega)⟩
        rw [show slicePick vs Option.none Option.none (some (Int.negSucc 0)) = _ from krv_pick vs]
        have x3 : ∀ (o1 o2 : Obj), Ext h2 ((h2.push o1).push o2) := fun o1 o2 => (Ext.push _ _).trans (Ext.push _ _)
        have hz : ∀ o1 : Obj, (h2.push o1).objs.size = h2.objs.size + 1 := fun o1 => Heap.size_push ..
        refine h _ vs.toList.reverse.toArray 0 _ t2 ((x1.trans x2).trans (x3 _ _)) ((x1.trans x2).none (by show h2.get? (Heap.push h2 _).objs.size = none; rw [hz]; exact get_ge (Nat.le_succ _))) (Heap.get?_push_size _ rfl)
          (((by simpa using rr.reverse : RepL X h2 vs.toList.reverse.toArray.toList _).growA (by show h2.get? (Heap.push h2 _).objs.size = none; rw [hz]; exact get_ge (Nat.le_succ _))).ext ((x3 _ _).toO _))
      · cases hd
    · cases hd
  · cases hd

/-! any -/
noncomputable def anyB : List PyData → Option Bool
  | [] => some false
  | .bool b :: r => match anyB r with | some c => some (b || c) | none => none
  | _ => none
noncomputable def trB (l : List PyData) (i : Nat) : Bool := match l[i]? with | some (.bool b) => b | _ => false
theorem anyB_spec : ∀ {l : List PyData} {r : Bool}, anyB l = some r → (∀ (i : Nat) d, l[i]? = some d → ∃ b, d = .bool b) ∧ ((List.range l.length).any (trB l)) = r
  | [], r, h => by cases h; exact ⟨fun i d e => by simp at e, rfl⟩
  | x :: l, r, h => by
    unfold anyB at h
    split at h
    · rename_i e; cases e
    · rename_i b r' e
      cases e
      split at h
      · rename_i c hc
        cases h
        obtain ⟨p, q⟩ := anyB_spec hc
        refine ⟨fun i d e => ?_, ?_⟩
        · cases i with
          | zero => simp at e; exact ⟨b, e.symm⟩
          | succ i => exact p i d (by simpa using e)
        · rw [List.length_cons, List.range_succ_eq_map, List.any_cons, List.any_map]
          rw [show (trB (.bool b :: l) ∘ Nat.succ) = trB l from funext fun i => by simp [trB]]
          rw [q]
          simp [trB]
      · cases h
    · cases h
noncomputable def eany (a : DL) : DE := fun ρ => match a ρ with | some l => (match anyB l with | some b => some (.bool b) | none => none) | none => none
theorem SimE.any {e : Expr} {fp pos : Pos} {d : DL} (k : SimB U n sc nm e d) (hk : sc.names.lookup (Str.ofString "any") = some .globalImplicit) (hst : Plain1 e := by intro _; with_unfolding_all rfl) :
    SimE U n sc nm (.Call (.Name "any" fp) [e] [] pos) (eany d) := by
  intro A env E s h₀ Xc X ρ v Q hA hV hS hv h
  unfold eany at hv
  split at hv
  · rename_i l hl
    split at hv
    · rename_i b hb
      cases hv
      obtain ⟨p, q⟩ := anyB_spec hb
      refine callB hV hS.top hk (by decide +kernel) (by decide +kernel) boot_any' (by decide +kernel) (hst env) (by rfl) (spl1 (hst env) ?_)
      refine k A env E s h₀ Xc X ρ l _ hA hV hS hl fun a vs h1 t1 x1 g1 r1 => ?_
      have n1 := r1.length
      rw [Array.length_toList] at n1
      refine call_any_walk ?_
      refine wpAny_pyIter_list g1 ?_
      have hne : a ≠ h1.objs.size := by
        obtain ⟨o, g, _⟩ := g1
        exact Nat.ne_of_lt (Heap.lt_size g)
      refine ⟨h1.objs.size, _, _, _, _, _, trB l, rfl, Walks.list (A := A.in1) hA.1 h1.objs.size a hne vs, ⟨⟨_, Heap.get?_push_size _ rfl, rfl, rfl⟩, let ⟨o, g, c⟩ := g1; ⟨o, Ext.push _ _ _ _ g, c⟩⟩, ?_, fun h2 t2 x2 => ?_⟩
      · intro i w s' Q' E' hw hq
        have hi : i < l.length := by rw [← n1]; exact (Array.getElem?_eq_some_iff.mp hw).1
        obtain ⟨b', hb'⟩ := p i _ (List.getElem?_eq_getElem hi)
        obtain ⟨w', hw', rw'⟩ := r1.get (List.getElem?_eq_getElem hi)
        rw [hb'] at rw'
        cases rw'
        rw [Array.getElem?_toList, hw] at hw'
        cases hw'
        refine wpAny_truthy_bool ?_
        rw [show trB l i = b' from by unfold trB; rw [List.getElem?_eq_getElem hi, hb']] at hq
        exact hq
      · rw [n1, q]
        refine h _ h2 t2 (x1.trans fun b o e => x2 b o (fun m => ?_) (Ext.push _ _ _ _ e)) (.bool b)
        have : b = h1.objs.size := by simpa using m
        rw [this, get_size] at e
        cases e
    · cases hv
  · cases hv

/-! where in a list of one's own -/
noncomputable def pidx (d : PyData) : List PyData → Option Nat
  | [] => none
  | x :: xs => match peq x d with
    | some true => some 0
    | some false => (match pidx d xs with | some k => some (k + 1) | none => none)
    | none => none
theorem pidx_spec {d : PyData} : ∀ {xs : List PyData} {j : Nat}, pidx d xs = some j → (∃ x, xs[j]? = some x ∧ PyData.eqv x d = true) ∧ ∀ m x, m < j → xs[m]? = some x → PyData.eqv x d = false
  | [], _, h => by cases h
  | x :: xs, j, h => by
    unfold pidx at h
    split at h
    · rename_i q
      cases h
      exact ⟨⟨x, rfl, (peq_eqv q).1⟩, fun m y hm => absurd hm (Nat.not_lt_zero _)⟩
    · rename_i q
      split at h
      · rename_i k hk
        cases h
        obtain ⟨⟨y, e, f⟩, g⟩ := pidx_spec hk
        refine ⟨⟨y, by simpa using e, f⟩, fun m z hm hz => ?_⟩
        cases m with
        | zero => simp at hz; rw [← hz]; exact (peq_eqv q).1
        | succ m => exact g m z (Nat.lt_of_succ_lt_succ hm) (by simpa using hz)
      · cases h
    · cases h
noncomputable def eindex (i : Nat) (d : DE) : DE := fun ρ => match bvar i ρ with
  | some l => (match d ρ with
    | some v => (match shal v, allShal l with
      | true, true => (match pidx v l with
        | some j => (match Nat.blt l.length 1048576 with | true => some (.int (.ofNat j)) | false => none)
        | none => none)
      | _, _ => none)
    | none => none)
  | _ => none
theorem SimE.index {x : Str} {p ap cp : Pos} {e : Expr} {d : DE} {i : Nat} (hx : nm[i]? = some (some x)) (hd : (x == ("__debug__" : Str)) = false) (hcd : (x == ("__classdict__" : Str)) = false)
    (k : SimE U n sc nm e d) (hline : (ap.endLine == cp.line) = true)
    (hst : ∀ env, starEach [e] env = [(false, eval e env)] := by intro _; with_unfolding_all rfl) :
    SimE U n sc nm (.Call (.Attribute (.Name x p) "index" ap) [e] [] cp) (eindex i d) := by
  intro A env E s h₀ Xc X ρ r Q hA hV hS hc h
  unfold eindex at hc
  split at hc
  · rename_i l hl
    split at hc
    · rename_i v hv
      split at hc
      · rename_i hsh hal
        split at hc
        · rename_i j hj
          split at hc
          · rename_i q
            rw [Nat.blt_eq] at q
            cases hc
            obtain ⟨m, σ, S⟩ := id hS
            obtain ⟨a, vs, k1, dd, sl, ha, g, hdn, rl⟩ : ∃ a vs k dd sl, σ i = some (.ref a) ∧ s.heap.get? a = some ⟨.type "list", dd, .seq vs k, sl⟩ ∧ dd = Option.none ∧ RepL X s.heap vs.toList l := by
              unfold bvar at hl
              split at hl
              · rename_i l' hq
                cases hl
                obtain ⟨a, vs, k1, ha, xa, g, rl⟩ := own_at S hx hq
                exact ⟨a, vs, k1, Option.none, #[], ha, g, rfl, rl⟩
              · rename_i l' hq
                cases hl
                have S0 := S.sl i x hx
                rw [hq] at S0
                obtain ⟨val, e, r⟩ := S0
                cases r with
                | @list a o vs k _ na g c d r =>
                  obtain ⟨oc, od, odt, osl⟩ := o
                  obtain ⟨c1, c2, _⟩ := c
                  simp only at c1 c2 d
                  subst c1 c2 d
                  exact ⟨a, vs, k, Option.none, osl, e, g, rfl, r⟩
              · cases hl
            subst hdn
            refine wpAny_Call_method (T := "list") (id := "list.index") rfl (by rw [hst]; rfl) hline PySem.F.plainAttrs_list PySem.F.slot_list_index (by kernel_rfl) ?_
            refine wpAny_Name (load_name hV S.ns (S.at' i x _ hx ha) hcd ⟨⟨_, g, rfl⟩, (fun b e => by cases e; exact ⟨_, g, rfl⟩), ?_⟩) hd
            rw [hst]
            refine seqMethod1_meets PySem.F.slot_list_index PySem.F.entry_list_index ?_
            refine k A env E s h₀ Xc X ρ v _ hA hV hS hv fun val h1 t1 x1 r1 => ?_
            have rl1 := rl.ext (x1.toO X)
            have n1 := rl.length
            rw [Array.length_toList] at n1
            obtain ⟨⟨y, hy, ey⟩, no⟩ := pidx_spec hj
            have hjl : j < l.length := (List.getElem?_eq_some_iff.mp hy).1
            have cl := allShal_clean hal
            have c1 := shal_clean hsh
            obtain ⟨as, ra⟩ := rl1.reads cl
            obtain ⟨bs, rb⟩ := r1.reads c1
            have hread : ∀ (m : Nat) (hm : m < vs.size) (z : PyData), l[m]? = some z → SeqAt.readOf h1 vs[m] = z := fun m hm z hz => by
              obtain ⟨w, hw, rw'⟩ := rl1.get hz
              have hw' : vs[m] = w := by
                have : vs[m]? = some w := by simpa using hw
                exact (Array.getElem?_eq_some_iff.mp this).2
              rw [hw']
              have cz := PyData.canLay0_of_mem _ _ cl (List.mem_of_getElem? hz)
              obtain ⟨_, rz⟩ := rw'.reads cz
              exact SeqAt.readOf_eq cz rz
            refine ⟨⟨_, x1 _ _ g, rfl⟩, PySem.F.args_list_index_2 _ _, _, SeqAt.list_indexAt a vs k1 Option.none sl val (fun y => PyData.eqv (SeqAt.readOf h1 y) v) j (by omega) (by omega) ?_ ?_, x1 _ _ g, ?_, ?_⟩
            · show PyData.eqv (SeqAt.readOf h1 vs[j]) v = true
              rw [hread j (by omega) y hy]; exact ey
            · intro m hm hmj
              show PyData.eqv (SeqAt.readOf h1 vs[m]) v = false
              have hml : m < l.length := by omega
              rw [hread m hm _ (List.getElem?_eq_getElem hml)]
              exact no m _ hmj (List.getElem?_eq_getElem hml)
            · exact SeqAt.items_eqAt (s := { s with heap := h1, toks := t1 }) ra rb cl c1 (by
                have := units64 hA
                have := shal_depth hsh
                omega)
            · exact h _ h1 _ x1 (.int _ _)
          · cases hc
        · cases hc
      · cases hc
    · cases hc
  · cases hc

/-! zip -/
noncomputable def zipItems : List PyData → List PyData → List PyData
  | x :: xs, y :: ys => .tuple [x, y] :: zipItems xs ys
  | _, _ => []
theorem zipItems_get : ∀ (a b : List PyData) (k : Nat), (zipItems a b)[k]? = match a[k]?, b[k]? with | some x, some y => some (.tuple [x, y]) | _, _ => none
  | [], b, k => by simp [zipItems]
  | x :: xs, [], k => by
    simp [zipItems]
  | x :: xs, y :: ys, 0 => by simp [zipItems]
  | x :: xs, y :: ys, k + 1 => by
    rw [zipItems, List.getElem?_cons_succ, zipItems_get xs ys k, List.getElem?_cons_succ, List.getElem?_cons_succ]
theorem Src.zip {ts : List Expr} {k0 : Nat} {tp : Pos} {z TI TO i1 i2 l1 l2 : Addr} (D : ZipApart z TI TO i1 i2 l1 l2) {xs ys : List PyData} (src : AS → Heap → Prop)
    (hsrc : ∀ X h, src X h → (∃ vs, h.IsList l1 vs ∧ RepL X h vs.toList xs) ∧ (∃ vs, h.IsList l2 vs ∧ RepL X h vs.toList ys) )
    (se : ∀ Y h h', src Y h → Ext h h' → src Y h') (sg : ∀ Y Z h, src Y h → Grow Y Z h → src Z h) :
    Src U false (.Tuple ts k0 tp) (.ref z) (zipItems xs ys) (fun b => b = z ∨ b = TI ∨ b = TO ∨ b = i1 ∨ b = i2)
      (fun k h => IsZip h z TI TO .none ∧ IsPair h TI (.ref i1) (.ref i2) ∧ (∃ a b, IsPair h TO a b) ∧ h.IsListIter i1 l1 k ∧ h.IsListIter i2 l2 k) src where
  jk := fun k h h' ⟨a, b, ⟨c, d, e⟩, ⟨o1, g1, f1⟩, ⟨o2, g2, f2⟩⟩ x => ⟨x _ _ (.inl rfl) a, x _ _ (.inr (.inl rfl)) b, ⟨c, d, x _ _ (.inr (.inr (.inl rfl))) e⟩, ⟨o1, x _ _ (.inr (.inr (.inr (.inl rfl)))) g1, f1⟩, ⟨o2, x _ _ (.inr (.inr (.inr (.inr rfl)))) g2, f2⟩⟩
  jd := fun k h b ⟨a, b', ⟨c, d, e⟩, ⟨o1, g1, f1⟩, ⟨o2, g2, f2⟩⟩ q => by
    rcases q with rfl | rfl | rfl | rfl | rfl
    · exact ⟨_, a, fun e => by cases e⟩
    · exact ⟨_, b', fun e => by cases e⟩
    · exact ⟨_, e, fun e => by cases e⟩
    · exact ⟨_, g1, fun e => by cases e⟩
    · exact ⟨_, g2, fun e => by cases e⟩
  se := se
  sg := sg
  sk := fun e => by cases e
  next := by
    intro A E s X k Q hh hS hX hJ hs h
    obtain ⟨hz, hTI, ⟨a, b, hTO⟩, hi1, hi2⟩ := hJ
    obtain ⟨⟨vs, hl1, r1⟩, ⟨ws, hl2, r2⟩⟩ := hsrc X s.heap hs
    have n1 := r1.length
    have n2 := r2.length
    rw [Array.length_toList] at n1 n2
    rw [zipItems_get] at h
    have ends : (xs[k]? = none ∨ ys[k]? = none) → (∀ h' t', (∀ b o, ¬ (b = z ∨ b = TI ∨ b = TO ∨ b = i1 ∨ b = i2) → s.heap.get? b = some o → h'.get? b = some o) → Q none { s with heap := h', toks := t' }) →
        wpAny (model U.prog U.w) A (pyNext (.ref z)) (fun r s₁ => match r with | none => Q none s₁ | some v => wpAny (model U.prog U.w) A (letOwnedTupleGo (.Tuple ts k0 tp) (.ref z) v) (fun _ s₂ => Q (some v) s₂) E s₁) E s := by
      intro hend hq
      refine wpAny_pyNext_zip_end hh D hz hTI hTO hi1 hi2 hl1 hl2 (hend.imp (fun e => ?_) fun e => ?_) fun h' x => hq h' s.toks fun b o ne g => x b o (fun q => ne (.inl q)) (fun q => ne (.inr (.inr (.inl q)))) (fun q => ne (.inr (.inr (.inr (.inl q))))) (fun q => ne (.inr (.inr (.inr (.inr q))))) g
      · rw [Array.getElem?_eq_none_iff]; have := List.getElem?_eq_none_iff.mp e; omega
      · rw [Array.getElem?_eq_none_iff]; have := List.getElem?_eq_none_iff.mp e; omega
    cases hd : xs[k]? with
    | none => rw [hd] at h; exact ends (.inl hd) h
    | some d =>
      cases hd2 : ys[k]? with
      | none => rw [hd, hd2] at h; exact ends (.inr hd2) h
      | some d2 =>
        rw [hd, hd2] at h
        obtain ⟨w, hw, rw'⟩ := r1.get hd
        obtain ⟨w2, hw2, rw2⟩ := r2.get hd2
        refine wpAny_pyNext_zip_item D hz hTI hTO hi1 hi2 hl1 hl2 (by simpa using hw) (by simpa using hw2) fun h1 a1 a2 a3 a4 a5 a6 hk => ?_
        refine wpAny_letOwnedTupleGo_zip a1 fun h2 z2 s2 => ?_
        have hne : s.heap.objs.size ≠ z := Nat.ne_of_gt (Heap.lt_size hz)
        have out : ∀ b o, ¬ (b = z ∨ b = TI ∨ b = TO ∨ b = i1 ∨ b = i2) → s.heap.get? b = some o → h2.get? b = some o := fun b o ne g =>
          (s2.2 b (fun q => ne (.inl q))).trans (hk b o (fun q => ne (.inl q)) (fun q => ne (.inr (.inr (.inl q)))) (fun q => ne (.inr (.inr (.inr (.inl q))))) (fun q => ne (.inr (.inr (.inr (.inr q))))) g)
        refine h _ h2 _ ⟨z2, (s2.2 _ D.TIz).trans (hk _ _ D.TIz D.TITO D.TIi1 D.TIi2 hTI), ⟨_, _, (s2.2 _ D.TOz).trans a2⟩, a3.extBut s2.extBut D.i1z, a4.extBut s2.extBut D.i2z⟩ ?_ out
        refine .tuple (fun x => ?_) ((s2.2 _ hne).trans a5) rfl rfl (.cons (rw'.ext fun b o nx g => out b o (fun q => nx (hS b q)) g) (.cons (rw2.ext fun b o nx g => out b o (fun q => nx (hS b q)) g) .nil))
        obtain ⟨o, g⟩ := hX _ x
        rw [get_size] at g; cases g

noncomputable def bzip (a b : DL) : DL := fun ρ => match a ρ with | some l => (match b ρ with | some l' => some (zipItems l l') | none => none) | none => none
theorem SimI.zip {e f : Expr} {fp pos tp : Pos} {ts : List Expr} {k0 : Nat} {a b : DL} (ka : SimB U n sc nm e a) (kb : SimB U n sc nm f b) (hk : sc.names.lookup (Str.ofString "zip") = some .globalImplicit)
    (hst : ∀ env rest, starEach (e :: rest) env = (false, eval e env) :: starEach rest env := by intro _ _; with_unfolding_all rfl) (hst2 : Plain1 f := by intro _; with_unfolding_all rfl) :
    SimI U false n sc nm (.Call (.Name "zip" fp) [e, f] [] pos) (.Tuple ts k0 tp) (bzip a b) := by
  intro A env E s h₀ Xc X ρ l Q hA hV hS hd h
  unfold bzip at hd
  split at hd
  · rename_i la hla
    split at hd
    · rename_i lb hlb
      cases hd
      refine callT hV hS.top hk (by decide +kernel) (by decide +kernel) boot_zip (by decide +kernel) (hst env _) (by rw [hst2]; rfl) ?_
      rw [hst, hst2]
      refine spliced_cons (ka A env E s h₀ Xc X ρ _ _ hA hV hS hla fun a1 vs1 h1 t1 x1 g1 r1 => ?_)
      refine spliced_cons (kb A env E _ h₀ Xc X ρ _ _ hA hV (hS.ext' x1) hlb fun a2 vs2 h2 t2 x2 g2 r2 => spliced_nil ?_)
      have g1' : h2.IsList a1 vs1 := let ⟨o, p, q⟩ := g1; ⟨o, x2 _ _ p, q⟩
      refine call_zip_2 g1' g2 fun h3 z3 p3 q3 i3 j3 sz3 x3 => wpAny_pyIter_zip z3 ?_
      have l1 : a1 < h2.objs.size := let ⟨o, p, _⟩ := g1'; Heap.lt_size p
      have l2 : a2 < h2.objs.size := let ⟨o, p, _⟩ := g2; Heap.lt_size p
      have D : ∀ k a1 a2 : Nat, a1 < k → a2 < k → ZipApart (k + 4) (k + 2) (k + 3) k (k + 1) a1 a2 := fun k a1 a2 l1 l2 => by
        constructor <;> first | exact Nat.ne_of_lt (by omega) | exact Nat.ne_of_gt (by omega)
      have D := D _ _ _ l1 l2
      refine h _ _ _ (fun Y hh => (hh.IsList a1 vs1 ∧ RepL Y hh vs1.toList la) ∧ (hh.IsList a2 vs2 ∧ RepL Y hh vs2.toList lb)) h2 _ t2
        (Src.zip D _ (fun X h q => ⟨⟨vs1, q.1⟩, ⟨vs2, q.2⟩⟩) (fun Y h h' q x => ⟨⟨let ⟨o, g, c⟩ := q.1.1; ⟨o, x _ _ g, c⟩, q.1.2.ext (x.toO Y)⟩, ⟨let ⟨o, g, c⟩ := q.2.1; ⟨o, x _ _ g, c⟩, q.2.2.ext (x.toO Y)⟩⟩)
          (fun Y Z h q g => ⟨⟨q.1.1, q.1.2.grow g⟩, ⟨q.2.1, q.2.2.grow g⟩⟩))
        (x1.trans x2) x3 (fun b e => by rcases e with rfl | rfl | rfl | rfl | rfl <;> exact get_ge (by omega)) ⟨z3, p3, ⟨_, _, q3⟩, i3, j3⟩ ⟨⟨g1', r1.ext (x2.toO X)⟩, ⟨g2, r2⟩⟩ fun A E s Q k j q => wpAny_pyIter_zip j.1 q
    · cases hd
  · cases hd
end

/-! A17 -/

noncomputable def intsOf : List PyData → Option (List Int)
  | [] => some []
  | .int i :: r => match intsOf r with | some l => some (i :: l) | none => none
  | _ => none
noncomputable def lieq : List Int → List Int → Bool
  | [], [] => true
  | x :: xs, y :: ys => match ieqb x y with | true => lieq xs ys | false => false
  | _, _ => false
theorem lieq_eq : ∀ (a b : List Int), lieq a b = decide (a = b)
  | [], [] => rfl
  | [], _ :: _ => by simp [lieq]
  | _ :: _, [] => by simp [lieq]
  | x :: xs, y :: ys => by
    unfold lieq
    rw [ieqb_eq]
    by_cases q : x = y
    · rw [decide_eq_true q, lieq_eq xs ys]; simp [q]
    · rw [decide_eq_false q]; simp [q]
noncomputable def klook : List (List Int × Int) → List Int → Option Int
  | [], _ => none
  | (k', v) :: r, k => match lieq k' k with | true => some v | false => klook r k
noncomputable def kmap (k : List Int) (v : Int) : List (List Int × Int) → List (List Int × Int)
  | [] => []
  | (k', v') :: r => (match lieq k' k with | true => (k', v) | false => (k', v')) :: kmap k v r
noncomputable def kput (l : List (List Int × Int)) (k : List Int) (v : Int) : List (List Int × Int) := match klook l k with
  | some _ => kmap k v l
  | none => l ++ [(k, v)]

noncomputable abbrev KV := List Int × Addr × Value
noncomputable def kv (x : KV) : List Int × Int := (x.1, intV x.2.2)
theorem klook_atKey (k : List Int) : ∀ (xs : List KV), klook (xs.map kv) k = (atKey xs k).map fun p => intV p.2
  | [] => rfl
  | x :: r => by
    rw [List.map_cons]
    unfold klook kv
    dsimp only
    rw [lieq_eq]
    unfold atKey
    rw [List.find?_cons]
    by_cases q : x.1 = k
    · rw [decide_eq_true q]; rfl
    · rw [decide_eq_false q]
      exact klook_atKey k r
theorem kmap_put (k : List Int) (i : Int) (t : Tok) : ∀ (xs : List KV), (xs.map (putAt k (.int i t))).map kv = kmap k i (xs.map kv)
  | [] => rfl
  | x :: r => by
    rw [List.map_cons, List.map_cons, List.map_cons, kmap_put k i t r]
    show kv (putAt k (.int i t) x) :: _ = (match lieq x.1 k with | true => (x.1, i) | false => (x.1, intV x.2.2)) :: kmap k i (r.map kv)
    rw [lieq_eq]
    unfold putAt
    by_cases q : x.1 = k
    · rw [decide_eq_true q, if_pos q]; rfl
    · rw [decide_eq_false q, if_neg q]; rfl
theorem kput_stored (k : List Int) (a : Addr) (i : Int) (t : Tok) (xs : List KV) : (storedH xs k a (.int i t)).map kv = kput (xs.map kv) k i := by
  unfold kput storedH
  rw [klook_atKey]
  cases hq : atKey xs k with
  | some p => exact kmap_put k i t xs
  | none => simp [kv, intV]

section
variable {U : Uni} {n : Nat} {sc : Scope} {nm : Nm}

theorem items_of {X : AS} {h : Heap} : ∀ {vs : List Value} {xs : List PyData} {ks : List Int}, RepL X h vs xs → intsOf xs = some ks → ItemsAre (intKind U.prog U.w) ks vs
  | _, _, _, .nil, e => by cases e; exact .nil
  | _, _, _, .cons a b, e => by
    unfold intsOf at e
    split at e
    · rename_i q; cases q
    · rename_i i r q
      cases q
      split at e
      · rename_i l hl
        cases e
        cases a
        exact .cons (by simp [intKind, Value.isInt]) (items_of b hl)
      · cases e
    · cases e
theorem Rep.key {X : AS} {h : Heap} {v : Value} {xs : List PyData} {ks : List Int} (r : Rep X h v (.tuple xs)) (e : intsOf xs = some ks) : ∃ a, v = .ref a ∧ ¬ X a ∧ (tupleKind (intKind U.prog U.w)).is h ks a := by
  cases r with
  | tuple na g c d r => exact ⟨_, rfl, na, _, _, _, g, c, d, items_of r e⟩

theorem StC.mutk {h₀ h h' : Heap} {Xc X : AS} {env : Env} {ρ : Store} {m : Str → Option Value} {σ : Nat → Option Value} (S : StC U h₀ Xc env nm X h ρ m σ) {i : Nat} {x : Str} {l l' : List (List Int × Int)} {a : Addr} (hx : nm[i]? = some (some x)) (hl : sget ρ i = .k l)
    (ha : σ i = some (.ref a)) (hs : Heap.SameBut a h h') (g : DictAt U X h' a l') :
    StC U h₀ Xc env nm X h' (sset ρ i (.k l')) m σ := by
  have S0 := S.sl i x hx
  rw [hl] at S0
  obtain ⟨a', e0, xa, fa, ga⟩ := S0
  rw [ha] at e0; cases e0
  have hout : ExtO X h h' := sameBut_out hs xa
  have hL : env.locals ≠ a := fun q => S.kd i x a l hx hl ha q.symm
  obtain ⟨o0, es0, ep0, g0, d0⟩ := ga.data
  have hcel : ∀ {c v}, h.IsCell c v → c ≠ a := by
    rintro c v ⟨o, ho, hd⟩ rfl
    rw [g0] at ho; cases ho; rw [d0] at hd; cases hd
  obtain ⟨o1, es1, ep1, g1, d1⟩ := g.data
  exact {
    base := S.base
    ext := ext_same hs S.ext fa
    xcin := S.xcin
    sub := S.sub
    xin := xin_same hs ⟨_, g1⟩ S.xin
    xnew := S.xnew
    ns := S.ns.sameBut hs hL
    xl := S.xl
    ln := S.ln
    cel := fun y c e => let ⟨p, q, v, d⟩ := S.cel y c e; ⟨p, q, v, d.sameBut hs (hcel d)⟩
    capt := S.capt
    at' := fun j y v p q => (S.at' j y v p q).imp id fun ⟨k, c, e, d⟩ => ⟨k, c, e, d.sameBut hs (hcel d)⟩
    sl := fun j y hy => by
      rw [sget_sset]
      split
      · rename_i hj; subst hj
        exact ⟨a, ha, xa, fa, g⟩
      · rename_i hj
        have q := S.sl j y hy
        revert q
        cases hq : sget ρ j with
        | u => intro _; trivial
        | v d => rintro ⟨v, e, r⟩; exact ⟨v, e, r.ext hout⟩
        | o l2 =>
          rintro ⟨b, vs, n, e, x, f, gb, r⟩
          have hb : b ≠ a := by
            rintro rfl
            rw [g0] at gb; cases gb; cases d0
          exact ⟨b, vs, n, e, x, f, (hs.2 b hb).trans gb, r.ext hout⟩
        | k l2 =>
          rintro ⟨b, e, x, f, gd⟩
          refine ⟨b, e, x, f, gd.keep (fun o q => (hs.2 b ?_).trans q) hout⟩
          rintro rfl
          exact hj (S.ow j i y _ b hy hx e ha (by rw [hq]; rfl) (by rw [hl]; rfl))
    kd := fun j y b l2 hy hq e => by
      rw [sget_sset] at hq
      split at hq
      · rename_i hj; subst hj
        rw [ha] at e; cases e
        exact fun q => hL q.symm
      · exact S.kd j y b l2 hy hq e
    ow := fun j k y z b hy hz ey ez oy oz => S.ow j k y z b hy hz ey ez
      (own_set (fun e => by rw [e, hl]; rfl) oy) (own_set (fun e => by rw [e, hl]; rfl) oz) }

theorem own_k {h₀ h : Heap} {Xc X : AS} {env : Env} {ρ : Store} {m : Str → Option Value} {σ : Nat → Option Value} {i : Nat} {x : Str} {l : List (List Int × Int)}
    (S : StC U h₀ Xc env nm X h ρ m σ) (hx : nm[i]? = some (some x)) (hl : sget ρ i = .k l) : ∃ a, σ i = some (.ref a) ∧ X a ∧ DictAt U X h a l := by
  have S0 := S.sl i x hx
  rw [hl] at S0
  obtain ⟨a, e, xa, _, g⟩ := S0
  exact ⟨a, e, xa, g⟩
theorem room {A : Around} (h : AOK n A) : (tupleKind (intKind U.prog U.w)).room A.in1 := tupleKind_room_in1 (by have := h.2.2; unfold cLine; omega)

/-! small[key] = value -/
noncomputable def csetk (i : Nat) (j v : DE) : C := fun ρ => match v ρ with
  | some (.int w) => (match j ρ with
    | some (.tuple xs) => (match intsOf xs with
      | some ks => (match sget ρ i with
        | .k l => (match Nat.blt l.length 1048576 with
          | true => some (.nx (sset ρ i (.k (kput l ks w))))
          | false => none)
        | _ => none)
      | none => none)
    | _ => none)
  | _ => none
theorem Sim1.setk {x : Str} {p sp pos : Pos} {e ix : Expr} {v j : DE} {i : Nat} (hx : nm[i]? = some (some x)) (hd : (x == ("__debug__" : Str)) = false) (hcd : (x == ("__classdict__" : Str)) = false)
    (kv' : SimE U n sc nm e v) (kj : SimE U n sc nm ix j)
    (hs : ∀ env, swapsWith e (some (.Subscript (.Name x p) ix sp)) pos.line env = pure false := by intro _; with_unfolding_all rfl) :
    Sim1 U n sc nm (.Assign [.Subscript (.Name x p) ix sp] e pos) (csetk i j v) := by
  intro A env E s h₀ Xc X ρ r Q hA hV N hS hc h
  unfold csetk at hc
  split at hc
  · rename_i w hw
    split at hc
    · rename_i xs hk
      split at hc
      · rename_i ks hks
        split at hc
        · rename_i l hl
          split at hc
          · rename_i q
            rw [Nat.blt_eq] at q
            cases hc
            obtain ⟨m, σ, S⟩ := id hS
            obtain ⟨a, ha, xa, g⟩ := own_k S hx hl
            refine wpAny_Assign_Subscript (kv' A env E s h₀ Xc X ρ _ _ hA hV hS hw fun v1 h1 t1 x1 r1 => ?_) (hs env)
            cases r1
            have S1 := S.ext' x1
            refine wpAny_Name (load_name hV S1.ns (S1.at' i x _ hx ha) hcd ?_) hd
            refine kj A env E _ h₀ Xc X ρ _ _ hA hV ⟨m, σ, S1⟩ hk fun v2 h2 t2 x2 r2 => ?_
            obtain ⟨ka, rfl, nka, key⟩ := r2.key (U := U) hks
            have S2 := S1.ext' x2
            obtain ⟨a', ha', _, g2⟩ := own_k S2 hx hl
            rw [ha] at ha'; cases ha'
            obtain ⟨sm, zs, hD, hlz, hvs⟩ := g2
            refine wpAny_setItem_heap (room hA) key hD (fun h3 hD3 hs3 => ?_) (by rw [sizeLine_eq]; have : l.length = zs.length := by rw [hlz]; simp
                                                                                  omega)
            obtain ⟨o3, es3, ep3, ho3, _, hd3, _⟩ := id hD3
            obtain ⟨o2, es2, ep2, ho2, _, hd2, _⟩ := id hD
            have hpost := S2.mutk hx hl ha hs3 (l' := kput l ks w) ⟨sm, _, hD3, by rw [hlz]; exact (kput_stored ks ka w _ zs).symm, fun y hy => ?_⟩
            · exact h X _ _ ⟨m, σ, hpost⟩ ((Keeps.ext (x1.trans x2)).trans (Keeps.same hs3 xa fun o fs e q => by rw [ho2] at e; cases e; rw [hd2] at q; cases q))
            · unfold storedH at hy
              split at hy
              · obtain ⟨z, hz, rfl⟩ := List.mem_map.mp hy
                unfold putAt
                split
                · exact ⟨(hvs z hz).1, _, _, rfl⟩
                · exact hvs z hz
              · rcases List.mem_append.mp hy with hy | hy
                · exact hvs y hy
                · rw [List.mem_singleton.mp hy]
                  exact ⟨nka, _, _, rfl⟩
          · cases hc
        · cases hc
      · cases hc
    · cases hc
  · cases hc

/-! small.get(key, default) -/
noncomputable def kgetD (l : List (List Int × Int)) (k : List Int) (y : Int) : Int := match klook l k with | some z => z | none => y
noncomputable def egetk (i : Nat) (j v : DE) : DE := fun ρ => match sget ρ i with
  | .k l => (match j ρ with
    | some (.tuple xs) => (match intsOf xs with
      | some ks => (match v ρ with
        | some (.int y) => some (.int (kgetD l ks y))
        | _ => none)
      | none => none)
    | _ => none)
  | _ => none
theorem SimE.getk {x : Str} {p ap cp : Pos} {e f : Expr} {j v : DE} {i : Nat} (hx : nm[i]? = some (some x)) (hd : (x == ("__debug__" : Str)) = false) (hcd : (x == ("__classdict__" : Str)) = false)
    (kj : SimE U n sc nm e j) (kv' : SimE U n sc nm f v) (hline : (ap.endLine == cp.line) = true)
    (hst : ∀ env, starEach [e, f] env = [(false, eval e env), (false, eval f env)] := by intro _; with_unfolding_all rfl)
    : SimE U n sc nm (.Call (.Attribute (.Name x p) "get" ap) [e, f] [] cp) (egetk i j v) := by
  intro A env E s h₀ Xc X ρ r Q hA hV hS hc h
  unfold egetk at hc
  split at hc
  · rename_i l hl
    split at hc
    · rename_i xs hk
      split at hc
      · rename_i ks hks
        split at hc
        · rename_i y hy
          cases hc
          obtain ⟨m, σ, S⟩ := id hS
          obtain ⟨a, ha, xa, g⟩ := own_k S hx hl
          obtain ⟨sm, zs, hD, hlz, hvs⟩ := id g
          refine wpAny_Call_method (T := "dict") (id := "dict.get") rfl (by rw [hst]; rfl) hline PySem.F.plainAttrs_dict PySem.F.slot_dict_get (by kernel_rfl) ?_
          refine wpAny_Name (load_name hV S.ns (S.at' i x _ hx ha) hcd ⟨hD.typeIs, dictOfH_noDict hD, ?_⟩) hd
          rw [hst]
          show wpAny _ A (callWith cp (.builtin "dict.get") [.ref a] (backTo cp [(false, eval e env), (false, eval f env)]) []) _ _ _
          refine wpAny_dict_get2_heap (knd := tupleKind (intKind U.prog U.w)) (room hA) sm ?_
          refine kj A env E s h₀ Xc X ρ _ _ hA hV hS hk fun v1 h1 t1 x1 r1 => ?_
          refine kv' A env E _ h₀ Xc X ρ _ _ hA hV (hS.ext' x1) hy fun v2 h2 t2 x2 r2 => ?_
          cases r2
          have r1 := r1.ext (x2.toO X)
          obtain ⟨ka, rfl, nka, key⟩ := r1.key (U := U) hks
          obtain ⟨sm2, zs2, hD2, hlz2, hvs2⟩ := g.keep (fun o q => x2 _ _ (x1 _ _ q)) ((x1.trans x2).toO X)
          refine ⟨ka, ks, zs2, rfl, key, hD2, ?_⟩
          have e1 := klook_atKey ks zs2
          rw [show zs2.map kv = l from hlz2.symm] at e1
          unfold kgetD at h
          rw [e1] at h
          cases hq : atKey zs2 ks with
          | none => rw [hq] at h; exact h _ h2 _ (x1.trans x2) (.int _ _)
          | some p =>
            rw [hq] at h
            unfold atKey at hq
            obtain ⟨⟨zk, za, zv⟩, hz, rfl⟩ := Option.map_eq_some_iff.mp hq
            obtain ⟨iz, tz, ez⟩ := (hvs2 _ (List.mem_of_find?_eq_some hz)).2
            have ez : zv = .int iz tz := ez
            subst ez
            exact h _ h2 _ (x1.trans x2) (.int _ _)
        · cases hc
      · cases hc
    · cases hc
  · cases hc

/-! key in small, small[key] -/
noncomputable def tink (j : DE) (i : Nat) : DT := fun ρ => match sget ρ i with
  | .k l => (match j ρ with
    | some (.tuple xs) => (match intsOf xs with
      | some ks => (match klook l ks with | some _ => some true | none => some false)
      | none => none)
    | _ => none)
  | _ => none
theorem Cmp.ink {x : Str} {p : Pos} {e : Expr} {j : DE} {i : Nat} (hx : nm[i]? = some (some x)) (hd : (x == ("__debug__" : Str)) = false) (hcd : (x == ("__classdict__" : Str)) = false)
    (kj : SimE U n sc nm e j) : Cmp U n sc nm .In e (.Name x p) (tink j i) := by
  intro A env E s h₀ Xc X ρ r Q hA hV hS hc h
  unfold tink at hc
  split at hc
  · rename_i l hl
    split at hc
    · rename_i xs hk
      split at hc
      · rename_i ks hks
        obtain ⟨m, σ, S⟩ := id hS
        obtain ⟨a, ha, xa, g⟩ := own_k S hx hl
        refine kj A env E s h₀ Xc X ρ _ _ hA hV hS hk fun v1 h1 t1 x1 r1 => ?_
        have S1 := S.ext' x1
        refine wpAny_Name (load_name hV S1.ns (S1.at' i x _ hx ha) hcd ?_) hd
        obtain ⟨ka, rfl, nka, key⟩ := r1.key (U := U) hks
        obtain ⟨sm2, zs2, hD2, hlz2, hvs2⟩ := g.keep (fun o q => x1 _ _ q) (x1.toO X)
        refine wpAny_in_heap (room hA) key sm2 hD2 ?_
        have e1 := klook_atKey ks zs2
        rw [show zs2.map kv = l from hlz2.symm] at e1
        rw [e1] at hc
        cases hq : atKey zs2 ks with
        | none => rw [hq] at hc; cases hc; exact h h1 _ x1
        | some p => rw [hq] at hc; cases hc; exact h h1 _ x1
      · cases hc
    · cases hc
  · cases hc
noncomputable def ekidx (i : Nat) (j : DE) : DE := fun ρ => match sget ρ i with
  | .k l => (match j ρ with
    | some (.tuple xs) => (match intsOf xs with
      | some ks => (match klook l ks with | some z => some (.int z) | none => none)
      | none => none)
    | _ => none)
  | _ => none
theorem SimE.kidx {x : Str} {p pos : Pos} {e : Expr} {j : DE} {i : Nat} (hx : nm[i]? = some (some x)) (hd : (x == ("__debug__" : Str)) = false) (hcd : (x == ("__classdict__" : Str)) = false)
    (kj : SimE U n sc nm e j) (hs : ∀ o v, subscripted e false o v = operate [o, v] (getItem o v) := by intro _ _; with_unfolding_all rfl) : SimE U n sc nm (.Subscript (.Name x p) e pos) (ekidx i j) := by
  intro A env E s h₀ Xc X ρ r Q hA hV hS hc h
  unfold ekidx at hc
  split at hc
  · rename_i l hl
    split at hc
    · rename_i xs hk
      split at hc
      · rename_i ks hks
        obtain ⟨m, σ, S⟩ := id hS
        obtain ⟨a, ha, xa, g⟩ := own_k S hx hl
        refine Subscript_ (wpAny_Name (load_name hV S.ns (S.at' i x _ hx ha) hcd ?_) hd)
        refine kj A env E s h₀ Xc X ρ _ _ hA hV hS hk fun v1 h1 t1 x1 r1 => ?_
        obtain ⟨ka, rfl, nka, key⟩ := r1.key (U := U) hks
        obtain ⟨sm2, zs2, hD2, hlz2, hvs2⟩ := g.keep (fun o q => x1 _ _ q) (x1.toO X)
        have e1 := klook_atKey ks zs2
        rw [show zs2.map kv = l from hlz2.symm] at e1
        rw [e1] at hc
        cases hq : atKey zs2 ks with
        | none => rw [hq] at hc; cases hc
        | some p =>
          rw [hq] at hc; cases hc
          refine tail_any hD2.typeIs slot_dict_getitem.lookup (wpAny_getItem_heap (room hA) key hD2 hq ?_) (hs _ _)
          unfold atKey at hq
          obtain ⟨⟨zk, za, zv⟩, hz, rfl⟩ := Option.map_eq_some_iff.mp hq
          obtain ⟨iz, tz, ez⟩ := (hvs2 _ (List.mem_of_find?_eq_some hz)).2
          have ez : zv = .int iz tz := ez
          subst ez
          exact h _ h1 _ x1 (.int _ _)
      · cases hc
    · cases hc
  · cases hc

/-! {} beside others -/
noncomputable def slk (b : Store → Option (List Slot)) : Store → Option (List Slot) := fun ρ => match b ρ with | some l => some (.k [] :: l) | none => none
theorem SimSl.consk {p : Pos} {es : List Expr} {b : Store → Option (List Slot)} (k' : SimSl U n sc nm es b)
    (hst : ∀ env rest, starEach (.Dict [] [] p :: rest) env = (false, eval (.Dict [] [] p) env) :: starEach rest env := by intro _ _; with_unfolding_all rfl) : SimSl U n sc nm (.Dict [] [] p :: es) (slk b) := by
  intro pos A env E s h₀ Xc X ρ l Q hA hV hS hd h
  unfold slk at hd
  split at hd
  · rename_i l' hl
    cases hd
    rw [hst]
    show wpAny _ _ (spliced ((false, eval (.Dict [] [] p) env) :: backTo pos (starEach es env))) _ _ _
    refine spliced_cons (wpAny_Dict_empty ?_)
    obtain ⟨m, σ, S⟩ := hS
    have fD : s.heap.get? s.heap.objs.size = none := get_size _
    have x1 : Ext s.heap (s.heap.push { cls := .type "dict", data := .dict #[] }) := Ext.push _ _
    have gD : (s.heap.push { cls := .type "dict", data := .dict #[] }).get? s.heap.objs.size = some _ := Heap.get?_push_size _ rfl
    have big : (s.heap.objs.size == sysModules) = false := by
      obtain ⟨o, _, _, g, _⟩ := U.g
      have g' := (S.base.trans S.ext) _ _ g
      have := Heap.lt_size g'
      have h2 : sysModules ≤ mainGlobals := by decide
      simp only [beq_eq_false_iff_ne, ne_eq]
      exact Nat.ne_of_gt (Nat.lt_of_le_of_lt h2 this)
    have dk : DictAt U (XA X s.heap.objs.size) (s.heap.push { cls := .type "dict", data := .dict #[] }) s.heap.objs.size [] := ⟨big, [], Heap.DictOfH.new _, rfl, fun x hx => by cases hx⟩
    have S1 := S.alloc x1 (XA.grow fD) fun b y => by
      rcases y with y | rfl
      · obtain ⟨o, e⟩ := S.xin b y; exact ⟨o, x1 _ _ e⟩
      · exact ⟨_, gD⟩
    refine k' pos A env E _ h₀ Xc _ ρ l' _ hA hV ⟨m, σ, S1⟩ hl fun zs Y h2 t2 x2 g2 y2 s2 e2 => ?_
    refine h ((.ref s.heap.objs.size, .k []) :: zs) Y h2 t2 (x1.trans x2) ⟨fun b q => g2.1 b (.inl q), fun b q => ?_⟩ y2 ⟨fun z mz => ?_, List.pairwise_cons.mpr ⟨fun w mw _ o q => ?_, s2.ap⟩⟩ (by rw [List.map_cons, e2])
    · rcases g2.2 b q with q | q
      · rcases q with q | rfl
        · exact .inl q
        · exact .inr fD
      · exact .inr (x1.none q)
    · rcases List.mem_cons.mp mz with rfl | mz
      · exact ⟨⟨_, rfl, g2.1 _ (.inr rfl), S.ext.none fD, (dk.mono fun b o y q => (g2.2 b y).resolve_right (by rw [q]; exact fun z => by cases z)).keep (fun o q => x2 _ _ q) (x2.toO Y)⟩, fun _ => ⟨_, rfl, fD⟩⟩
      · exact ⟨(s2.ok z mz).1, fun o => let ⟨a, e, f⟩ := (s2.ok z mz).2 o; ⟨a, e, x1.none f⟩⟩
    · obtain ⟨a, e, f⟩ := (s2.ok w mw).2 o
      have q' : Value.ref s.heap.objs.size = w.1 := q
      rw [e] at q'
      cases q'
      have f' : (s.heap.push { cls := .type "dict", data := .dict #[] }).get? s.heap.objs.size = none := f
      rw [gD] at f'
      cases f'
  · cases hd
end

/-! B0 -/
noncomputable abbrev FN := List PyData → Option PyData
theorem mem_dr {k : Nat} (h : (drs[k]?).isSome = true) : dr k ∈ drs := by
  obtain ⟨d, e⟩ := Option.isSome_iff_exists.mp h
  unfold dr
  rw [e]
  exact List.mem_of_getElem? e
noncomputable abbrev Us (U : Uni) : Prop := ∀ d ∈ drs, d ∈ U.recs
structure Cal (U : Uni) (k : Nat) (f : Str) : Prop where
  mem : dr k ∈ U.recs
  name : (dr k).name = f
  nd : (f == ("__debug__" : Str)) = false

noncomputable abbrev NmD (nm : Nm) : Prop := ∀ (i : Nat) (x : Str), nm[i]? = some (some x) → (x == ("__debug__" : Str)) = false ∧ (x == ("__classdict__" : Str)) = false
noncomputable abbrev NmK (sc : Scope) (nm : Nm) : Prop := ∀ (i : Nat) (x : Str), nm[i]? = some (some x) → NameKindOK sc x
noncomputable def okNm (nm : Nm) : Bool := nm.all fun o => match o with | some x => !(x == ("__debug__" : Str)) && !(x == ("__classdict__" : Str)) | none => true
theorem okNm_spec {nm : Nm} (h : okNm nm = true) : NmD nm := by
  intro i x e
  have := List.all_eq_true.mp h (some x) (List.mem_of_getElem? e)
  simpa using this
noncomputable def okFn (sc : Scope) (nm : Nm) : Bool := nm.all fun o => match o with | some x => sc.names.lookup x == some .local || sc.names.lookup x == some .cell | none => true
theorem okFn_spec {sc : Scope} {nm : Nm} (h : okFn sc nm = true) : NmK sc nm := by
  intro i x e
  have := List.all_eq_true.mp h (some x) (List.mem_of_getElem? e)
  simpa [NameKindOK] using this

theorem Sim1.swapR {U : Uni} {n : Nat} {sc : Scope} {nm : Nm} {ts vs : List Expr} {k0 k1 : Nat} {tp vp pos : Pos} {names rn : List Str} {is : List Nat} {d : Store → Option (List Slot)} (hr : names.reverse = rn) (k : SimSl U n sc nm vs d) (hn : StrsAt nm sc rn is)
    (hw : swappedStores [.Tuple ts k0 tp] (.Tuple vs k1 vp) (env0 sc) = pure (some names)) (hl3 : names.length ≤ 16 := by decide)
    (hs : ∀ env, swapsWithSole [.Tuple ts k0 tp] (.Tuple vs k1 vp) pos.line env = pure false := by intro _; with_unfolding_all rfl) :
    Sim1 U n sc nm (.Assign [.Tuple ts k0 tp] (.Tuple vs k1 vp) pos) (cslots is (slrev d)) := Sim1.swap k (hr ▸ hn) hw hl3 hs
theorem len1 {P : List Value → Prop} (h : ∀ a, P [a]) : ∀ v, v.length = 1 → P v
  | [a], _ => h a
theorem len2 {P : List Value → Prop} (h : ∀ a b, P [a, b]) : ∀ v, v.length = 2 → P v
  | [a, b], _ => h a b
theorem len3 {P : List Value → Prop} (h : ∀ a b c, P [a, b, c]) : ∀ v, v.length = 3 → P v
  | [a, b, c], _ => h a b c
theorem len4 {P : List Value → Prop} (h : ∀ a b c d, P [a, b, c, d]) : ∀ v, v.length = 4 → P v
  | [a, b, c, d], _ => h a b c d
theorem len5 {P : List Value → Prop} (h : ∀ a b c d e, P [a, b, c, d, e]) : ∀ v, v.length = 5 → P v
  | [a, b, c, d, e], _ => h a b c d e

noncomputable def cfail : C := fun _ => none
section
variable {U : Uni} {n : Nat} {sc : Scope} {nm : Nm}
theorem Sim1.fail {st : Stmt} : Sim1 U n sc nm st cfail := by
  intro A env E s h₀ Xc X ρ r Q hA hV N hS hc h
  cases hc
theorem Cal.of {k : Nat} {f : Str} {ps : List Str} {c : C} (L : Cal U k f) (hb : entB (dr k).scope ps nm = true)
    (hbind : ∀ pm cd doc (vals : List Value), vals.length = ps.length → bindArgs (docDef (dr k).name (dr k).params (dr k).body (dr k).scope pm cd doc) ⟨vals, []⟩ = pure (ps.zip vals))
    (K : SimS U n (dr k).scope nm (dr k).body c) : CallOK U f (n + 1) (runArgs ps.length c) := L.name ▸ CallOK.of L.mem hb hbind K
theorem SimE.callN {k : Nat} {f : Str} {fp pos : Pos} {e : Expr} {es : List Expr} {F : FN} {d : DL} {m : Nat} (L : Cal U k f) (kf : CallOK U f m F) (ka : SimL U n sc nm (e :: es) d) (hm : m ≤ n)
    (hk : sc.names.lookup f = some .globalImplicit) (hst : ∀ env, starEach (e :: es) env = (false, eval e env) :: starEach es env := by intro _; with_unfolding_all rfl) :
    SimE U n sc nm (.Call (.Name f fp) (e :: es) [] pos) (ecall F d) := SimE.call kf ka hm L.mem L.name hk L.nd hst
theorem SimE.vr {x : Str} {pos : Pos} {i : Nat} (D : NmD nm) (hx : nm[i]? = some (some x)) : SimE U n sc nm (.Name x pos) (evar i) := SimE.name hx (D i x hx).1 (D i x hx).2
theorem SimB.vr {x : Str} {pos : Pos} {i : Nat} (D : NmD nm) (hx : nm[i]? = some (some x)) : SimB U n sc nm (.Name x pos) (bvar i) := SimB.name hx (D i x hx).1 (D i x hx).2
theorem SimE.indexN {x : Str} {p ap cp : Pos} {e : Expr} {d : DE} {i : Nat} (D : NmD nm) (hx : nm[i]? = some (some x)) (k : SimE U n sc nm e d) (hline : (ap.endLine == cp.line) = true)
    (hst : ∀ env, starEach [e] env = [(false, eval e env)] := by intro _; with_unfolding_all rfl) :
    SimE U n sc nm (.Call (.Attribute (.Name x p) "index" ap) [e] [] cp) (eindex i d) := SimE.index hx (D i x hx).1 (D i x hx).2 k hline hst
theorem SimE.kidxN {x : Str} {p pos : Pos} {e : Expr} {j : DE} {i : Nat} (D : NmD nm) (hx : nm[i]? = some (some x)) (kj : SimE U n sc nm e j)
    (hs : ∀ o v, subscripted e false o v = operate [o, v] (getItem o v) := by intro _ _; with_unfolding_all rfl) : SimE U n sc nm (.Subscript (.Name x p) e pos) (ekidx i j) := SimE.kidx hx (D i x hx).1 (D i x hx).2 kj hs
theorem Cmp.inkN {x : Str} {p : Pos} {e : Expr} {j : DE} {i : Nat} (D : NmD nm) (hx : nm[i]? = some (some x)) (kj : SimE U n sc nm e j) : Cmp U n sc nm .In e (.Name x p) (tink j i) := Cmp.ink hx (D i x hx).1 (D i x hx).2 kj
theorem SimE.getkN {x : Str} {p ap cp : Pos} {e f : Expr} {j v : DE} {i : Nat} (D : NmD nm) (hx : nm[i]? = some (some x))
    (kj : SimE U n sc nm e j) (kv' : SimE U n sc nm f v) (hline : (ap.endLine == cp.line) = true)
    (hst : ∀ env, starEach [e, f] env = [(false, eval e env), (false, eval f env)] := by intro _; with_unfolding_all rfl) :
    SimE U n sc nm (.Call (.Attribute (.Name x p) "get" ap) [e, f] [] cp) (egetk i j v) := SimE.getk hx (D i x hx).1 (D i x hx).2 kj kv' hline hst
theorem NamesAt.c {x : Str} {p : Pos} {i : Nat} {es : List Expr} {is : List Nat} (K : NmK sc nm) (hx : nm[i]? = some (some x)) (r : NamesAt false nm sc es is) : NamesAt false nm sc (.Name x p :: es) (i :: is) :=
  .cons hx ((K i x hx).imp id fun e => ⟨rfl, e⟩) r
theorem StrsAt.c {x : Str} {i : Nat} {es : List Str} {is : List Nat} (K : NmK sc nm) (hx : nm[i]? = some (some x)) (r : StrsAt nm sc es is) : StrsAt nm sc (x :: es) (i :: is) :=
  .cons hx ((K i x hx).imp id fun e => ⟨rfl, e⟩) r
theorem AsgOK.vr {x : Str} {p : Pos} {i : Nat} (K : NmK sc nm) (hx : nm[i]? = some (some x)) : AsgOK false U n sc nm (.Name x p) (asgName i) := AsgOK.name hx ((K i x hx).imp id fun e => ⟨rfl, e⟩)
theorem Sim1.asgN {x : Str} {p pos : Pos} {e : Expr} {d : DE} {i : Nat} (K : NmK sc nm) (hx : nm[i]? = some (some x)) (k : SimE U n sc nm e d)
    (hs : ∀ env, swapsWith e (some (.Name x p)) pos.line env = pure false := by intro _; with_unfolding_all rfl) : Sim1 U n sc nm (.Assign [.Name x p] e pos) (cset i d) := Sim1.asg hx (K i x hx) k hs
theorem Sim1.asgoN {x : Str} {p pos : Pos} {e : Expr} {d : DL} {i : Nat} (K : NmK sc nm) (hx : nm[i]? = some (some x)) (k : SimF U n sc nm e d)
    (hs : ∀ env, swapsWith e (some (.Name x p)) pos.line env = pure false := by intro _; with_unfolding_all rfl) : Sim1 U n sc nm (.Assign [.Name x p] e pos) (cseto i d) := Sim1.asgo hx (K i x hx) k hs
theorem Sim1.appendN {x : Str} {p ap cp pos : Pos} {e : Expr} {d : DE} {i : Nat} (D : NmD nm) (hx : nm[i]? = some (some x))
    (k : SimE U n sc nm e d) (hline : (ap.endLine == cp.line) = true) (hi : sc.kind = .function)
    (hst : ∀ env, starEach [e] env = [(false, eval e env)] := by intro _; with_unfolding_all rfl) :
    Sim1 U n sc nm (.Expr (.Call (.Attribute (.Name x p) "append" ap) [e] [] cp) pos) (cappend i d) := Sim1.append hx (D i x hx).1 (D i x hx).2 k hline hi hst
theorem Sim1.popN {x : Str} {p ap cp pos : Pos} {i : Nat} (D : NmD nm) (hx : nm[i]? = some (some x))
    (hline : (ap.endLine == cp.line) = true) (hi : sc.kind = .function) :
    Sim1 U n sc nm (.Expr (.Call (.Attribute (.Name x p) "pop" ap) [] [] cp) pos) (cpop i) := Sim1.pop hx (D i x hx).1 (D i x hx).2 hline hi
theorem Sim1.augN {x : Str} {p pos : Pos} {e : Expr} {d : DE} {i : Nat} (K : NmK sc nm) (D : NmD nm) (hx : nm[i]? = some (some x)) (k : SimE U n sc nm e d) :
    Sim1 U n sc nm (.AugAssign (.Name x p) .Add e pos) (caug i d) := Sim1.aug hx (K i x hx) (D i x hx).2 k
theorem Sim1.setatN {x : Str} {p sp pos : Pos} {e ix : Expr} {v j : DE} {i : Nat} (D : NmD nm) (hx : nm[i]? = some (some x))
    (kv : SimE U n sc nm e v) (kj : SimE U n sc nm ix j)
    (hs : ∀ env, swapsWith e (some (.Subscript (.Name x p) ix sp)) pos.line env = pure false := by intro _; with_unfolding_all rfl) :
    Sim1 U n sc nm (.Assign [.Subscript (.Name x p) ix sp] e pos) (csetat i j v) := Sim1.setat hx (D i x hx).1 (D i x hx).2 kv kj hs
theorem Sim1.setkN {x : Str} {p sp pos : Pos} {e ix : Expr} {v j : DE} {i : Nat} (D : NmD nm) (hx : nm[i]? = some (some x))
    (kv : SimE U n sc nm e v) (kj : SimE U n sc nm ix j)
    (hs : ∀ env, swapsWith e (some (.Subscript (.Name x p) ix sp)) pos.line env = pure false := by intro _; with_unfolding_all rfl) :
    Sim1 U n sc nm (.Assign [.Subscript (.Name x p) ix sp] e pos) (csetk i j v) := Sim1.setk hx (D i x hx).1 (D i x hx).2 kv kj hs

theorem SimE.and {e f : Expr} {es : List Expr} {pos : Pos} {d d' : DE} (k : SimE U n sc nm e d) (k' : SimE U n sc nm (.BoolOp .And (f :: es) pos) d') : SimE U n sc nm (.BoolOp .And (e :: f :: es) pos) (eand d d') := by
  intro A env E s h₀ Xc X ρ v Q hA hV hS hv h
  unfold eand at hv
  split at hv
  · rename_i w hw
    refine BoolOp_and (k A env E s h₀ Xc X ρ w _ hA hV hS hw fun val h' t' x r => ?_)
    split at hv
    · rename_i q
      exact truthy_rep r q fun t2 => k' A env E _ h₀ Xc X ρ v Q hA hV (hS.ext' x) hv fun val2 h2 t3 x2 r2 => h val2 h2 t3 (x.trans x2) r2
    · rename_i q
      cases hv
      exact truthy_rep r q fun t2 => h val h' t2 x r
    · cases hv
  · cases hv
/-! a tuple gone through -/
theorem Src.tuple {tg : Expr} {i t : Addr} {items : List PyData} (src : AS → Heap → Prop) (hsrc : ∀ X h, src X h → ∃ vs, h.IsTuple t vs ∧ RepL X h vs.toList items)
    (se : ∀ Y h h', src Y h → Ext h h' → src Y h') (sg : ∀ Y Z h, src Y h → Grow Y Z h → src Z h) :
    Src U false tg (.ref i) items (fun b => b = i) (fun k h => h.IsTupleIter i t k) src where
  jk := fun k h h' ⟨o, g, c, d⟩ x => ⟨o, x i o rfl g, c, d⟩
  jd := fun k h b ⟨o, g, c, d⟩ e => ⟨o, by rw [e]; exact g, fun _ => ⟨_, d⟩⟩
  se := se
  sg := sg
  sk := fun e => by cases e
  next := by
    intro A E s X k Q hh hS hX hJ hs h
    obtain ⟨vs, hl, r⟩ := hsrc X s.heap hs
    have hlen := r.length
    rw [Array.length_toList] at hlen
    split at h
    · rename_i d hd
      obtain ⟨w, hw, rw'⟩ := r.get hd
      refine wpAny_pyNext_tuple_item hJ hl (by simpa using hw) fun h1 j1 s1 => ?_
      obtain ⟨o, g, c, dd⟩ := id j1
      refine letGo_other g c dd (by decide) (h w h1 _ j1 (rw'.ext ?_) fun b o ne e => (s1.2 b ne).trans e)
      exact sameBut_out s1 (hS i rfl)
    · rename_i hd
      have : vs[k]? = none := by
        rw [Array.getElem?_eq_none_iff]
        have := List.getElem?_eq_none_iff.mp hd
        omega
      exact wpAny_pyNext_tuple_end hh hJ hl this fun h1 x1 => h h1 s.toks fun b o ne e => x1 b o ne e
noncomputable def btup (d : DE) : DL := fun ρ => match d ρ with | some (.tuple l) => some l | _ => none
theorem SimI.tupW {e tg : Expr} {d : DE} (k : SimE U n sc nm e d) : SimI U false n sc nm e tg (btup d) := by
  intro A env E s h₀ Xc X ρ l Q hA hV hS hd h
  unfold btup at hd
  split at hd
  · rename_i l' hl
    cases hd
    refine k A env E s h₀ Xc X ρ _ _ hA hV hS hl fun v1 h1 t1 x1 r1 => ?_
    obtain ⟨a, vs, rfl, g1, rr⟩ : ∃ a vs, v1 = .ref a ∧ h1.IsTuple a vs ∧ RepL X h1 vs.toList l := by
      cases r1 with
      | tuple na g c d r => exact ⟨_, _, rfl, ⟨_, g, c, _, d⟩, r⟩
    refine wpAny_pyIter_tuple (s := { s with heap := h1, toks := t1 }) g1 ?_
    refine h (.ref h1.objs.size) _ _ (fun Y hh => hh.IsTuple a vs ∧ RepL Y hh vs.toList l) h1 _ t1
      (Src.tuple (t := a) _ (fun X h q => ⟨vs, q⟩) (fun Y h h' q x => ⟨let ⟨o, g, c⟩ := q.1; ⟨o, x _ _ g, c⟩, q.2.ext (x.toO Y)⟩) (fun Y Z h q g => ⟨q.1, q.2.grow g⟩))
      x1 (Ext.push _ _) (fun b e => by rw [e]; exact get_size _) ⟨_, Heap.get?_push_size _ rfl, rfl, rfl⟩ ⟨g1, rr⟩ fun A E s Q k j q => ?_
    have hT : s.TypeIs (.ref _) "tuple_iterator" := j.typeIs
    refine wpAny_pyIter_slot hT PySem.F.slot_tuple_iterator_iter (wpAny_call_entry PySem.F.slot_tuple_iterator_iter hT PySem.F.entry_tuple_iterator_iter ?_ (PySem.F.args_tuple_iterator_iter_1 _))
    exact wpAny_pure ⟨_, rfl, "tuple_iterator", _, hT, PySem.F.slot_tuple_iterator_next.lookup, q⟩
  · cases hd
end
theorem cal_extended {U : Uni} (H : Us U) : Cal U 0 "extended" := ⟨H _ (mem_dr (by decide +kernel)), by kernel_rfl, by decide +kernel⟩
theorem cal_inverse_mod {U : Uni} (H : Us U) : Cal U 1 "inverse_mod" := ⟨H _ (mem_dr (by decide +kernel)), by kernel_rfl, by decide +kernel⟩
theorem cal_least_divisor {U : Uni} (H : Us U) : Cal U 2 "least_divisor" := ⟨H _ (mem_dr (by decide +kernel)), by kernel_rfl, by decide +kernel⟩
theorem cal_prime_factors {U : Uni} (H : Us U) : Cal U 3 "prime_factors" := ⟨H _ (mem_dr (by decide +kernel)), by kernel_rfl, by decide +kernel⟩
theorem cal_mtrim {U : Uni} (H : Us U) : Cal U 4 "mtrim" := ⟨H _ (mem_dr (by decide +kernel)), by kernel_rfl, by decide +kernel⟩
theorem cal_mdegree {U : Uni} (H : Us U) : Cal U 5 "mdegree" := ⟨H _ (mem_dr (by decide +kernel)), by kernel_rfl, by decide +kernel⟩
theorem cal_madd {U : Uni} (H : Us U) : Cal U 6 "madd" := ⟨H _ (mem_dr (by decide +kernel)), by kernel_rfl, by decide +kernel⟩
theorem cal_mneg {U : Uni} (H : Us U) : Cal U 7 "mneg" := ⟨H _ (mem_dr (by decide +kernel)), by kernel_rfl, by decide +kernel⟩
theorem cal_msub {U : Uni} (H : Us U) : Cal U 8 "msub" := ⟨H _ (mem_dr (by decide +kernel)), by kernel_rfl, by decide +kernel⟩
theorem cal_mscale {U : Uni} (H : Us U) : Cal U 9 "mscale" := ⟨H _ (mem_dr (by decide +kernel)), by kernel_rfl, by decide +kernel⟩
theorem cal_mmul {U : Uni} (H : Us U) : Cal U 10 "mmul" := ⟨H _ (mem_dr (by decide +kernel)), by kernel_rfl, by decide +kernel⟩
theorem cal_mdivmod {U : Uni} (H : Us U) : Cal U 11 "mdivmod" := ⟨H _ (mem_dr (by decide +kernel)), by kernel_rfl, by decide +kernel⟩
theorem cal_mrest {U : Uni} (H : Us U) : Cal U 12 "mrest" := ⟨H _ (mem_dr (by decide +kernel)), by kernel_rfl, by decide +kernel⟩
theorem cal_mmonic {U : Uni} (H : Us U) : Cal U 13 "mmonic" := ⟨H _ (mem_dr (by decide +kernel)), by kernel_rfl, by decide +kernel⟩
theorem cal_mpower_mod {U : Uni} (H : Us U) : Cal U 14 "mpower_mod" := ⟨H _ (mem_dr (by decide +kernel)), by kernel_rfl, by decide +kernel⟩
theorem cal_mgcd {U : Uni} (H : Us U) : Cal U 15 "mgcd" := ⟨H _ (mem_dr (by decide +kernel)), by kernel_rfl, by decide +kernel⟩
theorem cal_mextended {U : Uni} (H : Us U) : Cal U 16 "mextended" := ⟨H _ (mem_dr (by decide +kernel)), by kernel_rfl, by decide +kernel⟩
theorem cal_minverse {U : Uni} (H : Us U) : Cal U 17 "minverse" := ⟨H _ (mem_dr (by decide +kernel)), by kernel_rfl, by decide +kernel⟩
theorem cal_counted {U : Uni} (H : Us U) : Cal U 18 "counted" := ⟨H _ (mem_dr (by decide +kernel)), by kernel_rfl, by decide +kernel⟩
theorem cal_is_prime_mod {U : Uni} (H : Us U) : Cal U 19 "is_prime_mod" := ⟨H _ (mem_dr (by decide +kernel)), by kernel_rfl, by decide +kernel⟩
theorem cal_gf_size {U : Uni} (H : Us U) : Cal U 20 "gf_size" := ⟨H _ (mem_dr (by decide +kernel)), by kernel_rfl, by decide +kernel⟩
theorem cal_gf_things {U : Uni} (H : Us U) : Cal U 21 "gf_things" := ⟨H _ (mem_dr (by decide +kernel)), by kernel_rfl, by decide +kernel⟩
theorem cal_gf_multiply {U : Uni} (H : Us U) : Cal U 22 "gf_multiply" := ⟨H _ (mem_dr (by decide +kernel)), by kernel_rfl, by decide +kernel⟩
theorem cal_gf_inverse {U : Uni} (H : Us U) : Cal U 23 "gf_inverse" := ⟨H _ (mem_dr (by decide +kernel)), by kernel_rfl, by decide +kernel⟩
theorem cal_gf_divide {U : Uni} (H : Us U) : Cal U 24 "gf_divide" := ⟨H _ (mem_dr (by decide +kernel)), by kernel_rfl, by decide +kernel⟩
theorem cal_gf_power {U : Uni} (H : Us U) : Cal U 25 "gf_power" := ⟨H _ (mem_dr (by decide +kernel)), by kernel_rfl, by decide +kernel⟩
theorem cal_gf_order {U : Uni} (H : Us U) : Cal U 26 "gf_order" := ⟨H _ (mem_dr (by decide +kernel)), by kernel_rfl, by decide +kernel⟩
theorem cal_gf_generator {U : Uni} (H : Us U) : Cal U 27 "gf_generator" := ⟨H _ (mem_dr (by decide +kernel)), by kernel_rfl, by decide +kernel⟩
theorem cal_gf_logarithm {U : Uni} (H : Us U) : Cal U 28 "gf_logarithm" := ⟨H _ (mem_dr (by decide +kernel)), by kernel_rfl, by decide +kernel⟩
theorem cal_gf_conjugates {U : Uni} (H : Us U) : Cal U 29 "gf_conjugates" := ⟨H _ (mem_dr (by decide +kernel)), by kernel_rfl, by decide +kernel⟩
theorem cal_number_of {U : Uni} (H : Us U) : Cal U 30 "number_of" := ⟨H _ (mem_dr (by decide +kernel)), by kernel_rfl, by decide +kernel⟩
theorem cal_gf_trace {U : Uni} (H : Us U) : Cal U 31 "gf_trace" := ⟨H _ (mem_dr (by decide +kernel)), by kernel_rfl, by decide +kernel⟩
theorem cal_gf_norm {U : Uni} (H : Us U) : Cal U 32 "gf_norm" := ⟨H _ (mem_dr (by decide +kernel)), by kernel_rfl, by decide +kernel⟩
theorem cal_gf_least {U : Uni} (H : Us U) : Cal U 33 "gf_least" := ⟨H _ (mem_dr (by decide +kernel)), by kernel_rfl, by decide +kernel⟩
theorem cal_gf_at {U : Uni} (H : Us U) : Cal U 34 "gf_at" := ⟨H _ (mem_dr (by decide +kernel)), by kernel_rfl, by decide +kernel⟩
theorem cal_gf_is_square {U : Uni} (H : Us U) : Cal U 35 "gf_is_square" := ⟨H _ (mem_dr (by decide +kernel)), by kernel_rfl, by decide +kernel⟩
theorem cal_moebius {U : Uni} (H : Us U) : Cal U 36 "moebius" := ⟨H _ (mem_dr (by decide +kernel)), by kernel_rfl, by decide +kernel⟩
theorem cal_count_prime_polys {U : Uni} (H : Us U) : Cal U 37 "count_prime_polys" := ⟨H _ (mem_dr (by decide +kernel)), by kernel_rfl, by decide +kernel⟩
theorem cal_first_prime_poly {U : Uni} (H : Us U) : Cal U 38 "first_prime_poly" := ⟨H _ (mem_dr (by decide +kernel)), by kernel_rfl, by decide +kernel⟩
theorem cal_law_draws {U : Uni} (H : Us U) : Cal U 39 "_law_draws" := ⟨H _ (mem_dr (by decide +kernel)), by kernel_rfl, by decide +kernel⟩
theorem cal_law_take {U : Uni} (H : Us U) : Cal U 40 "_law_take" := ⟨H _ (mem_dr (by decide +kernel)), by kernel_rfl, by decide +kernel⟩
theorem cal_law_cut {U : Uni} (H : Us U) : Cal U 41 "_law_cut" := ⟨H _ (mem_dr (by decide +kernel)), by kernel_rfl, by decide +kernel⟩
theorem cal_law_times {U : Uni} (H : Us U) : Cal U 42 "_law_times" := ⟨H _ (mem_dr (by decide +kernel)), by kernel_rfl, by decide +kernel⟩
theorem cal_law_left {U : Uni} (H : Us U) : Cal U 43 "_law_left" := ⟨H _ (mem_dr (by decide +kernel)), by kernel_rfl, by decide +kernel⟩
theorem cal_law_counted {U : Uni} (H : Us U) : Cal U 44 "_law_counted" := ⟨H _ (mem_dr (by decide +kernel)), by kernel_rfl, by decide +kernel⟩
theorem cal_law_primes {U : Uni} (H : Us U) : Cal U 45 "_law_primes" := ⟨H _ (mem_dr (by decide +kernel)), by kernel_rfl, by decide +kernel⟩
theorem cal_law_mul {U : Uni} (H : Us U) : Cal U 46 "_law_mul" := ⟨H _ (mem_dr (by decide +kernel)), by kernel_rfl, by decide +kernel⟩
theorem cal_law_plus {U : Uni} (H : Us U) : Cal U 47 "_law_plus" := ⟨H _ (mem_dr (by decide +kernel)), by kernel_rfl, by decide +kernel⟩
theorem cal_law_raised {U : Uni} (H : Us U) : Cal U 48 "_law_raised" := ⟨H _ (mem_dr (by decide +kernel)), by kernel_rfl, by decide +kernel⟩
theorem cal_law_value {U : Uni} (H : Us U) : Cal U 49 "_law_value" := ⟨H _ (mem_dr (by decide +kernel)), by kernel_rfl, by decide +kernel⟩
theorem cal_law_reckoned_right {U : Uni} (H : Us U) : Cal U 50 "_law_reckoned_right" := ⟨H _ (mem_dr (by decide +kernel)), by kernel_rfl, by decide +kernel⟩
theorem cal_law_orders_right {U : Uni} (H : Us U) : Cal U 51 "_law_orders_right" := ⟨H _ (mem_dr (by decide +kernel)), by kernel_rfl, by decide +kernel⟩
theorem cal_law_sums_right {U : Uni} (H : Us U) : Cal U 52 "_law_sums_right" := ⟨H _ (mem_dr (by decide +kernel)), by kernel_rfl, by decide +kernel⟩
theorem cal_law {U : Uni} (H : Us U) : Cal U 53 "law" := ⟨H _ (mem_dr (by decide +kernel)), by kernel_rfl, by decide +kernel⟩

/-! W -/
noncomputable def nm_extended : Nm := [some "a", some "b", some "one", some "other", some "times", some "rest"]
noncomputable def c_extended : C :=
  (cseq (cslots [3, 2] (slrev (slv (etup (lcons (evar 0) (lcons (econ (.int 1)) (lcons (econ (.int 0)) lnil)))) (slv (etup (lcons (evar 1) (lcons (econ (.int 0)) (lcons (econ (.int 1)) lnil)))) slnil)))) (cseq (cwhile (icmp cne (tidx (evar 3) (econ (.int 0))) (econ (.int 0))) (cseq (cset 4 (iop ffdiv (tidx (evar 2) (econ (.int 0))) (tidx (evar 3) (econ (.int 0))))) (cseq (cset 5 (etup (lcons (iop fsub (tidx (evar 2) (econ (.int 0))) (iop fmul (evar 4) (tidx (evar 3) (econ (.int 0))))) (lcons (iop fsub (tidx (evar 2) (econ (.int 1))) (iop fmul (evar 4) (tidx (evar 3) (econ (.int 1))))) (lcons (iop fsub (tidx (evar 2) (econ (.int 2))) (iop fmul (evar 4) (tidx (evar 3) (econ (.int 2))))) lnil))))) (cslots [3, 2] (slrev (slv (evar 3) (slv (evar 5) slnil)))))) 400) (cret (eife (icmp cge (tidx (evar 2) (econ (.int 0))) (econ (.int 0))) (evar 2) (etup (lcons (iop fsub (econ (.int 0)) (tidx (evar 2) (econ (.int 0)))) (lcons (iop fsub (econ (.int 0)) (tidx (evar 2) (econ (.int 1)))) (lcons (iop fsub (econ (.int 0)) (tidx (evar 2) (econ (.int 2)))) lnil))))))))
theorem K_extended {U : Uni} (H : Us U)  : SimS U 0 (dr 0).scope nm_extended (dr 0).body c_extended := by
  have D : NmD nm_extended := okNm_spec (by decide +kernel)
  have K : NmK (dr 0).scope nm_extended := okFn_spec (by decide +kernel)
  refine SimS.cons ?_ ?_
  · with_reducible exact (Sim1.swapR (names := ["one", "other"]) (rn := ["other", "one"]) (by with_unfolding_all rfl) (SimSl.consv (SimE.tup (SimL.cons (SimE.vr D (i := 0) (by with_unfolding_all rfl)) (SimL.cons SimE.int (SimL.cons SimE.int SimL.nil)))) (SimSl.consv (SimE.tup (SimL.cons (SimE.vr D (i := 1) (by with_unfolding_all rfl)) (SimL.cons SimE.int (SimL.cons SimE.int SimL.nil)))) SimSl.nil)) (StrsAt.c K (i := 3) (by with_unfolding_all rfl) (StrsAt.c K (i := 2) (by with_unfolding_all rfl) StrsAt.nil)) (by kernel_rfl))
  refine SimS.cons ?_ ?_
  · with_reducible exact (Sim1.while (Cmp.toT (Cmp.int crule_ne (SimE.tidx (SimE.vr D (i := 3) (by with_unfolding_all rfl)) SimE.int) SimE.int)) (SimS.cons (Sim1.asgN K (i := 4) (by with_unfolding_all rfl) (SimE.iop irule_fdiv (SimE.tidx (SimE.vr D (i := 2) (by with_unfolding_all rfl)) SimE.int) (SimE.tidx (SimE.vr D (i := 3) (by with_unfolding_all rfl)) SimE.int))) (SimS.cons (Sim1.asgN K (i := 5) (by with_unfolding_all rfl) (SimE.tup (SimL.cons (SimE.iop irule_sub (SimE.tidx (SimE.vr D (i := 2) (by with_unfolding_all rfl)) SimE.int) (SimE.iop irule_mul (SimE.vr D (i := 4) (by with_unfolding_all rfl)) (SimE.tidx (SimE.vr D (i := 3) (by with_unfolding_all rfl)) SimE.int))) (SimL.cons (SimE.iop irule_sub (SimE.tidx (SimE.vr D (i := 2) (by with_unfolding_all rfl)) SimE.int) (SimE.iop irule_mul (SimE.vr D (i := 4) (by with_unfolding_all rfl)) (SimE.tidx (SimE.vr D (i := 3) (by with_unfolding_all rfl)) SimE.int))) (SimL.cons (SimE.iop irule_sub (SimE.tidx (SimE.vr D (i := 2) (by with_unfolding_all rfl)) SimE.int) (SimE.iop irule_mul (SimE.vr D (i := 4) (by with_unfolding_all rfl)) (SimE.tidx (SimE.vr D (i := 3) (by with_unfolding_all rfl)) SimE.int))) SimL.nil))))) (SimS.one (Sim1.swapR (names := ["one", "other"]) (rn := ["other", "one"]) (by with_unfolding_all rfl) (SimSl.consv (SimE.vr D (i := 3) (by with_unfolding_all rfl)) (SimSl.consv (SimE.vr D (i := 5) (by with_unfolding_all rfl)) SimSl.nil)) (StrsAt.c K (i := 3) (by with_unfolding_all rfl) (StrsAt.c K (i := 2) (by with_unfolding_all rfl) StrsAt.nil)) (by kernel_rfl))))) 400)
  refine SimS.one ?_
  with_reducible exact (Sim1.ret (SimE.ife (Cmp.toT (Cmp.int crule_ge (SimE.tidx (SimE.vr D (i := 2) (by with_unfolding_all rfl)) SimE.int) SimE.int)) (SimE.vr D (i := 2) (by with_unfolding_all rfl)) (SimE.tup (SimL.cons (SimE.iop irule_sub SimE.int (SimE.tidx (SimE.vr D (i := 2) (by with_unfolding_all rfl)) SimE.int)) (SimL.cons (SimE.iop irule_sub SimE.int (SimE.tidx (SimE.vr D (i := 2) (by with_unfolding_all rfl)) SimE.int)) (SimL.cons (SimE.iop irule_sub SimE.int (SimE.tidx (SimE.vr D (i := 2) (by with_unfolding_all rfl)) SimE.int)) SimL.nil))))))
theorem O_extended {U : Uni} (H : Us U)  : CallOK U "extended" 1 (runArgs 2 c_extended) :=
  (cal_extended H).of (ps := ["a", "b"]) (by decide +kernel) (fun pm cd doc => len2 fun a b => by kernel_rfl) (K_extended H )

noncomputable def nm_least_divisor : Nm := [some "n", some "begin", some "found"]
noncomputable def c_least_divisor : C :=
  (cseq (cset 2 (evar 1)) (cseq (cwhile (icmp cle (iop fmul (evar 2) (evar 2)) (evar 0)) (cseq (cif (icmp ieqb (iop fmod (evar 0) (evar 2)) (econ (.int 0))) (cret (evar 2)) cskip) (caug 2 (eife (icmp ieqb (evar 2) (econ (.int 2))) (econ (.int 1)) (econ (.int 2))))) 400) (cret (evar 0))))
theorem K_least_divisor {U : Uni} (H : Us U)  : SimS U 0 (dr 2).scope nm_least_divisor (dr 2).body c_least_divisor := by
  have D : NmD nm_least_divisor := okNm_spec (by decide +kernel)
  have K : NmK (dr 2).scope nm_least_divisor := okFn_spec (by decide +kernel)
  refine SimS.cons ?_ ?_
  · with_reducible exact (Sim1.asgN K (i := 2) (by with_unfolding_all rfl) (SimE.vr D (i := 1) (by with_unfolding_all rfl)))
  refine SimS.cons ?_ ?_
  · with_reducible exact (Sim1.while (Cmp.toT (Cmp.int crule_le (SimE.iop irule_mul (SimE.vr D (i := 2) (by with_unfolding_all rfl)) (SimE.vr D (i := 2) (by with_unfolding_all rfl))) (SimE.vr D (i := 0) (by with_unfolding_all rfl)))) (SimS.cons (Sim1.ife (Cmp.toT (Cmp.int crule_eq (SimE.iop irule_mod (SimE.vr D (i := 0) (by with_unfolding_all rfl)) (SimE.vr D (i := 2) (by with_unfolding_all rfl))) SimE.int)) (SimS.one (Sim1.ret (SimE.vr D (i := 2) (by with_unfolding_all rfl)))) SimS.nil) (SimS.one (Sim1.augN K D (i := 2) (by with_unfolding_all rfl) (SimE.ife (Cmp.toT (Cmp.int crule_eq (SimE.vr D (i := 2) (by with_unfolding_all rfl)) SimE.int)) SimE.int SimE.int)))) 400)
  refine SimS.one ?_
  with_reducible exact (Sim1.ret (SimE.vr D (i := 0) (by with_unfolding_all rfl)))
theorem O_least_divisor {U : Uni} (H : Us U)  : CallOK U "least_divisor" 1 (runArgs 2 c_least_divisor) :=
  (cal_least_divisor H).of (ps := ["n", "begin"]) (by decide +kernel) (fun pm cd doc => len2 fun a b => by kernel_rfl) (K_least_divisor H )

noncomputable def nm_mtrim : Nm := [some "a", some "many"]
noncomputable def c_mtrim : C :=
  (cseq (cset 1 (elen (bvar 0))) (cseq (cwhile (tand (icmp cgt (evar 1) (econ (.int 0))) (icmp ieqb (lidx (bvar 0) (iop fsub (evar 1) (econ (.int 1)))) (econ (.int 0)))) (cset 1 (iop fsub (evar 1) (econ (.int 1)))) 400) (cret (elst (fits (lupto (bvar 0) (evar 1)))))))
theorem K_mtrim {U : Uni} (H : Us U)  : SimS U 0 (dr 4).scope nm_mtrim (dr 4).body c_mtrim := by
  have D : NmD nm_mtrim := okNm_spec (by decide +kernel)
  have K : NmK (dr 4).scope nm_mtrim := okFn_spec (by decide +kernel)
  refine SimS.cons ?_ ?_
  · with_reducible exact (Sim1.asgN K (i := 1) (by with_unfolding_all rfl) (SimE.len (SimB.vr D (i := 0) (by with_unfolding_all rfl)) (by decide +kernel)))
  refine SimS.cons ?_ ?_
  · with_reducible exact (Sim1.while (AllT.toT (AllT.and (Cmp.toT (Cmp.int crule_gt (SimE.vr D (i := 1) (by with_unfolding_all rfl)) SimE.int)) (AllT.one (Cmp.toT (Cmp.int crule_eq (SimE.lidx (SimB.vr D (i := 0) (by with_unfolding_all rfl)) (SimE.iop irule_sub (SimE.vr D (i := 1) (by with_unfolding_all rfl)) SimE.int)) SimE.int))))) (SimS.one (Sim1.asgN K (i := 1) (by with_unfolding_all rfl) (SimE.iop irule_sub (SimE.vr D (i := 1) (by with_unfolding_all rfl)) SimE.int))) 400)
  refine SimS.one ?_
  with_reducible exact (Sim1.ret (SimF.toE (SimF.list (SimF.toB (SimF.upto (SimB.vr D (i := 0) (by with_unfolding_all rfl)) (SimE.vr D (i := 1) (by with_unfolding_all rfl)))) (by decide +kernel))))
theorem O_mtrim {U : Uni} (H : Us U)  : CallOK U "mtrim" 1 (runArgs 1 c_mtrim) :=
  (cal_mtrim H).of (ps := ["a"]) (by decide +kernel) (fun pm cd doc => len1 fun a => by kernel_rfl) (K_mtrim H )

noncomputable def nm_mdegree : Nm := [some "a"]
noncomputable def c_mdegree : C :=
  (cret (iop fsub (elen (bvar 0)) (econ (.int 1))))
theorem K_mdegree {U : Uni} (H : Us U)  : SimS U 0 (dr 5).scope nm_mdegree (dr 5).body c_mdegree := by
  have D : NmD nm_mdegree := okNm_spec (by decide +kernel)
  have K : NmK (dr 5).scope nm_mdegree := okFn_spec (by decide +kernel)
  unfold c_mdegree
  refine SimS.one ?_
  with_reducible exact (Sim1.ret (SimE.iop irule_sub (SimE.len (SimB.vr D (i := 0) (by with_unfolding_all rfl)) (by decide +kernel)) SimE.int))
theorem O_mdegree {U : Uni} (H : Us U)  : CallOK U "mdegree" 1 (runArgs 1 c_mdegree) :=
  (cal_mdegree H).of (ps := ["a"]) (by decide +kernel) (fun pm cd doc => len1 fun a => by kernel_rfl) (K_mdegree H )

noncomputable def nm_mneg : Nm := [some "a", some "p"]
noncomputable def nm_mneg_0 : Nm := [none, some "p", some "number"]
noncomputable def c_mneg : C :=
  (cret (elst (lcomp [1] (bvar 0) (asgName 2) ttrue (iop fmod (eneg (evar 2)) (evar 1)))))
theorem K_mneg {U : Uni} (H : Us U)  : SimS U 0 (dr 7).scope nm_mneg (dr 7).body c_mneg := by
  have D : NmD nm_mneg := okNm_spec (by decide +kernel)
  have K : NmK (dr 7).scope nm_mneg := okFn_spec (by decide +kernel)
  have D0 : NmD nm_mneg_0 := okNm_spec (by decide +kernel)
  unfold c_mneg
  refine SimS.one ?_
  with_reducible exact (Sim1.ret (SimF.toE (SimF.comp (strong := false) (nm' := nm_mneg_0) (caps := [1]) (capB_spec (by decide +kernel)) (SimI.weak (SimB.vr D (i := 0) (by with_unfolding_all rfl))) (AsgOK.name (i := 2) (by with_unfolding_all rfl) (.inl (by decide +kernel))) (Plainly.name _) SimTs.nil (SimE.iop irule_mod (SimE.neg (SimE.vr D0 (i := 2) (by with_unfolding_all rfl))) (SimE.vr D0 (i := 1) (by with_unfolding_all rfl))))))
theorem O_mneg {U : Uni} (H : Us U)  : CallOK U "mneg" 1 (runArgs 2 c_mneg) :=
  (cal_mneg H).of (ps := ["a", "p"]) (by decide +kernel) (fun pm cd doc => len2 fun a b => by kernel_rfl) (K_mneg H )

noncomputable def nm_number_of : Nm := [some "a"]
noncomputable def c_number_of : C :=
  (cret (eife (icmp cgt (elen (bvar 0)) (econ (.int 0))) (lidx (bvar 0) (econ (.int 0))) (econ (.int 0))))
theorem K_number_of {U : Uni} (H : Us U)  : SimS U 0 (dr 30).scope nm_number_of (dr 30).body c_number_of := by
  have D : NmD nm_number_of := okNm_spec (by decide +kernel)
  have K : NmK (dr 30).scope nm_number_of := okFn_spec (by decide +kernel)
  unfold c_number_of
  refine SimS.one ?_
  with_reducible exact (Sim1.ret (SimE.ife (Cmp.toT (Cmp.int crule_gt (SimE.len (SimB.vr D (i := 0) (by with_unfolding_all rfl)) (by decide +kernel)) SimE.int)) (SimE.lidx (SimB.vr D (i := 0) (by with_unfolding_all rfl)) SimE.int) SimE.int))
theorem O_number_of {U : Uni} (H : Us U)  : CallOK U "number_of" 1 (runArgs 1 c_number_of) :=
  (cal_number_of H).of (ps := ["a"]) (by decide +kernel) (fun pm cd doc => len1 fun a => by kernel_rfl) (K_number_of H )

noncomputable def nm_law_cut : Nm := [some "a", some "found"]
noncomputable def c_law_cut : C :=
  (cseq (cseto 1 (fits (bvar 0))) (cseq (cwhile (tand (dne (elst (bvar 1)) (elst (fits lnil))) (icmp ieqb (lidx (bvar 1) (eneg (econ (.int 1)))) (econ (.int 0)))) (cpop 1) 400) (cfreeze 1 (cret (evar 1)))))
theorem K_law_cut {U : Uni} (H : Us U)  : SimS U 0 (dr 41).scope nm_law_cut (dr 41).body c_law_cut := by
  have D : NmD nm_law_cut := okNm_spec (by decide +kernel)
  have K : NmK (dr 41).scope nm_law_cut := okFn_spec (by decide +kernel)
  refine SimS.cons ?_ ?_
  · with_reducible exact (Sim1.asgoN K (i := 1) (by with_unfolding_all rfl) (SimF.list (SimB.vr D (i := 0) (by with_unfolding_all rfl)) (by decide +kernel)))
  refine SimS.cons ?_ ?_
  · with_reducible exact (Sim1.while (AllT.toT (AllT.and (Cmp.toT (Cmp.ne (SimB.toR (SimB.vr D (i := 1) (by with_unfolding_all rfl))) (SimE.toR (SimF.toE (SimF.disp SimL.nil))))) (AllT.one (Cmp.toT (Cmp.int crule_eq (SimE.lidx (SimB.vr D (i := 1) (by with_unfolding_all rfl)) (SimE.neg SimE.int)) SimE.int))))) (SimS.one (Sim1.popN D (i := 1) (by with_unfolding_all rfl) (by with_unfolding_all rfl) (by kernel_rfl))) 400)
  refine SimS.freeze (i := 1) (x := "found") ?_ ?_
  · rfl
  refine SimS.one ?_
  with_reducible exact (Sim1.ret (SimE.vr D (i := 1) (by with_unfolding_all rfl)))
theorem O_law_cut {U : Uni} (H : Us U)  : CallOK U "_law_cut" 1 (runArgs 1 c_law_cut) :=
  (cal_law_cut H).of (ps := ["a"]) (by decide +kernel) (fun pm cd doc => len1 fun a => by kernel_rfl) (K_law_cut H )

noncomputable def nm_law_counted : Nm := [some "number", some "size", some "p", some "found", some "turn"]
noncomputable def c_law_counted : C :=
  (cseq (cseto 3 (fits lnil)) (cseq (cfor (brange1 (evar 1)) (asgName 4) (cseq (cappend 3 (iop fmod (evar 0) (evar 2))) (cset 0 (iop ffdiv (evar 0) (evar 2))))) (cret (elst (lcat (bvar 3) (fits (lcons (econ (.int 1)) lnil)))))))
theorem K_law_counted {U : Uni} (H : Us U)  : SimS U 0 (dr 44).scope nm_law_counted (dr 44).body c_law_counted := by
  have D : NmD nm_law_counted := okNm_spec (by decide +kernel)
  have K : NmK (dr 44).scope nm_law_counted := okFn_spec (by decide +kernel)
  refine SimS.cons ?_ ?_
  · with_reducible exact (Sim1.asgoN K (i := 3) (by with_unfolding_all rfl) (SimF.disp SimL.nil))
  refine SimS.cons ?_ ?_
  · with_reducible exact (Sim1.for (SimI.range1 (SimE.vr D (i := 1) (by with_unfolding_all rfl)) (by decide +kernel)) (AsgOK.vr K (i := 4) (by with_unfolding_all rfl)) (SimS.cons (Sim1.appendN D (i := 3) (by with_unfolding_all rfl) (SimE.iop irule_mod (SimE.vr D (i := 0) (by with_unfolding_all rfl)) (SimE.vr D (i := 2) (by with_unfolding_all rfl))) (by with_unfolding_all rfl) (by kernel_rfl)) (SimS.one (Sim1.asgN K (i := 0) (by with_unfolding_all rfl) (SimE.iop irule_fdiv (SimE.vr D (i := 0) (by with_unfolding_all rfl)) (SimE.vr D (i := 2) (by with_unfolding_all rfl)))))))
  refine SimS.one ?_
  with_reducible exact (Sim1.ret (SimF.toE (SimF.cat (SimB.vr D (i := 3) (by with_unfolding_all rfl)) (SimF.toB (SimF.disp (SimL.cons SimE.int SimL.nil))))))
theorem O_law_counted {U : Uni} (H : Us U)  : CallOK U "_law_counted" 1 (runArgs 3 c_law_counted) :=
  (cal_law_counted H).of (ps := ["number", "size", "p"]) (by decide +kernel) (fun pm cd doc => len3 fun a b c => by kernel_rfl) (K_law_counted H )

noncomputable def nm_inverse_mod : Nm := [some "a", some "m", some "g", some "s", some "t"]
noncomputable def c_inverse_mod (F_extended : FN) : C :=
  (cseq (cunp (asgTup [2, 3, 4]) (ecall F_extended (lcons (iop fmod (evar 0) (evar 1)) (lcons (evar 1) lnil)))) (cret (eife (icmp ieqb (evar 2) (econ (.int 1))) (iop fmod (evar 3) (evar 1)) (econ .none))))
theorem K_inverse_mod {U : Uni} (H : Us U) {F_extended : FN} (k_extended : CallOK U "extended" 1 F_extended) : SimS U 1 (dr 1).scope nm_inverse_mod (dr 1).body (c_inverse_mod F_extended) := by
  have D : NmD nm_inverse_mod := okNm_spec (by decide +kernel)
  have K : NmK (dr 1).scope nm_inverse_mod := okFn_spec (by decide +kernel)
  refine SimS.cons ?_ ?_
  · with_reducible exact (Sim1.unp (SimE.callN (cal_extended H) k_extended (SimL.cons (SimE.iop irule_mod (SimE.vr D (i := 0) (by with_unfolding_all rfl)) (SimE.vr D (i := 1) (by with_unfolding_all rfl))) (SimL.cons (SimE.vr D (i := 1) (by with_unfolding_all rfl)) SimL.nil)) (by decide) (by decide +kernel)) (NamesAt.c K (i := 2) (by with_unfolding_all rfl) (NamesAt.c K (i := 3) (by with_unfolding_all rfl) (NamesAt.c K (i := 4) (by with_unfolding_all rfl) NamesAt.nil))))
  refine SimS.one ?_
  with_reducible exact (Sim1.ret (SimE.ife (Cmp.toT (Cmp.int crule_eq (SimE.vr D (i := 2) (by with_unfolding_all rfl)) SimE.int)) (SimE.iop irule_mod (SimE.vr D (i := 3) (by with_unfolding_all rfl)) (SimE.vr D (i := 1) (by with_unfolding_all rfl))) SimE.none))
theorem O_inverse_mod {U : Uni} (H : Us U) {F_extended : FN} (k_extended : CallOK U "extended" 1 F_extended) : CallOK U "inverse_mod" 2 (runArgs 2 (c_inverse_mod F_extended)) :=
  (cal_inverse_mod H).of (ps := ["a", "m"]) (by decide +kernel) (fun pm cd doc => len2 fun a b => by kernel_rfl) (K_inverse_mod H k_extended)

noncomputable def nm_prime_factors : Nm := [some "n", some "found", some "prime", some "many"]
noncomputable def c_prime_factors (F_least_divisor : FN) : C :=
  (cseq (cslots [2, 1] (slrev (slo (fits lnil) (slv (econ (.int 2)) slnil)))) (cseq (cwhile (icmp cgt (evar 0) (econ (.int 1))) (cseq (cslots [3, 2] (slrev (slv (ecall F_least_divisor (lcons (evar 0) (lcons (evar 2) lnil))) (slv (econ (.int 0)) slnil)))) (cseq (cwhile (icmp ieqb (iop fmod (evar 0) (evar 2)) (econ (.int 0))) (cslots [3, 0] (slrev (slv (iop ffdiv (evar 0) (evar 2)) (slv (iop fadd (evar 3) (econ (.int 1))) slnil)))) 400) (cseq (cappend 1 (etup (lcons (evar 2) (lcons (evar 3) lnil)))) (cset 2 (eife (icmp ieqb (evar 2) (econ (.int 2))) (econ (.int 3)) (iop fadd (evar 2) (econ (.int 2)))))))) 400) (cfreeze 1 (cret (evar 1)))))
theorem K_prime_factors {U : Uni} (H : Us U) {F_least_divisor : FN} (k_least_divisor : CallOK U "least_divisor" 1 F_least_divisor) : SimS U 1 (dr 3).scope nm_prime_factors (dr 3).body (c_prime_factors F_least_divisor) := by
  have D : NmD nm_prime_factors := okNm_spec (by decide +kernel)
  have K : NmK (dr 3).scope nm_prime_factors := okFn_spec (by decide +kernel)
  refine SimS.cons ?_ ?_
  · with_reducible exact (Sim1.swapR (names := ["found", "prime"]) (rn := ["prime", "found"]) (by with_unfolding_all rfl) (SimSl.conso (SimF.disp SimL.nil) (SimSl.consv SimE.int SimSl.nil)) (StrsAt.c K (i := 2) (by with_unfolding_all rfl) (StrsAt.c K (i := 1) (by with_unfolding_all rfl) StrsAt.nil)) (by kernel_rfl))
  refine SimS.cons ?_ ?_
  · with_reducible exact (Sim1.while (Cmp.toT (Cmp.int crule_gt (SimE.vr D (i := 0) (by with_unfolding_all rfl)) SimE.int)) (SimS.cons (Sim1.swapR (names := ["prime", "many"]) (rn := ["many", "prime"]) (by with_unfolding_all rfl) (SimSl.consv (SimE.callN (cal_least_divisor H) k_least_divisor (SimL.cons (SimE.vr D (i := 0) (by with_unfolding_all rfl)) (SimL.cons (SimE.vr D (i := 2) (by with_unfolding_all rfl)) SimL.nil)) (by decide) (by decide +kernel)) (SimSl.consv SimE.int SimSl.nil)) (StrsAt.c K (i := 3) (by with_unfolding_all rfl) (StrsAt.c K (i := 2) (by with_unfolding_all rfl) StrsAt.nil)) (by kernel_rfl)) (SimS.cons (Sim1.while (Cmp.toT (Cmp.int crule_eq (SimE.iop irule_mod (SimE.vr D (i := 0) (by with_unfolding_all rfl)) (SimE.vr D (i := 2) (by with_unfolding_all rfl))) SimE.int)) (SimS.one (Sim1.swapR (names := ["n", "many"]) (rn := ["many", "n"]) (by with_unfolding_all rfl) (SimSl.consv (SimE.iop irule_fdiv (SimE.vr D (i := 0) (by with_unfolding_all rfl)) (SimE.vr D (i := 2) (by with_unfolding_all rfl))) (SimSl.consv (SimE.iop irule_add (SimE.vr D (i := 3) (by with_unfolding_all rfl)) SimE.int) SimSl.nil)) (StrsAt.c K (i := 3) (by with_unfolding_all rfl) (StrsAt.c K (i := 0) (by with_unfolding_all rfl) StrsAt.nil)) (by kernel_rfl))) 400) (SimS.cons (Sim1.appendN D (i := 1) (by with_unfolding_all rfl) (SimE.tup (SimL.cons (SimE.vr D (i := 2) (by with_unfolding_all rfl)) (SimL.cons (SimE.vr D (i := 3) (by with_unfolding_all rfl)) SimL.nil))) (by with_unfolding_all rfl) (by kernel_rfl)) (SimS.one (Sim1.asgN K (i := 2) (by with_unfolding_all rfl) (SimE.ife (Cmp.toT (Cmp.int crule_eq (SimE.vr D (i := 2) (by with_unfolding_all rfl)) SimE.int)) SimE.int (SimE.iop irule_add (SimE.vr D (i := 2) (by with_unfolding_all rfl)) SimE.int))))))) 400)
  refine SimS.freeze (i := 1) (x := "found") ?_ ?_
  · rfl
  refine SimS.one ?_
  with_reducible exact (Sim1.ret (SimE.vr D (i := 1) (by with_unfolding_all rfl)))
theorem O_prime_factors {U : Uni} (H : Us U) {F_least_divisor : FN} (k_least_divisor : CallOK U "least_divisor" 1 F_least_divisor) : CallOK U "prime_factors" 2 (runArgs 1 (c_prime_factors F_least_divisor)) :=
  (cal_prime_factors H).of (ps := ["n"]) (by decide +kernel) (fun pm cd doc => len1 fun a => by kernel_rfl) (K_prime_factors H k_least_divisor)

noncomputable def nm_madd : Nm := [some "a", some "b", some "p", some "found", some "at"]
noncomputable def c_madd (F_mtrim : FN) : C :=
  (cseq (cseto 3 (fits lnil)) (cseq (cfor (brange1 (emax (elen (bvar 0)) (elen (bvar 1)))) (asgName 4) (cappend 3 (iop fmod (iop fadd (eife (icmp iltb (evar 4) (elen (bvar 0))) (lidx (bvar 0) (evar 4)) (econ (.int 0))) (eife (icmp iltb (evar 4) (elen (bvar 1))) (lidx (bvar 1) (evar 4)) (econ (.int 0)))) (evar 2)))) (cfreeze 3 (cret (ecall F_mtrim (lcons (evar 3) lnil))))))
theorem K_madd {U : Uni} (H : Us U) {F_mtrim : FN} (k_mtrim : CallOK U "mtrim" 1 F_mtrim) : SimS U 1 (dr 6).scope nm_madd (dr 6).body (c_madd F_mtrim) := by
  have D : NmD nm_madd := okNm_spec (by decide +kernel)
  have K : NmK (dr 6).scope nm_madd := okFn_spec (by decide +kernel)
  refine SimS.cons ?_ ?_
  · with_reducible exact (Sim1.asgoN K (i := 3) (by with_unfolding_all rfl) (SimF.disp SimL.nil))
  refine SimS.cons ?_ ?_
  · with_reducible exact (Sim1.for (SimI.range1 (SimE.max (SimE.len (SimB.vr D (i := 0) (by with_unfolding_all rfl)) (by decide +kernel)) (SimE.len (SimB.vr D (i := 1) (by with_unfolding_all rfl)) (by decide +kernel)) (by decide +kernel)) (by decide +kernel)) (AsgOK.vr K (i := 4) (by with_unfolding_all rfl)) (SimS.one (Sim1.appendN D (i := 3) (by with_unfolding_all rfl) (SimE.iop irule_mod (SimE.iop irule_add (SimE.ife (Cmp.toT (Cmp.int crule_lt (SimE.vr D (i := 4) (by with_unfolding_all rfl)) (SimE.len (SimB.vr D (i := 0) (by with_unfolding_all rfl)) (by decide +kernel)))) (SimE.lidx (SimB.vr D (i := 0) (by with_unfolding_all rfl)) (SimE.vr D (i := 4) (by with_unfolding_all rfl))) SimE.int) (SimE.ife (Cmp.toT (Cmp.int crule_lt (SimE.vr D (i := 4) (by with_unfolding_all rfl)) (SimE.len (SimB.vr D (i := 1) (by with_unfolding_all rfl)) (by decide +kernel)))) (SimE.lidx (SimB.vr D (i := 1) (by with_unfolding_all rfl)) (SimE.vr D (i := 4) (by with_unfolding_all rfl))) SimE.int)) (SimE.vr D (i := 2) (by with_unfolding_all rfl))) (by with_unfolding_all rfl) (by kernel_rfl))))
  refine SimS.freeze (i := 3) (x := "found") ?_ ?_
  · rfl
  refine SimS.one ?_
  with_reducible exact (Sim1.ret (SimE.callN (cal_mtrim H) k_mtrim (SimL.cons (SimE.vr D (i := 3) (by with_unfolding_all rfl)) SimL.nil) (by decide) (by decide +kernel)))
theorem O_madd {U : Uni} (H : Us U) {F_mtrim : FN} (k_mtrim : CallOK U "mtrim" 1 F_mtrim) : CallOK U "madd" 2 (runArgs 3 (c_madd F_mtrim)) :=
  (cal_madd H).of (ps := ["a", "b", "p"]) (by decide +kernel) (fun pm cd doc => len3 fun a b c => by kernel_rfl) (K_madd H k_mtrim)

noncomputable def nm_mscale : Nm := [some "a", some "number", some "p"]
noncomputable def nm_mscale_0 : Nm := [none, some "number", some "p", some "one"]
noncomputable def c_mscale (F_mtrim : FN) : C :=
  (cret (ecall F_mtrim (lcons (elst (lcomp [1, 2] (bvar 0) (asgName 3) ttrue (iop fmod (iop fmul (evar 3) (evar 1)) (evar 2)))) lnil)))
theorem K_mscale {U : Uni} (H : Us U) {F_mtrim : FN} (k_mtrim : CallOK U "mtrim" 1 F_mtrim) : SimS U 1 (dr 9).scope nm_mscale (dr 9).body (c_mscale F_mtrim) := by
  have D : NmD nm_mscale := okNm_spec (by decide +kernel)
  have K : NmK (dr 9).scope nm_mscale := okFn_spec (by decide +kernel)
  have D0 : NmD nm_mscale_0 := okNm_spec (by decide +kernel)
  unfold c_mscale
  refine SimS.one ?_
  with_reducible exact (Sim1.ret (SimE.callN (cal_mtrim H) k_mtrim (SimL.cons (SimF.toE (SimF.comp (strong := false) (nm' := nm_mscale_0) (caps := [1, 2]) (capB_spec (by decide +kernel)) (SimI.weak (SimB.vr D (i := 0) (by with_unfolding_all rfl))) (AsgOK.name (i := 3) (by with_unfolding_all rfl) (.inl (by decide +kernel))) (Plainly.name _) SimTs.nil (SimE.iop irule_mod (SimE.iop irule_mul (SimE.vr D0 (i := 3) (by with_unfolding_all rfl)) (SimE.vr D0 (i := 1) (by with_unfolding_all rfl))) (SimE.vr D0 (i := 2) (by with_unfolding_all rfl))))) SimL.nil) (by decide) (by decide +kernel)))
theorem O_mscale {U : Uni} (H : Us U) {F_mtrim : FN} (k_mtrim : CallOK U "mtrim" 1 F_mtrim) : CallOK U "mscale" 2 (runArgs 3 (c_mscale F_mtrim)) :=
  (cal_mscale H).of (ps := ["a", "number", "p"]) (by decide +kernel) (fun pm cd doc => len3 fun a b c => by kernel_rfl) (K_mscale H k_mtrim)

noncomputable def nm_mmul : Nm := [some "a", some "b", some "p", some "found", some "at", some "one", some "spot", some "other"]
noncomputable def c_mmul (F_mtrim : FN) : C :=
  (cseq (cif (tor (icmp ieqb (elen (bvar 0)) (econ (.int 0))) (icmp ieqb (elen (bvar 1)) (econ (.int 0)))) (cret (elst (fits lnil))) cskip) (cseq (cseto 3 (lrep (fits (lcons (econ (.int 0)) lnil)) (iop fsub (iop fadd (elen (bvar 0)) (elen (bvar 1))) (econ (.int 1))))) (cseq (cfor (benum (blst (evar 0))) (asgTup [4, 5]) (cif (icmp cne (evar 5) (econ (.int 0))) (cfor (benum (blst (evar 1))) (asgTup [6, 7]) (csetat 3 (iop fadd (evar 4) (evar 6)) (iop fmod (iop fadd (lidx (bvar 3) (iop fadd (evar 4) (evar 6))) (iop fmul (evar 5) (evar 7))) (evar 2)))) cskip)) (cfreeze 3 (cret (ecall F_mtrim (lcons (evar 3) lnil)))))))
theorem K_mmul {U : Uni} (H : Us U) {F_mtrim : FN} (k_mtrim : CallOK U "mtrim" 1 F_mtrim) : SimS U 1 (dr 10).scope nm_mmul (dr 10).body (c_mmul F_mtrim) := by
  have D : NmD nm_mmul := okNm_spec (by decide +kernel)
  have K : NmK (dr 10).scope nm_mmul := okFn_spec (by decide +kernel)
  refine SimS.cons ?_ ?_
  · with_reducible exact (Sim1.ife (AllT.toT (AllT.or (Cmp.toT (Cmp.int crule_eq (SimE.len (SimB.vr D (i := 0) (by with_unfolding_all rfl)) (by decide +kernel)) SimE.int)) (AllT.one (Cmp.toT (Cmp.int crule_eq (SimE.len (SimB.vr D (i := 1) (by with_unfolding_all rfl)) (by decide +kernel)) SimE.int))))) (SimS.one (Sim1.ret (SimF.toE (SimF.disp SimL.nil)))) SimS.nil)
  refine SimS.cons ?_ ?_
  · with_reducible exact (Sim1.asgoN K (i := 3) (by with_unfolding_all rfl) (SimF.rep (SimF.disp (SimL.cons SimE.int SimL.nil)) (SimE.iop irule_sub (SimE.iop irule_add (SimE.len (SimB.vr D (i := 0) (by with_unfolding_all rfl)) (by decide +kernel)) (SimE.len (SimB.vr D (i := 1) (by with_unfolding_all rfl)) (by decide +kernel))) SimE.int)))
  refine SimS.cons ?_ ?_
  · with_reducible exact (Sim1.for (SimI.enumS (SimE.vr D (i := 0) (by with_unfolding_all rfl)) (by decide +kernel)) (AsgOK.tup (NamesAt.c K (i := 4) (by with_unfolding_all rfl) (NamesAt.c K (i := 5) (by with_unfolding_all rfl) NamesAt.nil))) (SimS.one (Sim1.ife (Cmp.toT (Cmp.int crule_ne (SimE.vr D (i := 5) (by with_unfolding_all rfl)) SimE.int)) (SimS.one (Sim1.for (SimI.enumS (SimE.vr D (i := 1) (by with_unfolding_all rfl)) (by decide +kernel)) (AsgOK.tup (NamesAt.c K (i := 6) (by with_unfolding_all rfl) (NamesAt.c K (i := 7) (by with_unfolding_all rfl) NamesAt.nil))) (SimS.one (Sim1.setatN D (i := 3) (by with_unfolding_all rfl) (SimE.iop irule_mod (SimE.iop irule_add (SimE.lidx (SimB.vr D (i := 3) (by with_unfolding_all rfl)) (SimE.iop irule_add (SimE.vr D (i := 4) (by with_unfolding_all rfl)) (SimE.vr D (i := 6) (by with_unfolding_all rfl)))) (SimE.iop irule_mul (SimE.vr D (i := 5) (by with_unfolding_all rfl)) (SimE.vr D (i := 7) (by with_unfolding_all rfl)))) (SimE.vr D (i := 2) (by with_unfolding_all rfl))) (SimE.iop irule_add (SimE.vr D (i := 4) (by with_unfolding_all rfl)) (SimE.vr D (i := 6) (by with_unfolding_all rfl))))))) SimS.nil)))
  refine SimS.freeze (i := 3) (x := "found") ?_ ?_
  · rfl
  refine SimS.one ?_
  with_reducible exact (Sim1.ret (SimE.callN (cal_mtrim H) k_mtrim (SimL.cons (SimE.vr D (i := 3) (by with_unfolding_all rfl)) SimL.nil) (by decide) (by decide +kernel)))
theorem O_mmul {U : Uni} (H : Us U) {F_mtrim : FN} (k_mtrim : CallOK U "mtrim" 1 F_mtrim) : CallOK U "mmul" 2 (runArgs 3 (c_mmul F_mtrim)) :=
  (cal_mmul H).of (ps := ["a", "b", "p"]) (by decide +kernel) (fun pm cd doc => len3 fun a b c => by kernel_rfl) (K_mmul H k_mtrim)

noncomputable def nm_counted : Nm := [some "number", some "p", some "found"]
noncomputable def c_counted (F_mtrim : FN) : C :=
  (cseq (cseto 2 (fits lnil)) (cseq (cwhile (icmp cgt (evar 0) (econ (.int 0))) (cseq (cappend 2 (iop fmod (evar 0) (evar 1))) (cset 0 (iop ffdiv (evar 0) (evar 1)))) 400) (cfreeze 2 (cret (ecall F_mtrim (lcons (evar 2) lnil))))))
theorem K_counted {U : Uni} (H : Us U) {F_mtrim : FN} (k_mtrim : CallOK U "mtrim" 1 F_mtrim) : SimS U 1 (dr 18).scope nm_counted (dr 18).body (c_counted F_mtrim) := by
  have D : NmD nm_counted := okNm_spec (by decide +kernel)
  have K : NmK (dr 18).scope nm_counted := okFn_spec (by decide +kernel)
  refine SimS.cons ?_ ?_
  · with_reducible exact (Sim1.asgoN K (i := 2) (by with_unfolding_all rfl) (SimF.disp SimL.nil))
  refine SimS.cons ?_ ?_
  · with_reducible exact (Sim1.while (Cmp.toT (Cmp.int crule_gt (SimE.vr D (i := 0) (by with_unfolding_all rfl)) SimE.int)) (SimS.cons (Sim1.appendN D (i := 2) (by with_unfolding_all rfl) (SimE.iop irule_mod (SimE.vr D (i := 0) (by with_unfolding_all rfl)) (SimE.vr D (i := 1) (by with_unfolding_all rfl))) (by with_unfolding_all rfl) (by kernel_rfl)) (SimS.one (Sim1.asgN K (i := 0) (by with_unfolding_all rfl) (SimE.iop irule_fdiv (SimE.vr D (i := 0) (by with_unfolding_all rfl)) (SimE.vr D (i := 1) (by with_unfolding_all rfl)))))) 400)
  refine SimS.freeze (i := 2) (x := "found") ?_ ?_
  · rfl
  refine SimS.one ?_
  with_reducible exact (Sim1.ret (SimE.callN (cal_mtrim H) k_mtrim (SimL.cons (SimE.vr D (i := 2) (by with_unfolding_all rfl)) SimL.nil) (by decide) (by decide +kernel)))
theorem O_counted {U : Uni} (H : Us U) {F_mtrim : FN} (k_mtrim : CallOK U "mtrim" 1 F_mtrim) : CallOK U "counted" 2 (runArgs 2 (c_counted F_mtrim)) :=
  (cal_counted H).of (ps := ["number", "p"]) (by decide +kernel) (fun pm cd doc => len2 fun a b => by kernel_rfl) (K_counted H k_mtrim)

noncomputable def nm_gf_size : Nm := [some "m", some "p"]
noncomputable def c_gf_size (F_mdegree : FN) : C :=
  (cret (iop fpow (evar 1) (ecall F_mdegree (lcons (evar 0) lnil))))
theorem K_gf_size {U : Uni} (H : Us U) {F_mdegree : FN} (k_mdegree : CallOK U "mdegree" 1 F_mdegree) : SimS U 1 (dr 20).scope nm_gf_size (dr 20).body (c_gf_size F_mdegree) := by
  have D : NmD nm_gf_size := okNm_spec (by decide +kernel)
  have K : NmK (dr 20).scope nm_gf_size := okFn_spec (by decide +kernel)
  unfold c_gf_size
  refine SimS.one ?_
  with_reducible exact (Sim1.ret (SimE.iop irule_pow (SimE.vr D (i := 1) (by with_unfolding_all rfl)) (SimE.callN (cal_mdegree H) k_mdegree (SimL.cons (SimE.vr D (i := 0) (by with_unfolding_all rfl)) SimL.nil) (by decide) (by decide +kernel))))
theorem O_gf_size {U : Uni} (H : Us U) {F_mdegree : FN} (k_mdegree : CallOK U "mdegree" 1 F_mdegree) : CallOK U "gf_size" 2 (runArgs 2 (c_gf_size F_mdegree)) :=
  (cal_gf_size H).of (ps := ["m", "p"]) (by decide +kernel) (fun pm cd doc => len2 fun a b => by kernel_rfl) (K_gf_size H k_mdegree)

noncomputable def nm_law_times : Nm := [some "a", some "b", some "p", some "found", some "at", some "spot"]
noncomputable def c_law_times (F_law_cut : FN) : C :=
  (cseq (cseto 3 (lrep (fits (lcons (econ (.int 0)) lnil)) (iop fadd (elen (bvar 0)) (elen (bvar 1))))) (cseq (cfor (brange1 (elen (bvar 0))) (asgName 4) (cfor (brange1 (elen (bvar 1))) (asgName 5) (csetat 3 (iop fadd (evar 4) (evar 5)) (iop fmod (iop fadd (lidx (bvar 3) (iop fadd (evar 4) (evar 5))) (iop fmul (lidx (bvar 0) (evar 4)) (lidx (bvar 1) (evar 5)))) (evar 2))))) (cfreeze 3 (cret (ecall F_law_cut (lcons (evar 3) lnil))))))
theorem K_law_times {U : Uni} (H : Us U) {F_law_cut : FN} (k_law_cut : CallOK U "_law_cut" 1 F_law_cut) : SimS U 1 (dr 42).scope nm_law_times (dr 42).body (c_law_times F_law_cut) := by
  have D : NmD nm_law_times := okNm_spec (by decide +kernel)
  have K : NmK (dr 42).scope nm_law_times := okFn_spec (by decide +kernel)
  refine SimS.cons ?_ ?_
  · with_reducible exact (Sim1.asgoN K (i := 3) (by with_unfolding_all rfl) (SimF.rep (SimF.disp (SimL.cons SimE.int SimL.nil)) (SimE.iop irule_add (SimE.len (SimB.vr D (i := 0) (by with_unfolding_all rfl)) (by decide +kernel)) (SimE.len (SimB.vr D (i := 1) (by with_unfolding_all rfl)) (by decide +kernel)))))
  refine SimS.cons ?_ ?_
  · with_reducible exact (Sim1.for (SimI.range1 (SimE.len (SimB.vr D (i := 0) (by with_unfolding_all rfl)) (by decide +kernel)) (by decide +kernel)) (AsgOK.vr K (i := 4) (by with_unfolding_all rfl)) (SimS.one (Sim1.for (SimI.range1 (SimE.len (SimB.vr D (i := 1) (by with_unfolding_all rfl)) (by decide +kernel)) (by decide +kernel)) (AsgOK.vr K (i := 5) (by with_unfolding_all rfl)) (SimS.one (Sim1.setatN D (i := 3) (by with_unfolding_all rfl) (SimE.iop irule_mod (SimE.iop irule_add (SimE.lidx (SimB.vr D (i := 3) (by with_unfolding_all rfl)) (SimE.iop irule_add (SimE.vr D (i := 4) (by with_unfolding_all rfl)) (SimE.vr D (i := 5) (by with_unfolding_all rfl)))) (SimE.iop irule_mul (SimE.lidx (SimB.vr D (i := 0) (by with_unfolding_all rfl)) (SimE.vr D (i := 4) (by with_unfolding_all rfl))) (SimE.lidx (SimB.vr D (i := 1) (by with_unfolding_all rfl)) (SimE.vr D (i := 5) (by with_unfolding_all rfl))))) (SimE.vr D (i := 2) (by with_unfolding_all rfl))) (SimE.iop irule_add (SimE.vr D (i := 4) (by with_unfolding_all rfl)) (SimE.vr D (i := 5) (by with_unfolding_all rfl))))))))
  refine SimS.freeze (i := 3) (x := "found") ?_ ?_
  · rfl
  refine SimS.one ?_
  with_reducible exact (Sim1.ret (SimE.callN (cal_law_cut H) k_law_cut (SimL.cons (SimE.vr D (i := 3) (by with_unfolding_all rfl)) SimL.nil) (by decide) (by decide +kernel)))
theorem O_law_times {U : Uni} (H : Us U) {F_law_cut : FN} (k_law_cut : CallOK U "_law_cut" 1 F_law_cut) : CallOK U "_law_times" 2 (runArgs 3 (c_law_times F_law_cut)) :=
  (cal_law_times H).of (ps := ["a", "b", "p"]) (by decide +kernel) (fun pm cd doc => len3 fun a b c => by kernel_rfl) (K_law_times H k_law_cut)

noncomputable def nm_law_left : Nm := [some "a", some "b", some "p", some "found", some "lead", some "shift"]
noncomputable def nm_law_left_0 : Nm := [none, some "b", some "p", none, some "lead", some "shift", some "at", some "one"]
noncomputable def c_law_left (F_law_cut : FN) : C :=
  (cseq (cset 3 (ecall F_law_cut (lcons (evar 0) lnil))) (cseq (cwhile (icmp cge (elen (bvar 3)) (elen (bvar 1))) (cseq (cslots [4, 5] (slv (lidx (bvar 3) (eneg (econ (.int 1)))) (slv (iop fsub (elen (bvar 3)) (elen (bvar 1))) slnil))) (cset 3 (ecall F_law_cut (lcons (elst (lcomp [1, 2, 4, 5] (benum (bvar 3)) (asgTup [6, 7]) ttrue (iop fmod (iop fsub (evar 7) (eife (icmp cge (evar 6) (evar 5)) (iop fmul (evar 4) (lidx (bvar 1) (iop fsub (evar 6) (evar 5)))) (econ (.int 0)))) (evar 2)))) lnil)))) 400) (cret (evar 3))))
theorem K_law_left {U : Uni} (H : Us U) {F_law_cut : FN} (k_law_cut : CallOK U "_law_cut" 1 F_law_cut) : SimS U 1 (dr 43).scope nm_law_left (dr 43).body (c_law_left F_law_cut) := by
  have D : NmD nm_law_left := okNm_spec (by decide +kernel)
  have K : NmK (dr 43).scope nm_law_left := okFn_spec (by decide +kernel)
  have D0 : NmD nm_law_left_0 := okNm_spec (by decide +kernel)
  refine SimS.cons ?_ ?_
  · with_reducible exact (Sim1.asgN K (i := 3) (by with_unfolding_all rfl) (SimE.callN (cal_law_cut H) k_law_cut (SimL.cons (SimE.vr D (i := 0) (by with_unfolding_all rfl)) SimL.nil) (by decide) (by decide +kernel)))
  refine SimS.cons ?_ ?_
  · with_reducible exact (Sim1.while (Cmp.toT (Cmp.int crule_ge (SimE.len (SimB.vr D (i := 3) (by with_unfolding_all rfl)) (by decide +kernel)) (SimE.len (SimB.vr D (i := 1) (by with_unfolding_all rfl)) (by decide +kernel)))) (SimS.cons (Sim1.tupa (SimSl.consv (SimE.lidx (SimB.vr D (i := 3) (by with_unfolding_all rfl)) (SimE.neg SimE.int)) (SimSl.consv (SimE.iop irule_sub (SimE.len (SimB.vr D (i := 3) (by with_unfolding_all rfl)) (by decide +kernel)) (SimE.len (SimB.vr D (i := 1) (by with_unfolding_all rfl)) (by decide +kernel))) SimSl.nil)) (NamesAt.c K (i := 4) (by with_unfolding_all rfl) (NamesAt.c K (i := 5) (by with_unfolding_all rfl) NamesAt.nil)) (by kernel_rfl)) (SimS.one (Sim1.asgN K (i := 3) (by with_unfolding_all rfl) (SimE.callN (cal_law_cut H) k_law_cut (SimL.cons (SimF.toE (SimF.comp (strong := false) (nm' := nm_law_left_0) (caps := [1, 2, 4, 5]) (capB_spec (by decide +kernel)) (SimI.enumW (SimB.vr D (i := 3) (by with_unfolding_all rfl)) (by decide +kernel)) (AsgOK.tup (NamesAt.cons (i := 6) (by with_unfolding_all rfl) (.inl (by decide +kernel)) (NamesAt.cons (i := 7) (by with_unfolding_all rfl) (.inl (by decide +kernel)) NamesAt.nil))) (Plainly.tup _) SimTs.nil (SimE.iop irule_mod (SimE.iop irule_sub (SimE.vr D0 (i := 7) (by with_unfolding_all rfl)) (SimE.ife (Cmp.toT (Cmp.int crule_ge (SimE.vr D0 (i := 6) (by with_unfolding_all rfl)) (SimE.vr D0 (i := 5) (by with_unfolding_all rfl)))) (SimE.iop irule_mul (SimE.vr D0 (i := 4) (by with_unfolding_all rfl)) (SimE.lidx (SimB.vr D0 (i := 1) (by with_unfolding_all rfl)) (SimE.iop irule_sub (SimE.vr D0 (i := 6) (by with_unfolding_all rfl)) (SimE.vr D0 (i := 5) (by with_unfolding_all rfl))))) SimE.int)) (SimE.vr D0 (i := 2) (by with_unfolding_all rfl))))) SimL.nil) (by decide) (by decide +kernel))))) 400)
  refine SimS.one ?_
  with_reducible exact (Sim1.ret (SimE.vr D (i := 3) (by with_unfolding_all rfl)))
theorem O_law_left {U : Uni} (H : Us U) {F_law_cut : FN} (k_law_cut : CallOK U "_law_cut" 1 F_law_cut) : CallOK U "_law_left" 2 (runArgs 3 (c_law_left F_law_cut)) :=
  (cal_law_left H).of (ps := ["a", "b", "p"]) (by decide +kernel) (fun pm cd doc => len3 fun a b c => by kernel_rfl) (K_law_left H k_law_cut)

noncomputable def nm_law_plus : Nm := [some "a", some "b", some "p", some "wide", some "rows"]
noncomputable def nm_law_plus_0 : Nm := [none, none, none, some "wide", none, some "row", none, none]
noncomputable def nm_law_plus_1 : Nm := [none, none, some "p", none, none, none, some "one", some "other"]
noncomputable def c_law_plus (F_law_cut : FN) : C :=
  (cseq (cset 3 (emax (elen (bvar 0)) (elen (bvar 1)))) (cseq (cseto 4 (lcomp [3] (btup (etup (lcons (evar 0) (lcons (evar 1) lnil)))) (asgName 5) ttrue (elst (lcat (bvar 5) (lrep (fits (lcons (econ (.int 0)) lnil)) (iop fsub (evar 3) (elen (bvar 5)))))))) (cret (ecall F_law_cut (lcons (elst (lcomp [2] (bzip (blst (lidx (bvar 4) (econ (.int 0)))) (blst (lidx (bvar 4) (econ (.int 1))))) (asgTup [6, 7]) ttrue (iop fmod (iop fadd (evar 6) (evar 7)) (evar 2)))) lnil)))))
theorem K_law_plus {U : Uni} (H : Us U) {F_law_cut : FN} (k_law_cut : CallOK U "_law_cut" 1 F_law_cut) : SimS U 1 (dr 47).scope nm_law_plus (dr 47).body (c_law_plus F_law_cut) := by
  have D : NmD nm_law_plus := okNm_spec (by decide +kernel)
  have K : NmK (dr 47).scope nm_law_plus := okFn_spec (by decide +kernel)
  have D0 : NmD nm_law_plus_0 := okNm_spec (by decide +kernel)
  have D1 : NmD nm_law_plus_1 := okNm_spec (by decide +kernel)
  refine SimS.cons ?_ ?_
  · with_reducible exact (Sim1.asgN K (i := 3) (by with_unfolding_all rfl) (SimE.max (SimE.len (SimB.vr D (i := 0) (by with_unfolding_all rfl)) (by decide +kernel)) (SimE.len (SimB.vr D (i := 1) (by with_unfolding_all rfl)) (by decide +kernel)) (by decide +kernel)))
  refine SimS.cons ?_ ?_
  · with_reducible exact (Sim1.asgComp (i := 4) (by with_unfolding_all rfl) (K 4 _ (by with_unfolding_all rfl)) (strong := false) (nm' := nm_law_plus_0) (caps := [3]) (capB_spec (by decide +kernel)) (SimI.tupW (SimE.tup (SimL.cons (SimE.vr D (i := 0) (by with_unfolding_all rfl)) (SimL.cons (SimE.vr D (i := 1) (by with_unfolding_all rfl)) SimL.nil)))) (AsgOK.name (i := 5) (by with_unfolding_all rfl) (.inl (by decide +kernel))) (Plainly.name _) SimTs.nil (SimF.toE (SimF.cat (SimB.vr D0 (i := 5) (by with_unfolding_all rfl)) (SimF.toB (SimF.rep (SimF.disp (SimL.cons SimE.int SimL.nil)) (SimE.iop irule_sub (SimE.vr D0 (i := 3) (by with_unfolding_all rfl)) (SimE.len (SimB.vr D0 (i := 5) (by with_unfolding_all rfl)) (by decide +kernel))))))) (by kernel_rfl))
  refine SimS.one ?_
  with_reducible exact (Sim1.ret (SimE.callN (cal_law_cut H) k_law_cut (SimL.cons (SimF.toE (SimF.comp (strong := false) (nm' := nm_law_plus_1) (caps := [2]) (capB_spec (by decide +kernel)) (SimI.zip (SimE.toB (SimE.lidx (SimB.vr D (i := 4) (by with_unfolding_all rfl)) SimE.int)) (SimE.toB (SimE.lidx (SimB.vr D (i := 4) (by with_unfolding_all rfl)) SimE.int)) (by decide +kernel)) (AsgOK.tup (NamesAt.cons (i := 6) (by with_unfolding_all rfl) (.inl (by decide +kernel)) (NamesAt.cons (i := 7) (by with_unfolding_all rfl) (.inl (by decide +kernel)) NamesAt.nil))) (Plainly.tup _) SimTs.nil (SimE.iop irule_mod (SimE.iop irule_add (SimE.vr D1 (i := 6) (by with_unfolding_all rfl)) (SimE.vr D1 (i := 7) (by with_unfolding_all rfl))) (SimE.vr D1 (i := 2) (by with_unfolding_all rfl))))) SimL.nil) (by decide) (by decide +kernel)))
theorem O_law_plus {U : Uni} (H : Us U) {F_law_cut : FN} (k_law_cut : CallOK U "_law_cut" 1 F_law_cut) : CallOK U "_law_plus" 2 (runArgs 3 (c_law_plus F_law_cut)) :=
  (cal_law_plus H).of (ps := ["a", "b", "p"]) (by decide +kernel) (fun pm cd doc => len3 fun a b c => by kernel_rfl) (K_law_plus H k_law_cut)

noncomputable def nm_msub : Nm := [some "a", some "b", some "p"]
noncomputable def c_msub (F_madd F_mneg : FN) : C :=
  (cret (ecall F_madd (lcons (evar 0) (lcons (ecall F_mneg (lcons (evar 1) (lcons (evar 2) lnil))) (lcons (evar 2) lnil)))))
theorem K_msub {U : Uni} (H : Us U) {F_madd F_mneg : FN} (k_madd : CallOK U "madd" 2 F_madd) (k_mneg : CallOK U "mneg" 1 F_mneg) : SimS U 2 (dr 8).scope nm_msub (dr 8).body (c_msub F_madd F_mneg) := by
  have D : NmD nm_msub := okNm_spec (by decide +kernel)
  have K : NmK (dr 8).scope nm_msub := okFn_spec (by decide +kernel)
  unfold c_msub
  refine SimS.one ?_
  with_reducible exact (Sim1.ret (SimE.callN (cal_madd H) k_madd (SimL.cons (SimE.vr D (i := 0) (by with_unfolding_all rfl)) (SimL.cons (SimE.callN (cal_mneg H) k_mneg (SimL.cons (SimE.vr D (i := 1) (by with_unfolding_all rfl)) (SimL.cons (SimE.vr D (i := 2) (by with_unfolding_all rfl)) SimL.nil)) (by decide) (by decide +kernel)) (SimL.cons (SimE.vr D (i := 2) (by with_unfolding_all rfl)) SimL.nil))) (by decide) (by decide +kernel)))
theorem O_msub {U : Uni} (H : Us U) {F_madd F_mneg : FN} (k_madd : CallOK U "madd" 2 F_madd) (k_mneg : CallOK U "mneg" 1 F_mneg) : CallOK U "msub" 3 (runArgs 3 (c_msub F_madd F_mneg)) :=
  (cal_msub H).of (ps := ["a", "b", "p"]) (by decide +kernel) (fun pm cd doc => len3 fun a b c => by kernel_rfl) (K_msub H k_madd k_mneg)

noncomputable def nm_mdivmod : Nm := [some "a", some "b", some "p", some "turn", some "at", some "rest", some "quotient", some "number", some "spot", some "other"]
noncomputable def c_mdivmod (F_inverse_mod F_mtrim : FN) : C :=
  (cseq (cslots [6, 5] (slrev (slo (fits (bvar 0)) (slo (lrep (fits (lcons (econ (.int 0)) lnil)) (emax (econ (.int 0)) (iop fadd (iop fsub (elen (bvar 0)) (elen (bvar 1))) (econ (.int 1))))) slnil)))) (cseq (cset 3 (ecall F_inverse_mod (lcons (lidx (bvar 1) (eneg (econ (.int 1)))) (lcons (evar 2) lnil)))) (cseq (cfor (brange3 (iop fsub (elen (bvar 0)) (elen (bvar 1))) (eneg (econ (.int 1))) (eneg (econ (.int 1)))) (asgName 4) (cseq (cset 7 (iop fmod (iop fmul (lidx (bvar 5) (iop fsub (iop fadd (evar 4) (elen (bvar 1))) (econ (.int 1)))) (evar 3)) (evar 2))) (cseq (csetat 6 (evar 4) (evar 7)) (cif (icmp cne (evar 7) (econ (.int 0))) (cfor (benum (blst (evar 1))) (asgTup [8, 9]) (csetat 5 (iop fadd (evar 4) (evar 8)) (iop fmod (iop fsub (lidx (bvar 5) (iop fadd (evar 4) (evar 8))) (iop fmul (evar 7) (evar 9))) (evar 2)))) cskip)))) (cfreeze 6 (cret (etup (lcons (ecall F_mtrim (lcons (evar 6) lnil)) (lcons (ecall F_mtrim (lcons (elst (lupto (bvar 5) (iop fsub (elen (bvar 1)) (econ (.int 1))))) lnil)) lnil))))))))
theorem K_mdivmod {U : Uni} (H : Us U) {F_inverse_mod F_mtrim : FN} (k_inverse_mod : CallOK U "inverse_mod" 2 F_inverse_mod) (k_mtrim : CallOK U "mtrim" 1 F_mtrim) : SimS U 2 (dr 11).scope nm_mdivmod (dr 11).body (c_mdivmod F_inverse_mod F_mtrim) := by
  have D : NmD nm_mdivmod := okNm_spec (by decide +kernel)
  have K : NmK (dr 11).scope nm_mdivmod := okFn_spec (by decide +kernel)
  refine SimS.cons ?_ ?_
  · with_reducible exact (Sim1.swapR (names := ["rest", "quotient"]) (rn := ["quotient", "rest"]) (by with_unfolding_all rfl) (SimSl.conso (SimF.list (SimB.vr D (i := 0) (by with_unfolding_all rfl)) (by decide +kernel)) (SimSl.conso (SimF.rep (SimF.disp (SimL.cons SimE.int SimL.nil)) (SimE.max SimE.int (SimE.iop irule_add (SimE.iop irule_sub (SimE.len (SimB.vr D (i := 0) (by with_unfolding_all rfl)) (by decide +kernel)) (SimE.len (SimB.vr D (i := 1) (by with_unfolding_all rfl)) (by decide +kernel))) SimE.int) (by decide +kernel))) SimSl.nil)) (StrsAt.c K (i := 6) (by with_unfolding_all rfl) (StrsAt.c K (i := 5) (by with_unfolding_all rfl) StrsAt.nil)) (by kernel_rfl))
  refine SimS.cons ?_ ?_
  · with_reducible exact (Sim1.asgN K (i := 3) (by with_unfolding_all rfl) (SimE.callN (cal_inverse_mod H) k_inverse_mod (SimL.cons (SimE.lidx (SimB.vr D (i := 1) (by with_unfolding_all rfl)) (SimE.neg SimE.int)) (SimL.cons (SimE.vr D (i := 2) (by with_unfolding_all rfl)) SimL.nil)) (by decide) (by decide +kernel)))
  refine SimS.cons ?_ ?_
  · with_reducible exact (Sim1.for (SimI.range3 (SimE.iop irule_sub (SimE.len (SimB.vr D (i := 0) (by with_unfolding_all rfl)) (by decide +kernel)) (SimE.len (SimB.vr D (i := 1) (by with_unfolding_all rfl)) (by decide +kernel))) (SimE.neg SimE.int) (SimE.neg SimE.int) (by decide +kernel)) (AsgOK.vr K (i := 4) (by with_unfolding_all rfl)) (SimS.cons (Sim1.asgN K (i := 7) (by with_unfolding_all rfl) (SimE.iop irule_mod (SimE.iop irule_mul (SimE.lidx (SimB.vr D (i := 5) (by with_unfolding_all rfl)) (SimE.iop irule_sub (SimE.iop irule_add (SimE.vr D (i := 4) (by with_unfolding_all rfl)) (SimE.len (SimB.vr D (i := 1) (by with_unfolding_all rfl)) (by decide +kernel))) SimE.int)) (SimE.vr D (i := 3) (by with_unfolding_all rfl))) (SimE.vr D (i := 2) (by with_unfolding_all rfl)))) (SimS.cons (Sim1.setatN D (i := 6) (by with_unfolding_all rfl) (SimE.vr D (i := 7) (by with_unfolding_all rfl)) (SimE.vr D (i := 4) (by with_unfolding_all rfl))) (SimS.one (Sim1.ife (Cmp.toT (Cmp.int crule_ne (SimE.vr D (i := 7) (by with_unfolding_all rfl)) SimE.int)) (SimS.one (Sim1.for (SimI.enumS (SimE.vr D (i := 1) (by with_unfolding_all rfl)) (by decide +kernel)) (AsgOK.tup (NamesAt.c K (i := 8) (by with_unfolding_all rfl) (NamesAt.c K (i := 9) (by with_unfolding_all rfl) NamesAt.nil))) (SimS.one (Sim1.setatN D (i := 5) (by with_unfolding_all rfl) (SimE.iop irule_mod (SimE.iop irule_sub (SimE.lidx (SimB.vr D (i := 5) (by with_unfolding_all rfl)) (SimE.iop irule_add (SimE.vr D (i := 4) (by with_unfolding_all rfl)) (SimE.vr D (i := 8) (by with_unfolding_all rfl)))) (SimE.iop irule_mul (SimE.vr D (i := 7) (by with_unfolding_all rfl)) (SimE.vr D (i := 9) (by with_unfolding_all rfl)))) (SimE.vr D (i := 2) (by with_unfolding_all rfl))) (SimE.iop irule_add (SimE.vr D (i := 4) (by with_unfolding_all rfl)) (SimE.vr D (i := 8) (by with_unfolding_all rfl))))))) SimS.nil)))))
  refine SimS.freeze (i := 6) (x := "quotient") ?_ ?_
  · rfl
  refine SimS.one ?_
  with_reducible exact (Sim1.ret (SimE.tup (SimL.cons (SimE.callN (cal_mtrim H) k_mtrim (SimL.cons (SimE.vr D (i := 6) (by with_unfolding_all rfl)) SimL.nil) (by decide) (by decide +kernel)) (SimL.cons (SimE.callN (cal_mtrim H) k_mtrim (SimL.cons (SimF.toE (SimF.upto (SimB.vr D (i := 5) (by with_unfolding_all rfl)) (SimE.iop irule_sub (SimE.len (SimB.vr D (i := 1) (by with_unfolding_all rfl)) (by decide +kernel)) SimE.int))) SimL.nil) (by decide) (by decide +kernel)) SimL.nil))))
theorem O_mdivmod {U : Uni} (H : Us U) {F_inverse_mod F_mtrim : FN} (k_inverse_mod : CallOK U "inverse_mod" 2 F_inverse_mod) (k_mtrim : CallOK U "mtrim" 1 F_mtrim) : CallOK U "mdivmod" 3 (runArgs 3 (c_mdivmod F_inverse_mod F_mtrim)) :=
  (cal_mdivmod H).of (ps := ["a", "b", "p"]) (by decide +kernel) (fun pm cd doc => len3 fun a b c => by kernel_rfl) (K_mdivmod H k_inverse_mod k_mtrim)

noncomputable def nm_mmonic : Nm := [some "a", some "p"]
noncomputable def c_mmonic (F_mscale F_inverse_mod : FN) : C :=
  (cret (eife (icmp cgt (elen (bvar 0)) (econ (.int 0))) (ecall F_mscale (lcons (evar 0) (lcons (ecall F_inverse_mod (lcons (lidx (bvar 0) (eneg (econ (.int 1)))) (lcons (evar 1) lnil))) (lcons (evar 1) lnil)))) (elst (fits lnil))))
theorem K_mmonic {U : Uni} (H : Us U) {F_mscale F_inverse_mod : FN} (k_mscale : CallOK U "mscale" 2 F_mscale) (k_inverse_mod : CallOK U "inverse_mod" 2 F_inverse_mod) : SimS U 2 (dr 13).scope nm_mmonic (dr 13).body (c_mmonic F_mscale F_inverse_mod) := by
  have D : NmD nm_mmonic := okNm_spec (by decide +kernel)
  have K : NmK (dr 13).scope nm_mmonic := okFn_spec (by decide +kernel)
  unfold c_mmonic
  refine SimS.one ?_
  with_reducible exact (Sim1.ret (SimE.ife (Cmp.toT (Cmp.int crule_gt (SimE.len (SimB.vr D (i := 0) (by with_unfolding_all rfl)) (by decide +kernel)) SimE.int)) (SimE.callN (cal_mscale H) k_mscale (SimL.cons (SimE.vr D (i := 0) (by with_unfolding_all rfl)) (SimL.cons (SimE.callN (cal_inverse_mod H) k_inverse_mod (SimL.cons (SimE.lidx (SimB.vr D (i := 0) (by with_unfolding_all rfl)) (SimE.neg SimE.int)) (SimL.cons (SimE.vr D (i := 1) (by with_unfolding_all rfl)) SimL.nil)) (by decide) (by decide +kernel)) (SimL.cons (SimE.vr D (i := 1) (by with_unfolding_all rfl)) SimL.nil))) (by decide) (by decide +kernel)) (SimF.toE (SimF.disp SimL.nil))))
theorem O_mmonic {U : Uni} (H : Us U) {F_mscale F_inverse_mod : FN} (k_mscale : CallOK U "mscale" 2 F_mscale) (k_inverse_mod : CallOK U "inverse_mod" 2 F_inverse_mod) : CallOK U "mmonic" 3 (runArgs 2 (c_mmonic F_mscale F_inverse_mod)) :=
  (cal_mmonic H).of (ps := ["a", "p"]) (by decide +kernel) (fun pm cd doc => len2 fun a b => by kernel_rfl) (K_mmonic H k_mscale k_inverse_mod)

noncomputable def nm_gf_things : Nm := [some "m", some "p"]
noncomputable def nm_gf_things_0 : Nm := [none, some "p", some "number"]
noncomputable def c_gf_things (F_counted F_gf_size : FN) : C :=
  (cret (elst (lcomp [1] (brange1 (ecall F_gf_size (lcons (evar 0) (lcons (evar 1) lnil)))) (asgName 2) ttrue (ecall F_counted (lcons (evar 2) (lcons (evar 1) lnil))))))
theorem K_gf_things {U : Uni} (H : Us U) {F_counted F_gf_size : FN} (k_counted : CallOK U "counted" 2 F_counted) (k_gf_size : CallOK U "gf_size" 2 F_gf_size) : SimS U 2 (dr 21).scope nm_gf_things (dr 21).body (c_gf_things F_counted F_gf_size) := by
  have D : NmD nm_gf_things := okNm_spec (by decide +kernel)
  have K : NmK (dr 21).scope nm_gf_things := okFn_spec (by decide +kernel)
  have D0 : NmD nm_gf_things_0 := okNm_spec (by decide +kernel)
  unfold c_gf_things
  refine SimS.one ?_
  with_reducible exact (Sim1.ret (SimF.toE (SimF.comp (strong := false) (nm' := nm_gf_things_0) (caps := [1]) (capB_spec (by decide +kernel)) (SimI.range1 (SimE.callN (cal_gf_size H) k_gf_size (SimL.cons (SimE.vr D (i := 0) (by with_unfolding_all rfl)) (SimL.cons (SimE.vr D (i := 1) (by with_unfolding_all rfl)) SimL.nil)) (by decide) (by decide +kernel)) (by decide +kernel)) (AsgOK.name (i := 2) (by with_unfolding_all rfl) (.inl (by decide +kernel))) (Plainly.name _) SimTs.nil (SimE.callN (cal_counted H) k_counted (SimL.cons (SimE.vr D0 (i := 2) (by with_unfolding_all rfl)) (SimL.cons (SimE.vr D0 (i := 1) (by with_unfolding_all rfl)) SimL.nil)) (by decide) (by decide +kernel)))))
theorem O_gf_things {U : Uni} (H : Us U) {F_counted F_gf_size : FN} (k_counted : CallOK U "counted" 2 F_counted) (k_gf_size : CallOK U "gf_size" 2 F_gf_size) : CallOK U "gf_things" 3 (runArgs 2 (c_gf_things F_counted F_gf_size)) :=
  (cal_gf_things H).of (ps := ["m", "p"]) (by decide +kernel) (fun pm cd doc => len2 fun a b => by kernel_rfl) (K_gf_things H k_counted k_gf_size)

noncomputable def nm_moebius : Nm := [some "n", some "pairs"]
noncomputable def nm_moebius_0 : Nm := [none, none, some "prime", some "many"]
noncomputable def c_moebius (F_prime_factors : FN) : C :=
  (cseq (cset 1 (ecall F_prime_factors (lcons (evar 0) lnil))) (cseq (cif (tval (eany (lcomp [] (bvar 1) (asgTup [2, 3]) ttrue (ebool (icmp cgt (evar 3) (econ (.int 1))))))) (cret (econ (.int 0))) cskip) (cret (eife (icmp ieqb (iop fmod (elen (bvar 1)) (econ (.int 2))) (econ (.int 0))) (econ (.int 1)) (eneg (econ (.int 1)))))))
theorem K_moebius {U : Uni} (H : Us U) {F_prime_factors : FN} (k_prime_factors : CallOK U "prime_factors" 2 F_prime_factors) : SimS U 2 (dr 36).scope nm_moebius (dr 36).body (c_moebius F_prime_factors) := by
  have D : NmD nm_moebius := okNm_spec (by decide +kernel)
  have K : NmK (dr 36).scope nm_moebius := okFn_spec (by decide +kernel)
  have D0 : NmD nm_moebius_0 := okNm_spec (by decide +kernel)
  refine SimS.cons ?_ ?_
  · with_reducible exact (Sim1.asgN K (i := 1) (by with_unfolding_all rfl) (SimE.callN (cal_prime_factors H) k_prime_factors (SimL.cons (SimE.vr D (i := 0) (by with_unfolding_all rfl)) SimL.nil) (by decide) (by decide +kernel)))
  refine SimS.cons ?_ ?_
  · with_reducible exact (Sim1.ife (SimT.val (SimE.any (SimF.toB (SimF.comp (strong := false) (nm' := nm_moebius_0) (caps := []) (capB_spec (by decide +kernel)) (SimI.weak (SimB.vr D (i := 1) (by with_unfolding_all rfl))) (AsgOK.tup (NamesAt.cons (i := 2) (by with_unfolding_all rfl) (.inl (by decide +kernel)) (NamesAt.cons (i := 3) (by with_unfolding_all rfl) (.inl (by decide +kernel)) NamesAt.nil))) (Plainly.tup _) SimTs.nil (Cmp.toE (Cmp.int crule_gt (SimE.vr D0 (i := 3) (by with_unfolding_all rfl)) SimE.int)))) (by decide +kernel))) (SimS.one (Sim1.ret SimE.int)) SimS.nil)
  refine SimS.one ?_
  with_reducible exact (Sim1.ret (SimE.ife (Cmp.toT (Cmp.int crule_eq (SimE.iop irule_mod (SimE.len (SimB.vr D (i := 1) (by with_unfolding_all rfl)) (by decide +kernel)) SimE.int) SimE.int)) SimE.int (SimE.neg SimE.int)))
theorem O_moebius {U : Uni} (H : Us U) {F_prime_factors : FN} (k_prime_factors : CallOK U "prime_factors" 2 F_prime_factors) : CallOK U "moebius" 3 (runArgs 1 (c_moebius F_prime_factors)) :=
  (cal_moebius H).of (ps := ["n"]) (by decide +kernel) (fun pm cd doc => len1 fun a => by kernel_rfl) (K_moebius H k_prime_factors)

noncomputable def nm_law_primes : Nm := [some "p", some "most", some "found", some "size", some "number", some "row"]
noncomputable def nm_law_primes_0 : Nm := [some "p", none, none, some "size", none, some "row", some "one"]
noncomputable def c_law_primes (F_law_counted F_law_left : FN) : C :=
  (cseq (cseto 2 (fits lnil)) (cseq (cfor (brange2 (econ (.int 1)) (iop fadd (evar 1) (econ (.int 1)))) (asgName 3) (cfor (brange1 (iop fpow (evar 0) (evar 3))) (asgName 4) (cseq (cset 5 (ecall F_law_counted (lcons (evar 4) (lcons (evar 3) (lcons (evar 0) lnil))))) (cif (deq (elst (lcomp [0, 3, 5] (bvar 2) (asgName 6) (tand (icmp cle (iop fmul (econ (.int 2)) (iop fsub (elen (bvar 6)) (econ (.int 1)))) (evar 3)) (deq (ecall F_law_left (lcons (evar 5) (lcons (evar 6) (lcons (evar 0) lnil)))) (elst (fits lnil)))) (evar 6))) (elst (fits lnil))) (cappend 2 (evar 5)) cskip)))) (cfreeze 2 (cret (evar 2)))))
theorem K_law_primes {U : Uni} (H : Us U) {F_law_counted F_law_left : FN} (k_law_counted : CallOK U "_law_counted" 1 F_law_counted) (k_law_left : CallOK U "_law_left" 2 F_law_left) : SimS U 2 (dr 45).scope nm_law_primes (dr 45).body (c_law_primes F_law_counted F_law_left) := by
  have D : NmD nm_law_primes := okNm_spec (by decide +kernel)
  have K : NmK (dr 45).scope nm_law_primes := okFn_spec (by decide +kernel)
  have D0 : NmD nm_law_primes_0 := okNm_spec (by decide +kernel)
  refine SimS.cons ?_ ?_
  · with_reducible exact (Sim1.asgoN K (i := 2) (by with_unfolding_all rfl) (SimF.disp SimL.nil))
  refine SimS.cons ?_ ?_
  · with_reducible exact (Sim1.for (SimI.range2 SimE.int (SimE.iop irule_add (SimE.vr D (i := 1) (by with_unfolding_all rfl)) SimE.int) (by decide +kernel)) (AsgOK.vr K (i := 3) (by with_unfolding_all rfl)) (SimS.one (Sim1.for (SimI.range1 (SimE.iop irule_pow (SimE.vr D (i := 0) (by with_unfolding_all rfl)) (SimE.vr D (i := 3) (by with_unfolding_all rfl))) (by decide +kernel)) (AsgOK.vr K (i := 4) (by with_unfolding_all rfl)) (SimS.cons (Sim1.asgN K (i := 5) (by with_unfolding_all rfl) (SimE.callN (cal_law_counted H) k_law_counted (SimL.cons (SimE.vr D (i := 4) (by with_unfolding_all rfl)) (SimL.cons (SimE.vr D (i := 3) (by with_unfolding_all rfl)) (SimL.cons (SimE.vr D (i := 0) (by with_unfolding_all rfl)) SimL.nil))) (by decide) (by decide +kernel))) (SimS.one (Sim1.ife (Cmp.toT (Cmp.eq (SimE.toR (SimF.toE (SimF.comp (strong := false) (nm' := nm_law_primes_0) (caps := [0, 3, 5]) (capB_spec (by decide +kernel)) (SimI.weak (SimB.vr D (i := 2) (by with_unfolding_all rfl))) (AsgOK.name (i := 6) (by with_unfolding_all rfl) (.inl (by decide +kernel))) (Plainly.name _) (SimTs.one (AllT.toT (AllT.and (Cmp.toT (Cmp.int crule_le (SimE.iop irule_mul SimE.int (SimE.iop irule_sub (SimE.len (SimB.vr D0 (i := 6) (by with_unfolding_all rfl)) (by decide +kernel)) SimE.int)) (SimE.vr D0 (i := 3) (by with_unfolding_all rfl)))) (AllT.one (Cmp.toT (Cmp.eq (SimE.toR (SimE.callN (cal_law_left H) k_law_left (SimL.cons (SimE.vr D0 (i := 5) (by with_unfolding_all rfl)) (SimL.cons (SimE.vr D0 (i := 6) (by with_unfolding_all rfl)) (SimL.cons (SimE.vr D0 (i := 0) (by with_unfolding_all rfl)) SimL.nil))) (by decide) (by decide +kernel))) (SimE.toR (SimF.toE (SimF.disp SimL.nil))))))))) (SimE.vr D0 (i := 6) (by with_unfolding_all rfl))))) (SimE.toR (SimF.toE (SimF.disp SimL.nil))))) (SimS.one (Sim1.appendN D (i := 2) (by with_unfolding_all rfl) (SimE.vr D (i := 5) (by with_unfolding_all rfl)) (by with_unfolding_all rfl) (by kernel_rfl))) SimS.nil))))))
  refine SimS.freeze (i := 2) (x := "found") ?_ ?_
  · rfl
  refine SimS.one ?_
  with_reducible exact (Sim1.ret (SimE.vr D (i := 2) (by with_unfolding_all rfl)))
theorem O_law_primes {U : Uni} (H : Us U) {F_law_counted F_law_left : FN} (k_law_counted : CallOK U "_law_counted" 1 F_law_counted) (k_law_left : CallOK U "_law_left" 2 F_law_left) : CallOK U "_law_primes" 3 (runArgs 2 (c_law_primes F_law_counted F_law_left)) :=
  (cal_law_primes H).of (ps := ["p", "most"]) (by decide +kernel) (fun pm cd doc => len2 fun a b => by kernel_rfl) (K_law_primes H k_law_counted k_law_left)

noncomputable def nm_law_mul : Nm := [some "a", some "b", some "m", some "p"]
noncomputable def c_law_mul (F_law_left F_law_times : FN) : C :=
  (cret (ecall F_law_left (lcons (ecall F_law_times (lcons (evar 0) (lcons (evar 1) (lcons (evar 3) lnil)))) (lcons (evar 2) (lcons (evar 3) lnil)))))
theorem K_law_mul {U : Uni} (H : Us U) {F_law_left F_law_times : FN} (k_law_left : CallOK U "_law_left" 2 F_law_left) (k_law_times : CallOK U "_law_times" 2 F_law_times) : SimS U 2 (dr 46).scope nm_law_mul (dr 46).body (c_law_mul F_law_left F_law_times) := by
  have D : NmD nm_law_mul := okNm_spec (by decide +kernel)
  have K : NmK (dr 46).scope nm_law_mul := okFn_spec (by decide +kernel)
  unfold c_law_mul
  refine SimS.one ?_
  with_reducible exact (Sim1.ret (SimE.callN (cal_law_left H) k_law_left (SimL.cons (SimE.callN (cal_law_times H) k_law_times (SimL.cons (SimE.vr D (i := 0) (by with_unfolding_all rfl)) (SimL.cons (SimE.vr D (i := 1) (by with_unfolding_all rfl)) (SimL.cons (SimE.vr D (i := 3) (by with_unfolding_all rfl)) SimL.nil))) (by decide) (by decide +kernel)) (SimL.cons (SimE.vr D (i := 2) (by with_unfolding_all rfl)) (SimL.cons (SimE.vr D (i := 3) (by with_unfolding_all rfl)) SimL.nil))) (by decide) (by decide +kernel)))
theorem O_law_mul {U : Uni} (H : Us U) {F_law_left F_law_times : FN} (k_law_left : CallOK U "_law_left" 2 F_law_left) (k_law_times : CallOK U "_law_times" 2 F_law_times) : CallOK U "_law_mul" 3 (runArgs 4 (c_law_mul F_law_left F_law_times)) :=
  (cal_law_mul H).of (ps := ["a", "b", "m", "p"]) (by decide +kernel) (fun pm cd doc => len4 fun a b c d => by kernel_rfl) (K_law_mul H k_law_left k_law_times)

noncomputable def nm_mrest : Nm := [some "a", some "b", some "p"]
noncomputable def c_mrest (F_mdivmod : FN) : C :=
  (cret (tidx (ecall F_mdivmod (lcons (evar 0) (lcons (evar 1) (lcons (evar 2) lnil)))) (econ (.int 1))))
theorem K_mrest {U : Uni} (H : Us U) {F_mdivmod : FN} (k_mdivmod : CallOK U "mdivmod" 3 F_mdivmod) : SimS U 3 (dr 12).scope nm_mrest (dr 12).body (c_mrest F_mdivmod) := by
  have D : NmD nm_mrest := okNm_spec (by decide +kernel)
  have K : NmK (dr 12).scope nm_mrest := okFn_spec (by decide +kernel)
  unfold c_mrest
  refine SimS.one ?_
  with_reducible exact (Sim1.ret (SimE.tidx (SimE.callN (cal_mdivmod H) k_mdivmod (SimL.cons (SimE.vr D (i := 0) (by with_unfolding_all rfl)) (SimL.cons (SimE.vr D (i := 1) (by with_unfolding_all rfl)) (SimL.cons (SimE.vr D (i := 2) (by with_unfolding_all rfl)) SimL.nil))) (by decide) (by decide +kernel)) SimE.int))
theorem O_mrest {U : Uni} (H : Us U) {F_mdivmod : FN} (k_mdivmod : CallOK U "mdivmod" 3 F_mdivmod) : CallOK U "mrest" 4 (runArgs 3 (c_mrest F_mdivmod)) :=
  (cal_mrest H).of (ps := ["a", "b", "p"]) (by decide +kernel) (fun pm cd doc => len3 fun a b c => by kernel_rfl) (K_mrest H k_mdivmod)

noncomputable def nm_mextended : Nm := [some "a", some "b", some "p", some "turn", some "one", some "other", some "later", some "quotient", some "rest"]
noncomputable def c_mextended (F_inverse_mod F_mdivmod F_mscale F_msub F_mmul : FN) : C :=
  (cseq (cslots [5, 4] (slrev (slv (etup (lcons (evar 0) (lcons (elst (fits (lcons (econ (.int 1)) lnil))) (lcons (elst (fits lnil)) lnil)))) (slv (etup (lcons (evar 1) (lcons (elst (fits lnil)) (lcons (elst (fits (lcons (econ (.int 1)) lnil))) lnil)))) slnil)))) (cseq (cwhile (icmp cgt (elen (blst (tidx (evar 5) (econ (.int 0))))) (econ (.int 0))) (cseq (cunp (asgTup [7, 8]) (ecall F_mdivmod (lcons (tidx (evar 4) (econ (.int 0))) (lcons (tidx (evar 5) (econ (.int 0))) (lcons (evar 2) lnil))))) (cseq (cset 6 (etup (lcons (evar 8) (lcons (ecall F_msub (lcons (tidx (evar 4) (econ (.int 1))) (lcons (ecall F_mmul (lcons (evar 7) (lcons (tidx (evar 5) (econ (.int 1))) (lcons (evar 2) lnil)))) (lcons (evar 2) lnil)))) (lcons (ecall F_msub (lcons (tidx (evar 4) (econ (.int 2))) (lcons (ecall F_mmul (lcons (evar 7) (lcons (tidx (evar 5) (econ (.int 2))) (lcons (evar 2) lnil)))) (lcons (evar 2) lnil)))) lnil))))) (cslots [5, 4] (slrev (slv (evar 5) (slv (evar 6) slnil)))))) 400) (cseq (cif (icmp ieqb (elen (blst (tidx (evar 4) (econ (.int 0))))) (econ (.int 0))) (cret (etup (lcons (elst (fits lnil)) (lcons (elst (fits lnil)) (lcons (elst (fits lnil)) lnil))))) cskip) (cseq (cset 3 (ecall F_inverse_mod (lcons (lidx (blst (tidx (evar 4) (econ (.int 0)))) (eneg (econ (.int 1)))) (lcons (evar 2) lnil)))) (cret (etup (lcons (ecall F_mscale (lcons (tidx (evar 4) (econ (.int 0))) (lcons (evar 3) (lcons (evar 2) lnil)))) (lcons (ecall F_mscale (lcons (tidx (evar 4) (econ (.int 1))) (lcons (evar 3) (lcons (evar 2) lnil)))) (lcons (ecall F_mscale (lcons (tidx (evar 4) (econ (.int 2))) (lcons (evar 3) (lcons (evar 2) lnil)))) lnil)))))))))
theorem K_mextended {U : Uni} (H : Us U) {F_inverse_mod F_mdivmod F_mscale F_msub F_mmul : FN} (k_inverse_mod : CallOK U "inverse_mod" 2 F_inverse_mod) (k_mdivmod : CallOK U "mdivmod" 3 F_mdivmod) (k_mscale : CallOK U "mscale" 2 F_mscale) (k_msub : CallOK U "msub" 3 F_msub) (k_mmul : CallOK U "mmul" 2 F_mmul) : SimS U 3 (dr 16).scope nm_mextended (dr 16).body (c_mextended F_inverse_mod F_mdivmod F_mscale F_msub F_mmul) := by
  have D : NmD nm_mextended := okNm_spec (by decide +kernel)
  have K : NmK (dr 16).scope nm_mextended := okFn_spec (by decide +kernel)
  refine SimS.cons ?_ ?_
  · with_reducible exact (Sim1.swapR (names := ["one", "other"]) (rn := ["other", "one"]) (by with_unfolding_all rfl) (SimSl.consv (SimE.tup (SimL.cons (SimE.vr D (i := 0) (by with_unfolding_all rfl)) (SimL.cons (SimF.toE (SimF.disp (SimL.cons SimE.int SimL.nil))) (SimL.cons (SimF.toE (SimF.disp SimL.nil)) SimL.nil)))) (SimSl.consv (SimE.tup (SimL.cons (SimE.vr D (i := 1) (by with_unfolding_all rfl)) (SimL.cons (SimF.toE (SimF.disp SimL.nil)) (SimL.cons (SimF.toE (SimF.disp (SimL.cons SimE.int SimL.nil))) SimL.nil)))) SimSl.nil)) (StrsAt.c K (i := 5) (by with_unfolding_all rfl) (StrsAt.c K (i := 4) (by with_unfolding_all rfl) StrsAt.nil)) (by kernel_rfl))
  refine SimS.cons ?_ ?_
  · with_reducible exact (Sim1.while (Cmp.toT (Cmp.int crule_gt (SimE.len (SimE.toB (SimE.tidx (SimE.vr D (i := 5) (by with_unfolding_all rfl)) SimE.int)) (by decide +kernel)) SimE.int)) (SimS.cons (Sim1.unp (SimE.callN (cal_mdivmod H) k_mdivmod (SimL.cons (SimE.tidx (SimE.vr D (i := 4) (by with_unfolding_all rfl)) SimE.int) (SimL.cons (SimE.tidx (SimE.vr D (i := 5) (by with_unfolding_all rfl)) SimE.int) (SimL.cons (SimE.vr D (i := 2) (by with_unfolding_all rfl)) SimL.nil))) (by decide) (by decide +kernel)) (NamesAt.c K (i := 7) (by with_unfolding_all rfl) (NamesAt.c K (i := 8) (by with_unfolding_all rfl) NamesAt.nil))) (SimS.cons (Sim1.asgN K (i := 6) (by with_unfolding_all rfl) (SimE.tup (SimL.cons (SimE.vr D (i := 8) (by with_unfolding_all rfl)) (SimL.cons (SimE.callN (cal_msub H) k_msub (SimL.cons (SimE.tidx (SimE.vr D (i := 4) (by with_unfolding_all rfl)) SimE.int) (SimL.cons (SimE.callN (cal_mmul H) k_mmul (SimL.cons (SimE.vr D (i := 7) (by with_unfolding_all rfl)) (SimL.cons (SimE.tidx (SimE.vr D (i := 5) (by with_unfolding_all rfl)) SimE.int) (SimL.cons (SimE.vr D (i := 2) (by with_unfolding_all rfl)) SimL.nil))) (by decide) (by decide +kernel)) (SimL.cons (SimE.vr D (i := 2) (by with_unfolding_all rfl)) SimL.nil))) (by decide) (by decide +kernel)) (SimL.cons (SimE.callN (cal_msub H) k_msub (SimL.cons (SimE.tidx (SimE.vr D (i := 4) (by with_unfolding_all rfl)) SimE.int) (SimL.cons (SimE.callN (cal_mmul H) k_mmul (SimL.cons (SimE.vr D (i := 7) (by with_unfolding_all rfl)) (SimL.cons (SimE.tidx (SimE.vr D (i := 5) (by with_unfolding_all rfl)) SimE.int) (SimL.cons (SimE.vr D (i := 2) (by with_unfolding_all rfl)) SimL.nil))) (by decide) (by decide +kernel)) (SimL.cons (SimE.vr D (i := 2) (by with_unfolding_all rfl)) SimL.nil))) (by decide) (by decide +kernel)) SimL.nil))))) (SimS.one (Sim1.swapR (names := ["one", "other"]) (rn := ["other", "one"]) (by with_unfolding_all rfl) (SimSl.consv (SimE.vr D (i := 5) (by with_unfolding_all rfl)) (SimSl.consv (SimE.vr D (i := 6) (by with_unfolding_all rfl)) SimSl.nil)) (StrsAt.c K (i := 5) (by with_unfolding_all rfl) (StrsAt.c K (i := 4) (by with_unfolding_all rfl) StrsAt.nil)) (by kernel_rfl))))) 400)
  refine SimS.cons ?_ ?_
  · with_reducible exact (Sim1.ife (Cmp.toT (Cmp.int crule_eq (SimE.len (SimE.toB (SimE.tidx (SimE.vr D (i := 4) (by with_unfolding_all rfl)) SimE.int)) (by decide +kernel)) SimE.int)) (SimS.one (Sim1.ret (SimE.tup (SimL.cons (SimF.toE (SimF.disp SimL.nil)) (SimL.cons (SimF.toE (SimF.disp SimL.nil)) (SimL.cons (SimF.toE (SimF.disp SimL.nil)) SimL.nil)))))) SimS.nil)
  refine SimS.cons ?_ ?_
  · with_reducible exact (Sim1.asgN K (i := 3) (by with_unfolding_all rfl) (SimE.callN (cal_inverse_mod H) k_inverse_mod (SimL.cons (SimE.lidx (SimE.toB (SimE.tidx (SimE.vr D (i := 4) (by with_unfolding_all rfl)) SimE.int)) (SimE.neg SimE.int)) (SimL.cons (SimE.vr D (i := 2) (by with_unfolding_all rfl)) SimL.nil)) (by decide) (by decide +kernel)))
  refine SimS.one ?_
  with_reducible exact (Sim1.ret (SimE.tup (SimL.cons (SimE.callN (cal_mscale H) k_mscale (SimL.cons (SimE.tidx (SimE.vr D (i := 4) (by with_unfolding_all rfl)) SimE.int) (SimL.cons (SimE.vr D (i := 3) (by with_unfolding_all rfl)) (SimL.cons (SimE.vr D (i := 2) (by with_unfolding_all rfl)) SimL.nil))) (by decide) (by decide +kernel)) (SimL.cons (SimE.callN (cal_mscale H) k_mscale (SimL.cons (SimE.tidx (SimE.vr D (i := 4) (by with_unfolding_all rfl)) SimE.int) (SimL.cons (SimE.vr D (i := 3) (by with_unfolding_all rfl)) (SimL.cons (SimE.vr D (i := 2) (by with_unfolding_all rfl)) SimL.nil))) (by decide) (by decide +kernel)) (SimL.cons (SimE.callN (cal_mscale H) k_mscale (SimL.cons (SimE.tidx (SimE.vr D (i := 4) (by with_unfolding_all rfl)) SimE.int) (SimL.cons (SimE.vr D (i := 3) (by with_unfolding_all rfl)) (SimL.cons (SimE.vr D (i := 2) (by with_unfolding_all rfl)) SimL.nil))) (by decide) (by decide +kernel)) SimL.nil)))))
theorem O_mextended {U : Uni} (H : Us U) {F_inverse_mod F_mdivmod F_mscale F_msub F_mmul : FN} (k_inverse_mod : CallOK U "inverse_mod" 2 F_inverse_mod) (k_mdivmod : CallOK U "mdivmod" 3 F_mdivmod) (k_mscale : CallOK U "mscale" 2 F_mscale) (k_msub : CallOK U "msub" 3 F_msub) (k_mmul : CallOK U "mmul" 2 F_mmul) : CallOK U "mextended" 4 (runArgs 3 (c_mextended F_inverse_mod F_mdivmod F_mscale F_msub F_mmul)) :=
  (cal_mextended H).of (ps := ["a", "b", "p"]) (by decide +kernel) (fun pm cd doc => len3 fun a b c => by kernel_rfl) (K_mextended H k_inverse_mod k_mdivmod k_mscale k_msub k_mmul)

noncomputable def nm_count_prime_polys : Nm := [some "p", some "k", some "found", some "divisor"]
noncomputable def c_count_prime_polys (F_moebius : FN) : C :=
  (cseq (cset 2 (econ (.int 0))) (cseq (cfor (brange2 (econ (.int 1)) (iop fadd (evar 1) (econ (.int 1)))) (asgName 3) (cif (icmp ieqb (iop fmod (evar 1) (evar 3)) (econ (.int 0))) (cset 2 (iop fadd (evar 2) (iop fmul (ecall F_moebius (lcons (evar 3) lnil)) (iop fpow (evar 0) (iop ffdiv (evar 1) (evar 3)))))) cskip)) (cret (iop ffdiv (evar 2) (evar 1)))))
theorem K_count_prime_polys {U : Uni} (H : Us U) {F_moebius : FN} (k_moebius : CallOK U "moebius" 3 F_moebius) : SimS U 3 (dr 37).scope nm_count_prime_polys (dr 37).body (c_count_prime_polys F_moebius) := by
  have D : NmD nm_count_prime_polys := okNm_spec (by decide +kernel)
  have K : NmK (dr 37).scope nm_count_prime_polys := okFn_spec (by decide +kernel)
  refine SimS.cons ?_ ?_
  · with_reducible exact (Sim1.asgN K (i := 2) (by with_unfolding_all rfl) SimE.int)
  refine SimS.cons ?_ ?_
  · with_reducible exact (Sim1.for (SimI.range2 SimE.int (SimE.iop irule_add (SimE.vr D (i := 1) (by with_unfolding_all rfl)) SimE.int) (by decide +kernel)) (AsgOK.vr K (i := 3) (by with_unfolding_all rfl)) (SimS.one (Sim1.ife (Cmp.toT (Cmp.int crule_eq (SimE.iop irule_mod (SimE.vr D (i := 1) (by with_unfolding_all rfl)) (SimE.vr D (i := 3) (by with_unfolding_all rfl))) SimE.int)) (SimS.one (Sim1.asgN K (i := 2) (by with_unfolding_all rfl) (SimE.iop irule_add (SimE.vr D (i := 2) (by with_unfolding_all rfl)) (SimE.iop irule_mul (SimE.callN (cal_moebius H) k_moebius (SimL.cons (SimE.vr D (i := 3) (by with_unfolding_all rfl)) SimL.nil) (by decide) (by decide +kernel)) (SimE.iop irule_pow (SimE.vr D (i := 0) (by with_unfolding_all rfl)) (SimE.iop irule_fdiv (SimE.vr D (i := 1) (by with_unfolding_all rfl)) (SimE.vr D (i := 3) (by with_unfolding_all rfl)))))))) SimS.nil)))
  refine SimS.one ?_
  with_reducible exact (Sim1.ret (SimE.iop irule_fdiv (SimE.vr D (i := 2) (by with_unfolding_all rfl)) (SimE.vr D (i := 1) (by with_unfolding_all rfl))))
theorem O_count_prime_polys {U : Uni} (H : Us U) {F_moebius : FN} (k_moebius : CallOK U "moebius" 3 F_moebius) : CallOK U "count_prime_polys" 4 (runArgs 2 (c_count_prime_polys F_moebius)) :=
  (cal_count_prime_polys H).of (ps := ["p", "k"]) (by decide +kernel) (fun pm cd doc => len2 fun a b => by kernel_rfl) (K_count_prime_polys H k_moebius)

noncomputable def nm_law_raised : Nm := [some "a", some "n", some "m", some "p", some "found", some "turn"]
noncomputable def c_law_raised (F_law_mul : FN) : C :=
  (cseq (cset 4 (elst (fits (lcons (econ (.int 1)) lnil)))) (cseq (cfor (brange1 (evar 1)) (asgName 5) (cset 4 (ecall F_law_mul (lcons (evar 4) (lcons (evar 0) (lcons (evar 2) (lcons (evar 3) lnil))))))) (cret (evar 4))))
theorem K_law_raised {U : Uni} (H : Us U) {F_law_mul : FN} (k_law_mul : CallOK U "_law_mul" 3 F_law_mul) : SimS U 3 (dr 48).scope nm_law_raised (dr 48).body (c_law_raised F_law_mul) := by
  have D : NmD nm_law_raised := okNm_spec (by decide +kernel)
  have K : NmK (dr 48).scope nm_law_raised := okFn_spec (by decide +kernel)
  refine SimS.cons ?_ ?_
  · with_reducible exact (Sim1.asgN K (i := 4) (by with_unfolding_all rfl) (SimF.toE (SimF.disp (SimL.cons SimE.int SimL.nil))))
  refine SimS.cons ?_ ?_
  · with_reducible exact (Sim1.for (SimI.range1 (SimE.vr D (i := 1) (by with_unfolding_all rfl)) (by decide +kernel)) (AsgOK.vr K (i := 5) (by with_unfolding_all rfl)) (SimS.one (Sim1.asgN K (i := 4) (by with_unfolding_all rfl) (SimE.callN (cal_law_mul H) k_law_mul (SimL.cons (SimE.vr D (i := 4) (by with_unfolding_all rfl)) (SimL.cons (SimE.vr D (i := 0) (by with_unfolding_all rfl)) (SimL.cons (SimE.vr D (i := 2) (by with_unfolding_all rfl)) (SimL.cons (SimE.vr D (i := 3) (by with_unfolding_all rfl)) SimL.nil)))) (by decide) (by decide +kernel)))))
  refine SimS.one ?_
  with_reducible exact (Sim1.ret (SimE.vr D (i := 4) (by with_unfolding_all rfl)))
theorem O_law_raised {U : Uni} (H : Us U) {F_law_mul : FN} (k_law_mul : CallOK U "_law_mul" 3 F_law_mul) : CallOK U "_law_raised" 4 (runArgs 4 (c_law_raised F_law_mul)) :=
  (cal_law_raised H).of (ps := ["a", "n", "m", "p"]) (by decide +kernel) (fun pm cd doc => len4 fun a b c d => by kernel_rfl) (K_law_raised H k_law_mul)

noncomputable def nm_law_value : Nm := [some "f", some "a", some "m", some "p", some "number", some "found", some "power"]
noncomputable def nm_law_value_0 : Nm := [none, none, none, some "p", some "number", none, none, some "one"]
noncomputable def c_law_value (F_law_plus F_law_mul : FN) : C :=
  (cseq (cslots [6, 5] (slrev (slv (elst (fits lnil)) (slv (elst (fits (lcons (econ (.int 1)) lnil))) slnil)))) (cseq (cfor (blst (evar 0)) (asgName 4) (cseq (cset 5 (ecall F_law_plus (lcons (evar 5) (lcons (elst (lcomp [3, 4] (bvar 6) (asgName 7) ttrue (iop fmod (iop fmul (evar 7) (evar 4)) (evar 3)))) (lcons (evar 3) lnil))))) (cset 6 (ecall F_law_mul (lcons (evar 6) (lcons (evar 1) (lcons (evar 2) (lcons (evar 3) lnil)))))))) (cret (evar 5))))
theorem K_law_value {U : Uni} (H : Us U) {F_law_plus F_law_mul : FN} (k_law_plus : CallOK U "_law_plus" 2 F_law_plus) (k_law_mul : CallOK U "_law_mul" 3 F_law_mul) : SimS U 3 (dr 49).scope nm_law_value (dr 49).body (c_law_value F_law_plus F_law_mul) := by
  have D : NmD nm_law_value := okNm_spec (by decide +kernel)
  have K : NmK (dr 49).scope nm_law_value := okFn_spec (by decide +kernel)
  have D0 : NmD nm_law_value_0 := okNm_spec (by decide +kernel)
  refine SimS.cons ?_ ?_
  · with_reducible exact (Sim1.swapR (names := ["found", "power"]) (rn := ["power", "found"]) (by with_unfolding_all rfl) (SimSl.consv (SimF.toE (SimF.disp SimL.nil)) (SimSl.consv (SimF.toE (SimF.disp (SimL.cons SimE.int SimL.nil))) SimSl.nil)) (StrsAt.c K (i := 6) (by with_unfolding_all rfl) (StrsAt.c K (i := 5) (by with_unfolding_all rfl) StrsAt.nil)) (by kernel_rfl))
  refine SimS.cons ?_ ?_
  · with_reducible exact (Sim1.for (SimI.strong (SimE.vr D (i := 0) (by with_unfolding_all rfl))) (AsgOK.vr K (i := 4) (by with_unfolding_all rfl)) (SimS.cons (Sim1.asgN K (i := 5) (by with_unfolding_all rfl) (SimE.callN (cal_law_plus H) k_law_plus (SimL.cons (SimE.vr D (i := 5) (by with_unfolding_all rfl)) (SimL.cons (SimF.toE (SimF.comp (strong := false) (nm' := nm_law_value_0) (caps := [3, 4]) (capB_spec (by decide +kernel)) (SimI.weak (SimB.vr D (i := 6) (by with_unfolding_all rfl))) (AsgOK.name (i := 7) (by with_unfolding_all rfl) (.inl (by decide +kernel))) (Plainly.name _) SimTs.nil (SimE.iop irule_mod (SimE.iop irule_mul (SimE.vr D0 (i := 7) (by with_unfolding_all rfl)) (SimE.vr D0 (i := 4) (by with_unfolding_all rfl))) (SimE.vr D0 (i := 3) (by with_unfolding_all rfl))))) (SimL.cons (SimE.vr D (i := 3) (by with_unfolding_all rfl)) SimL.nil))) (by decide) (by decide +kernel))) (SimS.one (Sim1.asgN K (i := 6) (by with_unfolding_all rfl) (SimE.callN (cal_law_mul H) k_law_mul (SimL.cons (SimE.vr D (i := 6) (by with_unfolding_all rfl)) (SimL.cons (SimE.vr D (i := 1) (by with_unfolding_all rfl)) (SimL.cons (SimE.vr D (i := 2) (by with_unfolding_all rfl)) (SimL.cons (SimE.vr D (i := 3) (by with_unfolding_all rfl)) SimL.nil)))) (by decide) (by decide +kernel))))))
  refine SimS.one ?_
  with_reducible exact (Sim1.ret (SimE.vr D (i := 5) (by with_unfolding_all rfl)))
theorem O_law_value {U : Uni} (H : Us U) {F_law_plus F_law_mul : FN} (k_law_plus : CallOK U "_law_plus" 2 F_law_plus) (k_law_mul : CallOK U "_law_mul" 3 F_law_mul) : CallOK U "_law_value" 4 (runArgs 4 (c_law_value F_law_plus F_law_mul)) :=
  (cal_law_value H).of (ps := ["f", "a", "m", "p"]) (by decide +kernel) (fun pm cd doc => len4 fun a b c d => by kernel_rfl) (K_law_value H k_law_plus k_law_mul)

noncomputable def nm_mpower_mod : Nm := [some "a", some "n", some "f", some "p", some "found", some "square"]
noncomputable def c_mpower_mod (F_mrest F_mmul : FN) : C :=
  (cseq (cslots [5, 4] (slrev (slv (ecall F_mrest (lcons (elst (fits (lcons (econ (.int 1)) lnil))) (lcons (evar 2) (lcons (evar 3) lnil)))) (slv (ecall F_mrest (lcons (evar 0) (lcons (evar 2) (lcons (evar 3) lnil)))) slnil)))) (cseq (cwhile (icmp cgt (evar 1) (econ (.int 0))) (cseq (cif (icmp ieqb (iop fmod (evar 1) (econ (.int 2))) (econ (.int 1))) (cset 4 (ecall F_mrest (lcons (ecall F_mmul (lcons (evar 4) (lcons (evar 5) (lcons (evar 3) lnil)))) (lcons (evar 2) (lcons (evar 3) lnil))))) cskip) (cseq (cset 1 (iop ffdiv (evar 1) (econ (.int 2)))) (cif (icmp cgt (evar 1) (econ (.int 0))) (cset 5 (ecall F_mrest (lcons (ecall F_mmul (lcons (evar 5) (lcons (evar 5) (lcons (evar 3) lnil)))) (lcons (evar 2) (lcons (evar 3) lnil))))) cskip))) 400) (cret (evar 4))))
theorem K_mpower_mod {U : Uni} (H : Us U) {F_mrest F_mmul : FN} (k_mrest : CallOK U "mrest" 4 F_mrest) (k_mmul : CallOK U "mmul" 2 F_mmul) : SimS U 4 (dr 14).scope nm_mpower_mod (dr 14).body (c_mpower_mod F_mrest F_mmul) := by
  have D : NmD nm_mpower_mod := okNm_spec (by decide +kernel)
  have K : NmK (dr 14).scope nm_mpower_mod := okFn_spec (by decide +kernel)
  refine SimS.cons ?_ ?_
  · with_reducible exact (Sim1.swapR (names := ["found", "square"]) (rn := ["square", "found"]) (by with_unfolding_all rfl) (SimSl.consv (SimE.callN (cal_mrest H) k_mrest (SimL.cons (SimF.toE (SimF.disp (SimL.cons SimE.int SimL.nil))) (SimL.cons (SimE.vr D (i := 2) (by with_unfolding_all rfl)) (SimL.cons (SimE.vr D (i := 3) (by with_unfolding_all rfl)) SimL.nil))) (by decide) (by decide +kernel)) (SimSl.consv (SimE.callN (cal_mrest H) k_mrest (SimL.cons (SimE.vr D (i := 0) (by with_unfolding_all rfl)) (SimL.cons (SimE.vr D (i := 2) (by with_unfolding_all rfl)) (SimL.cons (SimE.vr D (i := 3) (by with_unfolding_all rfl)) SimL.nil))) (by decide) (by decide +kernel)) SimSl.nil)) (StrsAt.c K (i := 5) (by with_unfolding_all rfl) (StrsAt.c K (i := 4) (by with_unfolding_all rfl) StrsAt.nil)) (by kernel_rfl))
  refine SimS.cons ?_ ?_
  · with_reducible exact (Sim1.while (Cmp.toT (Cmp.int crule_gt (SimE.vr D (i := 1) (by with_unfolding_all rfl)) SimE.int)) (SimS.cons (Sim1.ife (Cmp.toT (Cmp.int crule_eq (SimE.iop irule_mod (SimE.vr D (i := 1) (by with_unfolding_all rfl)) SimE.int) SimE.int)) (SimS.one (Sim1.asgN K (i := 4) (by with_unfolding_all rfl) (SimE.callN (cal_mrest H) k_mrest (SimL.cons (SimE.callN (cal_mmul H) k_mmul (SimL.cons (SimE.vr D (i := 4) (by with_unfolding_all rfl)) (SimL.cons (SimE.vr D (i := 5) (by with_unfolding_all rfl)) (SimL.cons (SimE.vr D (i := 3) (by with_unfolding_all rfl)) SimL.nil))) (by decide) (by decide +kernel)) (SimL.cons (SimE.vr D (i := 2) (by with_unfolding_all rfl)) (SimL.cons (SimE.vr D (i := 3) (by with_unfolding_all rfl)) SimL.nil))) (by decide) (by decide +kernel)))) SimS.nil) (SimS.cons (Sim1.asgN K (i := 1) (by with_unfolding_all rfl) (SimE.iop irule_fdiv (SimE.vr D (i := 1) (by with_unfolding_all rfl)) SimE.int)) (SimS.one (Sim1.ife (Cmp.toT (Cmp.int crule_gt (SimE.vr D (i := 1) (by with_unfolding_all rfl)) SimE.int)) (SimS.one (Sim1.asgN K (i := 5) (by with_unfolding_all rfl) (SimE.callN (cal_mrest H) k_mrest (SimL.cons (SimE.callN (cal_mmul H) k_mmul (SimL.cons (SimE.vr D (i := 5) (by with_unfolding_all rfl)) (SimL.cons (SimE.vr D (i := 5) (by with_unfolding_all rfl)) (SimL.cons (SimE.vr D (i := 3) (by with_unfolding_all rfl)) SimL.nil))) (by decide) (by decide +kernel)) (SimL.cons (SimE.vr D (i := 2) (by with_unfolding_all rfl)) (SimL.cons (SimE.vr D (i := 3) (by with_unfolding_all rfl)) SimL.nil))) (by decide) (by decide +kernel)))) SimS.nil)))) 400)
  refine SimS.one ?_
  with_reducible exact (Sim1.ret (SimE.vr D (i := 4) (by with_unfolding_all rfl)))
theorem O_mpower_mod {U : Uni} (H : Us U) {F_mrest F_mmul : FN} (k_mrest : CallOK U "mrest" 4 F_mrest) (k_mmul : CallOK U "mmul" 2 F_mmul) : CallOK U "mpower_mod" 5 (runArgs 4 (c_mpower_mod F_mrest F_mmul)) :=
  (cal_mpower_mod H).of (ps := ["a", "n", "f", "p"]) (by decide +kernel) (fun pm cd doc => len4 fun a b c d => by kernel_rfl) (K_mpower_mod H k_mrest k_mmul)

noncomputable def nm_mgcd : Nm := [some "a", some "b", some "p"]
noncomputable def c_mgcd (F_mmonic F_mrest : FN) : C :=
  (cseq (cwhile (icmp cgt (elen (bvar 1)) (econ (.int 0))) (cslots [1, 0] (slrev (slv (evar 1) (slv (ecall F_mrest (lcons (evar 0) (lcons (evar 1) (lcons (evar 2) lnil)))) slnil)))) 400) (cret (ecall F_mmonic (lcons (evar 0) (lcons (evar 2) lnil)))))
theorem K_mgcd {U : Uni} (H : Us U) {F_mmonic F_mrest : FN} (k_mmonic : CallOK U "mmonic" 3 F_mmonic) (k_mrest : CallOK U "mrest" 4 F_mrest) : SimS U 4 (dr 15).scope nm_mgcd (dr 15).body (c_mgcd F_mmonic F_mrest) := by
  have D : NmD nm_mgcd := okNm_spec (by decide +kernel)
  have K : NmK (dr 15).scope nm_mgcd := okFn_spec (by decide +kernel)
  refine SimS.cons ?_ ?_
  · with_reducible exact (Sim1.while (Cmp.toT (Cmp.int crule_gt (SimE.len (SimB.vr D (i := 1) (by with_unfolding_all rfl)) (by decide +kernel)) SimE.int)) (SimS.one (Sim1.swapR (names := ["a", "b"]) (rn := ["b", "a"]) (by with_unfolding_all rfl) (SimSl.consv (SimE.vr D (i := 1) (by with_unfolding_all rfl)) (SimSl.consv (SimE.callN (cal_mrest H) k_mrest (SimL.cons (SimE.vr D (i := 0) (by with_unfolding_all rfl)) (SimL.cons (SimE.vr D (i := 1) (by with_unfolding_all rfl)) (SimL.cons (SimE.vr D (i := 2) (by with_unfolding_all rfl)) SimL.nil))) (by decide) (by decide +kernel)) SimSl.nil)) (StrsAt.c K (i := 1) (by with_unfolding_all rfl) (StrsAt.c K (i := 0) (by with_unfolding_all rfl) StrsAt.nil)) (by kernel_rfl))) 400)
  refine SimS.one ?_
  with_reducible exact (Sim1.ret (SimE.callN (cal_mmonic H) k_mmonic (SimL.cons (SimE.vr D (i := 0) (by with_unfolding_all rfl)) (SimL.cons (SimE.vr D (i := 2) (by with_unfolding_all rfl)) SimL.nil)) (by decide) (by decide +kernel)))
theorem O_mgcd {U : Uni} (H : Us U) {F_mmonic F_mrest : FN} (k_mmonic : CallOK U "mmonic" 3 F_mmonic) (k_mrest : CallOK U "mrest" 4 F_mrest) : CallOK U "mgcd" 5 (runArgs 3 (c_mgcd F_mmonic F_mrest)) :=
  (cal_mgcd H).of (ps := ["a", "b", "p"]) (by decide +kernel) (fun pm cd doc => len3 fun a b c => by kernel_rfl) (K_mgcd H k_mmonic k_mrest)

noncomputable def nm_minverse : Nm := [some "a", some "f", some "p", some "common", some "s", some "t"]
noncomputable def c_minverse (F_mextended F_mrest : FN) : C :=
  (cseq (cunp (asgTup [3, 4, 5]) (ecall F_mextended (lcons (ecall F_mrest (lcons (evar 0) (lcons (evar 1) (lcons (evar 2) lnil)))) (lcons (evar 1) (lcons (evar 2) lnil))))) (cret (eife (deq (evar 3) (elst (fits (lcons (econ (.int 1)) lnil)))) (ecall F_mrest (lcons (evar 4) (lcons (evar 1) (lcons (evar 2) lnil)))) (econ .none))))
theorem K_minverse {U : Uni} (H : Us U) {F_mextended F_mrest : FN} (k_mextended : CallOK U "mextended" 4 F_mextended) (k_mrest : CallOK U "mrest" 4 F_mrest) : SimS U 4 (dr 17).scope nm_minverse (dr 17).body (c_minverse F_mextended F_mrest) := by
  have D : NmD nm_minverse := okNm_spec (by decide +kernel)
  have K : NmK (dr 17).scope nm_minverse := okFn_spec (by decide +kernel)
  refine SimS.cons ?_ ?_
  · with_reducible exact (Sim1.unp (SimE.callN (cal_mextended H) k_mextended (SimL.cons (SimE.callN (cal_mrest H) k_mrest (SimL.cons (SimE.vr D (i := 0) (by with_unfolding_all rfl)) (SimL.cons (SimE.vr D (i := 1) (by with_unfolding_all rfl)) (SimL.cons (SimE.vr D (i := 2) (by with_unfolding_all rfl)) SimL.nil))) (by decide) (by decide +kernel)) (SimL.cons (SimE.vr D (i := 1) (by with_unfolding_all rfl)) (SimL.cons (SimE.vr D (i := 2) (by with_unfolding_all rfl)) SimL.nil))) (by decide) (by decide +kernel)) (NamesAt.c K (i := 3) (by with_unfolding_all rfl) (NamesAt.c K (i := 4) (by with_unfolding_all rfl) (NamesAt.c K (i := 5) (by with_unfolding_all rfl) NamesAt.nil))))
  refine SimS.one ?_
  with_reducible exact (Sim1.ret (SimE.ife (Cmp.toT (Cmp.eq (SimE.toR (SimE.vr D (i := 3) (by with_unfolding_all rfl))) (SimE.toR (SimF.toE (SimF.disp (SimL.cons SimE.int SimL.nil)))))) (SimE.callN (cal_mrest H) k_mrest (SimL.cons (SimE.vr D (i := 4) (by with_unfolding_all rfl)) (SimL.cons (SimE.vr D (i := 1) (by with_unfolding_all rfl)) (SimL.cons (SimE.vr D (i := 2) (by with_unfolding_all rfl)) SimL.nil))) (by decide) (by decide +kernel)) SimE.none))
theorem O_minverse {U : Uni} (H : Us U) {F_mextended F_mrest : FN} (k_mextended : CallOK U "mextended" 4 F_mextended) (k_mrest : CallOK U "mrest" 4 F_mrest) : CallOK U "minverse" 5 (runArgs 3 (c_minverse F_mextended F_mrest)) :=
  (cal_minverse H).of (ps := ["a", "f", "p"]) (by decide +kernel) (fun pm cd doc => len3 fun a b c => by kernel_rfl) (K_minverse H k_mextended k_mrest)

noncomputable def nm_gf_multiply : Nm := [some "a", some "b", some "m", some "p"]
noncomputable def c_gf_multiply (F_mrest F_mmul : FN) : C :=
  (cret (ecall F_mrest (lcons (ecall F_mmul (lcons (evar 0) (lcons (evar 1) (lcons (evar 3) lnil)))) (lcons (evar 2) (lcons (evar 3) lnil)))))
theorem K_gf_multiply {U : Uni} (H : Us U) {F_mrest F_mmul : FN} (k_mrest : CallOK U "mrest" 4 F_mrest) (k_mmul : CallOK U "mmul" 2 F_mmul) : SimS U 4 (dr 22).scope nm_gf_multiply (dr 22).body (c_gf_multiply F_mrest F_mmul) := by
  have D : NmD nm_gf_multiply := okNm_spec (by decide +kernel)
  have K : NmK (dr 22).scope nm_gf_multiply := okFn_spec (by decide +kernel)
  unfold c_gf_multiply
  refine SimS.one ?_
  with_reducible exact (Sim1.ret (SimE.callN (cal_mrest H) k_mrest (SimL.cons (SimE.callN (cal_mmul H) k_mmul (SimL.cons (SimE.vr D (i := 0) (by with_unfolding_all rfl)) (SimL.cons (SimE.vr D (i := 1) (by with_unfolding_all rfl)) (SimL.cons (SimE.vr D (i := 3) (by with_unfolding_all rfl)) SimL.nil))) (by decide) (by decide +kernel)) (SimL.cons (SimE.vr D (i := 2) (by with_unfolding_all rfl)) (SimL.cons (SimE.vr D (i := 3) (by with_unfolding_all rfl)) SimL.nil))) (by decide) (by decide +kernel)))
theorem O_gf_multiply {U : Uni} (H : Us U) {F_mrest F_mmul : FN} (k_mrest : CallOK U "mrest" 4 F_mrest) (k_mmul : CallOK U "mmul" 2 F_mmul) : CallOK U "gf_multiply" 5 (runArgs 4 (c_gf_multiply F_mrest F_mmul)) :=
  (cal_gf_multiply H).of (ps := ["a", "b", "m", "p"]) (by decide +kernel) (fun pm cd doc => len4 fun a b c d => by kernel_rfl) (K_gf_multiply H k_mrest k_mmul)

noncomputable def nm_is_prime_mod : Nm := [some "f", some "p", some "many", some "divisor", some "times", some "power"]
noncomputable def c_is_prime_mod (F_mdegree F_prime_factors F_mpower_mod F_mrest F_mgcd F_msub : FN) : C :=
  (cseq (cset 2 (ecall F_mdegree (lcons (evar 0) lnil))) (cseq (cif (icmp iltb (evar 2) (econ (.int 1))) (cret (econ (.bool false))) cskip) (cseq (cfor (blst (ecall F_prime_factors (lcons (evar 2) lnil))) (asgTup [3, 4]) (cseq (cset 5 (ecall F_mpower_mod (lcons (elst (fits (lcons (econ (.int 0)) (lcons (econ (.int 1)) lnil)))) (lcons (iop fpow (evar 1) (iop ffdiv (evar 2) (evar 3))) (lcons (evar 0) (lcons (evar 1) lnil)))))) (cif (icmp cne (ecall F_mdegree (lcons (ecall F_mgcd (lcons (ecall F_msub (lcons (evar 5) (lcons (ecall F_mrest (lcons (elst (fits (lcons (econ (.int 0)) (lcons (econ (.int 1)) lnil)))) (lcons (evar 0) (lcons (evar 1) lnil)))) (lcons (evar 1) lnil)))) (lcons (evar 0) (lcons (evar 1) lnil)))) lnil)) (econ (.int 0))) (cret (econ (.bool false))) cskip))) (cret (ebool (deq (ecall F_mpower_mod (lcons (elst (fits (lcons (econ (.int 0)) (lcons (econ (.int 1)) lnil)))) (lcons (iop fpow (evar 1) (evar 2)) (lcons (evar 0) (lcons (evar 1) lnil))))) (ecall F_mrest (lcons (elst (fits (lcons (econ (.int 0)) (lcons (econ (.int 1)) lnil)))) (lcons (evar 0) (lcons (evar 1) lnil))))))))))
theorem K_is_prime_mod {U : Uni} (H : Us U) {F_mdegree F_prime_factors F_mpower_mod F_mrest F_mgcd F_msub : FN} (k_mdegree : CallOK U "mdegree" 1 F_mdegree) (k_prime_factors : CallOK U "prime_factors" 2 F_prime_factors) (k_mpower_mod : CallOK U "mpower_mod" 5 F_mpower_mod) (k_mrest : CallOK U "mrest" 4 F_mrest) (k_mgcd : CallOK U "mgcd" 5 F_mgcd) (k_msub : CallOK U "msub" 3 F_msub) : SimS U 5 (dr 19).scope nm_is_prime_mod (dr 19).body (c_is_prime_mod F_mdegree F_prime_factors F_mpower_mod F_mrest F_mgcd F_msub) := by
  have D : NmD nm_is_prime_mod := okNm_spec (by decide +kernel)
  have K : NmK (dr 19).scope nm_is_prime_mod := okFn_spec (by decide +kernel)
  refine SimS.cons ?_ ?_
  · with_reducible exact (Sim1.asgN K (i := 2) (by with_unfolding_all rfl) (SimE.callN (cal_mdegree H) k_mdegree (SimL.cons (SimE.vr D (i := 0) (by with_unfolding_all rfl)) SimL.nil) (by decide) (by decide +kernel)))
  refine SimS.cons ?_ ?_
  · with_reducible exact (Sim1.ife (Cmp.toT (Cmp.int crule_lt (SimE.vr D (i := 2) (by with_unfolding_all rfl)) SimE.int)) (SimS.one (Sim1.ret SimE.bool)) SimS.nil)
  refine SimS.cons ?_ ?_
  · with_reducible exact (Sim1.for (SimI.strong (SimE.callN (cal_prime_factors H) k_prime_factors (SimL.cons (SimE.vr D (i := 2) (by with_unfolding_all rfl)) SimL.nil) (by decide) (by decide +kernel))) (AsgOK.tup (NamesAt.c K (i := 3) (by with_unfolding_all rfl) (NamesAt.c K (i := 4) (by with_unfolding_all rfl) NamesAt.nil))) (SimS.cons (Sim1.asgN K (i := 5) (by with_unfolding_all rfl) (SimE.callN (cal_mpower_mod H) k_mpower_mod (SimL.cons (SimF.toE (SimF.disp (SimL.cons SimE.int (SimL.cons SimE.int SimL.nil)))) (SimL.cons (SimE.iop irule_pow (SimE.vr D (i := 1) (by with_unfolding_all rfl)) (SimE.iop irule_fdiv (SimE.vr D (i := 2) (by with_unfolding_all rfl)) (SimE.vr D (i := 3) (by with_unfolding_all rfl)))) (SimL.cons (SimE.vr D (i := 0) (by with_unfolding_all rfl)) (SimL.cons (SimE.vr D (i := 1) (by with_unfolding_all rfl)) SimL.nil)))) (by decide) (by decide +kernel))) (SimS.one (Sim1.ife (Cmp.toT (Cmp.int crule_ne (SimE.callN (cal_mdegree H) k_mdegree (SimL.cons (SimE.callN (cal_mgcd H) k_mgcd (SimL.cons (SimE.callN (cal_msub H) k_msub (SimL.cons (SimE.vr D (i := 5) (by with_unfolding_all rfl)) (SimL.cons (SimE.callN (cal_mrest H) k_mrest (SimL.cons (SimF.toE (SimF.disp (SimL.cons SimE.int (SimL.cons SimE.int SimL.nil)))) (SimL.cons (SimE.vr D (i := 0) (by with_unfolding_all rfl)) (SimL.cons (SimE.vr D (i := 1) (by with_unfolding_all rfl)) SimL.nil))) (by decide) (by decide +kernel)) (SimL.cons (SimE.vr D (i := 1) (by with_unfolding_all rfl)) SimL.nil))) (by decide) (by decide +kernel)) (SimL.cons (SimE.vr D (i := 0) (by with_unfolding_all rfl)) (SimL.cons (SimE.vr D (i := 1) (by with_unfolding_all rfl)) SimL.nil))) (by decide) (by decide +kernel)) SimL.nil) (by decide) (by decide +kernel)) SimE.int)) (SimS.one (Sim1.ret SimE.bool)) SimS.nil))))
  refine SimS.one ?_
  with_reducible exact (Sim1.ret (Cmp.toE (Cmp.eq (SimE.toR (SimE.callN (cal_mpower_mod H) k_mpower_mod (SimL.cons (SimF.toE (SimF.disp (SimL.cons SimE.int (SimL.cons SimE.int SimL.nil)))) (SimL.cons (SimE.iop irule_pow (SimE.vr D (i := 1) (by with_unfolding_all rfl)) (SimE.vr D (i := 2) (by with_unfolding_all rfl))) (SimL.cons (SimE.vr D (i := 0) (by with_unfolding_all rfl)) (SimL.cons (SimE.vr D (i := 1) (by with_unfolding_all rfl)) SimL.nil)))) (by decide) (by decide +kernel))) (SimE.toR (SimE.callN (cal_mrest H) k_mrest (SimL.cons (SimF.toE (SimF.disp (SimL.cons SimE.int (SimL.cons SimE.int SimL.nil)))) (SimL.cons (SimE.vr D (i := 0) (by with_unfolding_all rfl)) (SimL.cons (SimE.vr D (i := 1) (by with_unfolding_all rfl)) SimL.nil))) (by decide) (by decide +kernel))))))
theorem O_is_prime_mod {U : Uni} (H : Us U) {F_mdegree F_prime_factors F_mpower_mod F_mrest F_mgcd F_msub : FN} (k_mdegree : CallOK U "mdegree" 1 F_mdegree) (k_prime_factors : CallOK U "prime_factors" 2 F_prime_factors) (k_mpower_mod : CallOK U "mpower_mod" 5 F_mpower_mod) (k_mrest : CallOK U "mrest" 4 F_mrest) (k_mgcd : CallOK U "mgcd" 5 F_mgcd) (k_msub : CallOK U "msub" 3 F_msub) : CallOK U "is_prime_mod" 6 (runArgs 2 (c_is_prime_mod F_mdegree F_prime_factors F_mpower_mod F_mrest F_mgcd F_msub)) :=
  (cal_is_prime_mod H).of (ps := ["f", "p"]) (by decide +kernel) (fun pm cd doc => len2 fun a b => by kernel_rfl) (K_is_prime_mod H k_mdegree k_prime_factors k_mpower_mod k_mrest k_mgcd k_msub)

noncomputable def nm_gf_inverse : Nm := [some "a", some "m", some "p"]
noncomputable def c_gf_inverse (F_minverse : FN) : C :=
  (cseq (cif (icmp ieqb (elen (bvar 0)) (econ (.int 0))) cfail cskip) (cret (ecall F_minverse (lcons (evar 0) (lcons (evar 1) (lcons (evar 2) lnil))))))
theorem K_gf_inverse {U : Uni} (H : Us U) {F_minverse : FN} (k_minverse : CallOK U "minverse" 5 F_minverse) : SimS U 5 (dr 23).scope nm_gf_inverse (dr 23).body (c_gf_inverse F_minverse) := by
  have D : NmD nm_gf_inverse := okNm_spec (by decide +kernel)
  have K : NmK (dr 23).scope nm_gf_inverse := okFn_spec (by decide +kernel)
  refine SimS.cons ?_ ?_
  · with_reducible exact (Sim1.ife (Cmp.toT (Cmp.int crule_eq (SimE.len (SimB.vr D (i := 0) (by with_unfolding_all rfl)) (by decide +kernel)) SimE.int)) (SimS.one Sim1.fail) SimS.nil)
  refine SimS.one ?_
  with_reducible exact (Sim1.ret (SimE.callN (cal_minverse H) k_minverse (SimL.cons (SimE.vr D (i := 0) (by with_unfolding_all rfl)) (SimL.cons (SimE.vr D (i := 1) (by with_unfolding_all rfl)) (SimL.cons (SimE.vr D (i := 2) (by with_unfolding_all rfl)) SimL.nil))) (by decide) (by decide +kernel)))
theorem O_gf_inverse {U : Uni} (H : Us U) {F_minverse : FN} (k_minverse : CallOK U "minverse" 5 F_minverse) : CallOK U "gf_inverse" 6 (runArgs 3 (c_gf_inverse F_minverse)) :=
  (cal_gf_inverse H).of (ps := ["a", "m", "p"]) (by decide +kernel) (fun pm cd doc => len3 fun a b c => by kernel_rfl) (K_gf_inverse H k_minverse)

noncomputable def nm_gf_at : Nm := [some "f", some "a", some "m", some "p", some "found", some "number"]
noncomputable def c_gf_at (F_madd F_gf_multiply F_mscale : FN) : C :=
  (cseq (cset 4 (elst (fits lnil))) (cseq (cfor (blst (elst (lrev (bvar 0) (eneg (econ (.int 1)))))) (asgName 5) (cset 4 (ecall F_madd (lcons (ecall F_gf_multiply (lcons (evar 4) (lcons (evar 1) (lcons (evar 2) (lcons (evar 3) lnil))))) (lcons (ecall F_mscale (lcons (elst (fits (lcons (econ (.int 1)) lnil))) (lcons (evar 5) (lcons (evar 3) lnil)))) (lcons (evar 3) lnil)))))) (cret (evar 4))))
theorem K_gf_at {U : Uni} (H : Us U) {F_madd F_gf_multiply F_mscale : FN} (k_madd : CallOK U "madd" 2 F_madd) (k_gf_multiply : CallOK U "gf_multiply" 5 F_gf_multiply) (k_mscale : CallOK U "mscale" 2 F_mscale) : SimS U 5 (dr 34).scope nm_gf_at (dr 34).body (c_gf_at F_madd F_gf_multiply F_mscale) := by
  have D : NmD nm_gf_at := okNm_spec (by decide +kernel)
  have K : NmK (dr 34).scope nm_gf_at := okFn_spec (by decide +kernel)
  refine SimS.cons ?_ ?_
  · with_reducible exact (Sim1.asgN K (i := 4) (by with_unfolding_all rfl) (SimF.toE (SimF.disp SimL.nil)))
  refine SimS.cons ?_ ?_
  · with_reducible exact (Sim1.for (SimI.strong (SimF.toE (SimF.rev (SimB.vr D (i := 0) (by with_unfolding_all rfl)) (SimE.neg SimE.int)))) (AsgOK.vr K (i := 5) (by with_unfolding_all rfl)) (SimS.one (Sim1.asgN K (i := 4) (by with_unfolding_all rfl) (SimE.callN (cal_madd H) k_madd (SimL.cons (SimE.callN (cal_gf_multiply H) k_gf_multiply (SimL.cons (SimE.vr D (i := 4) (by with_unfolding_all rfl)) (SimL.cons (SimE.vr D (i := 1) (by with_unfolding_all rfl)) (SimL.cons (SimE.vr D (i := 2) (by with_unfolding_all rfl)) (SimL.cons (SimE.vr D (i := 3) (by with_unfolding_all rfl)) SimL.nil)))) (by decide) (by decide +kernel)) (SimL.cons (SimE.callN (cal_mscale H) k_mscale (SimL.cons (SimF.toE (SimF.disp (SimL.cons SimE.int SimL.nil))) (SimL.cons (SimE.vr D (i := 5) (by with_unfolding_all rfl)) (SimL.cons (SimE.vr D (i := 3) (by with_unfolding_all rfl)) SimL.nil))) (by decide) (by decide +kernel)) (SimL.cons (SimE.vr D (i := 3) (by with_unfolding_all rfl)) SimL.nil))) (by decide) (by decide +kernel)))))
  refine SimS.one ?_
  with_reducible exact (Sim1.ret (SimE.vr D (i := 4) (by with_unfolding_all rfl)))
theorem O_gf_at {U : Uni} (H : Us U) {F_madd F_gf_multiply F_mscale : FN} (k_madd : CallOK U "madd" 2 F_madd) (k_gf_multiply : CallOK U "gf_multiply" 5 F_gf_multiply) (k_mscale : CallOK U "mscale" 2 F_mscale) : CallOK U "gf_at" 6 (runArgs 4 (c_gf_at F_madd F_gf_multiply F_mscale)) :=
  (cal_gf_at H).of (ps := ["f", "a", "m", "p"]) (by decide +kernel) (fun pm cd doc => len4 fun a b c d => by kernel_rfl) (K_gf_at H k_madd k_gf_multiply k_mscale)

noncomputable def nm_gf_divide : Nm := [some "a", some "b", some "m", some "p"]
noncomputable def c_gf_divide (F_gf_multiply F_gf_inverse : FN) : C :=
  (cret (ecall F_gf_multiply (lcons (evar 0) (lcons (ecall F_gf_inverse (lcons (evar 1) (lcons (evar 2) (lcons (evar 3) lnil)))) (lcons (evar 2) (lcons (evar 3) lnil))))))
theorem K_gf_divide {U : Uni} (H : Us U) {F_gf_multiply F_gf_inverse : FN} (k_gf_multiply : CallOK U "gf_multiply" 5 F_gf_multiply) (k_gf_inverse : CallOK U "gf_inverse" 6 F_gf_inverse) : SimS U 6 (dr 24).scope nm_gf_divide (dr 24).body (c_gf_divide F_gf_multiply F_gf_inverse) := by
  have D : NmD nm_gf_divide := okNm_spec (by decide +kernel)
  have K : NmK (dr 24).scope nm_gf_divide := okFn_spec (by decide +kernel)
  unfold c_gf_divide
  refine SimS.one ?_
  with_reducible exact (Sim1.ret (SimE.callN (cal_gf_multiply H) k_gf_multiply (SimL.cons (SimE.vr D (i := 0) (by with_unfolding_all rfl)) (SimL.cons (SimE.callN (cal_gf_inverse H) k_gf_inverse (SimL.cons (SimE.vr D (i := 1) (by with_unfolding_all rfl)) (SimL.cons (SimE.vr D (i := 2) (by with_unfolding_all rfl)) (SimL.cons (SimE.vr D (i := 3) (by with_unfolding_all rfl)) SimL.nil))) (by decide) (by decide +kernel)) (SimL.cons (SimE.vr D (i := 2) (by with_unfolding_all rfl)) (SimL.cons (SimE.vr D (i := 3) (by with_unfolding_all rfl)) SimL.nil)))) (by decide) (by decide +kernel)))
theorem O_gf_divide {U : Uni} (H : Us U) {F_gf_multiply F_gf_inverse : FN} (k_gf_multiply : CallOK U "gf_multiply" 5 F_gf_multiply) (k_gf_inverse : CallOK U "gf_inverse" 6 F_gf_inverse) : CallOK U "gf_divide" 7 (runArgs 4 (c_gf_divide F_gf_multiply F_gf_inverse)) :=
  (cal_gf_divide H).of (ps := ["a", "b", "m", "p"]) (by decide +kernel) (fun pm cd doc => len4 fun a b c d => by kernel_rfl) (K_gf_divide H k_gf_multiply k_gf_inverse)

noncomputable def nm_gf_power : Nm := [some "a", some "n", some "m", some "p", some "found", some "square"]
noncomputable def c_gf_power (F_gf_inverse F_gf_multiply : FN) : C :=
  (cseq (cif (icmp iltb (evar 1) (econ (.int 0))) (cslots [1, 0] (slrev (slv (ecall F_gf_inverse (lcons (evar 0) (lcons (evar 2) (lcons (evar 3) lnil)))) (slv (eneg (evar 1)) slnil)))) cskip) (cseq (cslots [5, 4] (slrev (slv (elst (fits (lcons (econ (.int 1)) lnil))) (slv (elst (fits (bvar 0))) slnil)))) (cseq (cwhile (icmp cgt (evar 1) (econ (.int 0))) (cseq (cif (icmp ieqb (iop fmod (evar 1) (econ (.int 2))) (econ (.int 1))) (cset 4 (ecall F_gf_multiply (lcons (evar 4) (lcons (evar 5) (lcons (evar 2) (lcons (evar 3) lnil)))))) cskip) (cseq (cset 1 (iop ffdiv (evar 1) (econ (.int 2)))) (cif (icmp cgt (evar 1) (econ (.int 0))) (cset 5 (ecall F_gf_multiply (lcons (evar 5) (lcons (evar 5) (lcons (evar 2) (lcons (evar 3) lnil)))))) cskip))) 400) (cret (evar 4)))))
theorem K_gf_power {U : Uni} (H : Us U) {F_gf_inverse F_gf_multiply : FN} (k_gf_inverse : CallOK U "gf_inverse" 6 F_gf_inverse) (k_gf_multiply : CallOK U "gf_multiply" 5 F_gf_multiply) : SimS U 6 (dr 25).scope nm_gf_power (dr 25).body (c_gf_power F_gf_inverse F_gf_multiply) := by
  have D : NmD nm_gf_power := okNm_spec (by decide +kernel)
  have K : NmK (dr 25).scope nm_gf_power := okFn_spec (by decide +kernel)
  refine SimS.cons ?_ ?_
  · with_reducible exact (Sim1.ife (Cmp.toT (Cmp.int crule_lt (SimE.vr D (i := 1) (by with_unfolding_all rfl)) SimE.int)) (SimS.one (Sim1.swapR (names := ["a", "n"]) (rn := ["n", "a"]) (by with_unfolding_all rfl) (SimSl.consv (SimE.callN (cal_gf_inverse H) k_gf_inverse (SimL.cons (SimE.vr D (i := 0) (by with_unfolding_all rfl)) (SimL.cons (SimE.vr D (i := 2) (by with_unfolding_all rfl)) (SimL.cons (SimE.vr D (i := 3) (by with_unfolding_all rfl)) SimL.nil))) (by decide) (by decide +kernel)) (SimSl.consv (SimE.neg (SimE.vr D (i := 1) (by with_unfolding_all rfl))) SimSl.nil)) (StrsAt.c K (i := 1) (by with_unfolding_all rfl) (StrsAt.c K (i := 0) (by with_unfolding_all rfl) StrsAt.nil)) (by kernel_rfl))) SimS.nil)
  refine SimS.cons ?_ ?_
  · with_reducible exact (Sim1.swapR (names := ["found", "square"]) (rn := ["square", "found"]) (by with_unfolding_all rfl) (SimSl.consv (SimF.toE (SimF.disp (SimL.cons SimE.int SimL.nil))) (SimSl.consv (SimF.toE (SimF.list (SimB.vr D (i := 0) (by with_unfolding_all rfl)) (by decide +kernel))) SimSl.nil)) (StrsAt.c K (i := 5) (by with_unfolding_all rfl) (StrsAt.c K (i := 4) (by with_unfolding_all rfl) StrsAt.nil)) (by kernel_rfl))
  refine SimS.cons ?_ ?_
  · with_reducible exact (Sim1.while (Cmp.toT (Cmp.int crule_gt (SimE.vr D (i := 1) (by with_unfolding_all rfl)) SimE.int)) (SimS.cons (Sim1.ife (Cmp.toT (Cmp.int crule_eq (SimE.iop irule_mod (SimE.vr D (i := 1) (by with_unfolding_all rfl)) SimE.int) SimE.int)) (SimS.one (Sim1.asgN K (i := 4) (by with_unfolding_all rfl) (SimE.callN (cal_gf_multiply H) k_gf_multiply (SimL.cons (SimE.vr D (i := 4) (by with_unfolding_all rfl)) (SimL.cons (SimE.vr D (i := 5) (by with_unfolding_all rfl)) (SimL.cons (SimE.vr D (i := 2) (by with_unfolding_all rfl)) (SimL.cons (SimE.vr D (i := 3) (by with_unfolding_all rfl)) SimL.nil)))) (by decide) (by decide +kernel)))) SimS.nil) (SimS.cons (Sim1.asgN K (i := 1) (by with_unfolding_all rfl) (SimE.iop irule_fdiv (SimE.vr D (i := 1) (by with_unfolding_all rfl)) SimE.int)) (SimS.one (Sim1.ife (Cmp.toT (Cmp.int crule_gt (SimE.vr D (i := 1) (by with_unfolding_all rfl)) SimE.int)) (SimS.one (Sim1.asgN K (i := 5) (by with_unfolding_all rfl) (SimE.callN (cal_gf_multiply H) k_gf_multiply (SimL.cons (SimE.vr D (i := 5) (by with_unfolding_all rfl)) (SimL.cons (SimE.vr D (i := 5) (by with_unfolding_all rfl)) (SimL.cons (SimE.vr D (i := 2) (by with_unfolding_all rfl)) (SimL.cons (SimE.vr D (i := 3) (by with_unfolding_all rfl)) SimL.nil)))) (by decide) (by decide +kernel)))) SimS.nil)))) 400)
  refine SimS.one ?_
  with_reducible exact (Sim1.ret (SimE.vr D (i := 4) (by with_unfolding_all rfl)))
theorem O_gf_power {U : Uni} (H : Us U) {F_gf_inverse F_gf_multiply : FN} (k_gf_inverse : CallOK U "gf_inverse" 6 F_gf_inverse) (k_gf_multiply : CallOK U "gf_multiply" 5 F_gf_multiply) : CallOK U "gf_power" 7 (runArgs 4 (c_gf_power F_gf_inverse F_gf_multiply)) :=
  (cal_gf_power H).of (ps := ["a", "n", "m", "p"]) (by decide +kernel) (fun pm cd doc => len4 fun a b c d => by kernel_rfl) (K_gf_power H k_gf_inverse k_gf_multiply)

noncomputable def nm_first_prime_poly : Nm := [some "p", some "k", some "number"]
noncomputable def c_first_prime_poly (F_counted F_is_prime_mod : FN) : C :=
  (cseq (cset 2 (iop fpow (evar 0) (evar 1))) (cseq (cwhile (tnot (tval (ecall F_is_prime_mod (lcons (ecall F_counted (lcons (evar 2) (lcons (evar 0) lnil))) (lcons (evar 0) lnil))))) (cset 2 (iop fadd (evar 2) (econ (.int 1)))) 400) (cret (ecall F_counted (lcons (evar 2) (lcons (evar 0) lnil))))))
theorem K_first_prime_poly {U : Uni} (H : Us U) {F_counted F_is_prime_mod : FN} (k_counted : CallOK U "counted" 2 F_counted) (k_is_prime_mod : CallOK U "is_prime_mod" 6 F_is_prime_mod) : SimS U 6 (dr 38).scope nm_first_prime_poly (dr 38).body (c_first_prime_poly F_counted F_is_prime_mod) := by
  have D : NmD nm_first_prime_poly := okNm_spec (by decide +kernel)
  have K : NmK (dr 38).scope nm_first_prime_poly := okFn_spec (by decide +kernel)
  refine SimS.cons ?_ ?_
  · with_reducible exact (Sim1.asgN K (i := 2) (by with_unfolding_all rfl) (SimE.iop irule_pow (SimE.vr D (i := 0) (by with_unfolding_all rfl)) (SimE.vr D (i := 1) (by with_unfolding_all rfl))))
  refine SimS.cons ?_ ?_
  · with_reducible exact (Sim1.while (SimT.not (SimT.val (SimE.callN (cal_is_prime_mod H) k_is_prime_mod (SimL.cons (SimE.callN (cal_counted H) k_counted (SimL.cons (SimE.vr D (i := 2) (by with_unfolding_all rfl)) (SimL.cons (SimE.vr D (i := 0) (by with_unfolding_all rfl)) SimL.nil)) (by decide) (by decide +kernel)) (SimL.cons (SimE.vr D (i := 0) (by with_unfolding_all rfl)) SimL.nil)) (by decide) (by decide +kernel)))) (SimS.one (Sim1.asgN K (i := 2) (by with_unfolding_all rfl) (SimE.iop irule_add (SimE.vr D (i := 2) (by with_unfolding_all rfl)) SimE.int))) 400)
  refine SimS.one ?_
  with_reducible exact (Sim1.ret (SimE.callN (cal_counted H) k_counted (SimL.cons (SimE.vr D (i := 2) (by with_unfolding_all rfl)) (SimL.cons (SimE.vr D (i := 0) (by with_unfolding_all rfl)) SimL.nil)) (by decide) (by decide +kernel)))
theorem O_first_prime_poly {U : Uni} (H : Us U) {F_counted F_is_prime_mod : FN} (k_counted : CallOK U "counted" 2 F_counted) (k_is_prime_mod : CallOK U "is_prime_mod" 6 F_is_prime_mod) : CallOK U "first_prime_poly" 7 (runArgs 2 (c_first_prime_poly F_counted F_is_prime_mod)) :=
  (cal_first_prime_poly H).of (ps := ["p", "k"]) (by decide +kernel) (fun pm cd doc => len2 fun a b => by kernel_rfl) (K_first_prime_poly H k_counted k_is_prime_mod)

noncomputable def nm_gf_order : Nm := [some "a", some "m", some "p", some "order", some "prime", some "many", some "turn"]
noncomputable def c_gf_order (F_prime_factors F_gf_size F_gf_power : FN) : C :=
  (cseq (cif (icmp ieqb (elen (bvar 0)) (econ (.int 0))) cfail cskip) (cseq (cset 3 (iop fsub (ecall F_gf_size (lcons (evar 1) (lcons (evar 2) lnil))) (econ (.int 1)))) (cseq (cfor (blst (ecall F_prime_factors (lcons (evar 3) lnil))) (asgTup [4, 5]) (cfor (brange1 (evar 5)) (asgName 6) (cif (deq (ecall F_gf_power (lcons (evar 0) (lcons (iop ffdiv (evar 3) (evar 4)) (lcons (evar 1) (lcons (evar 2) lnil))))) (elst (fits (lcons (econ (.int 1)) lnil)))) (cset 3 (iop ffdiv (evar 3) (evar 4))) cskip))) (cret (evar 3)))))
theorem K_gf_order {U : Uni} (H : Us U) {F_prime_factors F_gf_size F_gf_power : FN} (k_prime_factors : CallOK U "prime_factors" 2 F_prime_factors) (k_gf_size : CallOK U "gf_size" 2 F_gf_size) (k_gf_power : CallOK U "gf_power" 7 F_gf_power) : SimS U 7 (dr 26).scope nm_gf_order (dr 26).body (c_gf_order F_prime_factors F_gf_size F_gf_power) := by
  have D : NmD nm_gf_order := okNm_spec (by decide +kernel)
  have K : NmK (dr 26).scope nm_gf_order := okFn_spec (by decide +kernel)
  refine SimS.cons ?_ ?_
  · with_reducible exact (Sim1.ife (Cmp.toT (Cmp.int crule_eq (SimE.len (SimB.vr D (i := 0) (by with_unfolding_all rfl)) (by decide +kernel)) SimE.int)) (SimS.one Sim1.fail) SimS.nil)
  refine SimS.cons ?_ ?_
  · with_reducible exact (Sim1.asgN K (i := 3) (by with_unfolding_all rfl) (SimE.iop irule_sub (SimE.callN (cal_gf_size H) k_gf_size (SimL.cons (SimE.vr D (i := 1) (by with_unfolding_all rfl)) (SimL.cons (SimE.vr D (i := 2) (by with_unfolding_all rfl)) SimL.nil)) (by decide) (by decide +kernel)) SimE.int))
  refine SimS.cons ?_ ?_
  · with_reducible exact (Sim1.for (SimI.strong (SimE.callN (cal_prime_factors H) k_prime_factors (SimL.cons (SimE.vr D (i := 3) (by with_unfolding_all rfl)) SimL.nil) (by decide) (by decide +kernel))) (AsgOK.tup (NamesAt.c K (i := 4) (by with_unfolding_all rfl) (NamesAt.c K (i := 5) (by with_unfolding_all rfl) NamesAt.nil))) (SimS.one (Sim1.for (SimI.range1 (SimE.vr D (i := 5) (by with_unfolding_all rfl)) (by decide +kernel)) (AsgOK.vr K (i := 6) (by with_unfolding_all rfl)) (SimS.one (Sim1.ife (Cmp.toT (Cmp.eq (SimE.toR (SimE.callN (cal_gf_power H) k_gf_power (SimL.cons (SimE.vr D (i := 0) (by with_unfolding_all rfl)) (SimL.cons (SimE.iop irule_fdiv (SimE.vr D (i := 3) (by with_unfolding_all rfl)) (SimE.vr D (i := 4) (by with_unfolding_all rfl))) (SimL.cons (SimE.vr D (i := 1) (by with_unfolding_all rfl)) (SimL.cons (SimE.vr D (i := 2) (by with_unfolding_all rfl)) SimL.nil)))) (by decide) (by decide +kernel))) (SimE.toR (SimF.toE (SimF.disp (SimL.cons SimE.int SimL.nil)))))) (SimS.one (Sim1.asgN K (i := 3) (by with_unfolding_all rfl) (SimE.iop irule_fdiv (SimE.vr D (i := 3) (by with_unfolding_all rfl)) (SimE.vr D (i := 4) (by with_unfolding_all rfl))))) SimS.nil)))))
  refine SimS.one ?_
  with_reducible exact (Sim1.ret (SimE.vr D (i := 3) (by with_unfolding_all rfl)))
theorem O_gf_order {U : Uni} (H : Us U) {F_prime_factors F_gf_size F_gf_power : FN} (k_prime_factors : CallOK U "prime_factors" 2 F_prime_factors) (k_gf_size : CallOK U "gf_size" 2 F_gf_size) (k_gf_power : CallOK U "gf_power" 7 F_gf_power) : CallOK U "gf_order" 8 (runArgs 3 (c_gf_order F_prime_factors F_gf_size F_gf_power)) :=
  (cal_gf_order H).of (ps := ["a", "m", "p"]) (by decide +kernel) (fun pm cd doc => len3 fun a b c => by kernel_rfl) (K_gf_order H k_prime_factors k_gf_size k_gf_power)

noncomputable def nm_gf_conjugates : Nm := [some "a", some "m", some "p", some "found", some "here"]
noncomputable def c_gf_conjugates (F_gf_power : FN) : C :=
  (cseq (cslots [4, 3] (slrev (slo (fits (lcons (elst (fits (bvar 0))) lnil)) (slv (ecall F_gf_power (lcons (evar 0) (lcons (evar 2) (lcons (evar 1) (lcons (evar 2) lnil))))) slnil)))) (cseq (cwhile (dne (evar 4) (lidx (bvar 3) (econ (.int 0)))) (cseq (cappend 3 (evar 4)) (cset 4 (ecall F_gf_power (lcons (evar 4) (lcons (evar 2) (lcons (evar 1) (lcons (evar 2) lnil))))))) 400) (cfreeze 3 (cret (evar 3)))))
theorem K_gf_conjugates {U : Uni} (H : Us U) {F_gf_power : FN} (k_gf_power : CallOK U "gf_power" 7 F_gf_power) : SimS U 7 (dr 29).scope nm_gf_conjugates (dr 29).body (c_gf_conjugates F_gf_power) := by
  have D : NmD nm_gf_conjugates := okNm_spec (by decide +kernel)
  have K : NmK (dr 29).scope nm_gf_conjugates := okFn_spec (by decide +kernel)
  refine SimS.cons ?_ ?_
  · with_reducible exact (Sim1.swapR (names := ["found", "here"]) (rn := ["here", "found"]) (by with_unfolding_all rfl) (SimSl.conso (SimF.disp (SimL.cons (SimF.toE (SimF.list (SimB.vr D (i := 0) (by with_unfolding_all rfl)) (by decide +kernel))) SimL.nil)) (SimSl.consv (SimE.callN (cal_gf_power H) k_gf_power (SimL.cons (SimE.vr D (i := 0) (by with_unfolding_all rfl)) (SimL.cons (SimE.vr D (i := 2) (by with_unfolding_all rfl)) (SimL.cons (SimE.vr D (i := 1) (by with_unfolding_all rfl)) (SimL.cons (SimE.vr D (i := 2) (by with_unfolding_all rfl)) SimL.nil)))) (by decide) (by decide +kernel)) SimSl.nil)) (StrsAt.c K (i := 4) (by with_unfolding_all rfl) (StrsAt.c K (i := 3) (by with_unfolding_all rfl) StrsAt.nil)) (by kernel_rfl))
  refine SimS.cons ?_ ?_
  · with_reducible exact (Sim1.while (Cmp.toT (Cmp.ne (SimE.toR (SimE.vr D (i := 4) (by with_unfolding_all rfl))) (SimE.toR (SimE.lidx (SimB.vr D (i := 3) (by with_unfolding_all rfl)) SimE.int)))) (SimS.cons (Sim1.appendN D (i := 3) (by with_unfolding_all rfl) (SimE.vr D (i := 4) (by with_unfolding_all rfl)) (by with_unfolding_all rfl) (by kernel_rfl)) (SimS.one (Sim1.asgN K (i := 4) (by with_unfolding_all rfl) (SimE.callN (cal_gf_power H) k_gf_power (SimL.cons (SimE.vr D (i := 4) (by with_unfolding_all rfl)) (SimL.cons (SimE.vr D (i := 2) (by with_unfolding_all rfl)) (SimL.cons (SimE.vr D (i := 1) (by with_unfolding_all rfl)) (SimL.cons (SimE.vr D (i := 2) (by with_unfolding_all rfl)) SimL.nil)))) (by decide) (by decide +kernel))))) 400)
  refine SimS.freeze (i := 3) (x := "found") ?_ ?_
  · rfl
  refine SimS.one ?_
  with_reducible exact (Sim1.ret (SimE.vr D (i := 3) (by with_unfolding_all rfl)))
theorem O_gf_conjugates {U : Uni} (H : Us U) {F_gf_power : FN} (k_gf_power : CallOK U "gf_power" 7 F_gf_power) : CallOK U "gf_conjugates" 8 (runArgs 3 (c_gf_conjugates F_gf_power)) :=
  (cal_gf_conjugates H).of (ps := ["a", "m", "p"]) (by decide +kernel) (fun pm cd doc => len3 fun a b c => by kernel_rfl) (K_gf_conjugates H k_gf_power)

noncomputable def nm_gf_trace : Nm := [some "a", some "m", some "p", some "turn", some "found", some "here"]
noncomputable def c_gf_trace (F_number_of F_mdegree F_madd F_gf_power : FN) : C :=
  (cseq (cslots [5, 4] (slrev (slv (elst (fits lnil)) (slv (elst (fits (bvar 0))) slnil)))) (cseq (cfor (brange1 (ecall F_mdegree (lcons (evar 1) lnil))) (asgName 3) (cseq (cset 4 (ecall F_madd (lcons (evar 4) (lcons (evar 5) (lcons (evar 2) lnil))))) (cset 5 (ecall F_gf_power (lcons (evar 5) (lcons (evar 2) (lcons (evar 1) (lcons (evar 2) lnil)))))))) (cret (ecall F_number_of (lcons (evar 4) lnil)))))
theorem K_gf_trace {U : Uni} (H : Us U) {F_number_of F_mdegree F_madd F_gf_power : FN} (k_number_of : CallOK U "number_of" 1 F_number_of) (k_mdegree : CallOK U "mdegree" 1 F_mdegree) (k_madd : CallOK U "madd" 2 F_madd) (k_gf_power : CallOK U "gf_power" 7 F_gf_power) : SimS U 7 (dr 31).scope nm_gf_trace (dr 31).body (c_gf_trace F_number_of F_mdegree F_madd F_gf_power) := by
  have D : NmD nm_gf_trace := okNm_spec (by decide +kernel)
  have K : NmK (dr 31).scope nm_gf_trace := okFn_spec (by decide +kernel)
  refine SimS.cons ?_ ?_
  · with_reducible exact (Sim1.swapR (names := ["found", "here"]) (rn := ["here", "found"]) (by with_unfolding_all rfl) (SimSl.consv (SimF.toE (SimF.disp SimL.nil)) (SimSl.consv (SimF.toE (SimF.list (SimB.vr D (i := 0) (by with_unfolding_all rfl)) (by decide +kernel))) SimSl.nil)) (StrsAt.c K (i := 5) (by with_unfolding_all rfl) (StrsAt.c K (i := 4) (by with_unfolding_all rfl) StrsAt.nil)) (by kernel_rfl))
  refine SimS.cons ?_ ?_
  · with_reducible exact (Sim1.for (SimI.range1 (SimE.callN (cal_mdegree H) k_mdegree (SimL.cons (SimE.vr D (i := 1) (by with_unfolding_all rfl)) SimL.nil) (by decide) (by decide +kernel)) (by decide +kernel)) (AsgOK.vr K (i := 3) (by with_unfolding_all rfl)) (SimS.cons (Sim1.asgN K (i := 4) (by with_unfolding_all rfl) (SimE.callN (cal_madd H) k_madd (SimL.cons (SimE.vr D (i := 4) (by with_unfolding_all rfl)) (SimL.cons (SimE.vr D (i := 5) (by with_unfolding_all rfl)) (SimL.cons (SimE.vr D (i := 2) (by with_unfolding_all rfl)) SimL.nil))) (by decide) (by decide +kernel))) (SimS.one (Sim1.asgN K (i := 5) (by with_unfolding_all rfl) (SimE.callN (cal_gf_power H) k_gf_power (SimL.cons (SimE.vr D (i := 5) (by with_unfolding_all rfl)) (SimL.cons (SimE.vr D (i := 2) (by with_unfolding_all rfl)) (SimL.cons (SimE.vr D (i := 1) (by with_unfolding_all rfl)) (SimL.cons (SimE.vr D (i := 2) (by with_unfolding_all rfl)) SimL.nil)))) (by decide) (by decide +kernel))))))
  refine SimS.one ?_
  with_reducible exact (Sim1.ret (SimE.callN (cal_number_of H) k_number_of (SimL.cons (SimE.vr D (i := 4) (by with_unfolding_all rfl)) SimL.nil) (by decide) (by decide +kernel)))
theorem O_gf_trace {U : Uni} (H : Us U) {F_number_of F_mdegree F_madd F_gf_power : FN} (k_number_of : CallOK U "number_of" 1 F_number_of) (k_mdegree : CallOK U "mdegree" 1 F_mdegree) (k_madd : CallOK U "madd" 2 F_madd) (k_gf_power : CallOK U "gf_power" 7 F_gf_power) : CallOK U "gf_trace" 8 (runArgs 3 (c_gf_trace F_number_of F_mdegree F_madd F_gf_power)) :=
  (cal_gf_trace H).of (ps := ["a", "m", "p"]) (by decide +kernel) (fun pm cd doc => len3 fun a b c => by kernel_rfl) (K_gf_trace H k_number_of k_mdegree k_madd k_gf_power)

noncomputable def nm_gf_norm : Nm := [some "a", some "m", some "p", some "turn", some "found", some "here"]
noncomputable def c_gf_norm (F_number_of F_mdegree F_gf_multiply F_gf_power : FN) : C :=
  (cseq (cslots [5, 4] (slrev (slv (elst (fits (lcons (econ (.int 1)) lnil))) (slv (elst (fits (bvar 0))) slnil)))) (cseq (cfor (brange1 (ecall F_mdegree (lcons (evar 1) lnil))) (asgName 3) (cseq (cset 4 (ecall F_gf_multiply (lcons (evar 4) (lcons (evar 5) (lcons (evar 1) (lcons (evar 2) lnil)))))) (cset 5 (ecall F_gf_power (lcons (evar 5) (lcons (evar 2) (lcons (evar 1) (lcons (evar 2) lnil)))))))) (cret (ecall F_number_of (lcons (evar 4) lnil)))))
theorem K_gf_norm {U : Uni} (H : Us U) {F_number_of F_mdegree F_gf_multiply F_gf_power : FN} (k_number_of : CallOK U "number_of" 1 F_number_of) (k_mdegree : CallOK U "mdegree" 1 F_mdegree) (k_gf_multiply : CallOK U "gf_multiply" 5 F_gf_multiply) (k_gf_power : CallOK U "gf_power" 7 F_gf_power) : SimS U 7 (dr 32).scope nm_gf_norm (dr 32).body (c_gf_norm F_number_of F_mdegree F_gf_multiply F_gf_power) := by
  have D : NmD nm_gf_norm := okNm_spec (by decide +kernel)
  have K : NmK (dr 32).scope nm_gf_norm := okFn_spec (by decide +kernel)
  refine SimS.cons ?_ ?_
  · with_reducible exact (Sim1.swapR (names := ["found", "here"]) (rn := ["here", "found"]) (by with_unfolding_all rfl) (SimSl.consv (SimF.toE (SimF.disp (SimL.cons SimE.int SimL.nil))) (SimSl.consv (SimF.toE (SimF.list (SimB.vr D (i := 0) (by with_unfolding_all rfl)) (by decide +kernel))) SimSl.nil)) (StrsAt.c K (i := 5) (by with_unfolding_all rfl) (StrsAt.c K (i := 4) (by with_unfolding_all rfl) StrsAt.nil)) (by kernel_rfl))
  refine SimS.cons ?_ ?_
  · with_reducible exact (Sim1.for (SimI.range1 (SimE.callN (cal_mdegree H) k_mdegree (SimL.cons (SimE.vr D (i := 1) (by with_unfolding_all rfl)) SimL.nil) (by decide) (by decide +kernel)) (by decide +kernel)) (AsgOK.vr K (i := 3) (by with_unfolding_all rfl)) (SimS.cons (Sim1.asgN K (i := 4) (by with_unfolding_all rfl) (SimE.callN (cal_gf_multiply H) k_gf_multiply (SimL.cons (SimE.vr D (i := 4) (by with_unfolding_all rfl)) (SimL.cons (SimE.vr D (i := 5) (by with_unfolding_all rfl)) (SimL.cons (SimE.vr D (i := 1) (by with_unfolding_all rfl)) (SimL.cons (SimE.vr D (i := 2) (by with_unfolding_all rfl)) SimL.nil)))) (by decide) (by decide +kernel))) (SimS.one (Sim1.asgN K (i := 5) (by with_unfolding_all rfl) (SimE.callN (cal_gf_power H) k_gf_power (SimL.cons (SimE.vr D (i := 5) (by with_unfolding_all rfl)) (SimL.cons (SimE.vr D (i := 2) (by with_unfolding_all rfl)) (SimL.cons (SimE.vr D (i := 1) (by with_unfolding_all rfl)) (SimL.cons (SimE.vr D (i := 2) (by with_unfolding_all rfl)) SimL.nil)))) (by decide) (by decide +kernel))))))
  refine SimS.one ?_
  with_reducible exact (Sim1.ret (SimE.callN (cal_number_of H) k_number_of (SimL.cons (SimE.vr D (i := 4) (by with_unfolding_all rfl)) SimL.nil) (by decide) (by decide +kernel)))
theorem O_gf_norm {U : Uni} (H : Us U) {F_number_of F_mdegree F_gf_multiply F_gf_power : FN} (k_number_of : CallOK U "number_of" 1 F_number_of) (k_mdegree : CallOK U "mdegree" 1 F_mdegree) (k_gf_multiply : CallOK U "gf_multiply" 5 F_gf_multiply) (k_gf_power : CallOK U "gf_power" 7 F_gf_power) : CallOK U "gf_norm" 8 (runArgs 3 (c_gf_norm F_number_of F_mdegree F_gf_multiply F_gf_power)) :=
  (cal_gf_norm H).of (ps := ["a", "m", "p"]) (by decide +kernel) (fun pm cd doc => len3 fun a b c => by kernel_rfl) (K_gf_norm H k_number_of k_mdegree k_gf_multiply k_gf_power)

noncomputable def nm_gf_is_square : Nm := [some "a", some "m", some "p"]
noncomputable def c_gf_is_square (F_gf_power F_gf_size : FN) : C :=
  (cret (eor (ebool (icmp ieqb (evar 2) (econ (.int 2)))) (eor (ebool (icmp ieqb (elen (bvar 0)) (econ (.int 0)))) (ebool (deq (ecall F_gf_power (lcons (evar 0) (lcons (iop ffdiv (iop fsub (ecall F_gf_size (lcons (evar 1) (lcons (evar 2) lnil))) (econ (.int 1))) (econ (.int 2))) (lcons (evar 1) (lcons (evar 2) lnil))))) (elst (fits (lcons (econ (.int 1)) lnil))))))))
theorem K_gf_is_square {U : Uni} (H : Us U) {F_gf_power F_gf_size : FN} (k_gf_power : CallOK U "gf_power" 7 F_gf_power) (k_gf_size : CallOK U "gf_size" 2 F_gf_size) : SimS U 7 (dr 35).scope nm_gf_is_square (dr 35).body (c_gf_is_square F_gf_power F_gf_size) := by
  have D : NmD nm_gf_is_square := okNm_spec (by decide +kernel)
  have K : NmK (dr 35).scope nm_gf_is_square := okFn_spec (by decide +kernel)
  unfold c_gf_is_square
  refine SimS.one ?_
  with_reducible exact (Sim1.ret (SimE.or (Cmp.toE (Cmp.int crule_eq (SimE.vr D (i := 2) (by with_unfolding_all rfl)) SimE.int)) (SimE.or (Cmp.toE (Cmp.int crule_eq (SimE.len (SimB.vr D (i := 0) (by with_unfolding_all rfl)) (by decide +kernel)) SimE.int)) (SimE.bone (Cmp.toE (Cmp.eq (SimE.toR (SimE.callN (cal_gf_power H) k_gf_power (SimL.cons (SimE.vr D (i := 0) (by with_unfolding_all rfl)) (SimL.cons (SimE.iop irule_fdiv (SimE.iop irule_sub (SimE.callN (cal_gf_size H) k_gf_size (SimL.cons (SimE.vr D (i := 1) (by with_unfolding_all rfl)) (SimL.cons (SimE.vr D (i := 2) (by with_unfolding_all rfl)) SimL.nil)) (by decide) (by decide +kernel)) SimE.int) SimE.int) (SimL.cons (SimE.vr D (i := 1) (by with_unfolding_all rfl)) (SimL.cons (SimE.vr D (i := 2) (by with_unfolding_all rfl)) SimL.nil)))) (by decide) (by decide +kernel))) (SimE.toR (SimF.toE (SimF.disp (SimL.cons SimE.int SimL.nil))))))))))
theorem O_gf_is_square {U : Uni} (H : Us U) {F_gf_power F_gf_size : FN} (k_gf_power : CallOK U "gf_power" 7 F_gf_power) (k_gf_size : CallOK U "gf_size" 2 F_gf_size) : CallOK U "gf_is_square" 8 (runArgs 3 (c_gf_is_square F_gf_power F_gf_size)) :=
  (cal_gf_is_square H).of (ps := ["a", "m", "p"]) (by decide +kernel) (fun pm cd doc => len3 fun a b c => by kernel_rfl) (K_gf_is_square H k_gf_power k_gf_size)

noncomputable def nm_gf_generator : Nm := [some "m", some "p", some "number", some "wanted"]
noncomputable def c_gf_generator (F_counted F_gf_order F_gf_size : FN) : C :=
  (cseq (cslots [3, 2] (slrev (slv (econ (.int 1)) (slv (iop fsub (ecall F_gf_size (lcons (evar 0) (lcons (evar 1) lnil))) (econ (.int 1))) slnil)))) (cseq (cwhile (icmp cne (ecall F_gf_order (lcons (ecall F_counted (lcons (evar 2) (lcons (evar 1) lnil))) (lcons (evar 0) (lcons (evar 1) lnil)))) (evar 3)) (cset 2 (iop fadd (evar 2) (econ (.int 1)))) 400) (cret (ecall F_counted (lcons (evar 2) (lcons (evar 1) lnil))))))
theorem K_gf_generator {U : Uni} (H : Us U) {F_counted F_gf_order F_gf_size : FN} (k_counted : CallOK U "counted" 2 F_counted) (k_gf_order : CallOK U "gf_order" 8 F_gf_order) (k_gf_size : CallOK U "gf_size" 2 F_gf_size) : SimS U 8 (dr 27).scope nm_gf_generator (dr 27).body (c_gf_generator F_counted F_gf_order F_gf_size) := by
  have D : NmD nm_gf_generator := okNm_spec (by decide +kernel)
  have K : NmK (dr 27).scope nm_gf_generator := okFn_spec (by decide +kernel)
  refine SimS.cons ?_ ?_
  · with_reducible exact (Sim1.swapR (names := ["number", "wanted"]) (rn := ["wanted", "number"]) (by with_unfolding_all rfl) (SimSl.consv SimE.int (SimSl.consv (SimE.iop irule_sub (SimE.callN (cal_gf_size H) k_gf_size (SimL.cons (SimE.vr D (i := 0) (by with_unfolding_all rfl)) (SimL.cons (SimE.vr D (i := 1) (by with_unfolding_all rfl)) SimL.nil)) (by decide) (by decide +kernel)) SimE.int) SimSl.nil)) (StrsAt.c K (i := 3) (by with_unfolding_all rfl) (StrsAt.c K (i := 2) (by with_unfolding_all rfl) StrsAt.nil)) (by kernel_rfl))
  refine SimS.cons ?_ ?_
  · with_reducible exact (Sim1.while (Cmp.toT (Cmp.int crule_ne (SimE.callN (cal_gf_order H) k_gf_order (SimL.cons (SimE.callN (cal_counted H) k_counted (SimL.cons (SimE.vr D (i := 2) (by with_unfolding_all rfl)) (SimL.cons (SimE.vr D (i := 1) (by with_unfolding_all rfl)) SimL.nil)) (by decide) (by decide +kernel)) (SimL.cons (SimE.vr D (i := 0) (by with_unfolding_all rfl)) (SimL.cons (SimE.vr D (i := 1) (by with_unfolding_all rfl)) SimL.nil))) (by decide) (by decide +kernel)) (SimE.vr D (i := 3) (by with_unfolding_all rfl)))) (SimS.one (Sim1.asgN K (i := 2) (by with_unfolding_all rfl) (SimE.iop irule_add (SimE.vr D (i := 2) (by with_unfolding_all rfl)) SimE.int))) 400)
  refine SimS.one ?_
  with_reducible exact (Sim1.ret (SimE.callN (cal_counted H) k_counted (SimL.cons (SimE.vr D (i := 2) (by with_unfolding_all rfl)) (SimL.cons (SimE.vr D (i := 1) (by with_unfolding_all rfl)) SimL.nil)) (by decide) (by decide +kernel)))
theorem O_gf_generator {U : Uni} (H : Us U) {F_counted F_gf_order F_gf_size : FN} (k_counted : CallOK U "counted" 2 F_counted) (k_gf_order : CallOK U "gf_order" 8 F_gf_order) (k_gf_size : CallOK U "gf_size" 2 F_gf_size) : CallOK U "gf_generator" 9 (runArgs 2 (c_gf_generator F_counted F_gf_order F_gf_size)) :=
  (cal_gf_generator H).of (ps := ["m", "p"]) (by decide +kernel) (fun pm cd doc => len2 fun a b => by kernel_rfl) (K_gf_generator H k_counted k_gf_order k_gf_size)

noncomputable def nm_gf_logarithm : Nm := [some "a", some "base", some "m", some "p", some "at", some "great", some "order", some "width", some "small", some "power", some "turn", some "here"]
noncomputable def c_gf_logarithm (F_gf_order F_gf_multiply F_gf_inverse : FN) : C :=
  (cseq (cif (tor (icmp ieqb (elen (bvar 0)) (econ (.int 0))) (icmp ieqb (elen (bvar 1)) (econ (.int 0)))) (cret (econ .none)) cskip) (cseq (cslots [7, 6] (slrev (slv (ecall F_gf_order (lcons (evar 1) (lcons (evar 2) (lcons (evar 3) lnil)))) (slv (econ (.int 1)) slnil)))) (cseq (cwhile (icmp iltb (iop fmul (evar 7) (evar 7)) (evar 6)) (cset 7 (iop fadd (evar 7) (econ (.int 1)))) 400) (cseq (cslots [9, 8] (slrev (slk (slv (elst (fits (lcons (econ (.int 1)) lnil))) slnil)))) (cseq (cfor (brange1 (evar 7)) (asgName 4) (cseq (csetk 8 (etupl (bvar 9)) (egetk 8 (etupl (bvar 9)) (evar 4))) (cset 9 (ecall F_gf_multiply (lcons (evar 9) (lcons (evar 1) (lcons (evar 2) (lcons (evar 3) lnil)))))))) (cseq (cslots [11, 10] (slrev (slv (ecall F_gf_inverse (lcons (evar 9) (lcons (evar 2) (lcons (evar 3) lnil)))) (slv (elst (fits (bvar 0))) slnil)))) (cseq (cfor (brange1 (evar 7)) (asgName 5) (cseq (cif (tink (etupl (bvar 11)) 8) (cret (iop fmod (iop fadd (iop fmul (evar 5) (evar 7)) (ekidx 8 (etupl (bvar 11)))) (evar 6))) cskip) (cset 11 (ecall F_gf_multiply (lcons (evar 11) (lcons (evar 10) (lcons (evar 2) (lcons (evar 3) lnil)))))))) (cret (econ .none)))))))))
theorem K_gf_logarithm {U : Uni} (H : Us U) {F_gf_order F_gf_multiply F_gf_inverse : FN} (k_gf_order : CallOK U "gf_order" 8 F_gf_order) (k_gf_multiply : CallOK U "gf_multiply" 5 F_gf_multiply) (k_gf_inverse : CallOK U "gf_inverse" 6 F_gf_inverse) : SimS U 8 (dr 28).scope nm_gf_logarithm (dr 28).body (c_gf_logarithm F_gf_order F_gf_multiply F_gf_inverse) := by
  have D : NmD nm_gf_logarithm := okNm_spec (by decide +kernel)
  have K : NmK (dr 28).scope nm_gf_logarithm := okFn_spec (by decide +kernel)
  refine SimS.cons ?_ ?_
  · with_reducible exact (Sim1.ife (AllT.toT (AllT.or (Cmp.toT (Cmp.int crule_eq (SimE.len (SimB.vr D (i := 0) (by with_unfolding_all rfl)) (by decide +kernel)) SimE.int)) (AllT.one (Cmp.toT (Cmp.int crule_eq (SimE.len (SimB.vr D (i := 1) (by with_unfolding_all rfl)) (by decide +kernel)) SimE.int))))) (SimS.one (Sim1.ret SimE.none)) SimS.nil)
  refine SimS.cons ?_ ?_
  · with_reducible exact (Sim1.swapR (names := ["order", "width"]) (rn := ["width", "order"]) (by with_unfolding_all rfl) (SimSl.consv (SimE.callN (cal_gf_order H) k_gf_order (SimL.cons (SimE.vr D (i := 1) (by with_unfolding_all rfl)) (SimL.cons (SimE.vr D (i := 2) (by with_unfolding_all rfl)) (SimL.cons (SimE.vr D (i := 3) (by with_unfolding_all rfl)) SimL.nil))) (by decide) (by decide +kernel)) (SimSl.consv SimE.int SimSl.nil)) (StrsAt.c K (i := 7) (by with_unfolding_all rfl) (StrsAt.c K (i := 6) (by with_unfolding_all rfl) StrsAt.nil)) (by kernel_rfl))
  refine SimS.cons ?_ ?_
  · with_reducible exact (Sim1.while (Cmp.toT (Cmp.int crule_lt (SimE.iop irule_mul (SimE.vr D (i := 7) (by with_unfolding_all rfl)) (SimE.vr D (i := 7) (by with_unfolding_all rfl))) (SimE.vr D (i := 6) (by with_unfolding_all rfl)))) (SimS.one (Sim1.asgN K (i := 7) (by with_unfolding_all rfl) (SimE.iop irule_add (SimE.vr D (i := 7) (by with_unfolding_all rfl)) SimE.int))) 400)
  refine SimS.cons ?_ ?_
  · with_reducible exact (Sim1.swapR (names := ["small", "power"]) (rn := ["power", "small"]) (by with_unfolding_all rfl) (SimSl.consk (SimSl.consv (SimF.toE (SimF.disp (SimL.cons SimE.int SimL.nil))) SimSl.nil)) (StrsAt.c K (i := 9) (by with_unfolding_all rfl) (StrsAt.c K (i := 8) (by with_unfolding_all rfl) StrsAt.nil)) (by kernel_rfl))
  refine SimS.cons ?_ ?_
  · with_reducible exact (Sim1.for (SimI.range1 (SimE.vr D (i := 7) (by with_unfolding_all rfl)) (by decide +kernel)) (AsgOK.vr K (i := 4) (by with_unfolding_all rfl)) (SimS.cons (Sim1.setkN D (i := 8) (by with_unfolding_all rfl) (SimE.getkN D (i := 8) (by with_unfolding_all rfl) (SimE.tuple (SimB.vr D (i := 9) (by with_unfolding_all rfl)) (by decide +kernel)) (SimE.vr D (i := 4) (by with_unfolding_all rfl)) (by with_unfolding_all rfl)) (SimE.tuple (SimB.vr D (i := 9) (by with_unfolding_all rfl)) (by decide +kernel))) (SimS.one (Sim1.asgN K (i := 9) (by with_unfolding_all rfl) (SimE.callN (cal_gf_multiply H) k_gf_multiply (SimL.cons (SimE.vr D (i := 9) (by with_unfolding_all rfl)) (SimL.cons (SimE.vr D (i := 1) (by with_unfolding_all rfl)) (SimL.cons (SimE.vr D (i := 2) (by with_unfolding_all rfl)) (SimL.cons (SimE.vr D (i := 3) (by with_unfolding_all rfl)) SimL.nil)))) (by decide) (by decide +kernel))))))
  refine SimS.cons ?_ ?_
  · with_reducible exact (Sim1.swapR (names := ["turn", "here"]) (rn := ["here", "turn"]) (by with_unfolding_all rfl) (SimSl.consv (SimE.callN (cal_gf_inverse H) k_gf_inverse (SimL.cons (SimE.vr D (i := 9) (by with_unfolding_all rfl)) (SimL.cons (SimE.vr D (i := 2) (by with_unfolding_all rfl)) (SimL.cons (SimE.vr D (i := 3) (by with_unfolding_all rfl)) SimL.nil))) (by decide) (by decide +kernel)) (SimSl.consv (SimF.toE (SimF.list (SimB.vr D (i := 0) (by with_unfolding_all rfl)) (by decide +kernel))) SimSl.nil)) (StrsAt.c K (i := 11) (by with_unfolding_all rfl) (StrsAt.c K (i := 10) (by with_unfolding_all rfl) StrsAt.nil)) (by kernel_rfl))
  refine SimS.cons ?_ ?_
  · with_reducible exact (Sim1.for (SimI.range1 (SimE.vr D (i := 7) (by with_unfolding_all rfl)) (by decide +kernel)) (AsgOK.vr K (i := 5) (by with_unfolding_all rfl)) (SimS.cons (Sim1.ife (Cmp.toT (Cmp.inkN D (i := 8) (by with_unfolding_all rfl) (SimE.tuple (SimB.vr D (i := 11) (by with_unfolding_all rfl)) (by decide +kernel)))) (SimS.one (Sim1.ret (SimE.iop irule_mod (SimE.iop irule_add (SimE.iop irule_mul (SimE.vr D (i := 5) (by with_unfolding_all rfl)) (SimE.vr D (i := 7) (by with_unfolding_all rfl))) (SimE.kidxN D (i := 8) (by with_unfolding_all rfl) (SimE.tuple (SimB.vr D (i := 11) (by with_unfolding_all rfl)) (by decide +kernel)))) (SimE.vr D (i := 6) (by with_unfolding_all rfl))))) SimS.nil) (SimS.one (Sim1.asgN K (i := 11) (by with_unfolding_all rfl) (SimE.callN (cal_gf_multiply H) k_gf_multiply (SimL.cons (SimE.vr D (i := 11) (by with_unfolding_all rfl)) (SimL.cons (SimE.vr D (i := 10) (by with_unfolding_all rfl)) (SimL.cons (SimE.vr D (i := 2) (by with_unfolding_all rfl)) (SimL.cons (SimE.vr D (i := 3) (by with_unfolding_all rfl)) SimL.nil)))) (by decide) (by decide +kernel))))))
  refine SimS.one ?_
  with_reducible exact (Sim1.ret SimE.none)
theorem O_gf_logarithm {U : Uni} (H : Us U) {F_gf_order F_gf_multiply F_gf_inverse : FN} (k_gf_order : CallOK U "gf_order" 8 F_gf_order) (k_gf_multiply : CallOK U "gf_multiply" 5 F_gf_multiply) (k_gf_inverse : CallOK U "gf_inverse" 6 F_gf_inverse) : CallOK U "gf_logarithm" 9 (runArgs 4 (c_gf_logarithm F_gf_order F_gf_multiply F_gf_inverse)) :=
  (cal_gf_logarithm H).of (ps := ["a", "base", "m", "p"]) (by decide +kernel) (fun pm cd doc => len4 fun a b c d => by kernel_rfl) (K_gf_logarithm H k_gf_order k_gf_multiply k_gf_inverse)

noncomputable def nm_gf_least : Nm := [some "a", some "m", some "p", some "found", some "root", some "later", some "at", some "one"]
noncomputable def nm_gf_least_0 : Nm := [none, none, none, none, none, none, none, none, some "one"]
noncomputable def c_gf_least (F_gf_conjugates F_number_of F_madd F_mneg F_gf_multiply : FN) : C :=
  (cseq (cset 3 (elst (fits (lcons (elst (fits (lcons (econ (.int 1)) lnil))) lnil)))) (cseq (cfor (blst (ecall F_gf_conjugates (lcons (evar 0) (lcons (evar 1) (lcons (evar 2) lnil))))) (asgName 4) (cseq (cseto 5 (lcat (fits (lcons (elst (fits lnil)) lnil)) (bvar 3))) (cseq (cfor (benum (blst (evar 3))) (asgTup [6, 7]) (csetat 5 (evar 6) (ecall F_madd (lcons (lidx (bvar 5) (evar 6)) (lcons (ecall F_mneg (lcons (ecall F_gf_multiply (lcons (evar 7) (lcons (evar 4) (lcons (evar 1) (lcons (evar 2) lnil))))) (lcons (evar 2) lnil))) (lcons (evar 2) lnil)))))) (cfreeze 5 (cset 3 (evar 5)))))) (cret (elst (lcomp [] (bvar 3) (asgName 8) ttrue (ecall F_number_of (lcons (evar 8) lnil)))))))
theorem K_gf_least {U : Uni} (H : Us U) {F_gf_conjugates F_number_of F_madd F_mneg F_gf_multiply : FN} (k_gf_conjugates : CallOK U "gf_conjugates" 8 F_gf_conjugates) (k_number_of : CallOK U "number_of" 1 F_number_of) (k_madd : CallOK U "madd" 2 F_madd) (k_mneg : CallOK U "mneg" 1 F_mneg) (k_gf_multiply : CallOK U "gf_multiply" 5 F_gf_multiply) : SimS U 8 (dr 33).scope nm_gf_least (dr 33).body (c_gf_least F_gf_conjugates F_number_of F_madd F_mneg F_gf_multiply) := by
  have D : NmD nm_gf_least := okNm_spec (by decide +kernel)
  have K : NmK (dr 33).scope nm_gf_least := okFn_spec (by decide +kernel)
  have D0 : NmD nm_gf_least_0 := okNm_spec (by decide +kernel)
  refine SimS.cons ?_ ?_
  · with_reducible exact (Sim1.asgN K (i := 3) (by with_unfolding_all rfl) (SimF.toE (SimF.disp (SimL.cons (SimF.toE (SimF.disp (SimL.cons SimE.int SimL.nil))) SimL.nil))))
  refine SimS.cons ?_ ?_
  · with_reducible exact (Sim1.for (SimI.strong (SimE.callN (cal_gf_conjugates H) k_gf_conjugates (SimL.cons (SimE.vr D (i := 0) (by with_unfolding_all rfl)) (SimL.cons (SimE.vr D (i := 1) (by with_unfolding_all rfl)) (SimL.cons (SimE.vr D (i := 2) (by with_unfolding_all rfl)) SimL.nil))) (by decide) (by decide +kernel))) (AsgOK.vr K (i := 4) (by with_unfolding_all rfl)) (SimS.cons (Sim1.asgoN K (i := 5) (by with_unfolding_all rfl) (SimF.cat (SimF.toB (SimF.disp (SimL.cons (SimF.toE (SimF.disp SimL.nil)) SimL.nil))) (SimB.vr D (i := 3) (by with_unfolding_all rfl)))) (SimS.cons (Sim1.for (SimI.enumS (SimE.vr D (i := 3) (by with_unfolding_all rfl)) (by decide +kernel)) (AsgOK.tup (NamesAt.c K (i := 6) (by with_unfolding_all rfl) (NamesAt.c K (i := 7) (by with_unfolding_all rfl) NamesAt.nil))) (SimS.one (Sim1.setatN D (i := 5) (by with_unfolding_all rfl) (SimE.callN (cal_madd H) k_madd (SimL.cons (SimE.lidx (SimB.vr D (i := 5) (by with_unfolding_all rfl)) (SimE.vr D (i := 6) (by with_unfolding_all rfl))) (SimL.cons (SimE.callN (cal_mneg H) k_mneg (SimL.cons (SimE.callN (cal_gf_multiply H) k_gf_multiply (SimL.cons (SimE.vr D (i := 7) (by with_unfolding_all rfl)) (SimL.cons (SimE.vr D (i := 4) (by with_unfolding_all rfl)) (SimL.cons (SimE.vr D (i := 1) (by with_unfolding_all rfl)) (SimL.cons (SimE.vr D (i := 2) (by with_unfolding_all rfl)) SimL.nil)))) (by decide) (by decide +kernel)) (SimL.cons (SimE.vr D (i := 2) (by with_unfolding_all rfl)) SimL.nil)) (by decide) (by decide +kernel)) (SimL.cons (SimE.vr D (i := 2) (by with_unfolding_all rfl)) SimL.nil))) (by decide) (by decide +kernel)) (SimE.vr D (i := 6) (by with_unfolding_all rfl))))) (SimS.freeze (i := 5) (by with_unfolding_all rfl) (SimS.one (Sim1.asgN K (i := 3) (by with_unfolding_all rfl) (SimE.vr D (i := 5) (by with_unfolding_all rfl))))))))
  refine SimS.one ?_
  with_reducible exact (Sim1.ret (SimF.toE (SimF.comp (strong := false) (nm' := nm_gf_least_0) (caps := []) (capB_spec (by decide +kernel)) (SimI.weak (SimB.vr D (i := 3) (by with_unfolding_all rfl))) (AsgOK.name (i := 8) (by with_unfolding_all rfl) (.inl (by decide +kernel))) (Plainly.name _) SimTs.nil (SimE.callN (cal_number_of H) k_number_of (SimL.cons (SimE.vr D0 (i := 8) (by with_unfolding_all rfl)) SimL.nil) (by decide) (by decide +kernel)))))
theorem O_gf_least {U : Uni} (H : Us U) {F_gf_conjugates F_number_of F_madd F_mneg F_gf_multiply : FN} (k_gf_conjugates : CallOK U "gf_conjugates" 8 F_gf_conjugates) (k_number_of : CallOK U "number_of" 1 F_number_of) (k_madd : CallOK U "madd" 2 F_madd) (k_mneg : CallOK U "mneg" 1 F_mneg) (k_gf_multiply : CallOK U "gf_multiply" 5 F_gf_multiply) : CallOK U "gf_least" 9 (runArgs 3 (c_gf_least F_gf_conjugates F_number_of F_madd F_mneg F_gf_multiply)) :=
  (cal_gf_least H).of (ps := ["a", "m", "p"]) (by decide +kernel) (fun pm cd doc => len3 fun a b c => by kernel_rfl) (K_gf_least H k_gf_conjugates k_number_of k_madd k_mneg k_gf_multiply)

noncomputable def nm_law_reckoned_right : Nm := [some "a", some "b", some "n", some "m", some "p", some "inverted", some "squares"]
noncomputable def nm_law_reckoned_right_0 : Nm := [none, none, none, some "m", some "p", none, none, some "one"]
noncomputable def c_law_reckoned_right (F_gf_inverse F_gf_multiply F_law_mul F_gf_is_square F_gf_divide F_gf_power F_law_raised F_gf_things : FN) : C :=
  (cseq (cif (dne (ecall F_gf_multiply (lcons (evar 0) (lcons (evar 1) (lcons (evar 3) (lcons (evar 4) lnil))))) (ecall F_law_mul (lcons (evar 0) (lcons (evar 1) (lcons (evar 3) (lcons (evar 4) lnil)))))) (cret (econ (.bool false))) cskip) (cseq (cif (deq (evar 0) (elst (fits lnil))) (cseq cfail (cret (econ (.bool false)))) cskip) (cseq (cset 5 (ecall F_gf_inverse (lcons (evar 0) (lcons (evar 3) (lcons (evar 4) lnil))))) (cseq (cif (tor (dne (ecall F_law_mul (lcons (evar 0) (lcons (evar 5) (lcons (evar 3) (lcons (evar 4) lnil))))) (elst (fits (lcons (econ (.int 1)) lnil)))) (dne (ecall F_gf_divide (lcons (evar 1) (lcons (evar 0) (lcons (evar 3) (lcons (evar 4) lnil))))) (ecall F_law_mul (lcons (evar 1) (lcons (evar 5) (lcons (evar 3) (lcons (evar 4) lnil))))))) (cret (econ (.bool false))) cskip) (cseq (cif (tor (dne (ecall F_gf_power (lcons (evar 0) (lcons (evar 2) (lcons (evar 3) (lcons (evar 4) lnil))))) (ecall F_law_raised (lcons (evar 0) (lcons (evar 2) (lcons (evar 3) (lcons (evar 4) lnil)))))) (dne (ecall F_gf_power (lcons (evar 0) (lcons (iop fsub (econ (.int 0)) (evar 2)) (lcons (evar 3) (lcons (evar 4) lnil))))) (ecall F_law_raised (lcons (evar 5) (lcons (evar 2) (lcons (evar 3) (lcons (evar 4) lnil))))))) (cret (econ (.bool false))) cskip) (cseq (cseto 6 (lcomp [3, 4] (blst (ecall F_gf_things (lcons (evar 3) (lcons (evar 4) lnil)))) (asgName 7) ttrue (ecall F_law_mul (lcons (evar 7) (lcons (evar 7) (lcons (evar 3) (lcons (evar 4) lnil))))))) (cret (ebool (deq (ecall F_gf_is_square (lcons (evar 0) (lcons (evar 3) (lcons (evar 4) lnil)))) (ebool (tin (evar 0) (bvar 6))))))))))))
theorem K_law_reckoned_right {U : Uni} (H : Us U) {F_gf_inverse F_gf_multiply F_law_mul F_gf_is_square F_gf_divide F_gf_power F_law_raised F_gf_things : FN} (k_gf_inverse : CallOK U "gf_inverse" 6 F_gf_inverse) (k_gf_multiply : CallOK U "gf_multiply" 5 F_gf_multiply) (k_law_mul : CallOK U "_law_mul" 3 F_law_mul) (k_gf_is_square : CallOK U "gf_is_square" 8 F_gf_is_square) (k_gf_divide : CallOK U "gf_divide" 7 F_gf_divide) (k_gf_power : CallOK U "gf_power" 7 F_gf_power) (k_law_raised : CallOK U "_law_raised" 4 F_law_raised) (k_gf_things : CallOK U "gf_things" 3 F_gf_things) : SimS U 8 (dr 50).scope nm_law_reckoned_right (dr 50).body (c_law_reckoned_right F_gf_inverse F_gf_multiply F_law_mul F_gf_is_square F_gf_divide F_gf_power F_law_raised F_gf_things) := by
  have D : NmD nm_law_reckoned_right := okNm_spec (by decide +kernel)
  have K : NmK (dr 50).scope nm_law_reckoned_right := okFn_spec (by decide +kernel)
  have D0 : NmD nm_law_reckoned_right_0 := okNm_spec (by decide +kernel)
  refine SimS.cons ?_ ?_
  · with_reducible exact (Sim1.ife (Cmp.toT (Cmp.ne (SimE.toR (SimE.callN (cal_gf_multiply H) k_gf_multiply (SimL.cons (SimE.vr D (i := 0) (by with_unfolding_all rfl)) (SimL.cons (SimE.vr D (i := 1) (by with_unfolding_all rfl)) (SimL.cons (SimE.vr D (i := 3) (by with_unfolding_all rfl)) (SimL.cons (SimE.vr D (i := 4) (by with_unfolding_all rfl)) SimL.nil)))) (by decide) (by decide +kernel))) (SimE.toR (SimE.callN (cal_law_mul H) k_law_mul (SimL.cons (SimE.vr D (i := 0) (by with_unfolding_all rfl)) (SimL.cons (SimE.vr D (i := 1) (by with_unfolding_all rfl)) (SimL.cons (SimE.vr D (i := 3) (by with_unfolding_all rfl)) (SimL.cons (SimE.vr D (i := 4) (by with_unfolding_all rfl)) SimL.nil)))) (by decide) (by decide +kernel))))) (SimS.one (Sim1.ret SimE.bool)) SimS.nil)
  refine SimS.cons ?_ ?_
  · with_reducible exact (Sim1.ife (Cmp.toT (Cmp.eq (SimE.toR (SimE.vr D (i := 0) (by with_unfolding_all rfl))) (SimE.toR (SimF.toE (SimF.disp SimL.nil))))) (SimS.cons Sim1.fail (SimS.one (Sim1.ret SimE.bool))) SimS.nil)
  refine SimS.cons ?_ ?_
  · with_reducible exact (Sim1.asgN K (i := 5) (by with_unfolding_all rfl) (SimE.callN (cal_gf_inverse H) k_gf_inverse (SimL.cons (SimE.vr D (i := 0) (by with_unfolding_all rfl)) (SimL.cons (SimE.vr D (i := 3) (by with_unfolding_all rfl)) (SimL.cons (SimE.vr D (i := 4) (by with_unfolding_all rfl)) SimL.nil))) (by decide) (by decide +kernel)))
  refine SimS.cons ?_ ?_
  · with_reducible exact (Sim1.ife (AllT.toT (AllT.or (Cmp.toT (Cmp.ne (SimE.toR (SimE.callN (cal_law_mul H) k_law_mul (SimL.cons (SimE.vr D (i := 0) (by with_unfolding_all rfl)) (SimL.cons (SimE.vr D (i := 5) (by with_unfolding_all rfl)) (SimL.cons (SimE.vr D (i := 3) (by with_unfolding_all rfl)) (SimL.cons (SimE.vr D (i := 4) (by with_unfolding_all rfl)) SimL.nil)))) (by decide) (by decide +kernel))) (SimE.toR (SimF.toE (SimF.disp (SimL.cons SimE.int SimL.nil)))))) (AllT.one (Cmp.toT (Cmp.ne (SimE.toR (SimE.callN (cal_gf_divide H) k_gf_divide (SimL.cons (SimE.vr D (i := 1) (by with_unfolding_all rfl)) (SimL.cons (SimE.vr D (i := 0) (by with_unfolding_all rfl)) (SimL.cons (SimE.vr D (i := 3) (by with_unfolding_all rfl)) (SimL.cons (SimE.vr D (i := 4) (by with_unfolding_all rfl)) SimL.nil)))) (by decide) (by decide +kernel))) (SimE.toR (SimE.callN (cal_law_mul H) k_law_mul (SimL.cons (SimE.vr D (i := 1) (by with_unfolding_all rfl)) (SimL.cons (SimE.vr D (i := 5) (by with_unfolding_all rfl)) (SimL.cons (SimE.vr D (i := 3) (by with_unfolding_all rfl)) (SimL.cons (SimE.vr D (i := 4) (by with_unfolding_all rfl)) SimL.nil)))) (by decide) (by decide +kernel)))))))) (SimS.one (Sim1.ret SimE.bool)) SimS.nil)
  refine SimS.cons ?_ ?_
  · with_reducible exact (Sim1.ife (AllT.toT (AllT.or (Cmp.toT (Cmp.ne (SimE.toR (SimE.callN (cal_gf_power H) k_gf_power (SimL.cons (SimE.vr D (i := 0) (by with_unfolding_all rfl)) (SimL.cons (SimE.vr D (i := 2) (by with_unfolding_all rfl)) (SimL.cons (SimE.vr D (i := 3) (by with_unfolding_all rfl)) (SimL.cons (SimE.vr D (i := 4) (by with_unfolding_all rfl)) SimL.nil)))) (by decide) (by decide +kernel))) (SimE.toR (SimE.callN (cal_law_raised H) k_law_raised (SimL.cons (SimE.vr D (i := 0) (by with_unfolding_all rfl)) (SimL.cons (SimE.vr D (i := 2) (by with_unfolding_all rfl)) (SimL.cons (SimE.vr D (i := 3) (by with_unfolding_all rfl)) (SimL.cons (SimE.vr D (i := 4) (by with_unfolding_all rfl)) SimL.nil)))) (by decide) (by decide +kernel))))) (AllT.one (Cmp.toT (Cmp.ne (SimE.toR (SimE.callN (cal_gf_power H) k_gf_power (SimL.cons (SimE.vr D (i := 0) (by with_unfolding_all rfl)) (SimL.cons (SimE.iop irule_sub SimE.int (SimE.vr D (i := 2) (by with_unfolding_all rfl))) (SimL.cons (SimE.vr D (i := 3) (by with_unfolding_all rfl)) (SimL.cons (SimE.vr D (i := 4) (by with_unfolding_all rfl)) SimL.nil)))) (by decide) (by decide +kernel))) (SimE.toR (SimE.callN (cal_law_raised H) k_law_raised (SimL.cons (SimE.vr D (i := 5) (by with_unfolding_all rfl)) (SimL.cons (SimE.vr D (i := 2) (by with_unfolding_all rfl)) (SimL.cons (SimE.vr D (i := 3) (by with_unfolding_all rfl)) (SimL.cons (SimE.vr D (i := 4) (by with_unfolding_all rfl)) SimL.nil)))) (by decide) (by decide +kernel)))))))) (SimS.one (Sim1.ret SimE.bool)) SimS.nil)
  refine SimS.cons ?_ ?_
  · with_reducible exact (Sim1.asgComp (i := 6) (by with_unfolding_all rfl) (K 6 _ (by with_unfolding_all rfl)) (strong := false) (nm' := nm_law_reckoned_right_0) (caps := [3, 4]) (capB_spec (by decide +kernel)) (SimI.weak (SimE.toB (SimE.callN (cal_gf_things H) k_gf_things (SimL.cons (SimE.vr D (i := 3) (by with_unfolding_all rfl)) (SimL.cons (SimE.vr D (i := 4) (by with_unfolding_all rfl)) SimL.nil)) (by decide) (by decide +kernel)))) (AsgOK.name (i := 7) (by with_unfolding_all rfl) (.inl (by decide +kernel))) (Plainly.name _) SimTs.nil (SimE.callN (cal_law_mul H) k_law_mul (SimL.cons (SimE.vr D0 (i := 7) (by with_unfolding_all rfl)) (SimL.cons (SimE.vr D0 (i := 7) (by with_unfolding_all rfl)) (SimL.cons (SimE.vr D0 (i := 3) (by with_unfolding_all rfl)) (SimL.cons (SimE.vr D0 (i := 4) (by with_unfolding_all rfl)) SimL.nil)))) (by decide) (by decide +kernel)) (by kernel_rfl))
  refine SimS.one ?_
  with_reducible exact (Sim1.ret (Cmp.toE (Cmp.eq (SimE.toR (SimE.callN (cal_gf_is_square H) k_gf_is_square (SimL.cons (SimE.vr D (i := 0) (by with_unfolding_all rfl)) (SimL.cons (SimE.vr D (i := 3) (by with_unfolding_all rfl)) (SimL.cons (SimE.vr D (i := 4) (by with_unfolding_all rfl)) SimL.nil))) (by decide) (by decide +kernel))) (SimE.toR (Cmp.toE (Cmp.isin (SimE.toR (SimE.vr D (i := 0) (by with_unfolding_all rfl))) (SimB.vr D (i := 6) (by with_unfolding_all rfl))))))))
theorem O_law_reckoned_right {U : Uni} (H : Us U) {F_gf_inverse F_gf_multiply F_law_mul F_gf_is_square F_gf_divide F_gf_power F_law_raised F_gf_things : FN} (k_gf_inverse : CallOK U "gf_inverse" 6 F_gf_inverse) (k_gf_multiply : CallOK U "gf_multiply" 5 F_gf_multiply) (k_law_mul : CallOK U "_law_mul" 3 F_law_mul) (k_gf_is_square : CallOK U "gf_is_square" 8 F_gf_is_square) (k_gf_divide : CallOK U "gf_divide" 7 F_gf_divide) (k_gf_power : CallOK U "gf_power" 7 F_gf_power) (k_law_raised : CallOK U "_law_raised" 4 F_law_raised) (k_gf_things : CallOK U "gf_things" 3 F_gf_things) : CallOK U "_law_reckoned_right" 9 (runArgs 5 (c_law_reckoned_right F_gf_inverse F_gf_multiply F_law_mul F_gf_is_square F_gf_divide F_gf_power F_law_raised F_gf_things)) :=
  (cal_law_reckoned_right H).of (ps := ["a", "b", "n", "m", "p"]) (by decide +kernel) (fun pm cd doc => len5 fun a b c d e => by kernel_rfl) (K_law_reckoned_right H k_gf_inverse k_gf_multiply k_law_mul k_gf_is_square k_gf_divide k_gf_power k_law_raised k_gf_things)

noncomputable def nm_law_orders_right : Nm := [some "a", some "m", some "p", some "at", some "due", some "steps", some "here", some "base", some "met", some "power"]
noncomputable def nm_law_orders_right_0 : Nm := [none, none, none, none, none, none, none, none, some "met", none, some "at", some "one"]
noncomputable def c_law_orders_right (F_law_mul F_gf_order F_gf_generator F_gf_logarithm : FN) : C :=
  (cseq (cslots [6, 5] (slrev (slo (fits (lcons (elst (fits (lcons (econ (.int 1)) lnil))) lnil)) (slv (evar 0) slnil)))) (cseq (cwhile (dne (evar 6) (elst (fits (lcons (econ (.int 1)) lnil)))) (cseq (cappend 5 (evar 6)) (cset 6 (ecall F_law_mul (lcons (evar 6) (lcons (evar 0) (lcons (evar 1) (lcons (evar 2) lnil))))))) 400) (cseq (cif (icmp cne (ecall F_gf_order (lcons (evar 0) (lcons (evar 1) (lcons (evar 2) lnil)))) (elen (bvar 5))) (cret (econ (.bool false))) cskip) (cseq (cslots [7, 8, 9] (slv (ecall F_gf_generator (lcons (evar 1) (lcons (evar 2) lnil))) (slo (fits lnil) (slv (elst (fits (lcons (econ (.int 1)) lnil))) slnil)))) (cseq (cfor (brange1 (iop fsub (iop fpow (evar 2) (iop fsub (elen (bvar 1)) (econ (.int 1)))) (econ (.int 1)))) (asgName 3) (cseq (cappend 8 (evar 9)) (cset 9 (ecall F_law_mul (lcons (evar 9) (lcons (evar 7) (lcons (evar 1) (lcons (evar 2) lnil)))))))) (cfreeze 8 (cseq (cif (tor (dne (evar 9) (elst (fits (lcons (econ (.int 1)) lnil)))) (dne (elst (lcomp [8] (benum (bvar 8)) (asgTup [10, 11]) (tin (evar 11) (lupto (bvar 8) (evar 10))) (evar 11))) (elst (fits lnil)))) (cret (econ (.bool false))) cskip) (cseq (cset 4 (eife (tin (evar 7) (bvar 5)) (eindex 5 (evar 7)) (econ .none))) (cret (eand (ebool (deq (ecall F_gf_logarithm (lcons (evar 0) (lcons (evar 7) (lcons (evar 1) (lcons (evar 2) lnil))))) (eindex 8 (evar 0)))) (ebool (deq (ecall F_gf_logarithm (lcons (evar 7) (lcons (evar 0) (lcons (evar 1) (lcons (evar 2) lnil))))) (evar 4)))))))))))))
theorem K_law_orders_right {U : Uni} (H : Us U) {F_law_mul F_gf_order F_gf_generator F_gf_logarithm : FN} (k_law_mul : CallOK U "_law_mul" 3 F_law_mul) (k_gf_order : CallOK U "gf_order" 8 F_gf_order) (k_gf_generator : CallOK U "gf_generator" 9 F_gf_generator) (k_gf_logarithm : CallOK U "gf_logarithm" 9 F_gf_logarithm) : SimS U 9 (dr 51).scope nm_law_orders_right (dr 51).body (c_law_orders_right F_law_mul F_gf_order F_gf_generator F_gf_logarithm) := by
  have D : NmD nm_law_orders_right := okNm_spec (by decide +kernel)
  have K : NmK (dr 51).scope nm_law_orders_right := okFn_spec (by decide +kernel)
  have D0 : NmD nm_law_orders_right_0 := okNm_spec (by decide +kernel)
  refine SimS.cons ?_ ?_
  · with_reducible exact (Sim1.swapR (names := ["steps", "here"]) (rn := ["here", "steps"]) (by with_unfolding_all rfl) (SimSl.conso (SimF.disp (SimL.cons (SimF.toE (SimF.disp (SimL.cons SimE.int SimL.nil))) SimL.nil)) (SimSl.consv (SimE.vr D (i := 0) (by with_unfolding_all rfl)) SimSl.nil)) (StrsAt.c K (i := 6) (by with_unfolding_all rfl) (StrsAt.c K (i := 5) (by with_unfolding_all rfl) StrsAt.nil)) (by kernel_rfl))
  refine SimS.cons ?_ ?_
  · with_reducible exact (Sim1.while (Cmp.toT (Cmp.ne (SimE.toR (SimE.vr D (i := 6) (by with_unfolding_all rfl))) (SimE.toR (SimF.toE (SimF.disp (SimL.cons SimE.int SimL.nil)))))) (SimS.cons (Sim1.appendN D (i := 5) (by with_unfolding_all rfl) (SimE.vr D (i := 6) (by with_unfolding_all rfl)) (by with_unfolding_all rfl) (by kernel_rfl)) (SimS.one (Sim1.asgN K (i := 6) (by with_unfolding_all rfl) (SimE.callN (cal_law_mul H) k_law_mul (SimL.cons (SimE.vr D (i := 6) (by with_unfolding_all rfl)) (SimL.cons (SimE.vr D (i := 0) (by with_unfolding_all rfl)) (SimL.cons (SimE.vr D (i := 1) (by with_unfolding_all rfl)) (SimL.cons (SimE.vr D (i := 2) (by with_unfolding_all rfl)) SimL.nil)))) (by decide) (by decide +kernel))))) 400)
  refine SimS.cons ?_ ?_
  · with_reducible exact (Sim1.ife (Cmp.toT (Cmp.int crule_ne (SimE.callN (cal_gf_order H) k_gf_order (SimL.cons (SimE.vr D (i := 0) (by with_unfolding_all rfl)) (SimL.cons (SimE.vr D (i := 1) (by with_unfolding_all rfl)) (SimL.cons (SimE.vr D (i := 2) (by with_unfolding_all rfl)) SimL.nil))) (by decide) (by decide +kernel)) (SimE.len (SimB.vr D (i := 5) (by with_unfolding_all rfl)) (by decide +kernel)))) (SimS.one (Sim1.ret SimE.bool)) SimS.nil)
  refine SimS.cons ?_ ?_
  · with_reducible exact (Sim1.tupa (SimSl.consv (SimE.callN (cal_gf_generator H) k_gf_generator (SimL.cons (SimE.vr D (i := 1) (by with_unfolding_all rfl)) (SimL.cons (SimE.vr D (i := 2) (by with_unfolding_all rfl)) SimL.nil)) (by decide) (by decide +kernel)) (SimSl.conso (SimF.disp SimL.nil) (SimSl.consv (SimF.toE (SimF.disp (SimL.cons SimE.int SimL.nil))) SimSl.nil))) (NamesAt.c K (i := 7) (by with_unfolding_all rfl) (NamesAt.c K (i := 8) (by with_unfolding_all rfl) (NamesAt.c K (i := 9) (by with_unfolding_all rfl) NamesAt.nil))) (by kernel_rfl))
  refine SimS.cons ?_ ?_
  · with_reducible exact (Sim1.for (SimI.range1 (SimE.iop irule_sub (SimE.iop irule_pow (SimE.vr D (i := 2) (by with_unfolding_all rfl)) (SimE.iop irule_sub (SimE.len (SimB.vr D (i := 1) (by with_unfolding_all rfl)) (by decide +kernel)) SimE.int)) SimE.int) (by decide +kernel)) (AsgOK.vr K (i := 3) (by with_unfolding_all rfl)) (SimS.cons (Sim1.appendN D (i := 8) (by with_unfolding_all rfl) (SimE.vr D (i := 9) (by with_unfolding_all rfl)) (by with_unfolding_all rfl) (by kernel_rfl)) (SimS.one (Sim1.asgN K (i := 9) (by with_unfolding_all rfl) (SimE.callN (cal_law_mul H) k_law_mul (SimL.cons (SimE.vr D (i := 9) (by with_unfolding_all rfl)) (SimL.cons (SimE.vr D (i := 7) (by with_unfolding_all rfl)) (SimL.cons (SimE.vr D (i := 1) (by with_unfolding_all rfl)) (SimL.cons (SimE.vr D (i := 2) (by with_unfolding_all rfl)) SimL.nil)))) (by decide) (by decide +kernel))))))
  refine SimS.freeze (i := 8) (x := "met") ?_ ?_
  · rfl
  refine SimS.cons ?_ ?_
  · with_reducible exact (Sim1.ife (AllT.toT (AllT.or (Cmp.toT (Cmp.ne (SimE.toR (SimE.vr D (i := 9) (by with_unfolding_all rfl))) (SimE.toR (SimF.toE (SimF.disp (SimL.cons SimE.int SimL.nil)))))) (AllT.one (Cmp.toT (Cmp.ne (SimE.toR (SimF.toE (SimF.comp (strong := false) (nm' := nm_law_orders_right_0) (caps := [8]) (capB_spec (by decide +kernel)) (SimI.enumW (SimB.vr D (i := 8) (by with_unfolding_all rfl)) (by decide +kernel)) (AsgOK.tup (NamesAt.cons (i := 10) (by with_unfolding_all rfl) (.inl (by decide +kernel)) (NamesAt.cons (i := 11) (by with_unfolding_all rfl) (.inl (by decide +kernel)) NamesAt.nil))) (Plainly.tup _) (SimTs.one (Cmp.toT (Cmp.isin (SimE.toR (SimE.vr D0 (i := 11) (by with_unfolding_all rfl))) (SimF.toB (SimF.upto (SimB.vr D0 (i := 8) (by with_unfolding_all rfl)) (SimE.vr D0 (i := 10) (by with_unfolding_all rfl))))))) (SimE.vr D0 (i := 11) (by with_unfolding_all rfl))))) (SimE.toR (SimF.toE (SimF.disp SimL.nil)))))))) (SimS.one (Sim1.ret SimE.bool)) SimS.nil)
  refine SimS.cons ?_ ?_
  · with_reducible exact (Sim1.asgN K (i := 4) (by with_unfolding_all rfl) (SimE.ife (Cmp.toT (Cmp.isin (SimE.toR (SimE.vr D (i := 7) (by with_unfolding_all rfl))) (SimB.vr D (i := 5) (by with_unfolding_all rfl)))) (SimE.indexN D (i := 5) (by with_unfolding_all rfl) (SimE.vr D (i := 7) (by with_unfolding_all rfl)) (by with_unfolding_all rfl)) SimE.none))
  refine SimS.one ?_
  with_reducible exact (Sim1.ret (SimE.and (Cmp.toE (Cmp.eq (SimE.toR (SimE.callN (cal_gf_logarithm H) k_gf_logarithm (SimL.cons (SimE.vr D (i := 0) (by with_unfolding_all rfl)) (SimL.cons (SimE.vr D (i := 7) (by with_unfolding_all rfl)) (SimL.cons (SimE.vr D (i := 1) (by with_unfolding_all rfl)) (SimL.cons (SimE.vr D (i := 2) (by with_unfolding_all rfl)) SimL.nil)))) (by decide) (by decide +kernel))) (SimE.toR (SimE.indexN D (i := 8) (by with_unfolding_all rfl) (SimE.vr D (i := 0) (by with_unfolding_all rfl)) (by with_unfolding_all rfl))))) (SimE.bone (Cmp.toE (Cmp.eq (SimE.toR (SimE.callN (cal_gf_logarithm H) k_gf_logarithm (SimL.cons (SimE.vr D (i := 7) (by with_unfolding_all rfl)) (SimL.cons (SimE.vr D (i := 0) (by with_unfolding_all rfl)) (SimL.cons (SimE.vr D (i := 1) (by with_unfolding_all rfl)) (SimL.cons (SimE.vr D (i := 2) (by with_unfolding_all rfl)) SimL.nil)))) (by decide) (by decide +kernel))) (SimE.toR (SimE.vr D (i := 4) (by with_unfolding_all rfl))))))))
theorem O_law_orders_right {U : Uni} (H : Us U) {F_law_mul F_gf_order F_gf_generator F_gf_logarithm : FN} (k_law_mul : CallOK U "_law_mul" 3 F_law_mul) (k_gf_order : CallOK U "gf_order" 8 F_gf_order) (k_gf_generator : CallOK U "gf_generator" 9 F_gf_generator) (k_gf_logarithm : CallOK U "gf_logarithm" 9 F_gf_logarithm) : CallOK U "_law_orders_right" 10 (runArgs 3 (c_law_orders_right F_law_mul F_gf_order F_gf_generator F_gf_logarithm)) :=
  (cal_law_orders_right H).of (ps := ["a", "m", "p"]) (by decide +kernel) (fun pm cd doc => len3 fun a b c => by kernel_rfl) (K_law_orders_right H k_law_mul k_gf_order k_gf_generator k_gf_logarithm)

noncomputable def nm_law_sums_right : Nm := [some "a", some "m", some "p", some "turn", some "least", some "size", some "whole", some "product", some "here", some "number"]
noncomputable def c_law_sums_right (F_gf_least F_law_raised F_law_plus F_law_mul F_law_value F_gf_at F_gf_trace F_gf_norm F_law_counted : FN) : C :=
  (cseq (cslots [8, 7, 6] (slrev (slv (elst (fits lnil)) (slv (elst (fits (lcons (econ (.int 1)) lnil))) (slv (evar 0) slnil))))) (cseq (cfor (brange1 (iop fsub (elen (bvar 1)) (econ (.int 1)))) (asgName 3) (cseq (cslots [7, 6] (slrev (slv (ecall F_law_plus (lcons (evar 6) (lcons (evar 8) (lcons (evar 2) lnil)))) (slv (ecall F_law_mul (lcons (evar 7) (lcons (evar 8) (lcons (evar 1) (lcons (evar 2) lnil))))) slnil)))) (cset 8 (ecall F_law_raised (lcons (evar 8) (lcons (evar 2) (lcons (evar 1) (lcons (evar 2) lnil)))))))) (cseq (cif (tor (dne (elst (fits (lcons (ecall F_gf_trace (lcons (evar 0) (lcons (evar 1) (lcons (evar 2) lnil)))) lnil))) (eor (evar 6) (elst (fits (lcons (econ (.int 0)) lnil))))) (dne (elst (fits (lcons (ecall F_gf_norm (lcons (evar 0) (lcons (evar 1) (lcons (evar 2) lnil)))) lnil))) (eor (evar 7) (elst (fits (lcons (econ (.int 0)) lnil)))))) (cret (econ (.bool false))) cskip) (cseq (cset 4 (ecall F_gf_least (lcons (evar 0) (lcons (evar 1) (lcons (evar 2) lnil))))) (cseq (cif (tor (icmp cne (lidx (bvar 4) (eneg (econ (.int 1)))) (econ (.int 1))) (tor (dne (ecall F_law_value (lcons (evar 4) (lcons (evar 0) (lcons (evar 1) (lcons (evar 2) lnil))))) (elst (fits lnil))) (dne (ecall F_gf_at (lcons (evar 4) (lcons (evar 0) (lcons (evar 1) (lcons (evar 2) lnil))))) (elst (fits lnil))))) (cret (econ (.bool false))) cskip) (cseq (cfor (brange2 (econ (.int 1)) (iop fsub (elen (bvar 4)) (econ (.int 1)))) (asgName 5) (cfor (brange1 (iop fpow (evar 2) (evar 5))) (asgName 9) (cif (deq (ecall F_law_value (lcons (ecall F_law_counted (lcons (evar 9) (lcons (evar 5) (lcons (evar 2) lnil)))) (lcons (evar 0) (lcons (evar 1) (lcons (evar 2) lnil))))) (elst (fits lnil))) (cret (econ (.bool false))) cskip))) (cret (econ (.bool true)))))))))
theorem K_law_sums_right {U : Uni} (H : Us U) {F_gf_least F_law_raised F_law_plus F_law_mul F_law_value F_gf_at F_gf_trace F_gf_norm F_law_counted : FN} (k_gf_least : CallOK U "gf_least" 9 F_gf_least) (k_law_raised : CallOK U "_law_raised" 4 F_law_raised) (k_law_plus : CallOK U "_law_plus" 2 F_law_plus) (k_law_mul : CallOK U "_law_mul" 3 F_law_mul) (k_law_value : CallOK U "_law_value" 4 F_law_value) (k_gf_at : CallOK U "gf_at" 6 F_gf_at) (k_gf_trace : CallOK U "gf_trace" 8 F_gf_trace) (k_gf_norm : CallOK U "gf_norm" 8 F_gf_norm) (k_law_counted : CallOK U "_law_counted" 1 F_law_counted) : SimS U 9 (dr 52).scope nm_law_sums_right (dr 52).body (c_law_sums_right F_gf_least F_law_raised F_law_plus F_law_mul F_law_value F_gf_at F_gf_trace F_gf_norm F_law_counted) := by
  have D : NmD nm_law_sums_right := okNm_spec (by decide +kernel)
  have K : NmK (dr 52).scope nm_law_sums_right := okFn_spec (by decide +kernel)
  refine SimS.cons ?_ ?_
  · with_reducible exact (Sim1.swapR (names := ["whole", "product", "here"]) (rn := ["here", "product", "whole"]) (by with_unfolding_all rfl) (SimSl.consv (SimF.toE (SimF.disp SimL.nil)) (SimSl.consv (SimF.toE (SimF.disp (SimL.cons SimE.int SimL.nil))) (SimSl.consv (SimE.vr D (i := 0) (by with_unfolding_all rfl)) SimSl.nil))) (StrsAt.c K (i := 8) (by with_unfolding_all rfl) (StrsAt.c K (i := 7) (by with_unfolding_all rfl) (StrsAt.c K (i := 6) (by with_unfolding_all rfl) StrsAt.nil))) (by kernel_rfl))
  refine SimS.cons ?_ ?_
  · with_reducible exact (Sim1.for (SimI.range1 (SimE.iop irule_sub (SimE.len (SimB.vr D (i := 1) (by with_unfolding_all rfl)) (by decide +kernel)) SimE.int) (by decide +kernel)) (AsgOK.vr K (i := 3) (by with_unfolding_all rfl)) (SimS.cons (Sim1.swapR (names := ["whole", "product"]) (rn := ["product", "whole"]) (by with_unfolding_all rfl) (SimSl.consv (SimE.callN (cal_law_plus H) k_law_plus (SimL.cons (SimE.vr D (i := 6) (by with_unfolding_all rfl)) (SimL.cons (SimE.vr D (i := 8) (by with_unfolding_all rfl)) (SimL.cons (SimE.vr D (i := 2) (by with_unfolding_all rfl)) SimL.nil))) (by decide) (by decide +kernel)) (SimSl.consv (SimE.callN (cal_law_mul H) k_law_mul (SimL.cons (SimE.vr D (i := 7) (by with_unfolding_all rfl)) (SimL.cons (SimE.vr D (i := 8) (by with_unfolding_all rfl)) (SimL.cons (SimE.vr D (i := 1) (by with_unfolding_all rfl)) (SimL.cons (SimE.vr D (i := 2) (by with_unfolding_all rfl)) SimL.nil)))) (by decide) (by decide +kernel)) SimSl.nil)) (StrsAt.c K (i := 7) (by with_unfolding_all rfl) (StrsAt.c K (i := 6) (by with_unfolding_all rfl) StrsAt.nil)) (by kernel_rfl)) (SimS.one (Sim1.asgN K (i := 8) (by with_unfolding_all rfl) (SimE.callN (cal_law_raised H) k_law_raised (SimL.cons (SimE.vr D (i := 8) (by with_unfolding_all rfl)) (SimL.cons (SimE.vr D (i := 2) (by with_unfolding_all rfl)) (SimL.cons (SimE.vr D (i := 1) (by with_unfolding_all rfl)) (SimL.cons (SimE.vr D (i := 2) (by with_unfolding_all rfl)) SimL.nil)))) (by decide) (by decide +kernel))))))
  refine SimS.cons ?_ ?_
  · with_reducible exact (Sim1.ife (AllT.toT (AllT.or (Cmp.toT (Cmp.ne (SimE.toR (SimF.toE (SimF.disp (SimL.cons (SimE.callN (cal_gf_trace H) k_gf_trace (SimL.cons (SimE.vr D (i := 0) (by with_unfolding_all rfl)) (SimL.cons (SimE.vr D (i := 1) (by with_unfolding_all rfl)) (SimL.cons (SimE.vr D (i := 2) (by with_unfolding_all rfl)) SimL.nil))) (by decide) (by decide +kernel)) SimL.nil)))) (SimE.toR (SimE.or (SimE.vr D (i := 6) (by with_unfolding_all rfl)) (SimE.bone (SimF.toE (SimF.disp (SimL.cons SimE.int SimL.nil)))))))) (AllT.one (Cmp.toT (Cmp.ne (SimE.toR (SimF.toE (SimF.disp (SimL.cons (SimE.callN (cal_gf_norm H) k_gf_norm (SimL.cons (SimE.vr D (i := 0) (by with_unfolding_all rfl)) (SimL.cons (SimE.vr D (i := 1) (by with_unfolding_all rfl)) (SimL.cons (SimE.vr D (i := 2) (by with_unfolding_all rfl)) SimL.nil))) (by decide) (by decide +kernel)) SimL.nil)))) (SimE.toR (SimE.or (SimE.vr D (i := 7) (by with_unfolding_all rfl)) (SimE.bone (SimF.toE (SimF.disp (SimL.cons SimE.int SimL.nil))))))))))) (SimS.one (Sim1.ret SimE.bool)) SimS.nil)
  refine SimS.cons ?_ ?_
  · with_reducible exact (Sim1.asgN K (i := 4) (by with_unfolding_all rfl) (SimE.callN (cal_gf_least H) k_gf_least (SimL.cons (SimE.vr D (i := 0) (by with_unfolding_all rfl)) (SimL.cons (SimE.vr D (i := 1) (by with_unfolding_all rfl)) (SimL.cons (SimE.vr D (i := 2) (by with_unfolding_all rfl)) SimL.nil))) (by decide) (by decide +kernel)))
  refine SimS.cons ?_ ?_
  · with_reducible exact (Sim1.ife (AllT.toT (AllT.or (Cmp.toT (Cmp.int crule_ne (SimE.lidx (SimB.vr D (i := 4) (by with_unfolding_all rfl)) (SimE.neg SimE.int)) SimE.int)) (AllT.or (Cmp.toT (Cmp.ne (SimE.toR (SimE.callN (cal_law_value H) k_law_value (SimL.cons (SimE.vr D (i := 4) (by with_unfolding_all rfl)) (SimL.cons (SimE.vr D (i := 0) (by with_unfolding_all rfl)) (SimL.cons (SimE.vr D (i := 1) (by with_unfolding_all rfl)) (SimL.cons (SimE.vr D (i := 2) (by with_unfolding_all rfl)) SimL.nil)))) (by decide) (by decide +kernel))) (SimE.toR (SimF.toE (SimF.disp SimL.nil))))) (AllT.one (Cmp.toT (Cmp.ne (SimE.toR (SimE.callN (cal_gf_at H) k_gf_at (SimL.cons (SimE.vr D (i := 4) (by with_unfolding_all rfl)) (SimL.cons (SimE.vr D (i := 0) (by with_unfolding_all rfl)) (SimL.cons (SimE.vr D (i := 1) (by with_unfolding_all rfl)) (SimL.cons (SimE.vr D (i := 2) (by with_unfolding_all rfl)) SimL.nil)))) (by decide) (by decide +kernel))) (SimE.toR (SimF.toE (SimF.disp SimL.nil))))))))) (SimS.one (Sim1.ret SimE.bool)) SimS.nil)
  refine SimS.cons ?_ ?_
  · with_reducible exact (Sim1.for (SimI.range2 SimE.int (SimE.iop irule_sub (SimE.len (SimB.vr D (i := 4) (by with_unfolding_all rfl)) (by decide +kernel)) SimE.int) (by decide +kernel)) (AsgOK.vr K (i := 5) (by with_unfolding_all rfl)) (SimS.one (Sim1.for (SimI.range1 (SimE.iop irule_pow (SimE.vr D (i := 2) (by with_unfolding_all rfl)) (SimE.vr D (i := 5) (by with_unfolding_all rfl))) (by decide +kernel)) (AsgOK.vr K (i := 9) (by with_unfolding_all rfl)) (SimS.one (Sim1.ife (Cmp.toT (Cmp.eq (SimE.toR (SimE.callN (cal_law_value H) k_law_value (SimL.cons (SimE.callN (cal_law_counted H) k_law_counted (SimL.cons (SimE.vr D (i := 9) (by with_unfolding_all rfl)) (SimL.cons (SimE.vr D (i := 5) (by with_unfolding_all rfl)) (SimL.cons (SimE.vr D (i := 2) (by with_unfolding_all rfl)) SimL.nil))) (by decide) (by decide +kernel)) (SimL.cons (SimE.vr D (i := 0) (by with_unfolding_all rfl)) (SimL.cons (SimE.vr D (i := 1) (by with_unfolding_all rfl)) (SimL.cons (SimE.vr D (i := 2) (by with_unfolding_all rfl)) SimL.nil)))) (by decide) (by decide +kernel))) (SimE.toR (SimF.toE (SimF.disp SimL.nil))))) (SimS.one (Sim1.ret SimE.bool)) SimS.nil)))))
  refine SimS.one ?_
  with_reducible exact (Sim1.ret SimE.bool)
theorem O_law_sums_right {U : Uni} (H : Us U) {F_gf_least F_law_raised F_law_plus F_law_mul F_law_value F_gf_at F_gf_trace F_gf_norm F_law_counted : FN} (k_gf_least : CallOK U "gf_least" 9 F_gf_least) (k_law_raised : CallOK U "_law_raised" 4 F_law_raised) (k_law_plus : CallOK U "_law_plus" 2 F_law_plus) (k_law_mul : CallOK U "_law_mul" 3 F_law_mul) (k_law_value : CallOK U "_law_value" 4 F_law_value) (k_gf_at : CallOK U "gf_at" 6 F_gf_at) (k_gf_trace : CallOK U "gf_trace" 8 F_gf_trace) (k_gf_norm : CallOK U "gf_norm" 8 F_gf_norm) (k_law_counted : CallOK U "_law_counted" 1 F_law_counted) : CallOK U "_law_sums_right" 10 (runArgs 3 (c_law_sums_right F_gf_least F_law_raised F_law_plus F_law_mul F_law_value F_gf_at F_gf_trace F_gf_norm F_law_counted)) :=
  (cal_law_sums_right H).of (ps := ["a", "m", "p"]) (by decide +kernel) (fun pm cd doc => len3 fun a b c => by kernel_rfl) (K_law_sums_right H k_gf_least k_law_raised k_law_plus k_law_mul k_law_value k_gf_at k_gf_trace k_gf_norm k_law_counted)

/-! E0 -/
noncomputable def F_extended : FN := runArgs 2 c_extended
noncomputable def F_least_divisor : FN := runArgs 2 c_least_divisor
noncomputable def F_mtrim : FN := runArgs 1 c_mtrim
noncomputable def F_mdegree : FN := runArgs 1 c_mdegree
noncomputable def F_mneg : FN := runArgs 2 c_mneg
noncomputable def F_number_of : FN := runArgs 1 c_number_of
noncomputable def F_law_cut : FN := runArgs 1 c_law_cut
noncomputable def F_law_counted : FN := runArgs 3 c_law_counted
noncomputable def F_inverse_mod : FN := runArgs 2 (c_inverse_mod F_extended)
noncomputable def F_prime_factors : FN := runArgs 1 (c_prime_factors F_least_divisor)
noncomputable def F_madd : FN := runArgs 3 (c_madd F_mtrim)
noncomputable def F_mscale : FN := runArgs 3 (c_mscale F_mtrim)
noncomputable def F_mmul : FN := runArgs 3 (c_mmul F_mtrim)
noncomputable def F_counted : FN := runArgs 2 (c_counted F_mtrim)
noncomputable def F_gf_size : FN := runArgs 2 (c_gf_size F_mdegree)
noncomputable def F_law_times : FN := runArgs 3 (c_law_times F_law_cut)
noncomputable def F_law_left : FN := runArgs 3 (c_law_left F_law_cut)
noncomputable def F_law_plus : FN := runArgs 3 (c_law_plus F_law_cut)
noncomputable def F_msub : FN := runArgs 3 (c_msub F_madd F_mneg)
noncomputable def F_mdivmod : FN := runArgs 3 (c_mdivmod F_inverse_mod F_mtrim)
noncomputable def F_mmonic : FN := runArgs 2 (c_mmonic F_mscale F_inverse_mod)
noncomputable def F_gf_things : FN := runArgs 2 (c_gf_things F_counted F_gf_size)
noncomputable def F_moebius : FN := runArgs 1 (c_moebius F_prime_factors)
noncomputable def F_law_primes : FN := runArgs 2 (c_law_primes F_law_counted F_law_left)
noncomputable def F_law_mul : FN := runArgs 4 (c_law_mul F_law_left F_law_times)
noncomputable def F_mrest : FN := runArgs 3 (c_mrest F_mdivmod)
noncomputable def F_mextended : FN := runArgs 3 (c_mextended F_inverse_mod F_mdivmod F_mscale F_msub F_mmul)
noncomputable def F_count_prime_polys : FN := runArgs 2 (c_count_prime_polys F_moebius)
noncomputable def F_law_raised : FN := runArgs 4 (c_law_raised F_law_mul)
noncomputable def F_law_value : FN := runArgs 4 (c_law_value F_law_plus F_law_mul)
noncomputable def F_mpower_mod : FN := runArgs 4 (c_mpower_mod F_mrest F_mmul)
noncomputable def F_mgcd : FN := runArgs 3 (c_mgcd F_mmonic F_mrest)
noncomputable def F_minverse : FN := runArgs 3 (c_minverse F_mextended F_mrest)
noncomputable def F_gf_multiply : FN := runArgs 4 (c_gf_multiply F_mrest F_mmul)
noncomputable def F_is_prime_mod : FN := runArgs 2 (c_is_prime_mod F_mdegree F_prime_factors F_mpower_mod F_mrest F_mgcd F_msub)
noncomputable def F_gf_inverse : FN := runArgs 3 (c_gf_inverse F_minverse)
noncomputable def F_gf_at : FN := runArgs 4 (c_gf_at F_madd F_gf_multiply F_mscale)
noncomputable def F_gf_divide : FN := runArgs 4 (c_gf_divide F_gf_multiply F_gf_inverse)
noncomputable def F_gf_power : FN := runArgs 4 (c_gf_power F_gf_inverse F_gf_multiply)
noncomputable def F_first_prime_poly : FN := runArgs 2 (c_first_prime_poly F_counted F_is_prime_mod)
noncomputable def F_gf_order : FN := runArgs 3 (c_gf_order F_prime_factors F_gf_size F_gf_power)
noncomputable def F_gf_conjugates : FN := runArgs 3 (c_gf_conjugates F_gf_power)
noncomputable def F_gf_trace : FN := runArgs 3 (c_gf_trace F_number_of F_mdegree F_madd F_gf_power)
noncomputable def F_gf_norm : FN := runArgs 3 (c_gf_norm F_number_of F_mdegree F_gf_multiply F_gf_power)
noncomputable def F_gf_is_square : FN := runArgs 3 (c_gf_is_square F_gf_power F_gf_size)
noncomputable def F_gf_generator : FN := runArgs 2 (c_gf_generator F_counted F_gf_order F_gf_size)
noncomputable def F_gf_logarithm : FN := runArgs 4 (c_gf_logarithm F_gf_order F_gf_multiply F_gf_inverse)
noncomputable def F_gf_least : FN := runArgs 3 (c_gf_least F_gf_conjugates F_number_of F_madd F_mneg F_gf_multiply)
noncomputable def F_law_reckoned_right : FN := runArgs 5 (c_law_reckoned_right F_gf_inverse F_gf_multiply F_law_mul F_gf_is_square F_gf_divide F_gf_power F_law_raised F_gf_things)
noncomputable def F_law_orders_right : FN := runArgs 3 (c_law_orders_right F_law_mul F_gf_order F_gf_generator F_gf_logarithm)
noncomputable def F_law_sums_right : FN := runArgs 3 (c_law_sums_right F_gf_least F_law_raised F_law_plus F_law_mul F_law_value F_gf_at F_gf_trace F_gf_norm F_law_counted)
theorem k_extended {U : Uni} (H : Us U) : CallOK U "extended" 1 F_extended := O_extended H 
theorem k_least_divisor {U : Uni} (H : Us U) : CallOK U "least_divisor" 1 F_least_divisor := O_least_divisor H 
theorem k_mtrim {U : Uni} (H : Us U) : CallOK U "mtrim" 1 F_mtrim := O_mtrim H 
theorem k_mdegree {U : Uni} (H : Us U) : CallOK U "mdegree" 1 F_mdegree := O_mdegree H 
theorem k_mneg {U : Uni} (H : Us U) : CallOK U "mneg" 1 F_mneg := O_mneg H 
theorem k_number_of {U : Uni} (H : Us U) : CallOK U "number_of" 1 F_number_of := O_number_of H 
theorem k_law_cut {U : Uni} (H : Us U) : CallOK U "_law_cut" 1 F_law_cut := O_law_cut H 
theorem k_law_counted {U : Uni} (H : Us U) : CallOK U "_law_counted" 1 F_law_counted := O_law_counted H 
theorem k_inverse_mod {U : Uni} (H : Us U) : CallOK U "inverse_mod" 2 F_inverse_mod := O_inverse_mod H (k_extended H)
theorem k_prime_factors {U : Uni} (H : Us U) : CallOK U "prime_factors" 2 F_prime_factors := O_prime_factors H (k_least_divisor H)
theorem k_madd {U : Uni} (H : Us U) : CallOK U "madd" 2 F_madd := O_madd H (k_mtrim H)
theorem k_mscale {U : Uni} (H : Us U) : CallOK U "mscale" 2 F_mscale := O_mscale H (k_mtrim H)
theorem k_mmul {U : Uni} (H : Us U) : CallOK U "mmul" 2 F_mmul := O_mmul H (k_mtrim H)
theorem k_counted {U : Uni} (H : Us U) : CallOK U "counted" 2 F_counted := O_counted H (k_mtrim H)
theorem k_gf_size {U : Uni} (H : Us U) : CallOK U "gf_size" 2 F_gf_size := O_gf_size H (k_mdegree H)
theorem k_law_times {U : Uni} (H : Us U) : CallOK U "_law_times" 2 F_law_times := O_law_times H (k_law_cut H)
theorem k_law_left {U : Uni} (H : Us U) : CallOK U "_law_left" 2 F_law_left := O_law_left H (k_law_cut H)
theorem k_law_plus {U : Uni} (H : Us U) : CallOK U "_law_plus" 2 F_law_plus := O_law_plus H (k_law_cut H)
theorem k_msub {U : Uni} (H : Us U) : CallOK U "msub" 3 F_msub := O_msub H (k_madd H) (k_mneg H)
theorem k_mdivmod {U : Uni} (H : Us U) : CallOK U "mdivmod" 3 F_mdivmod := O_mdivmod H (k_inverse_mod H) (k_mtrim H)
theorem k_mmonic {U : Uni} (H : Us U) : CallOK U "mmonic" 3 F_mmonic := O_mmonic H (k_mscale H) (k_inverse_mod H)
theorem k_gf_things {U : Uni} (H : Us U) : CallOK U "gf_things" 3 F_gf_things := O_gf_things H (k_counted H) (k_gf_size H)
theorem k_moebius {U : Uni} (H : Us U) : CallOK U "moebius" 3 F_moebius := O_moebius H (k_prime_factors H)
theorem k_law_primes {U : Uni} (H : Us U) : CallOK U "_law_primes" 3 F_law_primes := O_law_primes H (k_law_counted H) (k_law_left H)
theorem k_law_mul {U : Uni} (H : Us U) : CallOK U "_law_mul" 3 F_law_mul := O_law_mul H (k_law_left H) (k_law_times H)
theorem k_mrest {U : Uni} (H : Us U) : CallOK U "mrest" 4 F_mrest := O_mrest H (k_mdivmod H)
theorem k_mextended {U : Uni} (H : Us U) : CallOK U "mextended" 4 F_mextended := O_mextended H (k_inverse_mod H) (k_mdivmod H) (k_mscale H) (k_msub H) (k_mmul H)
theorem k_count_prime_polys {U : Uni} (H : Us U) : CallOK U "count_prime_polys" 4 F_count_prime_polys := O_count_prime_polys H (k_moebius H)
theorem k_law_raised {U : Uni} (H : Us U) : CallOK U "_law_raised" 4 F_law_raised := O_law_raised H (k_law_mul H)
theorem k_law_value {U : Uni} (H : Us U) : CallOK U "_law_value" 4 F_law_value := O_law_value H (k_law_plus H) (k_law_mul H)
theorem k_mpower_mod {U : Uni} (H : Us U) : CallOK U "mpower_mod" 5 F_mpower_mod := O_mpower_mod H (k_mrest H) (k_mmul H)
theorem k_mgcd {U : Uni} (H : Us U) : CallOK U "mgcd" 5 F_mgcd := O_mgcd H (k_mmonic H) (k_mrest H)
theorem k_minverse {U : Uni} (H : Us U) : CallOK U "minverse" 5 F_minverse := O_minverse H (k_mextended H) (k_mrest H)
theorem k_gf_multiply {U : Uni} (H : Us U) : CallOK U "gf_multiply" 5 F_gf_multiply := O_gf_multiply H (k_mrest H) (k_mmul H)
theorem k_is_prime_mod {U : Uni} (H : Us U) : CallOK U "is_prime_mod" 6 F_is_prime_mod := O_is_prime_mod H (k_mdegree H) (k_prime_factors H) (k_mpower_mod H) (k_mrest H) (k_mgcd H) (k_msub H)
theorem k_gf_inverse {U : Uni} (H : Us U) : CallOK U "gf_inverse" 6 F_gf_inverse := O_gf_inverse H (k_minverse H)
theorem k_gf_at {U : Uni} (H : Us U) : CallOK U "gf_at" 6 F_gf_at := O_gf_at H (k_madd H) (k_gf_multiply H) (k_mscale H)
theorem k_gf_divide {U : Uni} (H : Us U) : CallOK U "gf_divide" 7 F_gf_divide := O_gf_divide H (k_gf_multiply H) (k_gf_inverse H)
theorem k_gf_power {U : Uni} (H : Us U) : CallOK U "gf_power" 7 F_gf_power := O_gf_power H (k_gf_inverse H) (k_gf_multiply H)
theorem k_first_prime_poly {U : Uni} (H : Us U) : CallOK U "first_prime_poly" 7 F_first_prime_poly := O_first_prime_poly H (k_counted H) (k_is_prime_mod H)
theorem k_gf_order {U : Uni} (H : Us U) : CallOK U "gf_order" 8 F_gf_order := O_gf_order H (k_prime_factors H) (k_gf_size H) (k_gf_power H)
theorem k_gf_conjugates {U : Uni} (H : Us U) : CallOK U "gf_conjugates" 8 F_gf_conjugates := O_gf_conjugates H (k_gf_power H)
theorem k_gf_trace {U : Uni} (H : Us U) : CallOK U "gf_trace" 8 F_gf_trace := O_gf_trace H (k_number_of H) (k_mdegree H) (k_madd H) (k_gf_power H)
theorem k_gf_norm {U : Uni} (H : Us U) : CallOK U "gf_norm" 8 F_gf_norm := O_gf_norm H (k_number_of H) (k_mdegree H) (k_gf_multiply H) (k_gf_power H)
theorem k_gf_is_square {U : Uni} (H : Us U) : CallOK U "gf_is_square" 8 F_gf_is_square := O_gf_is_square H (k_gf_power H) (k_gf_size H)
theorem k_gf_generator {U : Uni} (H : Us U) : CallOK U "gf_generator" 9 F_gf_generator := O_gf_generator H (k_counted H) (k_gf_order H) (k_gf_size H)
theorem k_gf_logarithm {U : Uni} (H : Us U) : CallOK U "gf_logarithm" 9 F_gf_logarithm := O_gf_logarithm H (k_gf_order H) (k_gf_multiply H) (k_gf_inverse H)
theorem k_gf_least {U : Uni} (H : Us U) : CallOK U "gf_least" 9 F_gf_least := O_gf_least H (k_gf_conjugates H) (k_number_of H) (k_madd H) (k_mneg H) (k_gf_multiply H)
theorem k_law_reckoned_right {U : Uni} (H : Us U) : CallOK U "_law_reckoned_right" 9 F_law_reckoned_right := O_law_reckoned_right H (k_gf_inverse H) (k_gf_multiply H) (k_law_mul H) (k_gf_is_square H) (k_gf_divide H) (k_gf_power H) (k_law_raised H) (k_gf_things H)
theorem k_law_orders_right {U : Uni} (H : Us U) : CallOK U "_law_orders_right" 10 F_law_orders_right := O_law_orders_right H (k_law_mul H) (k_gf_order H) (k_gf_generator H) (k_gf_logarithm H)
theorem k_law_sums_right {U : Uni} (H : Us U) : CallOK U "_law_sums_right" 10 F_law_sums_right := O_law_sums_right H (k_gf_least H) (k_law_raised H) (k_law_plus H) (k_law_mul H) (k_law_value H) (k_gf_at H) (k_gf_trace H) (k_gf_norm H) (k_law_counted H)

/-! P0 -/
/-! equality of small data, fast in the kernel -/
noncomputable def beq0 (x y : PyData) : Bool := match x, y with
  | .int a, .int b => ieqb a b
  | .bool a, .bool b => a == b
  | .none, .none => true
  | _, _ => false
noncomputable def beqL (f : PyData → PyData → Bool) (xs : List PyData) : List PyData → Bool :=
  @List.rec PyData (fun _ => List PyData → Bool) (fun ys => @List.rec PyData (fun _ => Bool) true (fun _ _ _ => false) ys)
    (fun x _ ih ys => @List.rec PyData (fun _ => Bool) false (fun y ys _ => match f x y with | true => ih ys | false => false) ys) xs
noncomputable def beq1 (x y : PyData) : Bool := match x, y with
  | .list a, .list b => beqL beq0 a b
  | x, y => beq0 x y
noncomputable def beq2 (x y : PyData) : Bool := match x, y with
  | .list a, .list b => beqL beq1 a b
  | x, y => beq1 x y
theorem beq0_eq {x y : PyData} (h : beq0 x y = true) : x = y := by
  unfold beq0 at h
  split at h
  · rw [ieqb_eq, decide_eq_true_iff] at h; rw [h]
  · simp at h; rw [h]
  · rfl
  · cases h
theorem beqL_eq {f : PyData → PyData → Bool} (hf : ∀ {x y}, f x y = true → x = y) : ∀ {xs ys : List PyData}, beqL f xs ys = true → xs = ys
  | [], [], _ => rfl
  | [], _ :: _, h => by cases h
  | _ :: _, [], h => by cases h
  | x :: xs, y :: ys, h => by
    have h' : (match f x y with | true => beqL f xs ys | false => false) = true := h
    split at h'
    · rename_i q
      rw [hf q, beqL_eq hf h']
    · cases h'
theorem beq1_eq {x y : PyData} (h : beq1 x y = true) : x = y := by
  unfold beq1 at h
  split at h
  · rw [beqL_eq beq0_eq h]
  · exact beq0_eq h
theorem beq2_eq {x y : PyData} (h : beq2 x y = true) : x = y := by
  unfold beq2 at h
  split at h
  · rw [beqL_eq beq1_eq h]
  · exact beq1_eq h
noncomputable def isR (o : Option PyData) (r : PyData) : Bool := match o with | some x => beq2 x r | none => false
theorem isR_eq {o : Option PyData} {r : PyData} (h : isR o r = true) : o = some r := by
  unfold isR at h
  split at h
  · rw [beq2_eq h]
  · cases h

/-! tables -/
noncomputable def nthT {α : Type} (l : List α) (i : Nat) : Option α :=
  @Nat.rec (fun _ => List α → Option α) (fun l => @List.rec α (fun _ => Option α) none (fun x _ _ => some x) l) (fun _ f l => @List.rec α (fun _ => Option α) none (fun _ r _ => f r) l) i l
theorem nthT_eq {α : Type} : ∀ (l : List α) (i : Nat), nthT l i = l[i]?
  | [], 0 => rfl
  | [], _ + 1 => rfl
  | _ :: _, 0 => rfl
  | _ :: r, i + 1 => (nthT_eq r i).trans (by simp)
noncomputable def encL (p : Nat) (l : List PyData) : Nat := @List.rec PyData (fun _ => Nat) 0 (fun x _ ih => match x with | .int (.ofNat k) => Nat.add k (Nat.mul p ih) | _ => 0) l
noncomputable def at1 (dom : List PyData) (i : Nat) (a : List PyData) : Bool := match nthT dom i with | some x => beq1 x (.list a) | none => false
theorem at1_eq {dom : List PyData} {i : Nat} {a : List PyData} (h : at1 dom i a = true) : dom[i]? = some (.list a) := by
  unfold at1 at h
  split at h
  · rename_i x hx
    rw [← beq1_eq h, ← nthT_eq, hx]
  · cases h
noncomputable def res1 (res : List PyData) (o : Option Nat) : Option PyData := match o with | some c => nthT res c | none => none
noncomputable def tab1 (p : Nat) (dom res tail : List PyData) (T : List Nat) : FN := fun args => match args with
  | .list a :: tl => (match beqL beq1 tl tail with
    | true => (match at1 dom (encL p a) a with | true => res1 res (nthT T (encL p a)) | false => none)
    | false => none)
  | _ => none
noncomputable def row1 (T : List (List Nat)) (i j : Nat) : Option Nat := match nthT T i with | some r => nthT r j | none => none
noncomputable def tab2 (e1 e2 : List PyData → Nat) (dom dom' res tail : List PyData) (T : List (List Nat)) : FN := fun args => match args with
  | .list a :: .list b :: tl => (match beqL beq1 tl tail with
    | true => (match at1 dom (e1 a) a with
      | true => (match at1 dom' (e2 b) b with | true => res1 res (row1 T (e1 a) (e2 b)) | false => none)
      | false => none)
    | false => none)
  | _ => none
noncomputable def orF (F G : FN) : FN := fun args => match F args with | some r => some r | none => G args
noncomputable def lenN (l : List PyData) : Nat := @List.rec PyData (fun _ => Nat) 0 (fun _ _ ih => Nat.succ ih) l
noncomputable def tab0 (key : List PyData) (r : PyData) : FN := fun args => match beqL beq1 args key with | true => some r | false => none
noncomputable def all2 {α β : Type} (f : α → β → Bool) (xs : List α) : List β → Bool :=
  @List.rec α (fun _ => List β → Bool) (fun _ => true) (fun x _ ih ys => @List.rec β (fun _ => Bool) true (fun y ys _ => match f x y with | true => ih ys | false => false) ys) xs
theorem all2_get {α β : Type} {f : α → β → Bool} : ∀ {xs : List α} {ys : List β}, all2 f xs ys = true → ∀ {i : Nat} {x y}, xs[i]? = some x → ys[i]? = some y → f x y = true
  | [], _, _, i, _, _, e, _ => by simp at e
  | x :: xs, [], _, i, _, _, _, e => by simp at e
  | x :: xs, y :: ys, h, i, a, b, ea, eb => by
    have h' : (match f x y with | true => all2 f xs ys | false => false) = true := h
    split at h'
    · rename_i q
      cases i with
      | zero => simp at ea eb; rw [← ea, ← eb]; exact q
      | succ i => exact all2_get h' (i := i) (by simpa using ea) (by simpa using eb)
    · cases h'
noncomputable def ok1 (F : FN) (res args : List PyData) (c : Nat) : Bool := match nthT res c with | some r => isR (F args) r | none => true
theorem ok1_eq {F : FN} {res args : List PyData} {c : Nat} (h : ok1 F res args c = true) {r : PyData} (e : nthT res c = some r) : F args = some r := by
  unfold ok1 at h
  rw [e] at h
  exact isR_eq h
noncomputable def chk1 (F : FN) (dom res tail : List PyData) (T : List Nat) : Bool := all2 (fun x c => ok1 F res (x :: tail) c) dom T
noncomputable def chk2 (F : FN) (dom dom' res tail : List PyData) (T : List (List Nat)) : Bool := all2 (fun x row => all2 (fun y c => ok1 F res (x :: y :: tail) c) dom' row) dom T
noncomputable def Le (F' F : FN) : Prop := ∀ args r, F' args = some r → F args = some r
theorem tab1_le {F : FN} {p : Nat} {dom res tail : List PyData} {T : List Nat} (h : chk1 F dom res tail T = true) : Le (tab1 p dom res tail T) F := by
  intro args r e
  unfold tab1 at e
  split at e
  · rename_i a tl
    split at e
    · rename_i q1
      split at e
      · rename_i q2
        have d := at1_eq q2
        unfold res1 at e
        split at e
        · rename_i c hc
          rw [nthT_eq] at hc
          rw [beqL_eq beq1_eq q1]
          exact ok1_eq (all2_get h d hc) e
        · cases e
      · cases e
    · cases e
  · cases e
theorem tab2_le {F : FN} {e1 e2 : List PyData → Nat} {dom dom' res tail : List PyData} {T : List (List Nat)} (h : chk2 F dom dom' res tail T = true) : Le (tab2 e1 e2 dom dom' res tail T) F := by
  intro args r e
  unfold tab2 at e
  split at e
  · rename_i a b tl
    split at e
    · rename_i q1
      split at e
      · rename_i q2
        split at e
        · rename_i q3
          have d := at1_eq q2
          have d3 := at1_eq q3
          unfold res1 row1 at e
          split at e
          · rename_i c hc
            split at hc
            · rename_i row hr
              rw [nthT_eq] at hc hr
              rw [beqL_eq beq1_eq q1]
              exact ok1_eq (all2_get (all2_get h d hr) d3 hc) e
            · cases hc
          · cases e
        · cases e
      · cases e
    · cases e
  · cases e
theorem orF_le {F G H : FN} (h : Le F H) (k : Le G H) : Le (orF F G) H := by
  intro args r e
  unfold orF at e
  split at e
  · rename_i x hx; cases e; exact h _ _ hx
  · exact k _ _ e
theorem tab0_le {F : FN} {key : List PyData} {r : PyData} (h : isR (F key) r = true) : Le (tab0 key r) F := by
  intro args x e
  unfold tab0 at e
  split at e
  · rename_i q
    cases e
    rw [beqL_eq beq1_eq q]
    exact isR_eq h
  · cases e
theorem CallOK.le {U : Uni} {f : Str} {n : Nat} {F F' : FN} (k : CallOK U f n F) (h : Le F' F) : CallOK U f n F' := by
  intro A E s X vals args r fa Q hA hT hX hg hR hF hq
  exact k A E s X vals args r fa Q hA hT hX hg hR (h _ _ hF) hq
/-- true where it is asked -/
noncomputable def yes (P : List PyData → Prop) : FN := by classical exact fun args => if P args then some (.bool true) else none
theorem yes_of {P : List PyData → Prop} {args : List PyData} (h : P args) : yes P args = some (.bool true) := by
  classical
  unfold yes
  exact if_pos h
theorem yes_inv {P : List PyData → Prop} {args : List PyData} {r : PyData} (h : yes P args = some r) : P args ∧ r = .bool true := by
  classical
  unfold yes at h
  by_cases q : P args
  · rw [if_pos q] at h; exact ⟨q, (Option.some.inj h).symm⟩
  · rw [if_neg q] at h; cases h
theorem CallOK.yes {U : Uni} {f : Str} {n : Nat} {P : List PyData → Prop} (h : ∀ args, P args → ∃ F, CallOK U f n F ∧ F args = some (.bool true)) : CallOK U f n (yes P) := by
  intro A E s X vals args r fa Q hA hT hX hg hR hF hq
  obtain ⟨hp, rfl⟩ := yes_inv hF
  obtain ⟨F, k, e⟩ := h _ hp
  exact k A E s X vals args _ fa Q hA hT hX hg hR e hq
/-- two values that the text finds equal -/
noncomputable def eqR (a b : Option PyData) : Bool := match a with
  | some x => (match b with | some y => (match peq x y with | some true => true | _ => false) | none => false)
  | none => false
theorem eqR_spec {a b : Option PyData} (h : eqR a b = true) : ∃ x y, a = some x ∧ b = some y ∧ peq x y = some true := by
  unfold eqR at h
  split at h
  · split at h
    · split at h
      · rename_i q; exact ⟨_, _, rfl, rfl, q⟩
      · cases h
    · cases h
  · cases h
noncomputable def allB {α : Type} (f : α → Bool) (l : List α) : Bool := @List.rec α (fun _ => Bool) true (fun x _ ih => match f x with | true => ih | false => false) l
theorem allB_get {α : Type} {f : α → Bool} : ∀ {l : List α}, allB f l = true → ∀ {x}, x ∈ l → f x = true
  | [], _, _, e => by cases e
  | y :: l, h, x, e => by
    have h' : (match f y with | true => allB f l | false => false) = true := h
    split at h'
    · rename_i q
      rcases List.mem_cons.mp e with rfl | e
      · exact q
      · exact allB_get h' e
    · cases h'
noncomputable def sumsB (F : FN) (dom tail : List PyData) : Bool := allB (fun a => isR (F (a :: tail)) (.bool true)) dom
noncomputable def isNil (a : PyData) : Bool := match a with | .list [] => true | _ => false
noncomputable def ordsB (F : FN) (dom tail : List PyData) : Bool := allB (fun a => match isNil a with | true => true | false => isR (F (a :: tail)) (.bool true)) dom
noncomputable def ns9 : List Int := [0, 1, 2, 3, 4, 5, 6, 7, 8]
noncomputable def bind1 (o : Option PyData) (f : PyData → Bool) : Bool := match o with | some x => f x | none => false
theorem bind1_get {o : Option PyData} {f : PyData → Bool} (h : bind1 o f = true) : ∃ x, o = some x ∧ f x = true := by
  unfold bind1 at h
  split at h
  · exact ⟨_, rfl, h⟩
  · cases h
noncomputable def and2 (a b : Bool) : Bool := match a with | true => b | false => false
theorem and2_get {a b : Bool} (h : and2 a b = true) : a = true ∧ b = true := by
  unfold and2 at h
  split at h
  · exact ⟨rfl, h⟩
  · cases h
noncomputable def powsB (PW LR FI : FN) (dom : List PyData) (m p : PyData) : Bool := allB (fun a => match isNil a with
  | true => true
  | false => bind1 (FI [a, m, p]) fun i => allB (fun n => and2 (eqR (PW [a, .int n, m, p]) (LR [a, .int n, m, p])) (eqR (PW [a, .int (0 - n), m, p]) (LR [i, .int n, m, p]))) ns9) dom
noncomputable def divsB (FX FI DV : FN) (dom : List PyData) (m p : PyData) : Bool := allB (fun a => and2 (allB (fun b => eqR (FX [a, b, m, p]) (FX [a, b, m, p])) dom) (match isNil a with
  | true => true
  | false => bind1 (FI [a, m, p]) fun i => and2 (eqR (FX [a, i, m, p]) (some (.list [.int 1]))) (allB (fun b => eqR (DV [b, a, m, p]) (FX [b, i, m, p])) dom))) dom
noncomputable def sqC (FT FL : FN) : DL := lcomp [3, 4] (blst (ecall FT (lcons (evar 3) (lcons (evar 4) lnil)))) (asgName 7) ttrue (ecall FL (lcons (evar 7) (lcons (evar 7) (lcons (evar 3) (lcons (evar 4) lnil)))))
noncomputable def pinO (a : PyData) (l : List PyData) : Option Bool := match shal a, allShal l with | true, true => pin a l | _, _ => none
noncomputable def sqsB (FX SQ : FN) (dom : List PyData) (m p : PyData) : Bool := match sqC F_gf_things FX [.u, .u, .u, .v m, .v p, .u] with
  | some l => allB (fun a => match pinO a l with | some b => eqR (SQ [a, m, p]) (some (.bool b)) | none => false) dom
  | none => false
/-- the reckoning of a pair, a not nothing -/
noncomputable def reckC (tr : C) (FI FM FL SQ DV PW LR FT : FN) : C :=
  (cseq (cif (dne (ecall FM (lcons (evar 0) (lcons (evar 1) (lcons (evar 3) (lcons (evar 4) lnil))))) (ecall FL (lcons (evar 0) (lcons (evar 1) (lcons (evar 3) (lcons (evar 4) lnil)))))) (cret (econ (.bool false))) cskip) (cseq (cif (deq (evar 0) (elst (fits lnil))) tr cskip) (cseq (cset 5 (ecall FI (lcons (evar 0) (lcons (evar 3) (lcons (evar 4) lnil))))) (cseq (cif (tor (dne (ecall FL (lcons (evar 0) (lcons (evar 5) (lcons (evar 3) (lcons (evar 4) lnil))))) (elst (fits (lcons (econ (.int 1)) lnil)))) (dne (ecall DV (lcons (evar 1) (lcons (evar 0) (lcons (evar 3) (lcons (evar 4) lnil))))) (ecall FL (lcons (evar 1) (lcons (evar 5) (lcons (evar 3) (lcons (evar 4) lnil))))))) (cret (econ (.bool false))) cskip) (cseq (cif (tor (dne (ecall PW (lcons (evar 0) (lcons (evar 2) (lcons (evar 3) (lcons (evar 4) lnil))))) (ecall LR (lcons (evar 0) (lcons (evar 2) (lcons (evar 3) (lcons (evar 4) lnil)))))) (dne (ecall PW (lcons (evar 0) (lcons (iop fsub (econ (.int 0)) (evar 2)) (lcons (evar 3) (lcons (evar 4) lnil))))) (ecall LR (lcons (evar 5) (lcons (evar 2) (lcons (evar 3) (lcons (evar 4) lnil))))))) (cret (econ (.bool false))) cskip) (cseq (cseto 6 (sqC FT FL)) (cret (ebool (deq (ecall SQ (lcons (evar 0) (lcons (evar 3) (lcons (evar 4) lnil)))) (ebool (tin (evar 0) (bvar 6))))))))))))
theorem dne_of {a b : DE} {ρ : Store} {x y : PyData} (ha : a ρ = some x) (hb : b ρ = some y) (h : peq x y = some true) : dne a b ρ = some false := by
  unfold dne; rw [ha, hb]; dsimp only; rw [h]; rfl
theorem cseq_cif_no {t : DT} {a b : C} {ρ : Store} (h : t ρ = some false) : cseq (cif t a cskip) b ρ = b ρ := by
  unfold cseq cif; rw [h]; rfl
theorem tor_no {a b : DT} {ρ : Store} (ha : a ρ = some false) (hb : b ρ = some false) : tor a b ρ = some false := by
  unfold tor; rw [ha]; exact hb
theorem cseq_set {i : Nat} {d : DE} {b : C} {ρ : Store} {v : PyData} (h : d ρ = some v) : cseq (cset i d) b ρ = b (sset ρ i (.v v)) := by
  unfold cseq cset; rw [h]
theorem cseq_seto {i : Nat} {d : DL} {b : C} {ρ : Store} {v : List PyData} (h : d ρ = some v) : cseq (cseto i d) b ρ = b (sset ρ i (.o v)) := by
  unfold cseq cseto; rw [h]
theorem ecall4 {F : FN} {a b c d : DE} {ρ : Store} {x y z w : PyData} (ha : a ρ = some x) (hb : b ρ = some y) (hc : c ρ = some z) (hd : d ρ = some w) : ecall F (lcons a (lcons b (lcons c (lcons d lnil)))) ρ = F [x, y, z, w] := by
  unfold ecall lcons lnil; rw [ha, hb, hc, hd]
theorem ecall3 {F : FN} {a b c : DE} {ρ : Store} {x y z : PyData} (ha : a ρ = some x) (hb : b ρ = some y) (hc : c ρ = some z) : ecall F (lcons a (lcons b (lcons c lnil))) ρ = F [x, y, z] := by
  unfold ecall lcons lnil; rw [ha, hb, hc]
theorem reck_of {tr : C} {FI FL SQ DV PW LR FT : FN} {a b m p i x q : PyData} {n : Int} {l : List PyData} {s : Bool} (fl : ∃ l0, a = .list l0 ∧ allFlat l0 = true) (nn : isNil a = false)
    (h1 : eqR (FL [a, b, m, p]) (FL [a, b, m, p]) = true) (hi : FI [a, m, p] = some i) (h2 : eqR (FL [a, i, m, p]) (some (.list [.int 1])) = true) (h3 : eqR (DV [b, a, m, p]) (FL [b, i, m, p]) = true)
    (h4 : eqR (PW [a, .int n, m, p]) (LR [a, .int n, m, p]) = true) (h5 : eqR (PW [a, .int (0 - n), m, p]) (LR [i, .int n, m, p]) = true)
    (hl : sqC FT FL [.u, .u, .u, .v m, .v p, .u] = some l) (hp : pinO a l = some s) (h6 : eqR (SQ [a, m, p]) (some (.bool s)) = true) :
    reckC tr FI FL FL SQ DV PW LR FT [.v a, .v b, .v (.int n), .v m, .v p] = some (.rt (.bool true)) := by
  obtain ⟨x1, y1, e1, e1', q1⟩ := eqR_spec h1
  obtain ⟨x2, y2, e2, e2', q2⟩ := eqR_spec h2
  obtain ⟨x3, y3, e3, e3', q3⟩ := eqR_spec h3
  obtain ⟨x4, y4, e4, e4', q4⟩ := eqR_spec h4
  obtain ⟨x5, y5, e5, e5', q5⟩ := eqR_spec h5
  obtain ⟨x6, y6, e6, e6', q6⟩ := eqR_spec h6
  obtain ⟨l0, rfl, fl⟩ := fl
  unfold reckC
  rw [cseq_cif_no (dne_of ((ecall4 rfl rfl rfl rfl).trans e1) ((ecall4 rfl rfl rfl rfl).trans e1') q1)]
  rw [cseq_cif_no (t := deq (evar 0) (elst (fits lnil))) (by
    cases l0 with
    | nil => cases nn
    | cons y r =>
      show peq (.list (y :: r)) (.list []) = some false
      rw [peq_nil fl]; rfl)]
  rw [cseq_set ((ecall3 rfl rfl rfl).trans hi)]
  rw [cseq_cif_no (tor_no (dne_of ((ecall4 rfl rfl rfl rfl).trans e2) (by cases e2'; rfl) q2) (dne_of ((ecall4 rfl rfl rfl rfl).trans e3) ((ecall4 rfl rfl rfl rfl).trans e3') q3))]
  rw [cseq_cif_no (tor_no (dne_of ((ecall4 rfl rfl rfl rfl).trans e4) ((ecall4 rfl rfl rfl rfl).trans e4') q4) (dne_of ((ecall4 rfl rfl rfl rfl).trans e5) ((ecall4 rfl rfl rfl rfl).trans e5') q5))]
  rw [cseq_seto (v := l) (show sqC FT FL (sset [Slot.v (.list l0), .v b, .v (.int n), .v m, .v p] 5 (.v i)) = some l from hl)]
  unfold cret ebool deq
  rw [show ecall SQ (lcons (evar 0) (lcons (evar 3) (lcons (evar 4) lnil))) (sset (sset [Slot.v (.list l0), .v b, .v (.int n), .v m, .v p] 5 (.v i)) 6 (.o l)) = some x6 from (ecall3 rfl rfl rfl).trans e6]
  dsimp only
  have ht : tin (evar 0) (bvar 6) (sset (sset [Slot.v (.list l0), .v b, .v (.int n), .v m, .v p] 5 (.v i)) 6 (.o l)) = pinO (.list l0) l := rfl
  rw [ht, hp]
  dsimp only
  cases e6'
  rw [q6]

/-! P1 -/
noncomputable def e0 : PyData := .int (.ofNat 0)
noncomputable def e1 : PyData := .int (.ofNat 1)
noncomputable def e2 : PyData := .int (.ofNat 2)
noncomputable def dInts : List PyData := [.int (.ofNat 0), .int (.ofNat 1), .int (.ofNat 2), .int (.ofNat 3), .int (.ofNat 4), .int (.ofNat 5), .int (.ofNat 6), .int (.ofNat 7), .int (.ofNat 8), .int (.ofNat 9), .int (.ofNat 10), .int (.ofNat 11), .int (.ofNat 12), .int (.ofNat 13), .int (.ofNat 14), .int (.ofNat 15), .int (.ofNat 16)]
noncomputable def big2 : List PyData := [.list [], .list [e1], .list [e0, e1], .list [e1, e1], .list [e0, e0, e1], .list [e1, e0, e1], .list [e0, e1, e1], .list [e1, e1, e1], .list [e0, e0, e0, e1], .list [e1, e0, e0, e1], .list [e0, e1, e0, e1], .list [e1, e1, e0, e1], .list [e0, e0, e1, e1], .list [e1, e0, e1, e1], .list [e0, e1, e1, e1], .list [e1, e1, e1, e1], .list [e0, e0, e0, e0, e1], .list [e1, e0, e0, e0, e1], .list [e0, e1, e0, e0, e1], .list [e1, e1, e0, e0, e1], .list [e0, e0, e1, e0, e1], .list [e1, e0, e1, e0, e1], .list [e0, e1, e1, e0, e1], .list [e1, e1, e1, e0, e1], .list [e0, e0, e0, e1, e1], .list [e1, e0, e0, e1, e1], .list [e0, e1, e0, e1, e1], .list [e1, e1, e0, e1, e1], .list [e0, e0, e1, e1, e1], .list [e1, e0, e1, e1, e1], .list [e0, e1, e1, e1, e1], .list [e1, e1, e1, e1, e1], .list [e0, e0, e0, e0, e0, e1], .list [e1, e0, e0, e0, e0, e1], .list [e0, e1, e0, e0, e0, e1], .list [e1, e1, e0, e0, e0, e1], .list [e0, e0, e1, e0, e0, e1], .list [e1, e0, e1, e0, e0, e1], .list [e0, e1, e1, e0, e0, e1], .list [e1, e1, e1, e0, e0, e1], .list [e0, e0, e0, e1, e0, e1], .list [e1, e0, e0, e1, e0, e1], .list [e0, e1, e0, e1, e0, e1], .list [e1, e1, e0, e1, e0, e1], .list [e0, e0, e1, e1, e0, e1], .list [e1, e0, e1, e1, e0, e1], .list [e0, e1, e1, e1, e0, e1], .list [e1, e1, e1, e1, e0, e1], .list [e0, e0, e0, e0, e1, e1], .list [e1, e0, e0, e0, e1, e1], .list [e0, e1, e0, e0, e1, e1], .list [e1, e1, e0, e0, e1, e1], .list [e0, e0, e1, e0, e1, e1], .list [e1, e0, e1, e0, e1, e1], .list [e0, e1, e1, e0, e1, e1], .list [e1, e1, e1, e0, e1, e1], .list [e0, e0, e0, e1, e1, e1], .list [e1, e0, e0, e1, e1, e1], .list [e0, e1, e0, e1, e1, e1], .list [e1, e1, e0, e1, e1, e1], .list [e0, e0, e1, e1, e1, e1], .list [e1, e0, e1, e1, e1, e1], .list [e0, e1, e1, e1, e1, e1], .list [e1, e1, e1, e1, e1, e1], .list [e0, e0, e0, e0, e0, e0, e1], .list [e1, e0, e0, e0, e0, e0, e1], .list [e0, e1, e0, e0, e0, e0, e1], .list [e1, e1, e0, e0, e0, e0, e1], .list [e0, e0, e1, e0, e0, e0, e1], .list [e1, e0, e1, e0, e0, e0, e1], .list [e0, e1, e1, e0, e0, e0, e1], .list [e1, e1, e1, e0, e0, e0, e1], .list [e0, e0, e0, e1, e0, e0, e1], .list [e1, e0, e0, e1, e0, e0, e1], .list [e0, e1, e0, e1, e0, e0, e1], .list [e1, e1, e0, e1, e0, e0, e1], .list [e0, e0, e1, e1, e0, e0, e1], .list [e1, e0, e1, e1, e0, e0, e1], .list [e0, e1, e1, e1, e0, e0, e1], .list [e1, e1, e1, e1, e0, e0, e1], .list [e0, e0, e0, e0, e1, e0, e1], .list [e1, e0, e0, e0, e1, e0, e1], .list [e0, e1, e0, e0, e1, e0, e1], .list [e1, e1, e0, e0, e1, e0, e1], .list [e0, e0, e1, e0, e1, e0, e1], .list [e1, e0, e1, e0, e1, e0, e1], .list [e0, e1, e1, e0, e1, e0, e1], .list [e1, e1, e1, e0, e1, e0, e1], .list [e0, e0, e0, e1, e1, e0, e1], .list [e1, e0, e0, e1, e1, e0, e1], .list [e0, e1, e0, e1, e1, e0, e1], .list [e1, e1, e0, e1, e1, e0, e1], .list [e0, e0, e1, e1, e1, e0, e1], .list [e1, e0, e1, e1, e1, e0, e1], .list [e0, e1, e1, e1, e1, e0, e1], .list [e1, e1, e1, e1, e1, e0, e1], .list [e0, e0, e0, e0, e0, e1, e1], .list [e1, e0, e0, e0, e0, e1, e1], .list [e0, e1, e0, e0, e0, e1, e1], .list [e1, e1, e0, e0, e0, e1, e1], .list [e0, e0, e1, e0, e0, e1, e1], .list [e1, e0, e1, e0, e0, e1, e1], .list [e0, e1, e1, e0, e0, e1, e1], .list [e1, e1, e1, e0, e0, e1, e1], .list [e0, e0, e0, e1, e0, e1, e1], .list [e1, e0, e0, e1, e0, e1, e1], .list [e0, e1, e0, e1, e0, e1, e1], .list [e1, e1, e0, e1, e0, e1, e1], .list [e0, e0, e1, e1, e0, e1, e1], .list [e1, e0, e1, e1, e0, e1, e1], .list [e0, e1, e1, e1, e0, e1, e1], .list [e1, e1, e1, e1, e0, e1, e1], .list [e0, e0, e0, e0, e1, e1, e1], .list [e1, e0, e0, e0, e1, e1, e1], .list [e0, e1, e0, e0, e1, e1, e1], .list [e1, e1, e0, e0, e1, e1, e1], .list [e0, e0, e1, e0, e1, e1, e1], .list [e1, e0, e1, e0, e1, e1, e1], .list [e0, e1, e1, e0, e1, e1, e1], .list [e1, e1, e1, e0, e1, e1, e1], .list [e0, e0, e0, e1, e1, e1, e1], .list [e1, e0, e0, e1, e1, e1, e1], .list [e0, e1, e0, e1, e1, e1, e1], .list [e1, e1, e0, e1, e1, e1, e1], .list [e0, e0, e1, e1, e1, e1, e1], .list [e1, e0, e1, e1, e1, e1, e1], .list [e0, e1, e1, e1, e1, e1, e1], .list [e1, e1, e1, e1, e1, e1, e1]]
noncomputable def big3 : List PyData := [.list [], .list [e1], .list [e2], .list [e0, e1], .list [e1, e1], .list [e2, e1], .list [e0, e2], .list [e1, e2], .list [e2, e2], .list [e0, e0, e1], .list [e1, e0, e1], .list [e2, e0, e1], .list [e0, e1, e1], .list [e1, e1, e1], .list [e2, e1, e1], .list [e0, e2, e1], .list [e1, e2, e1], .list [e2, e2, e1], .list [e0, e0, e2], .list [e1, e0, e2], .list [e2, e0, e2], .list [e0, e1, e2], .list [e1, e1, e2], .list [e2, e1, e2], .list [e0, e2, e2], .list [e1, e2, e2], .list [e2, e2, e2]]
noncomputable def domZ : List PyData := [.list [], .list [e0], .list [e0, e0], .list [e0, e0, e0], .list [e0, e0, e0, e0]]
noncomputable def dom4 : List PyData := [.list [], .list [e1], .list [e0, e1], .list [e1, e1]]
noncomputable def dom8 : List PyData := [.list [], .list [e1], .list [e0, e1], .list [e1, e1], .list [e0, e0, e1], .list [e1, e0, e1], .list [e0, e1, e1], .list [e1, e1, e1]]
noncomputable def dom16 : List PyData := [.list [], .list [e1], .list [e0, e1], .list [e1, e1], .list [e0, e0, e1], .list [e1, e0, e1], .list [e0, e1, e1], .list [e1, e1, e1], .list [e0, e0, e0, e1], .list [e1, e0, e0, e1], .list [e0, e1, e0, e1], .list [e1, e1, e0, e1], .list [e0, e0, e1, e1], .list [e1, e0, e1, e1], .list [e0, e1, e1, e1], .list [e1, e1, e1, e1]]
noncomputable def dom9 : List PyData := [.list [], .list [e1], .list [e2], .list [e0, e1], .list [e1, e1], .list [e2, e1], .list [e0, e2], .list [e1, e2], .list [e2, e2]]
noncomputable def TM2 : List (List Nat) := [[0, 0, 0, 0, 0, 0, 0, 0, 0, 0, 0, 0, 0, 0, 0, 0], [0, 1, 2, 3, 4, 5, 6, 7, 8, 9, 10, 11, 12, 13, 14, 15], [0, 2, 4, 6, 8, 10, 12, 14, 16, 18, 20, 22, 24, 26, 28, 30], [0, 3, 6, 5, 12, 15, 10, 9, 24, 27, 30, 29, 20, 23, 18, 17], [0, 4, 8, 12, 16, 20, 24, 28, 32, 36, 40, 44, 48, 52, 56, 60], [0, 5, 10, 15, 20, 17, 30, 27, 40, 45, 34, 39, 60, 57, 54, 51], [0, 6, 12, 10, 24, 30, 20, 18, 48, 54, 60, 58, 40, 46, 36, 34], [0, 7, 14, 9, 28, 27, 18, 21, 56, 63, 54, 49, 36, 35, 42, 45], [0, 8, 16, 24, 32, 40, 48, 56, 64, 72, 80, 88, 96, 104, 112, 120], [0, 9, 18, 27, 36, 45, 54, 63, 72, 65, 90, 83, 108, 101, 126, 119], [0, 10, 20, 30, 40, 34, 60, 54, 80, 90, 68, 78, 120, 114, 108, 102], [0, 11, 22, 29, 44, 39, 58, 49, 88, 83, 78, 69, 116, 127, 98, 105], [0, 12, 24, 20, 48, 60, 40, 36, 96, 108, 120, 116, 80, 92, 72, 68], [0, 13, 26, 23, 52, 57, 46, 35, 104, 101, 114, 127, 92, 81, 70, 75], [0, 14, 28, 18, 56, 54, 36, 42, 112, 126, 108, 98, 72, 70, 84, 90], [0, 15, 30, 17, 60, 51, 34, 45, 120, 119, 102, 105, 68, 75, 90, 85]]
noncomputable def TP2 : List (List Nat) := [[0, 1, 2, 3, 4, 5, 6, 7, 8, 9, 10, 11, 12, 13, 14, 15], [1, 0, 3, 2, 5, 4, 7, 6, 9, 8, 11, 10, 13, 12, 15, 14], [2, 3, 0, 1, 6, 7, 4, 5, 10, 11, 8, 9, 14, 15, 12, 13], [3, 2, 1, 0, 7, 6, 5, 4, 11, 10, 9, 8, 15, 14, 13, 12], [4, 5, 6, 7, 0, 1, 2, 3, 12, 13, 14, 15, 8, 9, 10, 11], [5, 4, 7, 6, 1, 0, 3, 2, 13, 12, 15, 14, 9, 8, 11, 10], [6, 7, 4, 5, 2, 3, 0, 1, 14, 15, 12, 13, 10, 11, 8, 9], [7, 6, 5, 4, 3, 2, 1, 0, 15, 14, 13, 12, 11, 10, 9, 8], [8, 9, 10, 11, 12, 13, 14, 15, 0, 1, 2, 3, 4, 5, 6, 7], [9, 8, 11, 10, 13, 12, 15, 14, 1, 0, 3, 2, 5, 4, 7, 6], [10, 11, 8, 9, 14, 15, 12, 13, 2, 3, 0, 1, 6, 7, 4, 5], [11, 10, 9, 8, 15, 14, 13, 12, 3, 2, 1, 0, 7, 6, 5, 4], [12, 13, 14, 15, 8, 9, 10, 11, 4, 5, 6, 7, 0, 1, 2, 3], [13, 12, 15, 14, 9, 8, 11, 10, 5, 4, 7, 6, 1, 0, 3, 2], [14, 15, 12, 13, 10, 11, 8, 9, 6, 7, 4, 5, 2, 3, 0, 1], [15, 14, 13, 12, 11, 10, 9, 8, 7, 6, 5, 4, 3, 2, 1, 0]]
noncomputable def FM2 : FN := tab2 (encL 2) (encL 2) dom16 dom16 big2 [.int 2] TM2
noncomputable def TZ2 : List (List Nat) := [[0, 0, 0, 0, 0], [1, 1, 1, 1, 1], [2, 2, 2, 2, 2], [3, 3, 3, 3, 3], [4, 4, 4, 4, 4], [5, 5, 5, 5, 5], [6, 6, 6, 6, 6], [7, 7, 7, 7, 7], [8, 8, 8, 8, 8], [9, 9, 9, 9, 9], [10, 10, 10, 10, 10], [11, 11, 11, 11, 11], [12, 12, 12, 12, 12], [13, 13, 13, 13, 13], [14, 14, 14, 14, 14], [15, 15, 15, 15, 15]]
noncomputable def FA2 : FN := tab2 (encL 2) (encL 2) dom16 dom16 dom16 [.int 2] TP2
noncomputable def FP2 : FN := orF FA2 (tab2 (encL 2) lenN dom16 domZ dom16 [.int 2] TZ2)
theorem tm2_mul : chk2 F_mmul dom16 dom16 big2 [.int 2] TM2 = true := by decide +kernel
theorem tm2_tim : chk2 F_law_times dom16 dom16 big2 [.int 2] TM2 = true := by decide +kernel
theorem tp2_add : chk2 F_madd dom16 dom16 dom16 [.int 2] TP2 = true := by decide +kernel
theorem tp2_plu : chk2 F_law_plus dom16 dom16 dom16 [.int 2] TP2 = true := by decide +kernel
theorem tz2_plu : chk2 F_law_plus dom16 domZ dom16 [.int 2] TZ2 = true := by decide +kernel
noncomputable def TM3 : List (List Nat) := [[0, 0, 0, 0, 0, 0, 0, 0, 0], [0, 1, 2, 3, 4, 5, 6, 7, 8], [0, 2, 1, 6, 8, 7, 3, 5, 4], [0, 3, 6, 9, 12, 15, 18, 21, 24], [0, 4, 8, 12, 16, 11, 24, 19, 23], [0, 5, 7, 15, 11, 13, 21, 26, 19], [0, 6, 3, 18, 24, 21, 9, 15, 12], [0, 7, 5, 21, 19, 26, 15, 13, 11], [0, 8, 4, 24, 23, 19, 12, 11, 16]]
noncomputable def TP3 : List (List Nat) := [[0, 1, 2, 3, 4, 5, 6, 7, 8], [1, 2, 0, 4, 5, 3, 7, 8, 6], [2, 0, 1, 5, 3, 4, 8, 6, 7], [3, 4, 5, 6, 7, 8, 0, 1, 2], [4, 5, 3, 7, 8, 6, 1, 2, 0], [5, 3, 4, 8, 6, 7, 2, 0, 1], [6, 7, 8, 0, 1, 2, 3, 4, 5], [7, 8, 6, 1, 2, 0, 4, 5, 3], [8, 6, 7, 2, 0, 1, 5, 3, 4]]
noncomputable def FM3 : FN := tab2 (encL 3) (encL 3) dom9 dom9 big3 [.int 3] TM3
noncomputable def TZ3 : List (List Nat) := [[0, 0, 0, 0, 0], [1, 1, 1, 1, 1], [2, 2, 2, 2, 2], [3, 3, 3, 3, 3], [4, 4, 4, 4, 4], [5, 5, 5, 5, 5], [6, 6, 6, 6, 6], [7, 7, 7, 7, 7], [8, 8, 8, 8, 8]]
noncomputable def FA3 : FN := tab2 (encL 3) (encL 3) dom9 dom9 dom9 [.int 3] TP3
noncomputable def FP3 : FN := orF FA3 (tab2 (encL 3) lenN dom9 domZ dom9 [.int 3] TZ3)
theorem tm3_mul : chk2 F_mmul dom9 dom9 big3 [.int 3] TM3 = true := by decide +kernel
theorem tm3_tim : chk2 F_law_times dom9 dom9 big3 [.int 3] TM3 = true := by decide +kernel
theorem tp3_add : chk2 F_madd dom9 dom9 dom9 [.int 3] TP3 = true := by decide +kernel
theorem tp3_plu : chk2 F_law_plus dom9 dom9 dom9 [.int 3] TP3 = true := by decide +kernel
theorem tz3_plu : chk2 F_law_plus dom9 domZ dom9 [.int 3] TZ3 = true := by decide +kernel
noncomputable def m_0 : PyData := .list [e1, e1, e1]
noncomputable def TR_0 : List Nat := [0, 1, 2, 3, 3, 2, 1, 0]
noncomputable def FR_0 : FN := tab1 2 big2 dom4 [m_0, .int 2] TR_0
theorem tr_0_rest : chk1 F_mrest big2 dom4 [m_0, .int 2] TR_0 = true := by decide +kernel
theorem tr_0_left : chk1 F_law_left big2 dom4 [m_0, .int 2] TR_0 = true := by decide +kernel
noncomputable def TX_0 : List (List Nat) := [[0, 0, 0, 0], [0, 1, 2, 3], [0, 2, 3, 1], [0, 3, 1, 2]]
noncomputable def FX_0 : FN := tab2 (encL 2) (encL 2) dom4 dom4 dom4 [m_0, .int 2] TX_0
theorem tx_0_mul : chk2 (runArgs 4 (c_gf_multiply FR_0 FM2)) dom4 dom4 dom4 [m_0, .int 2] TX_0 = true := by decide +kernel
theorem tx_0_lm : chk2 (runArgs 4 (c_law_mul FR_0 FM2)) dom4 dom4 dom4 [m_0, .int 2] TX_0 = true := by decide +kernel
noncomputable def TI_0 : List Nat := [999, 1, 3, 2]
noncomputable def FI_0 : FN := tab1 2 dom4 dom4 [m_0, .int 2] TI_0
theorem ti_0 : chk1 F_gf_inverse dom4 dom4 [m_0, .int 2] TI_0 = true := by decide +kernel
noncomputable def PW_0 : FN := runArgs 4 (c_gf_power FI_0 FX_0)
noncomputable def LR_0 : FN := runArgs 4 (c_law_raised FX_0)
noncomputable def TF_0 : List Nat := [0, 1, 3, 2]
noncomputable def FF_0 : FN := tab1 2 dom4 dom4 [.int 2, m_0, .int 2] TF_0
theorem tf_0_pw : chk1 PW_0 dom4 dom4 [.int 2, m_0, .int 2] TF_0 = true := by decide +kernel
theorem tf_0_lr : chk1 LR_0 dom4 dom4 [.int 2, m_0, .int 2] TF_0 = true := by decide +kernel
noncomputable def OD_0 : FN := runArgs 3 (c_gf_order F_prime_factors F_gf_size PW_0)
noncomputable def TO_0 : List Nat := [999, 1, 3, 3]
noncomputable def FO_0 : FN := tab1 2 dom4 dInts [m_0, .int 2] TO_0
theorem to_0 : chk1 OD_0 dom4 dInts [m_0, .int 2] TO_0 = true := by decide +kernel
noncomputable def GN_0 : FN := runArgs 2 (c_gf_generator F_counted FO_0 F_gf_size)
noncomputable def FG_0 : FN := tab0 [m_0, .int 2] (.list [e0, e1])
theorem tg_0 : isR (GN_0 [m_0, .int 2]) (.list [e0, e1]) = true := by decide +kernel
noncomputable def LG_0 : FN := runArgs 4 (c_gf_logarithm FO_0 FX_0 FI_0)
noncomputable def OR_0 : FN := runArgs 3 (c_law_orders_right FX_0 FO_0 FG_0 LG_0)
noncomputable def CJ_0 : FN := runArgs 3 (c_gf_conjugates FF_0)
noncomputable def LE_0 : FN := runArgs 3 (c_gf_least CJ_0 F_number_of FA2 F_mneg FX_0)
noncomputable def AT_0 : FN := runArgs 4 (c_gf_at FA2 FX_0 F_mscale)
noncomputable def TC_0 : FN := runArgs 3 (c_gf_trace F_number_of F_mdegree FA2 FF_0)
noncomputable def NO_0 : FN := runArgs 3 (c_gf_norm F_number_of F_mdegree FX_0 FF_0)
noncomputable def VA_0 : FN := runArgs 4 (c_law_value FP2 FX_0)
noncomputable def SU_0 : FN := runArgs 3 (c_law_sums_right LE_0 FF_0 FP2 FX_0 VA_0 AT_0 TC_0 NO_0 F_law_counted)
noncomputable def DV_0 : FN := runArgs 4 (c_gf_divide FX_0 FI_0)
noncomputable def SQ_0 : FN := runArgs 3 (c_gf_is_square PW_0 F_gf_size)
noncomputable def RK_0 : FN := runArgs 5 (c_law_reckoned_right FI_0 FX_0 FX_0 SQ_0 DV_0 PW_0 LR_0 F_gf_things)
theorem su_0 : sumsB SU_0 dom4 [m_0, .int 2] = true := by decide +kernel
theorem or_0 : ordsB OR_0 dom4 [m_0, .int 2] = true := by decide +kernel
theorem pw_0 : powsB PW_0 LR_0 FI_0 dom4 m_0 (.int 2) = true := by decide +kernel
theorem dv_0 : divsB FX_0 FI_0 DV_0 dom4 m_0 (.int 2) = true := by decide +kernel
theorem sq_0 : sqsB FX_0 SQ_0 dom4 m_0 (.int 2) = true := by decide +kernel
noncomputable def m_1 : PyData := .list [e1, e1, e0, e1]
noncomputable def TR_1 : List Nat := [0, 1, 2, 3, 4, 5, 6, 7, 3, 2, 1, 0, 7, 6, 5, 4, 6, 7, 4, 5, 2, 3, 0, 1, 5, 4, 7, 6, 1, 0, 3, 2]
noncomputable def FR_1 : FN := tab1 2 big2 dom8 [m_1, .int 2] TR_1
theorem tr_1_rest : chk1 F_mrest big2 dom8 [m_1, .int 2] TR_1 = true := by decide +kernel
theorem tr_1_left : chk1 F_law_left big2 dom8 [m_1, .int 2] TR_1 = true := by decide +kernel
noncomputable def TX_1 : List (List Nat) := [[0, 0, 0, 0, 0, 0, 0, 0], [0, 1, 2, 3, 4, 5, 6, 7], [0, 2, 4, 6, 3, 1, 7, 5], [0, 3, 6, 5, 7, 4, 1, 2], [0, 4, 3, 7, 6, 2, 5, 1], [0, 5, 1, 4, 2, 7, 3, 6], [0, 6, 7, 1, 5, 3, 2, 4], [0, 7, 5, 2, 1, 6, 4, 3]]
noncomputable def FX_1 : FN := tab2 (encL 2) (encL 2) dom8 dom8 dom8 [m_1, .int 2] TX_1
theorem tx_1_mul : chk2 (runArgs 4 (c_gf_multiply FR_1 FM2)) dom8 dom8 dom8 [m_1, .int 2] TX_1 = true := by decide +kernel
theorem tx_1_lm : chk2 (runArgs 4 (c_law_mul FR_1 FM2)) dom8 dom8 dom8 [m_1, .int 2] TX_1 = true := by decide +kernel
noncomputable def TI_1 : List Nat := [999, 1, 5, 6, 7, 2, 3, 4]
noncomputable def FI_1 : FN := tab1 2 dom8 dom8 [m_1, .int 2] TI_1
theorem ti_1 : chk1 F_gf_inverse dom8 dom8 [m_1, .int 2] TI_1 = true := by decide +kernel
noncomputable def PW_1 : FN := runArgs 4 (c_gf_power FI_1 FX_1)
noncomputable def LR_1 : FN := runArgs 4 (c_law_raised FX_1)
noncomputable def TF_1 : List Nat := [0, 1, 4, 5, 6, 7, 2, 3]
noncomputable def FF_1 : FN := tab1 2 dom8 dom8 [.int 2, m_1, .int 2] TF_1
theorem tf_1_pw : chk1 PW_1 dom8 dom8 [.int 2, m_1, .int 2] TF_1 = true := by decide +kernel
theorem tf_1_lr : chk1 LR_1 dom8 dom8 [.int 2, m_1, .int 2] TF_1 = true := by decide +kernel
noncomputable def OD_1 : FN := runArgs 3 (c_gf_order F_prime_factors F_gf_size PW_1)
noncomputable def TO_1 : List Nat := [999, 1, 7, 7, 7, 7, 7, 7]
noncomputable def FO_1 : FN := tab1 2 dom8 dInts [m_1, .int 2] TO_1
theorem to_1 : chk1 OD_1 dom8 dInts [m_1, .int 2] TO_1 = true := by decide +kernel
noncomputable def GN_1 : FN := runArgs 2 (c_gf_generator F_counted FO_1 F_gf_size)
noncomputable def FG_1 : FN := tab0 [m_1, .int 2] (.list [e0, e1])
theorem tg_1 : isR (GN_1 [m_1, .int 2]) (.list [e0, e1]) = true := by decide +kernel
noncomputable def LG_1 : FN := runArgs 4 (c_gf_logarithm FO_1 FX_1 FI_1)
noncomputable def OR_1 : FN := runArgs 3 (c_law_orders_right FX_1 FO_1 FG_1 LG_1)
noncomputable def CJ_1 : FN := runArgs 3 (c_gf_conjugates FF_1)
noncomputable def LE_1 : FN := runArgs 3 (c_gf_least CJ_1 F_number_of FA2 F_mneg FX_1)
noncomputable def AT_1 : FN := runArgs 4 (c_gf_at FA2 FX_1 F_mscale)
noncomputable def TC_1 : FN := runArgs 3 (c_gf_trace F_number_of F_mdegree FA2 FF_1)
noncomputable def NO_1 : FN := runArgs 3 (c_gf_norm F_number_of F_mdegree FX_1 FF_1)
noncomputable def VA_1 : FN := runArgs 4 (c_law_value FP2 FX_1)
noncomputable def SU_1 : FN := runArgs 3 (c_law_sums_right LE_1 FF_1 FP2 FX_1 VA_1 AT_1 TC_1 NO_1 F_law_counted)
noncomputable def DV_1 : FN := runArgs 4 (c_gf_divide FX_1 FI_1)
noncomputable def SQ_1 : FN := runArgs 3 (c_gf_is_square PW_1 F_gf_size)
noncomputable def RK_1 : FN := runArgs 5 (c_law_reckoned_right FI_1 FX_1 FX_1 SQ_1 DV_1 PW_1 LR_1 F_gf_things)
theorem su_1 : sumsB SU_1 dom8 [m_1, .int 2] = true := by decide +kernel
theorem or_1 : ordsB OR_1 dom8 [m_1, .int 2] = true := by decide +kernel
theorem pw_1 : powsB PW_1 LR_1 FI_1 dom8 m_1 (.int 2) = true := by decide +kernel
theorem dv_1 : divsB FX_1 FI_1 DV_1 dom8 m_1 (.int 2) = true := by decide +kernel
theorem sq_1 : sqsB FX_1 SQ_1 dom8 m_1 (.int 2) = true := by decide +kernel
noncomputable def m_2 : PyData := .list [e1, e0, e1, e1]
noncomputable def TR_2 : List Nat := [0, 1, 2, 3, 4, 5, 6, 7, 5, 4, 7, 6, 1, 0, 3, 2, 7, 6, 5, 4, 3, 2, 1, 0, 2, 3, 0, 1, 6, 7, 4, 5]
noncomputable def FR_2 : FN := tab1 2 big2 dom8 [m_2, .int 2] TR_2
theorem tr_2_rest : chk1 F_mrest big2 dom8 [m_2, .int 2] TR_2 = true := by decide +kernel
theorem tr_2_left : chk1 F_law_left big2 dom8 [m_2, .int 2] TR_2 = true := by decide +kernel
noncomputable def TX_2 : List (List Nat) := [[0, 0, 0, 0, 0, 0, 0, 0], [0, 1, 2, 3, 4, 5, 6, 7], [0, 2, 4, 6, 5, 7, 1, 3], [0, 3, 6, 5, 1, 2, 7, 4], [0, 4, 5, 1, 7, 3, 2, 6], [0, 5, 7, 2, 3, 6, 4, 1], [0, 6, 1, 7, 2, 4, 3, 5], [0, 7, 3, 4, 6, 1, 5, 2]]
noncomputable def FX_2 : FN := tab2 (encL 2) (encL 2) dom8 dom8 dom8 [m_2, .int 2] TX_2
theorem tx_2_mul : chk2 (runArgs 4 (c_gf_multiply FR_2 FM2)) dom8 dom8 dom8 [m_2, .int 2] TX_2 = true := by decide +kernel
theorem tx_2_lm : chk2 (runArgs 4 (c_law_mul FR_2 FM2)) dom8 dom8 dom8 [m_2, .int 2] TX_2 = true := by decide +kernel
noncomputable def TI_2 : List Nat := [999, 1, 6, 4, 3, 7, 2, 5]
noncomputable def FI_2 : FN := tab1 2 dom8 dom8 [m_2, .int 2] TI_2
theorem ti_2 : chk1 F_gf_inverse dom8 dom8 [m_2, .int 2] TI_2 = true := by decide +kernel
noncomputable def PW_2 : FN := runArgs 4 (c_gf_power FI_2 FX_2)
noncomputable def LR_2 : FN := runArgs 4 (c_law_raised FX_2)
noncomputable def TF_2 : List Nat := [0, 1, 4, 5, 7, 6, 3, 2]
noncomputable def FF_2 : FN := tab1 2 dom8 dom8 [.int 2, m_2, .int 2] TF_2
theorem tf_2_pw : chk1 PW_2 dom8 dom8 [.int 2, m_2, .int 2] TF_2 = true := by decide +kernel
theorem tf_2_lr : chk1 LR_2 dom8 dom8 [.int 2, m_2, .int 2] TF_2 = true := by decide +kernel
noncomputable def OD_2 : FN := runArgs 3 (c_gf_order F_prime_factors F_gf_size PW_2)
noncomputable def TO_2 : List Nat := [999, 1, 7, 7, 7, 7, 7, 7]
noncomputable def FO_2 : FN := tab1 2 dom8 dInts [m_2, .int 2] TO_2
theorem to_2 : chk1 OD_2 dom8 dInts [m_2, .int 2] TO_2 = true := by decide +kernel
noncomputable def GN_2 : FN := runArgs 2 (c_gf_generator F_counted FO_2 F_gf_size)
noncomputable def FG_2 : FN := tab0 [m_2, .int 2] (.list [e0, e1])
theorem tg_2 : isR (GN_2 [m_2, .int 2]) (.list [e0, e1]) = true := by decide +kernel
noncomputable def LG_2 : FN := runArgs 4 (c_gf_logarithm FO_2 FX_2 FI_2)
noncomputable def OR_2 : FN := runArgs 3 (c_law_orders_right FX_2 FO_2 FG_2 LG_2)
noncomputable def CJ_2 : FN := runArgs 3 (c_gf_conjugates FF_2)
noncomputable def LE_2 : FN := runArgs 3 (c_gf_least CJ_2 F_number_of FA2 F_mneg FX_2)
noncomputable def AT_2 : FN := runArgs 4 (c_gf_at FA2 FX_2 F_mscale)
noncomputable def TC_2 : FN := runArgs 3 (c_gf_trace F_number_of F_mdegree FA2 FF_2)
noncomputable def NO_2 : FN := runArgs 3 (c_gf_norm F_number_of F_mdegree FX_2 FF_2)
noncomputable def VA_2 : FN := runArgs 4 (c_law_value FP2 FX_2)
noncomputable def SU_2 : FN := runArgs 3 (c_law_sums_right LE_2 FF_2 FP2 FX_2 VA_2 AT_2 TC_2 NO_2 F_law_counted)
noncomputable def DV_2 : FN := runArgs 4 (c_gf_divide FX_2 FI_2)
noncomputable def SQ_2 : FN := runArgs 3 (c_gf_is_square PW_2 F_gf_size)
noncomputable def RK_2 : FN := runArgs 5 (c_law_reckoned_right FI_2 FX_2 FX_2 SQ_2 DV_2 PW_2 LR_2 F_gf_things)
theorem su_2 : sumsB SU_2 dom8 [m_2, .int 2] = true := by decide +kernel
theorem or_2 : ordsB OR_2 dom8 [m_2, .int 2] = true := by decide +kernel
theorem pw_2 : powsB PW_2 LR_2 FI_2 dom8 m_2 (.int 2) = true := by decide +kernel
theorem dv_2 : divsB FX_2 FI_2 DV_2 dom8 m_2 (.int 2) = true := by decide +kernel
theorem sq_2 : sqsB FX_2 SQ_2 dom8 m_2 (.int 2) = true := by decide +kernel
noncomputable def m_3 : PyData := .list [e1, e0, e1]
noncomputable def TR_3 : List Nat := [0, 1, 2, 3, 4, 5, 6, 7, 8, 2, 0, 1, 5, 3, 4, 8, 6, 7, 1, 2, 0, 4, 5, 3, 7, 8, 6]
noncomputable def FR_3 : FN := tab1 3 big3 dom9 [m_3, .int 3] TR_3
theorem tr_3_rest : chk1 F_mrest big3 dom9 [m_3, .int 3] TR_3 = true := by decide +kernel
theorem tr_3_left : chk1 F_law_left big3 dom9 [m_3, .int 3] TR_3 = true := by decide +kernel
noncomputable def TX_3 : List (List Nat) := [[0, 0, 0, 0, 0, 0, 0, 0, 0], [0, 1, 2, 3, 4, 5, 6, 7, 8], [0, 2, 1, 6, 8, 7, 3, 5, 4], [0, 3, 6, 2, 5, 8, 1, 4, 7], [0, 4, 8, 5, 6, 1, 7, 2, 3], [0, 5, 7, 8, 1, 3, 4, 6, 2], [0, 6, 3, 1, 7, 4, 2, 8, 5], [0, 7, 5, 4, 2, 6, 8, 3, 1], [0, 8, 4, 7, 3, 2, 5, 1, 6]]
noncomputable def FX_3 : FN := tab2 (encL 3) (encL 3) dom9 dom9 dom9 [m_3, .int 3] TX_3
theorem tx_3_mul : chk2 (runArgs 4 (c_gf_multiply FR_3 FM3)) dom9 dom9 dom9 [m_3, .int 3] TX_3 = true := by decide +kernel
theorem tx_3_lm : chk2 (runArgs 4 (c_law_mul FR_3 FM3)) dom9 dom9 dom9 [m_3, .int 3] TX_3 = true := by decide +kernel
noncomputable def TI_3 : List Nat := [999, 1, 2, 6, 5, 4, 3, 8, 7]
noncomputable def FI_3 : FN := tab1 3 dom9 dom9 [m_3, .int 3] TI_3
theorem ti_3 : chk1 F_gf_inverse dom9 dom9 [m_3, .int 3] TI_3 = true := by decide +kernel
noncomputable def PW_3 : FN := runArgs 4 (c_gf_power FI_3 FX_3)
noncomputable def LR_3 : FN := runArgs 4 (c_law_raised FX_3)
noncomputable def TF_3 : List Nat := [0, 1, 2, 6, 7, 8, 3, 4, 5]
noncomputable def FF_3 : FN := tab1 3 dom9 dom9 [.int 3, m_3, .int 3] TF_3
theorem tf_3_pw : chk1 PW_3 dom9 dom9 [.int 3, m_3, .int 3] TF_3 = true := by decide +kernel
theorem tf_3_lr : chk1 LR_3 dom9 dom9 [.int 3, m_3, .int 3] TF_3 = true := by decide +kernel
noncomputable def OD_3 : FN := runArgs 3 (c_gf_order F_prime_factors F_gf_size PW_3)
noncomputable def TO_3 : List Nat := [999, 1, 2, 4, 8, 8, 4, 8, 8]
noncomputable def FO_3 : FN := tab1 3 dom9 dInts [m_3, .int 3] TO_3
theorem to_3 : chk1 OD_3 dom9 dInts [m_3, .int 3] TO_3 = true := by decide +kernel
noncomputable def GN_3 : FN := runArgs 2 (c_gf_generator F_counted FO_3 F_gf_size)
noncomputable def FG_3 : FN := tab0 [m_3, .int 3] (.list [e1, e1])
theorem tg_3 : isR (GN_3 [m_3, .int 3]) (.list [e1, e1]) = true := by decide +kernel
noncomputable def LG_3 : FN := runArgs 4 (c_gf_logarithm FO_3 FX_3 FI_3)
noncomputable def OR_3 : FN := runArgs 3 (c_law_orders_right FX_3 FO_3 FG_3 LG_3)
noncomputable def CJ_3 : FN := runArgs 3 (c_gf_conjugates FF_3)
noncomputable def LE_3 : FN := runArgs 3 (c_gf_least CJ_3 F_number_of FA3 F_mneg FX_3)
noncomputable def AT_3 : FN := runArgs 4 (c_gf_at FA3 FX_3 F_mscale)
noncomputable def TC_3 : FN := runArgs 3 (c_gf_trace F_number_of F_mdegree FA3 FF_3)
noncomputable def NO_3 : FN := runArgs 3 (c_gf_norm F_number_of F_mdegree FX_3 FF_3)
noncomputable def VA_3 : FN := runArgs 4 (c_law_value FP3 FX_3)
noncomputable def SU_3 : FN := runArgs 3 (c_law_sums_right LE_3 FF_3 FP3 FX_3 VA_3 AT_3 TC_3 NO_3 F_law_counted)
noncomputable def DV_3 : FN := runArgs 4 (c_gf_divide FX_3 FI_3)
noncomputable def SQ_3 : FN := runArgs 3 (c_gf_is_square PW_3 F_gf_size)
noncomputable def RK_3 : FN := runArgs 5 (c_law_reckoned_right FI_3 FX_3 FX_3 SQ_3 DV_3 PW_3 LR_3 F_gf_things)
theorem su_3 : sumsB SU_3 dom9 [m_3, .int 3] = true := by decide +kernel
theorem or_3 : ordsB OR_3 dom9 [m_3, .int 3] = true := by decide +kernel
theorem pw_3 : powsB PW_3 LR_3 FI_3 dom9 m_3 (.int 3) = true := by decide +kernel
theorem dv_3 : divsB FX_3 FI_3 DV_3 dom9 m_3 (.int 3) = true := by decide +kernel
theorem sq_3 : sqsB FX_3 SQ_3 dom9 m_3 (.int 3) = true := by decide +kernel
noncomputable def m_4 : PyData := .list [e2, e1, e1]
noncomputable def TR_4 : List Nat := [0, 1, 2, 3, 4, 5, 6, 7, 8, 7, 8, 6, 1, 2, 0, 4, 5, 3, 5, 3, 4, 8, 6, 7, 2, 0, 1]
noncomputable def FR_4 : FN := tab1 3 big3 dom9 [m_4, .int 3] TR_4
theorem tr_4_rest : chk1 F_mrest big3 dom9 [m_4, .int 3] TR_4 = true := by decide +kernel
theorem tr_4_left : chk1 F_law_left big3 dom9 [m_4, .int 3] TR_4 = true := by decide +kernel
noncomputable def TX_4 : List (List Nat) := [[0, 0, 0, 0, 0, 0, 0, 0, 0], [0, 1, 2, 3, 4, 5, 6, 7, 8], [0, 2, 1, 6, 8, 7, 3, 5, 4], [0, 3, 6, 7, 1, 4, 5, 8, 2], [0, 4, 8, 1, 5, 6, 2, 3, 7], [0, 5, 7, 4, 6, 2, 8, 1, 3], [0, 6, 3, 5, 2, 8, 7, 4, 1], [0, 7, 5, 8, 3, 1, 4, 2, 6], [0, 8, 4, 2, 7, 3, 1, 6, 5]]
noncomputable def FX_4 : FN := tab2 (encL 3) (encL 3) dom9 dom9 dom9 [m_4, .int 3] TX_4
theorem tx_4_mul : chk2 (runArgs 4 (c_gf_multiply FR_4 FM3)) dom9 dom9 dom9 [m_4, .int 3] TX_4 = true := by decide +kernel
theorem tx_4_lm : chk2 (runArgs 4 (c_law_mul FR_4 FM3)) dom9 dom9 dom9 [m_4, .int 3] TX_4 = true := by decide +kernel
noncomputable def TI_4 : List Nat := [999, 1, 2, 4, 3, 7, 8, 5, 6]
noncomputable def FI_4 : FN := tab1 3 dom9 dom9 [m_4, .int 3] TI_4
theorem ti_4 : chk1 F_gf_inverse dom9 dom9 [m_4, .int 3] TI_4 = true := by decide +kernel
noncomputable def PW_4 : FN := runArgs 4 (c_gf_power FI_4 FX_4)
noncomputable def LR_4 : FN := runArgs 4 (c_law_raised FX_4)
noncomputable def TF_4 : List Nat := [0, 1, 2, 8, 6, 7, 4, 5, 3]
noncomputable def FF_4 : FN := tab1 3 dom9 dom9 [.int 3, m_4, .int 3] TF_4
theorem tf_4_pw : chk1 PW_4 dom9 dom9 [.int 3, m_4, .int 3] TF_4 = true := by decide +kernel
theorem tf_4_lr : chk1 LR_4 dom9 dom9 [.int 3, m_4, .int 3] TF_4 = true := by decide +kernel
noncomputable def OD_4 : FN := runArgs 3 (c_gf_order F_prime_factors F_gf_size PW_4)
noncomputable def TO_4 : List Nat := [999, 1, 2, 8, 8, 4, 8, 4, 8]
noncomputable def FO_4 : FN := tab1 3 dom9 dInts [m_4, .int 3] TO_4
theorem to_4 : chk1 OD_4 dom9 dInts [m_4, .int 3] TO_4 = true := by decide +kernel
noncomputable def GN_4 : FN := runArgs 2 (c_gf_generator F_counted FO_4 F_gf_size)
noncomputable def FG_4 : FN := tab0 [m_4, .int 3] (.list [e0, e1])
theorem tg_4 : isR (GN_4 [m_4, .int 3]) (.list [e0, e1]) = true := by decide +kernel
noncomputable def LG_4 : FN := runArgs 4 (c_gf_logarithm FO_4 FX_4 FI_4)
noncomputable def OR_4 : FN := runArgs 3 (c_law_orders_right FX_4 FO_4 FG_4 LG_4)
noncomputable def CJ_4 : FN := runArgs 3 (c_gf_conjugates FF_4)
noncomputable def LE_4 : FN := runArgs 3 (c_gf_least CJ_4 F_number_of FA3 F_mneg FX_4)
noncomputable def AT_4 : FN := runArgs 4 (c_gf_at FA3 FX_4 F_mscale)
noncomputable def TC_4 : FN := runArgs 3 (c_gf_trace F_number_of F_mdegree FA3 FF_4)
noncomputable def NO_4 : FN := runArgs 3 (c_gf_norm F_number_of F_mdegree FX_4 FF_4)
noncomputable def VA_4 : FN := runArgs 4 (c_law_value FP3 FX_4)
noncomputable def SU_4 : FN := runArgs 3 (c_law_sums_right LE_4 FF_4 FP3 FX_4 VA_4 AT_4 TC_4 NO_4 F_law_counted)
noncomputable def DV_4 : FN := runArgs 4 (c_gf_divide FX_4 FI_4)
noncomputable def SQ_4 : FN := runArgs 3 (c_gf_is_square PW_4 F_gf_size)
noncomputable def RK_4 : FN := runArgs 5 (c_law_reckoned_right FI_4 FX_4 FX_4 SQ_4 DV_4 PW_4 LR_4 F_gf_things)
theorem su_4 : sumsB SU_4 dom9 [m_4, .int 3] = true := by decide +kernel
theorem or_4 : ordsB OR_4 dom9 [m_4, .int 3] = true := by decide +kernel
theorem pw_4 : powsB PW_4 LR_4 FI_4 dom9 m_4 (.int 3) = true := by decide +kernel
theorem dv_4 : divsB FX_4 FI_4 DV_4 dom9 m_4 (.int 3) = true := by decide +kernel
theorem sq_4 : sqsB FX_4 SQ_4 dom9 m_4 (.int 3) = true := by decide +kernel
noncomputable def m_5 : PyData := .list [e2, e2, e1]
noncomputable def TR_5 : List Nat := [0, 1, 2, 3, 4, 5, 6, 7, 8, 4, 5, 3, 7, 8, 6, 1, 2, 0, 8, 6, 7, 2, 0, 1, 5, 3, 4]
noncomputable def FR_5 : FN := tab1 3 big3 dom9 [m_5, .int 3] TR_5
theorem tr_5_rest : chk1 F_mrest big3 dom9 [m_5, .int 3] TR_5 = true := by decide +kernel
theorem tr_5_left : chk1 F_law_left big3 dom9 [m_5, .int 3] TR_5 = true := by decide +kernel
noncomputable def TX_5 : List (List Nat) := [[0, 0, 0, 0, 0, 0, 0, 0, 0], [0, 1, 2, 3, 4, 5, 6, 7, 8], [0, 2, 1, 6, 8, 7, 3, 5, 4], [0, 3, 6, 4, 7, 1, 8, 2, 5], [0, 4, 8, 7, 2, 3, 5, 6, 1], [0, 5, 7, 1, 3, 8, 2, 4, 6], [0, 6, 3, 8, 5, 2, 4, 1, 7], [0, 7, 5, 2, 6, 4, 1, 8, 3], [0, 8, 4, 5, 1, 6, 7, 3, 2]]
noncomputable def FX_5 : FN := tab2 (encL 3) (encL 3) dom9 dom9 dom9 [m_5, .int 3] TX_5
theorem tx_5_mul : chk2 (runArgs 4 (c_gf_multiply FR_5 FM3)) dom9 dom9 dom9 [m_5, .int 3] TX_5 = true := by decide +kernel
theorem tx_5_lm : chk2 (runArgs 4 (c_law_mul FR_5 FM3)) dom9 dom9 dom9 [m_5, .int 3] TX_5 = true := by decide +kernel
noncomputable def TI_5 : List Nat := [999, 1, 2, 5, 8, 3, 7, 6, 4]
noncomputable def FI_5 : FN := tab1 3 dom9 dom9 [m_5, .int 3] TI_5
theorem ti_5 : chk1 F_gf_inverse dom9 dom9 [m_5, .int 3] TI_5 = true := by decide +kernel
noncomputable def PW_5 : FN := runArgs 4 (c_gf_power FI_5 FX_5)
noncomputable def LR_5 : FN := runArgs 4 (c_law_raised FX_5)
noncomputable def TF_5 : List Nat := [0, 1, 2, 7, 8, 6, 5, 3, 4]
noncomputable def FF_5 : FN := tab1 3 dom9 dom9 [.int 3, m_5, .int 3] TF_5
theorem tf_5_pw : chk1 PW_5 dom9 dom9 [.int 3, m_5, .int 3] TF_5 = true := by decide +kernel
theorem tf_5_lr : chk1 LR_5 dom9 dom9 [.int 3, m_5, .int 3] TF_5 = true := by decide +kernel
noncomputable def OD_5 : FN := runArgs 3 (c_gf_order F_prime_factors F_gf_size PW_5)
noncomputable def TO_5 : List Nat := [999, 1, 2, 8, 4, 8, 8, 8, 4]
noncomputable def FO_5 : FN := tab1 3 dom9 dInts [m_5, .int 3] TO_5
theorem to_5 : chk1 OD_5 dom9 dInts [m_5, .int 3] TO_5 = true := by decide +kernel
noncomputable def GN_5 : FN := runArgs 2 (c_gf_generator F_counted FO_5 F_gf_size)
noncomputable def FG_5 : FN := tab0 [m_5, .int 3] (.list [e0, e1])
theorem tg_5 : isR (GN_5 [m_5, .int 3]) (.list [e0, e1]) = true := by decide +kernel
noncomputable def LG_5 : FN := runArgs 4 (c_gf_logarithm FO_5 FX_5 FI_5)
noncomputable def OR_5 : FN := runArgs 3 (c_law_orders_right FX_5 FO_5 FG_5 LG_5)
noncomputable def CJ_5 : FN := runArgs 3 (c_gf_conjugates FF_5)
noncomputable def LE_5 : FN := runArgs 3 (c_gf_least CJ_5 F_number_of FA3 F_mneg FX_5)
noncomputable def AT_5 : FN := runArgs 4 (c_gf_at FA3 FX_5 F_mscale)
noncomputable def TC_5 : FN := runArgs 3 (c_gf_trace F_number_of F_mdegree FA3 FF_5)
noncomputable def NO_5 : FN := runArgs 3 (c_gf_norm F_number_of F_mdegree FX_5 FF_5)
noncomputable def VA_5 : FN := runArgs 4 (c_law_value FP3 FX_5)
noncomputable def SU_5 : FN := runArgs 3 (c_law_sums_right LE_5 FF_5 FP3 FX_5 VA_5 AT_5 TC_5 NO_5 F_law_counted)
noncomputable def DV_5 : FN := runArgs 4 (c_gf_divide FX_5 FI_5)
noncomputable def SQ_5 : FN := runArgs 3 (c_gf_is_square PW_5 F_gf_size)
noncomputable def RK_5 : FN := runArgs 5 (c_law_reckoned_right FI_5 FX_5 FX_5 SQ_5 DV_5 PW_5 LR_5 F_gf_things)
theorem su_5 : sumsB SU_5 dom9 [m_5, .int 3] = true := by decide +kernel
theorem or_5 : ordsB OR_5 dom9 [m_5, .int 3] = true := by decide +kernel
theorem pw_5 : powsB PW_5 LR_5 FI_5 dom9 m_5 (.int 3) = true := by decide +kernel
theorem dv_5 : divsB FX_5 FI_5 DV_5 dom9 m_5 (.int 3) = true := by decide +kernel
theorem sq_5 : sqsB FX_5 SQ_5 dom9 m_5 (.int 3) = true := by decide +kernel
noncomputable def m_6 : PyData := .list [e1, e1, e0, e0, e1]
noncomputable def TR_6 : List Nat := [0, 1, 2, 3, 4, 5, 6, 7, 8, 9, 10, 11, 12, 13, 14, 15, 3, 2, 1, 0, 7, 6, 5, 4, 11, 10, 9, 8, 15, 14, 13, 12, 6, 7, 4, 5, 2, 3, 0, 1, 14, 15, 12, 13, 10, 11, 8, 9, 5, 4, 7, 6, 1, 0, 3, 2, 13, 12, 15, 14, 9, 8, 11, 10, 12, 13, 14, 15, 8, 9, 10, 11, 4, 5, 6, 7, 0, 1, 2, 3, 15, 14, 13, 12, 11, 10, 9, 8, 7, 6, 5, 4, 3, 2, 1, 0, 10, 11, 8, 9, 14, 15, 12, 13, 2, 3, 0, 1, 6, 7, 4, 5, 9, 8, 11, 10, 13, 12, 15, 14, 1, 0, 3, 2, 5, 4, 7, 6]
noncomputable def FR_6 : FN := tab1 2 big2 dom16 [m_6, .int 2] TR_6
theorem tr_6_rest : chk1 F_mrest big2 dom16 [m_6, .int 2] TR_6 = true := by decide +kernel
theorem tr_6_left : chk1 F_law_left big2 dom16 [m_6, .int 2] TR_6 = true := by decide +kernel
noncomputable def TX_6 : List (List Nat) := [[0, 0, 0, 0, 0, 0, 0, 0, 0, 0, 0, 0, 0, 0, 0, 0], [0, 1, 2, 3, 4, 5, 6, 7, 8, 9, 10, 11, 12, 13, 14, 15], [0, 2, 4, 6, 8, 10, 12, 14, 3, 1, 7, 5, 11, 9, 15, 13], [0, 3, 6, 5, 12, 15, 10, 9, 11, 8, 13, 14, 7, 4, 1, 2], [0, 4, 8, 12, 3, 7, 11, 15, 6, 2, 14, 10, 5, 1, 13, 9], [0, 5, 10, 15, 7, 2, 13, 8, 14, 11, 4, 1, 9, 12, 3, 6], [0, 6, 12, 10, 11, 13, 7, 1, 5, 3, 9, 15, 14, 8, 2, 4], [0, 7, 14, 9, 15, 8, 1, 6, 13, 10, 3, 4, 2, 5, 12, 11], [0, 8, 3, 11, 6, 14, 5, 13, 12, 4, 15, 7, 10, 2, 9, 1], [0, 9, 1, 8, 2, 11, 3, 10, 4, 13, 5, 12, 6, 15, 7, 14], [0, 10, 7, 13, 14, 4, 9, 3, 15, 5, 8, 2, 1, 11, 6, 12], [0, 11, 5, 14, 10, 1, 15, 4, 7, 12, 2, 9, 13, 6, 8, 3], [0, 12, 11, 7, 5, 9, 14, 2, 10, 6, 1, 13, 15, 3, 4, 8], [0, 13, 9, 4, 1, 12, 8, 5, 2, 15, 11, 6, 3, 14, 10, 7], [0, 14, 15, 1, 13, 3, 2, 12, 9, 7, 6, 8, 4, 10, 11, 5], [0, 15, 13, 2, 9, 6, 4, 11, 1, 14, 12, 3, 8, 7, 5, 10]]
noncomputable def FX_6 : FN := tab2 (encL 2) (encL 2) dom16 dom16 dom16 [m_6, .int 2] TX_6
theorem tx_6_mul : chk2 (runArgs 4 (c_gf_multiply FR_6 FM2)) dom16 dom16 dom16 [m_6, .int 2] TX_6 = true := by decide +kernel
theorem tx_6_lm : chk2 (runArgs 4 (c_law_mul FR_6 FM2)) dom16 dom16 dom16 [m_6, .int 2] TX_6 = true := by decide +kernel
noncomputable def TI_6 : List Nat := [999, 1, 9, 14, 13, 11, 7, 6, 15, 2, 12, 5, 10, 4, 3, 8]
noncomputable def FI_6 : FN := tab1 2 dom16 dom16 [m_6, .int 2] TI_6
theorem ti_6 : chk1 F_gf_inverse dom16 dom16 [m_6, .int 2] TI_6 = true := by decide +kernel
noncomputable def PW_6 : FN := runArgs 4 (c_gf_power FI_6 FX_6)
noncomputable def LR_6 : FN := runArgs 4 (c_law_raised FX_6)
noncomputable def TF_6 : List Nat := [0, 1, 4, 5, 3, 2, 7, 6, 12, 13, 8, 9, 15, 14, 11, 10]
noncomputable def FF_6 : FN := tab1 2 dom16 dom16 [.int 2, m_6, .int 2] TF_6
theorem tf_6_pw : chk1 PW_6 dom16 dom16 [.int 2, m_6, .int 2] TF_6 = true := by decide +kernel
theorem tf_6_lr : chk1 LR_6 dom16 dom16 [.int 2, m_6, .int 2] TF_6 = true := by decide +kernel
noncomputable def OD_6 : FN := runArgs 3 (c_gf_order F_prime_factors F_gf_size PW_6)
noncomputable def TO_6 : List Nat := [999, 1, 15, 15, 15, 15, 3, 3, 5, 15, 5, 15, 5, 15, 15, 5]
noncomputable def FO_6 : FN := tab1 2 dom16 dInts [m_6, .int 2] TO_6
theorem to_6 : chk1 OD_6 dom16 dInts [m_6, .int 2] TO_6 = true := by decide +kernel
noncomputable def GN_6 : FN := runArgs 2 (c_gf_generator F_counted FO_6 F_gf_size)
noncomputable def FG_6 : FN := tab0 [m_6, .int 2] (.list [e0, e1])
theorem tg_6 : isR (GN_6 [m_6, .int 2]) (.list [e0, e1]) = true := by decide +kernel
noncomputable def LG_6 : FN := runArgs 4 (c_gf_logarithm FO_6 FX_6 FI_6)
noncomputable def OR_6 : FN := runArgs 3 (c_law_orders_right FX_6 FO_6 FG_6 LG_6)
noncomputable def CJ_6 : FN := runArgs 3 (c_gf_conjugates FF_6)
noncomputable def LE_6 : FN := runArgs 3 (c_gf_least CJ_6 F_number_of FA2 F_mneg FX_6)
noncomputable def AT_6 : FN := runArgs 4 (c_gf_at FA2 FX_6 F_mscale)
noncomputable def TC_6 : FN := runArgs 3 (c_gf_trace F_number_of F_mdegree FA2 FF_6)
noncomputable def NO_6 : FN := runArgs 3 (c_gf_norm F_number_of F_mdegree FX_6 FF_6)
noncomputable def VA_6 : FN := runArgs 4 (c_law_value FP2 FX_6)
noncomputable def SU_6 : FN := runArgs 3 (c_law_sums_right LE_6 FF_6 FP2 FX_6 VA_6 AT_6 TC_6 NO_6 F_law_counted)
noncomputable def DV_6 : FN := runArgs 4 (c_gf_divide FX_6 FI_6)
noncomputable def SQ_6 : FN := runArgs 3 (c_gf_is_square PW_6 F_gf_size)
noncomputable def RK_6 : FN := runArgs 5 (c_law_reckoned_right FI_6 FX_6 FX_6 SQ_6 DV_6 PW_6 LR_6 F_gf_things)
theorem su_6 : sumsB SU_6 dom16 [m_6, .int 2] = true := by decide +kernel
theorem or_6 : ordsB OR_6 dom16 [m_6, .int 2] = true := by decide +kernel
theorem pw_6 : powsB PW_6 LR_6 FI_6 dom16 m_6 (.int 2) = true := by decide +kernel
theorem dv_6 : divsB FX_6 FI_6 DV_6 dom16 m_6 (.int 2) = true := by decide +kernel
theorem sq_6 : sqsB FX_6 SQ_6 dom16 m_6 (.int 2) = true := by decide +kernel
noncomputable def m_7 : PyData := .list [e1, e0, e0, e1, e1]
noncomputable def TR_7 : List Nat := [0, 1, 2, 3, 4, 5, 6, 7, 8, 9, 10, 11, 12, 13, 14, 15, 9, 8, 11, 10, 13, 12, 15, 14, 1, 0, 3, 2, 5, 4, 7, 6, 11, 10, 9, 8, 15, 14, 13, 12, 3, 2, 1, 0, 7, 6, 5, 4, 2, 3, 0, 1, 6, 7, 4, 5, 10, 11, 8, 9, 14, 15, 12, 13, 15, 14, 13, 12, 11, 10, 9, 8, 7, 6, 5, 4, 3, 2, 1, 0, 6, 7, 4, 5, 2, 3, 0, 1, 14, 15, 12, 13, 10, 11, 8, 9, 4, 5, 6, 7, 0, 1, 2, 3, 12, 13, 14, 15, 8, 9, 10, 11, 13, 12, 15, 14, 9, 8, 11, 10, 5, 4, 7, 6, 1, 0, 3, 2]
noncomputable def FR_7 : FN := tab1 2 big2 dom16 [m_7, .int 2] TR_7
theorem tr_7_rest : chk1 F_mrest big2 dom16 [m_7, .int 2] TR_7 = true := by decide +kernel
theorem tr_7_left : chk1 F_law_left big2 dom16 [m_7, .int 2] TR_7 = true := by decide +kernel
noncomputable def TX_7 : List (List Nat) := [[0, 0, 0, 0, 0, 0, 0, 0, 0, 0, 0, 0, 0, 0, 0, 0], [0, 1, 2, 3, 4, 5, 6, 7, 8, 9, 10, 11, 12, 13, 14, 15], [0, 2, 4, 6, 8, 10, 12, 14, 9, 11, 13, 15, 1, 3, 5, 7], [0, 3, 6, 5, 12, 15, 10, 9, 1, 2, 7, 4, 13, 14, 11, 8], [0, 4, 8, 12, 9, 13, 1, 5, 11, 15, 3, 7, 2, 6, 10, 14], [0, 5, 10, 15, 13, 8, 7, 2, 3, 6, 9, 12, 14, 11, 4, 1], [0, 6, 12, 10, 1, 7, 13, 11, 2, 4, 14, 8, 3, 5, 15, 9], [0, 7, 14, 9, 5, 2, 11, 12, 10, 13, 4, 3, 15, 8, 1, 6], [0, 8, 9, 1, 11, 3, 2, 10, 15, 7, 6, 14, 4, 12, 13, 5], [0, 9, 11, 2, 15, 6, 4, 13, 7, 14, 12, 5, 8, 1, 3, 10], [0, 10, 13, 7, 3, 9, 14, 4, 6, 12, 11, 1, 5, 15, 8, 2], [0, 11, 15, 4, 7, 12, 8, 3, 14, 5, 1, 10, 9, 2, 6, 13], [0, 12, 1, 13, 2, 14, 3, 15, 4, 8, 5, 9, 6, 10, 7, 11], [0, 13, 3, 14, 6, 11, 5, 8, 12, 1, 15, 2, 10, 7, 9, 4], [0, 14, 5, 11, 10, 4, 15, 1, 13, 3, 8, 6, 7, 9, 2, 12], [0, 15, 7, 8, 14, 1, 9, 6, 5, 10, 2, 13, 11, 4, 12, 3]]
noncomputable def FX_7 : FN := tab2 (encL 2) (encL 2) dom16 dom16 dom16 [m_7, .int 2] TX_7
theorem tx_7_mul : chk2 (runArgs 4 (c_gf_multiply FR_7 FM2)) dom16 dom16 dom16 [m_7, .int 2] TX_7 = true := by decide +kernel
theorem tx_7_lm : chk2 (runArgs 4 (c_law_mul FR_7 FM2)) dom16 dom16 dom16 [m_7, .int 2] TX_7 = true := by decide +kernel
noncomputable def TI_7 : List Nat := [999, 1, 12, 8, 6, 15, 4, 14, 3, 13, 11, 10, 2, 9, 7, 5]
noncomputable def FI_7 : FN := tab1 2 dom16 dom16 [m_7, .int 2] TI_7
theorem ti_7 : chk1 F_gf_inverse dom16 dom16 [m_7, .int 2] TI_7 = true := by decide +kernel
noncomputable def PW_7 : FN := runArgs 4 (c_gf_power FI_7 FX_7)
noncomputable def LR_7 : FN := runArgs 4 (c_law_raised FX_7)
noncomputable def TF_7 : List Nat := [0, 1, 4, 5, 9, 8, 13, 12, 15, 14, 11, 10, 6, 7, 2, 3]
noncomputable def FF_7 : FN := tab1 2 dom16 dom16 [.int 2, m_7, .int 2] TF_7
theorem tf_7_pw : chk1 PW_7 dom16 dom16 [.int 2, m_7, .int 2] TF_7 = true := by decide +kernel
theorem tf_7_lr : chk1 LR_7 dom16 dom16 [.int 2, m_7, .int 2] TF_7 = true := by decide +kernel
noncomputable def OD_7 : FN := runArgs 3 (c_gf_order F_prime_factors F_gf_size PW_7)
noncomputable def TO_7 : List Nat := [999, 1, 15, 5, 15, 5, 15, 15, 5, 15, 3, 3, 15, 15, 15, 5]
noncomputable def FO_7 : FN := tab1 2 dom16 dInts [m_7, .int 2] TO_7
theorem to_7 : chk1 OD_7 dom16 dInts [m_7, .int 2] TO_7 = true := by decide +kernel
noncomputable def GN_7 : FN := runArgs 2 (c_gf_generator F_counted FO_7 F_gf_size)
noncomputable def FG_7 : FN := tab0 [m_7, .int 2] (.list [e0, e1])
theorem tg_7 : isR (GN_7 [m_7, .int 2]) (.list [e0, e1]) = true := by decide +kernel
noncomputable def LG_7 : FN := runArgs 4 (c_gf_logarithm FO_7 FX_7 FI_7)
noncomputable def OR_7 : FN := runArgs 3 (c_law_orders_right FX_7 FO_7 FG_7 LG_7)
noncomputable def CJ_7 : FN := runArgs 3 (c_gf_conjugates FF_7)
noncomputable def LE_7 : FN := runArgs 3 (c_gf_least CJ_7 F_number_of FA2 F_mneg FX_7)
noncomputable def AT_7 : FN := runArgs 4 (c_gf_at FA2 FX_7 F_mscale)
noncomputable def TC_7 : FN := runArgs 3 (c_gf_trace F_number_of F_mdegree FA2 FF_7)
noncomputable def NO_7 : FN := runArgs 3 (c_gf_norm F_number_of F_mdegree FX_7 FF_7)
noncomputable def VA_7 : FN := runArgs 4 (c_law_value FP2 FX_7)
noncomputable def SU_7 : FN := runArgs 3 (c_law_sums_right LE_7 FF_7 FP2 FX_7 VA_7 AT_7 TC_7 NO_7 F_law_counted)
noncomputable def DV_7 : FN := runArgs 4 (c_gf_divide FX_7 FI_7)
noncomputable def SQ_7 : FN := runArgs 3 (c_gf_is_square PW_7 F_gf_size)
noncomputable def RK_7 : FN := runArgs 5 (c_law_reckoned_right FI_7 FX_7 FX_7 SQ_7 DV_7 PW_7 LR_7 F_gf_things)
theorem su_7 : sumsB SU_7 dom16 [m_7, .int 2] = true := by decide +kernel
theorem or_7 : ordsB OR_7 dom16 [m_7, .int 2] = true := by decide +kernel
theorem pw_7 : powsB PW_7 LR_7 FI_7 dom16 m_7 (.int 2) = true := by decide +kernel
theorem dv_7 : divsB FX_7 FI_7 DV_7 dom16 m_7 (.int 2) = true := by decide +kernel
theorem sq_7 : sqsB FX_7 SQ_7 dom16 m_7 (.int 2) = true := by decide +kernel
noncomputable def m_8 : PyData := .list [e1, e1, e1, e1, e1]
noncomputable def TR_8 : List Nat := [0, 1, 2, 3, 4, 5, 6, 7, 8, 9, 10, 11, 12, 13, 14, 15, 15, 14, 13, 12, 11, 10, 9, 8, 7, 6, 5, 4, 3, 2, 1, 0, 1, 0, 3, 2, 5, 4, 7, 6, 9, 8, 11, 10, 13, 12, 15, 14, 14, 15, 12, 13, 10, 11, 8, 9, 6, 7, 4, 5, 2, 3, 0, 1, 2, 3, 0, 1, 6, 7, 4, 5, 10, 11, 8, 9, 14, 15, 12, 13, 13, 12, 15, 14, 9, 8, 11, 10, 5, 4, 7, 6, 1, 0, 3, 2, 3, 2, 1, 0, 7, 6, 5, 4, 11, 10, 9, 8, 15, 14, 13, 12, 12, 13, 14, 15, 8, 9, 10, 11, 4, 5, 6, 7, 0, 1, 2, 3]
noncomputable def FR_8 : FN := tab1 2 big2 dom16 [m_8, .int 2] TR_8
theorem tr_8_rest : chk1 F_mrest big2 dom16 [m_8, .int 2] TR_8 = true := by decide +kernel
theorem tr_8_left : chk1 F_law_left big2 dom16 [m_8, .int 2] TR_8 = true := by decide +kernel
noncomputable def TX_8 : List (List Nat) := [[0, 0, 0, 0, 0, 0, 0, 0, 0, 0, 0, 0, 0, 0, 0, 0], [0, 1, 2, 3, 4, 5, 6, 7, 8, 9, 10, 11, 12, 13, 14, 15], [0, 2, 4, 6, 8, 10, 12, 14, 15, 13, 11, 9, 7, 5, 3, 1], [0, 3, 6, 5, 12, 15, 10, 9, 7, 4, 1, 2, 11, 8, 13, 14], [0, 4, 8, 12, 15, 11, 7, 3, 1, 5, 9, 13, 14, 10, 6, 2], [0, 5, 10, 15, 11, 14, 1, 4, 9, 12, 3, 6, 2, 7, 8, 13], [0, 6, 12, 10, 7, 1, 11, 13, 14, 8, 2, 4, 9, 15, 5, 3], [0, 7, 14, 9, 3, 4, 13, 10, 6, 1, 8, 15, 5, 2, 11, 12], [0, 8, 15, 7, 1, 9, 14, 6, 2, 10, 13, 5, 3, 11, 12, 4], [0, 9, 13, 4, 5, 12, 8, 1, 10, 3, 7, 14, 15, 6, 2, 11], [0, 10, 11, 1, 9, 3, 2, 8, 13, 7, 6, 12, 4, 14, 15, 5], [0, 11, 9, 2, 13, 6, 4, 15, 5, 14, 12, 7, 8, 3, 1, 10], [0, 12, 7, 11, 14, 2, 9, 5, 3, 15, 4, 8, 13, 1, 10, 6], [0, 13, 5, 8, 10, 7, 15, 2, 11, 6, 14, 3, 1, 12, 4, 9], [0, 14, 3, 13, 6, 8, 5, 11, 12, 2, 15, 1, 10, 4, 9, 7], [0, 15, 1, 14, 2, 13, 3, 12, 4, 11, 5, 10, 6, 9, 7, 8]]
noncomputable def FX_8 : FN := tab2 (encL 2) (encL 2) dom16 dom16 dom16 [m_8, .int 2] TX_8
theorem tx_8_mul : chk2 (runArgs 4 (c_gf_multiply FR_8 FM2)) dom16 dom16 dom16 [m_8, .int 2] TX_8 = true := by decide +kernel
theorem tx_8_lm : chk2 (runArgs 4 (c_law_mul FR_8 FM2)) dom16 dom16 dom16 [m_8, .int 2] TX_8 = true := by decide +kernel
noncomputable def TI_8 : List Nat := [999, 1, 15, 10, 8, 6, 5, 9, 4, 7, 3, 14, 13, 12, 11, 2]
noncomputable def FI_8 : FN := tab1 2 dom16 dom16 [m_8, .int 2] TI_8
theorem ti_8 : chk1 F_gf_inverse dom16 dom16 [m_8, .int 2] TI_8 = true := by decide +kernel
noncomputable def PW_8 : FN := runArgs 4 (c_gf_power FI_8 FX_8)
noncomputable def LR_8 : FN := runArgs 4 (c_law_raised FX_8)
noncomputable def TF_8 : List Nat := [0, 1, 4, 5, 15, 14, 11, 10, 2, 3, 6, 7, 13, 12, 9, 8]
noncomputable def FF_8 : FN := tab1 2 dom16 dom16 [.int 2, m_8, .int 2] TF_8
theorem tf_8_pw : chk1 PW_8 dom16 dom16 [.int 2, m_8, .int 2] TF_8 = true := by decide +kernel
theorem tf_8_lr : chk1 LR_8 dom16 dom16 [.int 2, m_8, .int 2] TF_8 = true := by decide +kernel
noncomputable def OD_8 : FN := runArgs 3 (c_gf_order F_prime_factors F_gf_size PW_8)
noncomputable def TO_8 : List Nat := [999, 1, 5, 15, 5, 15, 15, 15, 5, 15, 15, 15, 3, 3, 15, 5]
noncomputable def FO_8 : FN := tab1 2 dom16 dInts [m_8, .int 2] TO_8
theorem to_8 : chk1 OD_8 dom16 dInts [m_8, .int 2] TO_8 = true := by decide +kernel
noncomputable def GN_8 : FN := runArgs 2 (c_gf_generator F_counted FO_8 F_gf_size)
noncomputable def FG_8 : FN := tab0 [m_8, .int 2] (.list [e1, e1])
theorem tg_8 : isR (GN_8 [m_8, .int 2]) (.list [e1, e1]) = true := by decide +kernel
noncomputable def LG_8 : FN := runArgs 4 (c_gf_logarithm FO_8 FX_8 FI_8)
noncomputable def OR_8 : FN := runArgs 3 (c_law_orders_right FX_8 FO_8 FG_8 LG_8)
noncomputable def CJ_8 : FN := runArgs 3 (c_gf_conjugates FF_8)
noncomputable def LE_8 : FN := runArgs 3 (c_gf_least CJ_8 F_number_of FA2 F_mneg FX_8)
noncomputable def AT_8 : FN := runArgs 4 (c_gf_at FA2 FX_8 F_mscale)
noncomputable def TC_8 : FN := runArgs 3 (c_gf_trace F_number_of F_mdegree FA2 FF_8)
noncomputable def NO_8 : FN := runArgs 3 (c_gf_norm F_number_of F_mdegree FX_8 FF_8)
noncomputable def VA_8 : FN := runArgs 4 (c_law_value FP2 FX_8)
noncomputable def SU_8 : FN := runArgs 3 (c_law_sums_right LE_8 FF_8 FP2 FX_8 VA_8 AT_8 TC_8 NO_8 F_law_counted)
noncomputable def DV_8 : FN := runArgs 4 (c_gf_divide FX_8 FI_8)
noncomputable def SQ_8 : FN := runArgs 3 (c_gf_is_square PW_8 F_gf_size)
noncomputable def RK_8 : FN := runArgs 5 (c_law_reckoned_right FI_8 FX_8 FX_8 SQ_8 DV_8 PW_8 LR_8 F_gf_things)
theorem su_8 : sumsB SU_8 dom16 [m_8, .int 2] = true := by decide +kernel
theorem or_8 : ordsB OR_8 dom16 [m_8, .int 2] = true := by decide +kernel
theorem pw_8 : powsB PW_8 LR_8 FI_8 dom16 m_8 (.int 2) = true := by decide +kernel
theorem dv_8 : divsB FX_8 FI_8 DV_8 dom16 m_8 (.int 2) = true := by decide +kernel
theorem sq_8 : sqsB FX_8 SQ_8 dom16 m_8 (.int 2) = true := by decide +kernel

/-! H0 -/

/-! a heap with some places taken out -/
noncomputable def mask (h : Heap) (P : Addr → Bool) : Heap := ⟨h.objs.mapIdx fun i o => if P i = true then { o with data := .freed } else o, h.life⟩
theorem mask_get (h : Heap) (P : Addr → Bool) (b : Addr) : (mask h P).get? b = if P b = true then none else h.get? b := by
  unfold mask Heap.get?
  dsimp only
  rw [Array.getElem?_mapIdx]
  cases hq : h.objs[b]? with
  | none => simp
  | some o =>
    simp only [Option.map_some]
    by_cases q : P b = true
    · rw [if_pos q, if_pos q]
    · rw [if_neg q, if_neg q]
theorem mask_ext {h : Heap} {P : Addr → Bool} : Ext (mask h P) h := fun b o e => by
  rw [mask_get] at e
  split at e
  · cases e
  · exact e

section
variable {U : Uni} {n : Nat}

/-- a frame of plain values -/
theorem mkSt {h₀ h : Heap} {env : Env} {nm : Nm} {m : Str → Option Value} {ρ : Store} {σ : Nat → Option Value} (base : Ext U.hT h₀) (ext : Ext h₀ h) (ns : h.Ns env.locals m) (ln : h₀.get? env.locals = none) (nc : env.cells = [])
    (at' : ∀ i x v, nm[i]? = some (some x) → σ i = some v → env.kindOf x = some .local ∧ m x = some v)
    (sl : ∀ i x, nm[i]? = some (some x) → sget ρ i = .u ∨ ∃ v d, σ i = some v ∧ sget ρ i = .v d ∧ Rep (fun b => b = env.locals) h v d) : St U h₀ (fun _ => False) env nm (fun b => b = env.locals) h ρ :=
  ⟨m, σ, {
    base := base
    ext := ext
    xcin := fun b q => q.elim
    sub := fun b q => q.elim
    xin := fun b q => by obtain ⟨o, _, _, g, _⟩ := ns; exact ⟨o, q ▸ g⟩
    xnew := fun b q => .inr (q ▸ ln)
    ns := ns
    xl := rfl
    ln := ln
    cel := fun x c e => by rw [nc] at e; cases e
    capt := fun x y c e => by rw [nc] at e; cases e
    at' := fun i x v a b => .inl (at' i x v a b)
    sl := fun i x e => by
      rcases sl i x e with q | ⟨v, d, e1, e2, r⟩
      · rw [q]; trivial
      · rw [e2]; exact ⟨v, e1, r⟩
    kd := fun i x a l e q => by
      rcases sl i x e with q' | ⟨v, d, e1, e2, r⟩
      · rw [q'] at q; cases q
      · rw [e2] at q; cases q
    ow := fun i j x y a ei ej _ _ oi => by
      rcases sl i x ei with q' | ⟨v, d, e1, e2, r⟩
      · rw [q'] at oi; cases oi
      · rw [e2] at oi; cases oi }⟩

/-! the drawing -/
structure Draws (h : Heap) (D R : Addr) (rows : List Int) (seed : Int) : Prop where
  ne : D ≠ R
  d : ∃ t k, h.get? D = some (lstObj #[.ref R, .int seed t] k)
  r : ∃ ws k, h.get? R = some (lstObj ws k) ∧ RepL (fun _ => False) h ws.toList (rows.map .int)
  lo : 0 ≤ seed
  hi : seed < 2147483648
  len : rows.length ≤ 40
  pos : ∀ x ∈ rows, 0 ≤ x

theorem RepL.intsX {X Y : AS} {h h' : Heap} : ∀ {vs : List Value} {l : List Int}, RepL X h vs (l.map .int) → RepL Y h' vs (l.map .int)
  | [], [], _ => .nil
  | v :: vs, i :: l, r => by
    rw [List.map_cons] at r ⊢
    cases r with
    | cons a b =>
      cases a
      exact .cons (.int _ _) (RepL.intsX b)
theorem Draws.keep {h h' : Heap} {D R : Addr} {rows : List Int} {seed : Int} (x : Draws h D R rows seed) (k : ∀ b o, (b = D ∨ b = R) → h.get? b = some o → h'.get? b = some o) : Draws h' D R rows seed :=
  ⟨x.ne, let ⟨t, n, g⟩ := x.d; ⟨t, n, k _ _ (.inl rfl) g⟩, let ⟨w, n, g, r⟩ := x.r; ⟨w, n, k _ _ (.inr rfl) g, r.intsX⟩, x.lo, x.hi, x.len, x.pos⟩
theorem Draws.rep {h : Heap} {D R : Addr} {rows : List Int} {seed : Int} {X : AS} (x : Draws h D R rows seed) (nd : ¬ X D) (nr : ¬ X R) : Rep X h (.ref D) (.list [.list (rows.map .int), .int seed]) := by
  obtain ⟨t, k, gd⟩ := x.d
  obtain ⟨ws, k2, gr, r⟩ := x.r
  exact .list nd gd ⟨rfl, rfl, rfl⟩ rfl (.cons (.list nr gr ⟨rfl, rfl, rfl⟩ rfl r.intsX) (.cons (.int _ _) .nil))

theorem allFlat_ints : ∀ (l : List Int), allFlat (l.map .int) = true
  | [] => rfl
  | _ :: l => allFlat_ints l
noncomputable def nm_take : Nm := [some "draws", some "many"]
noncomputable def TK : Nat := 41
theorem fmod_lt {a b : Int} (h : 0 < b) : 0 ≤ a.fmod b ∧ a.fmod b < b := ⟨Int.fmod_nonneg_of_pos _ h, Int.fmod_lt_of_pos _ h⟩
end

/-! H1 -/
section
variable {U : Uni}
theorem ilt_of {x y : Int} (h : x < y) : iltb x y = true := by rw [iltb_eq, decide_eq_true h]
theorem big62 : iltb (2147483648 : Int) 4611686018427387904 = true := by decide

theorem take_ok (H : Us U) {A : Around} {E : Value → Shared → Prop} {s : Shared} {D R fa : Addr} {rows : List Int} {seed kk : Int} {tk : Tok} {Q : Value → Shared → Prop} (hA : AOK 1 A) (hT : Ext U.hT s.heap) (nD : U.hT.get? D = none) (nR : U.hT.get? R = none)
    (hg : U.mg "_law_take" = some (.ref fa)) (hd : Draws s.heap D R rows seed) (hk : 1 ≤ kk)
    (h : ∀ i h' t' t rows' seed', 0 ≤ i → i < kk → Draws h' D R rows' seed' → ExtO (fun b => b = D ∨ b = R) s.heap h' → Q (.int i t) { s with heap := h', toks := t' }) :
    wpAny (model U.prog U.w) A (call (.ref fa) [.ref D, .int kk tk] []) Q E s := by
  have L := cal_law_take H
  obtain ⟨a, o, pm, cd, doc, hg', ho, hdt, hcd⟩ := U.fn (dr 40) L.mem
  rw [L.name, hg] at hg'
  cases hg'
  have kD : (dr 40).scope.names.lookup ("draws" : Str) = some .local := by decide +kernel
  have kM : (dr 40).scope.names.lookup ("many" : Str) = some .local := by decide +kernel
  have kf : (dr 40).scope.kind = .function := by kernel_rfl
  have D0 : NmD nm_take := okNm_spec (by decide +kernel)
  have N0 : NmOK nm_take := (entB_spec (sc := (dr 40).scope) (ps := ["draws", "many"]) (nm := nm_take) (by decide +kernel)).no
  have hdm : ("draws" : Str) ≠ "many" := by decide +kernel
  refine wpAny_call (call_cells_ret (binds := [("draws", .ref D), ("many", .int kk tk)]) (by have := hA.2.1; unfold recursionLimit; omega) (hT _ _ ho) hdt (U.nl.keeps hT) (hcd.keeps hT) (by kernel_rfl) (fun x hx => ?_) (fun h1 t1 F Cc => ?_) (by kernel_rfl) (by kernel_rfl) kf)
  · simp only [List.mem_cons, List.not_mem_nil, or_false] at hx
    rcases hx with rfl | rfl
    · exact .inl kD
    · exact .inl kM
  · have F0 := F.ns
    have fk := F.keep
    generalize hm : bindL (envOfC (dr 40).name (dr 40).scope s.heap.objs.size fa cd).kindOf [("draws", .ref D), ("many", .int kk tk)] (fun _ => none) = m at F0
    have mD : m "draws" = some (.ref D) := by
      rw [← hm]
      exact bindL_mem (kk := (envOfC (dr 40).name (dr 40).scope s.heap.objs.size fa cd).kindOf) kD _ _ (by simp [hdm]) (by simp)
    have mM : m "many" = some (.int kk tk) := by
      rw [← hm]
      exact bindL_mem (kk := (envOfC (dr 40).name (dr 40).scope s.heap.objs.size fa cd).kindOf) kM _ _ (by simp [hdm]) (by simp)
    clear hm F Cc
    have hAd : AOK 0 (A.deeper (envOfC (dr 40).name (dr 40).scope s.heap.objs.size fa cd)) := hA.deeper _
    generalize hA' : A.deeper (envOfC (dr 40).name (dr 40).scope s.heap.objs.size fa cd) = A' at hAd
    have eC : (envOfC (dr 40).name (dr 40).scope s.heap.objs.size fa cd).cells = [] := by
      show cellsFrom (s.heap.objs.size + 1) (dr 40).scope.names [] = []
      kernel_rfl
    have V : EnvOK (dr 40).scope (envOfC (dr 40).name (dr 40).scope s.heap.objs.size fa cd) := ⟨rfl, kf, rfl, rfl, fun x e => cellsFrom_some _ _ _ (mem_of_lookup e)⟩
    have eL : (envOfC (dr 40).name (dr 40).scope s.heap.objs.size fa cd).locals = s.heap.objs.size := rfl
    have kiD : (envOfC (dr 40).name (dr 40).scope s.heap.objs.size fa cd).kindOf "draws" = some .local := kD
    have kiM : (envOfC (dr 40).name (dr 40).scope s.heap.objs.size fa cd).kindOf "many" = some .local := kM
    have F0 : h1.Ns (envOfC (dr 40).name (dr 40).scope s.heap.objs.size fa cd).locals m := F0
    generalize envOfC (dr 40).name (dr 40).scope s.heap.objs.size fa cd = env at V eL eC kiD kiM F0 ⊢
    have nL : ∀ b, s.heap.get? b ≠ none → b ≠ env.locals := fun b q e => q (by rw [e, eL]; exact get_size _)
    have DL : D ≠ env.locals := nL D (by obtain ⟨t, k, g⟩ := hd.d; rw [g]; simp)
    have RL : R ≠ env.locals := nL R (by obtain ⟨t, k, g, _⟩ := hd.r; rw [g]; simp)
    have mkS : ∀ h' rows' seed', Draws h' D R rows' seed' → h'.Ns env.locals m → ExtO (fun b => b = D ∨ b = R) s.heap h' →
        St U (mask s.heap fun b => Nat.beq b D || Nat.beq b R) (fun _ => False) env nm_take (fun b => b = env.locals) h' [.v (.list [.list (rows'.map .int), .int seed']), .v (.int kk)] := by
      intro h' rows' seed' hd' ns' x'
      have mg : ∀ b, ¬ (b = D ∨ b = R) → (mask s.heap fun b => Nat.beq b D || Nat.beq b R).get? b = s.heap.get? b := fun b q => by
        rw [mask_get, if_neg]
        simp only [Bool.or_eq_true, not_or] at q ⊢
        exact ⟨fun e => q.1 (Nat.eq_of_beq_eq_true e), fun e => q.2 (Nat.eq_of_beq_eq_true e)⟩
      refine mkSt (m := m) (σ := fun i => if i = 0 then some (.ref D) else if i = 1 then some (.int kk tk) else none) (fun b o e => ?_) (fun b o e => ?_) ns' ?_ eC (fun i x v e q => ?_) fun i x e => ?_
      · rw [mg b (by rintro (rfl | rfl); rw [nD] at e; cases e; rw [nR] at e; cases e)]
        exact hT _ _ e
      · by_cases q : b = D ∨ b = R
        · rw [mask_get, if_pos] at e
          · cases e
          · rcases q with rfl | rfl <;> simp
        · rw [mg b q] at e
          exact x' b o q e
      · rw [mask_get]
        split
        · rfl
        · rw [eL]; exact get_size _
      · match i, e, q with
        | 0, e, q => cases e; cases q; exact ⟨kiD, mD⟩
        | 1, e, q => cases e; cases q; exact ⟨kiM, mM⟩
      · match i, e with
        | 0, e => exact .inr ⟨_, _, rfl, rfl, hd'.rep DL RL⟩
        | 1, e => exact .inr ⟨_, _, rfl, rfl, .int _ _⟩
    have x1 : ExtO (fun b => b = D ∨ b = R) s.heap h1 := fun b o _ e => fk b o e
    have hd1 : Draws h1 D R rows seed := hd.keep fun b o _ e => fk b o e
    have S1 := mkS h1 rows seed hd1 F0 x1
    clear fk
    refine wpAny_execs_cons (wpAny_If ?_)
    cases rows with
    | nil =>
      have tv : dne (lidx (bvar 0) (econ (.int 0))) (elst (fits lnil)) [.v (.list [.list (List.map PyData.int []), .int seed]), .v (.int kk)] = some false := rfl
      refine (Cmp.toT (Cmp.ne (SimE.toR (SimE.lidx (SimB.vr D0 (i := 0) rfl) SimE.int)) (SimE.toR (SimF.toE (SimF.disp SimL.nil)))) : SimT U 0 (dr 40).scope nm_take _ _) A' env _ _ _ _ _ _ false _ hAd V S1 tv fun h2 t2 x2 => ?_
      rw [if_neg Bool.false_ne_true]
      refine wpAny_execs_nil ?_
      have S2 := S1.ext' x2
      have hd2 : Draws h2 D R [] seed := hd1.keep fun b o _ e => x2 b o e
      obtain ⟨s0, s1⟩ := And.intro hd.lo hd.hi
      have seedv : iop fmod (iop fadd (iop fmul (lidx (bvar 0) (econ (.int 1))) (econ (.int 48271))) (econ (.int 19))) (econ (.int 2147483647)) [.v (.list [.list (List.map PyData.int []), .int seed]), .v (.int kk)] = some (.int ((seed * 48271 + 19).fmod 2147483647)) := by
        have hl : lidx (bvar 0) (econ (.int 1)) [.v (.list [.list (List.map PyData.int []), .int seed]), .v (.int kk)] = some (.int seed) := rfl
        have e1 : fmul seed 48271 = some (seed * 48271) := by
          unfold fmul
          rw [ilt_of (show seed < 4611686018427387904 by omega), ilt_of (show (-4611686018427387904 : Int) < seed by omega)]
        have e2 : ∀ z, fadd z 19 = some (z + 19) := fun z => rfl
        have e3 : ∀ z, fmod z 2147483647 = some (z.fmod 2147483647) := fun z => rfl
        simp only [iop, hl]
        simp only [econ, e1, e2, e3]
      refine wpAny_execs_cons (wpAny_Assign_Subscript ((SimE.iop irule_mod (SimE.iop irule_add (SimE.iop irule_mul (SimE.lidx (SimB.vr D0 (i := 0) rfl) SimE.int) SimE.int) SimE.int) SimE.int : SimE U 0 (dr 40).scope nm_take _ _) A' env _ _ _ _ _ _ _ _ hAd V S2 seedv fun v3 h3 t3 x3 r3 => ?_) (by rfl))
      obtain ⟨u3, rfl⟩ : ∃ u, v3 = .int ((seed * 48271 + 19).fmod 2147483647) u := by cases r3; exact ⟨_, rfl⟩
      clear r3
      obtain ⟨q0, q1⟩ := fmod_lt (a := seed * 48271 + 19) (b := 2147483647) (by decide)
      generalize (seed * 48271 + 19).fmod 2147483647 = seed' at q0 q1 ⊢
      have hd3 : Draws h3 D R [] seed := hd2.keep fun b o _ e => x3 b o e
      have F3 : h3.Ns env.locals m := (F0.keeps x2).keeps x3
      refine wpAny_Name (load_name V F3 (.inl ⟨kiD, mD⟩) (D0 0 _ rfl).2 ?_) (D0 0 _ rfl).1
      refine wpAny_Constant_int ?_
      obtain ⟨td, kd, gd⟩ := hd3.d
      refine setItem_own gd (by decide) (by decide) (by show (1 : Int) < ((2 : Nat) : Int); decide) ?_
      have sb := Heap.SameBut.update h3 D (Obj.mapSeq fun xs => xs.setIfInBounds (Int.toNat 1) (.int seed' u3))
      have gd4 := IsL.update gd fun xs => xs.setIfInBounds (Int.toNat 1) (.int seed' u3)
      generalize h3.update D (Obj.mapSeq fun xs => xs.setIfInBounds (Int.toNat 1) (.int seed' u3)) = h4 at sb gd4 ⊢
      have hd4 : Draws h4 D R [] seed' := by
        obtain ⟨wr, kr, gr, rr⟩ := hd3.r
        exact ⟨hd.ne, ⟨_, _, gd4⟩, ⟨wr, kr, (sb.2 R hd.ne.symm).trans gr, rr.intsX⟩, q0, by omega, by simp, fun x hx => by cases hx⟩
      have x4 : ExtO (fun b => b = D ∨ b = R) s.heap h4 := fun b o q e => (sb.2 b (fun z => q (.inl z))).trans (x3 _ _ (x2 _ _ (x1 b o q e)))
      have S4 := mkS h4 [] seed' hd4 (F3.sameBut sb DL.symm) x4
      have resv : iop fmod (iop ffdiv (lidx (bvar 0) (econ (.int 1))) (econ (.int 16))) (evar 1) [.v (.list [.list (List.map PyData.int []), .int seed']), .v (.int kk)] = some (.int ((seed'.fdiv 16).fmod kk)) := by
        have hl : lidx (bvar 0) (econ (.int 1)) [.v (.list [.list (List.map PyData.int []), .int seed']), .v (.int kk)] = some (.int seed') := rfl
        have hm : evar 1 [.v (.list [.list (List.map PyData.int []), .int seed']), .v (.int kk)] = some (.int kk) := rfl
        have e1 : ∀ z, fmod z kk = some (z.fmod kk) := fun z => by
          unfold fmod
          rw [ilt_of (show (0 : Int) < kk by omega)]
        simp only [iop, hl, hm]
        simp only [econ, show ffdiv seed' 16 = some (seed'.fdiv 16) from rfl, e1]
      refine wpAny_execs_cons (wpAny_Return_some ((SimE.iop irule_mod (SimE.iop irule_fdiv (SimE.lidx (SimB.vr D0 (i := 0) rfl) SimE.int) SimE.int) (SimE.vr D0 (i := 1) rfl) : SimE U 0 (dr 40).scope nm_take _ _) A' env _ _ _ _ _ _ _ _ hAd V S4 resv fun v5 h5 t5 x5 r5 => ?_))
      cases r5
      obtain ⟨p0, p1⟩ := fmod_lt (a := seed'.fdiv 16) (b := kk) (by omega)
      exact h _ h5 t5 _ [] seed' p0 p1 (hd4.keep fun b o _ e => x5 b o e) fun b o q e => x5 _ _ (x4 b o q e)
    | cons r rs =>
      have tv : dne (lidx (bvar 0) (econ (.int 0))) (elst (fits lnil)) [.v (.list [.list (List.map PyData.int (r :: rs)), .int seed]), .v (.int kk)] = some true := by
        have e1 : lidx (bvar 0) (econ (.int 0)) [.v (.list [.list (List.map PyData.int (r :: rs)), .int seed]), .v (.int kk)] = some (.list (List.map PyData.int (r :: rs))) := rfl
        have e2 : elst (fits lnil) [.v (.list [.list (List.map PyData.int (r :: rs)), .int seed]), .v (.int kk)] = some (.list []) := rfl
        unfold dne
        rw [e1, e2]
        dsimp only
        have e3 : peq (.list (List.map PyData.int (r :: rs))) (.list []) = some false := by
          rw [peq_nil (allFlat_ints _)]
          rfl
        rw [e3]
        rfl
      refine (Cmp.toT (Cmp.ne (SimE.toR (SimE.lidx (SimB.vr D0 (i := 0) rfl) SimE.int)) (SimE.toR (SimF.toE (SimF.disp SimL.nil)))) : SimT U 0 (dr 40).scope nm_take _ _) A' env _ _ _ _ _ _ true _ hAd V S1 tv fun h2 t2 x2 => ?_
      rw [if_pos rfl]
      have hd2 : Draws h2 D R (r :: rs) seed := hd1.keep fun b o _ e => x2 b o e
      have F2 : h2.Ns env.locals m := F0.keeps x2
      refine wpAny_execs_cons (wpAny_Return_some (wpAny_BinOp ?_))
      refine wpAny_Call_method (T := "list") (id := "list.pop") rfl rfl (by rfl) PySem.F.plainAttrs_list PySem.F.slot_list_pop PySem.F.type_list_pop ?_
      obtain ⟨td, kd, gd⟩ := hd2.d
      have gl : h2.IsList D #[.ref R, .int seed td] := ⟨_, gd, rfl, _, rfl⟩
      obtain ⟨wr, kr, gr, rr⟩ := hd2.r
      refine Subscript_ (wpAny_Name (load_name V F2 (.inl ⟨kiD, mD⟩) (D0 0 _ rfl).2 ?_) (D0 0 _ rfl).1)
      refine wpAny_Constant_int ?_
      refine tail_any (s := { s with heap := h2, toks := _ }) gl.typeIs slot_list_getitem.lookup (wpAny_getItem_list gl (by decide) (by decide) (by rfl) ?_) (by rfl)
      refine ⟨⟨_, gr, rfl⟩, (fun b e => by cases e; exact ⟨_, gr, rfl⟩), ?_⟩
      have n1 := rr.length
      rw [Array.length_toList, List.length_map] at n1
      have hl := hd.len
      rw [List.map_cons] at rr
      obtain ⟨w0, wrest, ew, r0, rr'⟩ : ∃ w ws, wr.toList = w :: ws ∧ Rep (fun _ => False) h2 w (.int r) ∧ RepL (fun _ => False) h2 ws (rs.map .int) := by
        generalize wr.toList = l at rr
        cases rr with
        | cons p q => exact ⟨_, _, rfl, p, q⟩
      obtain ⟨u0, rfl⟩ : ∃ u, w0 = .int r u := by cases r0; exact ⟨_, rfl⟩
      have w00 : wr[0]? = some (.int r u0) := by rw [← Array.getElem?_toList, ew]; rfl
      have hb : ∀ (k : Nat) (p cp : Pos), backTo cp (starEach [PySem.Expr.Constant (.int 0) k p] env) = [(false, eval (.Constant (.int 0) k p) env)] := fun _ _ _ => rfl
      rw [hb]
      refine P.pop_at_list ?_
      refine wpAny_Constant_int (⟨wr, kr, 0, _, 0, _, by rw [sizeLine_eq]; omega, rfl, gr, by decide, ?_, w00, ?_⟩)
      · rw [n1]; unfold seqIndex?; simp
      have sb := Heap.SameBut.update h2 R (Obj.mapSeq fun xs => xs.eraseIdxIfInBounds 0)
      have gr4 := IsL.update gr fun xs => xs.eraseIdxIfInBounds 0
      generalize h2.update R (Obj.mapSeq fun xs => xs.eraseIdxIfInBounds 0) = h4 at sb gr4 ⊢
      have e0 : (wr.eraseIdxIfInBounds 0).toList = wrest := by
        unfold Array.eraseIdxIfInBounds
        rw [dif_pos (by rw [n1]; exact Nat.succ_pos _), Array.toList_eraseIdx, ew]; rfl
      have hd4 : Draws h4 D R rs seed :=
        ⟨hd.ne, ⟨_, _, (sb.2 D hd.ne).trans gd⟩, ⟨_, _, gr4, by rw [e0]; exact rr'.intsX⟩, hd.lo, hd.hi, by simp at hl; omega, fun x hx => hd.pos x (List.mem_cons_of_mem _ hx)⟩
      have x4 : ExtO (fun b => b = D ∨ b = R) s.heap h4 := fun b o q e => (sb.2 b (fun z => q (.inr z))).trans (x2 _ _ (x1 b o q e))
      refine wpAny_Name (load_name V (F2.sameBut sb RL.symm) (.inl ⟨kiM, mM⟩) (D0 1 _ rfl).2 ?_) (D0 1 _ rfl).1
      obtain ⟨p0, p1⟩ := fmod_lt (a := r) (b := kk) (by omega)
      refine irule_mod (U := U) A' _ _ r kk _ _ (r.fmod kk) _ (by unfold fmod; rw [ilt_of (show (0 : Int) < kk by omega)]) fun t5 k5 => ?_
      exact h _ h4 k5 _ rs seed p0 p1 hd4 x4
end

/-! H2 -/
noncomputable def nm_law_draws : Nm := [some "script", some "one", some "rows", some "seed"]
noncomputable def nm_law_draws_0 : Nm := [none, none, none, none, some "one"]
noncomputable def cd1 : C := cslots [3, 2] (slrev (slo (lcomp [] (lupto (bvar 0) (econ (.int 40))) (asgName 4) ttrue (eabs (eint (evar 4)))) (slv (econ (.int 8191)) slnil)))
noncomputable def cd2b : C := cset 3 (iop fmod (iop fadd (iop fadd (iop fmul (evar 3) (econ (.int 31))) (iop fmod (evar 1) (econ (.int 1000003)))) (econ (.int 9))) (econ (.int 2147483647)))
noncomputable def cd2 : C := cfreeze 2 (cseq (cfor (blst (evar 2)) (asgName 1) cd2b) (cret (elst (fits (lcons (evar 2) (lcons (evar 3) lnil))))))
theorem KD {U : Uni} : ∃ st ss, (dr 39).body = st :: ss ∧ Sim1 U 0 (dr 39).scope nm_law_draws st cd1 ∧ SimS U 0 (dr 39).scope nm_law_draws ss cd2 :=
  have D : NmD nm_law_draws := okNm_spec (by decide +kernel)
  have K : NmK (dr 39).scope nm_law_draws := okFn_spec (by decide +kernel)
  have D0 : NmD nm_law_draws_0 := okNm_spec (by decide +kernel)
  ⟨_, _, rfl, (Sim1.swap (names := ["rows", "seed"]) (SimSl.conso (SimF.comp (strong := false) (nm' := nm_law_draws_0) (caps := []) (capB_spec (by decide +kernel)) (SimI.weak (SimF.toB (SimF.upto (SimB.vr D (i := 0) rfl) SimE.int))) (AsgOK.name (i := 4) rfl (.inl (by decide +kernel))) (Plainly.name _) SimTs.nil (SimE.abs (SimE.toint (SimE.vr D0 (i := 4) rfl) (by decide +kernel)) (by decide +kernel))) (SimSl.consv SimE.int SimSl.nil)) (StrsAt.c K (i := 3) rfl (StrsAt.c K (i := 2) rfl StrsAt.nil)) (by kernel_rfl)), (SimS.freeze (i := 2) rfl (SimS.cons (Sim1.for (SimI.strong (SimE.vr D (i := 2) rfl)) (AsgOK.vr K (i := 1) rfl) (SimS.one (Sim1.asgN K (i := 3) rfl (SimE.iop irule_mod (SimE.iop irule_add (SimE.iop irule_add (SimE.iop irule_mul (SimE.vr D (i := 3) rfl) SimE.int) (SimE.iop irule_mod (SimE.vr D (i := 1) rfl) SimE.int)) SimE.int) SimE.int)))) (SimS.one (Sim1.ret (SimF.toE (SimF.disp (SimL.cons (SimE.vr D (i := 2) rfl) (SimL.cons (SimE.vr D (i := 3) rfl) SimL.nil))))))))⟩

/-! what it computes -/
theorem evar_of {ρ : Store} {i : Nat} {d : PyData} (h : sget ρ i = .v d) : evar i ρ = some d := by unfold evar; rw [h]
theorem bvar_of {ρ : Store} {i : Nat} {l : List PyData} (h : sget ρ i = .v (.list l)) : bvar i ρ = some l := by unfold bvar; rw [h]
theorem sget_same (ρ : Store) (i : Nat) (s : Slot) : sget (sset ρ i s) i = s := by rw [sget_sset, if_pos rfl]
theorem sget_ne (ρ : Store) {i j : Nat} (s : Slot) (h : j ≠ i) : sget (sset ρ i s) j = sget ρ j := by rw [sget_sset, if_neg h]
theorem draws_comp : ∀ (xs : List Int) (ρ : Store), compAll (asgName 4) ttrue (eabs (eint (evar 4))) (xs.map .int) ρ = some ((xs.map iabs).map .int)
  | [], _ => rfl
  | x :: xs, ρ => by
    rw [List.map_cons]
    unfold compAll
    have e1 : asgName 4 (.int x) ρ = some (sset ρ 4 (.v (.int x))) := rfl
    have e2 : eabs (eint (evar 4)) (sset ρ 4 (.v (.int x))) = some (.int (iabs x)) := by
      have := evar_of (sget_same ρ 4 (.v (.int x)))
      unfold eabs eint
      rw [this]
    rw [e1]
    dsimp only
    rw [show ttrue (sset ρ 4 (.v (.int x))) = some true from rfl]
    dsimp only
    rw [e2]
    dsimp only
    rw [draws_comp xs]
    rfl
theorem iabs_nonneg (x : Int) : 0 ≤ iabs x := by cases x <;> simp [iabs] <;> omega
theorem draws_step {ρ : Store} {rows : List PyData} {x sd : Int} (h2 : sget ρ 2 = .v (.list rows)) (h3 : sget ρ 3 = .v (.int sd)) (s0 : 0 ≤ sd) (s1 : sd < 2147483648) :
    ∃ ρ' sd', cd2b (sset ρ 1 (.v (.int x))) = some (.nx ρ') ∧ sget ρ' 2 = .v (.list rows) ∧ sget ρ' 3 = .v (.int sd') ∧ 0 ≤ sd' ∧ sd' < 2147483648 := by
  have v1 : evar 1 (sset ρ 1 (.v (.int x))) = some (.int x) := evar_of (sget_same _ _ _)
  have v3 : evar 3 (sset ρ 1 (.v (.int x))) = some (.int sd) := evar_of ((sget_ne _ _ (by decide)).trans h3)
  have e1 : fmul sd 31 = some (sd * 31) := by
    unfold fmul
    rw [ilt_of (show sd < 4611686018427387904 by omega), ilt_of (show (-4611686018427387904 : Int) < sd by omega)]
  have e2 : ∀ z, fmod z 1000003 = some (z.fmod 1000003) := fun z => rfl
  have e3 : ∀ z, fmod z 2147483647 = some (z.fmod 2147483647) := fun z => rfl
  have e4 : ∀ a b, fadd a b = some (a + b) := fun a b => rfl
  obtain ⟨q0, q1⟩ := fmod_lt (a := sd * 31 + x.fmod 1000003 + 9) (b := 2147483647) (by decide)
  refine ⟨sset (sset ρ 1 (.v (.int x))) 3 (.v (.int ((sd * 31 + x.fmod 1000003 + 9).fmod 2147483647))), _, ?_, ?_, sget_same _ _ _, q0, by omega⟩
  · unfold cd2b cset
    simp only [iop, v1, v3]
    simp only [econ, e1, e2, e3, e4]
  · exact (sget_ne _ _ (by decide)).trans ((sget_ne _ _ (by decide)).trans h2)
theorem draws_loop {rows : List PyData} : ∀ (xs : List Int) {ρ : Store} {sd : Int}, sget ρ 2 = .v (.list rows) → sget ρ 3 = .v (.int sd) → 0 ≤ sd → sd < 2147483648 →
    ∃ ρ' sd', forAll (asgName 1) cd2b (xs.map .int) ρ = some (.nx ρ') ∧ sget ρ' 2 = .v (.list rows) ∧ sget ρ' 3 = .v (.int sd') ∧ 0 ≤ sd' ∧ sd' < 2147483648
  | [], ρ, sd, h2, h3, s0, s1 => ⟨ρ, sd, rfl, h2, h3, s0, s1⟩
  | x :: xs, ρ, sd, h2, h3, s0, s1 => by
    obtain ⟨ρ1, sd1, e, p2, p3, q0, q1⟩ := draws_step (x := x) h2 h3 s0 s1
    obtain ⟨ρ2, sd2, e', r⟩ := draws_loop xs p2 p3 q0 q1
    refine ⟨ρ2, sd2, ?_, r⟩
    rw [List.map_cons]
    unfold forAll
    rw [show asgName 1 (.int x) ρ = some (sset ρ 1 (.v (.int x))) from rfl]
    dsimp only
    rw [e]
    exact e'
theorem draws_value {rows : List Int} {ρ : Store} (hn : rows.length ≤ 40) (h2 : sget ρ 2 = .o (rows.map .int)) (h3 : sget ρ 3 = .v (.int 8191)) :
    ∃ sd, cd2 ρ = some (.rt (.list [.list (rows.map .int), .int sd])) ∧ 0 ≤ sd ∧ sd < 2147483648 := by
  obtain ⟨ρ2, sd, e, p2, p3, q0, q1⟩ := draws_loop (rows := rows.map .int) rows (ρ := sset ρ 2 (.v (.list (rows.map .int)))) (sd := 8191) (sget_same _ _ _) ((sget_ne _ _ (by decide)).trans h3) (by decide) (by decide)
  refine ⟨sd, ?_, q0, q1⟩
  unfold cd2 cfreeze
  rw [h2]
  dsimp only
  unfold cseq cfor blst
  rw [evar_of (sget_same _ _ _)]
  dsimp only
  rw [e]
  dsimp only
  unfold cret elst fits lcons lnil
  rw [evar_of p2, evar_of p3]
  rfl

section
variable {U : Uni}
/-- the frame looked at anew: all that stood is the caller's -/
theorem StC.anew {h₀ h : Heap} {Xc X : AS} {env : Env} {m : Str → Option Value} {σ : Nat → Option Value} {ρ : Store} {rows : List Int} (S : StC U h₀ Xc env nm_law_draws X h ρ m σ) (h2 : sget ρ 2 = .o (rows.map .int)) (h3 : sget ρ 3 = .v (.int 8191)) (nx : ∀ b, ¬ Xc b) :
    StC U h₀ (fun b => ∃ o, h₀.get? b = some o) env nm_law_draws (fun b => X b ∨ ∃ o, h₀.get? b = some o) h [.u, .u, .o (rows.map .int), .v (.int 8191)] m σ where
  base := S.base
  ext := S.ext
  xcin := fun b q => q
  sub := fun b q => .inr q
  xin := fun b q => q.elim (S.xin b) fun ⟨o, e⟩ => ⟨o, S.ext _ _ e⟩
  xnew := fun b q => q.elim (fun q => (S.xnew b q).elim (fun e => (nx b e).elim) .inr) .inl
  ns := S.ns
  xl := .inl S.xl
  ln := S.ln
  cel := fun x c e => let ⟨a, b, v, d⟩ := S.cel x c e; ⟨.inl a, b, v, d⟩
  capt := S.capt
  at' := S.at'
  sl := fun i x e => by
    match i, e with
    | 0, e => trivial
    | 1, e => trivial
    | 2, e =>
      have q := S.sl 2 x e
      rw [h2] at q
      obtain ⟨a, vs, n, e, x, f, g, r⟩ := q
      exact ⟨a, vs, n, e, .inl x, f, g, r.intsX⟩
    | 3, e =>
      have q := S.sl 3 x e
      rw [h3] at q
      obtain ⟨v, e, r⟩ := q
      cases r
      exact ⟨_, e, .int _ _⟩
  kd := fun i x a l e q => by
    match i, e, q with
    | 0, _, q => cases q
    | 1, _, q => cases q
    | 2, _, q => cases q
    | 3, _, q => cases q
  ow := fun i j x y a ei ej _ _ oi oj => by
    have key : ∀ i x, nm_law_draws[i]? = some (some x) → (sget [.u, .u, .o (rows.map .int), .v (.int 8191)] i).own = true → i = 2 := by
      intro i x e o
      match i, e, o with
      | 0, _, o => cases o
      | 1, _, o => cases o
      | 2, _, o => rfl
      | 3, _, o => cases o
    rw [key i x ei oi, key j y ej oj]

theorem draws_ok (H : Us U) {A : Around} {E : Value → Shared → Prop} {s : Shared} {S fa : Addr} {xs : List Int} {Q : Value → Shared → Prop} (hA : AOK 1 A) (hT : Ext U.hT s.heap)
    (hg : U.mg "_law_draws" = some (.ref fa)) (hS : ∀ X : AS, ¬ X S → Rep X s.heap (.ref S) (.list (xs.map .int))) (hn : xs.length ≤ 1000)
    (h : ∀ D R h' t' rows seed, Ext s.heap h' → s.heap.get? D = none → s.heap.get? R = none → Draws h' D R rows seed → Q (.ref D) { s with heap := h', toks := t' }) :
    wpAny (model U.prog U.w) A (call (.ref fa) [.ref S] []) Q E s := by
  have L := cal_law_draws H
  obtain ⟨a, o, pm, cd, doc, hg', ho, hdt, hcd⟩ := U.fn (dr 39) L.mem
  rw [L.name, hg] at hg'
  cases hg'
  have kD : (dr 39).scope.names.lookup ("script" : Str) = some .local := by decide +kernel
  have kf : (dr 39).scope.kind = .function := by kernel_rfl
  have N0 : NmOK nm_law_draws := (entB_spec (sc := (dr 39).scope) (ps := ["script"]) (nm := nm_law_draws) (by decide +kernel)).no
  obtain ⟨st, ss, eb, k1, k2⟩ := KD (U := U)
  refine wpAny_call (call_cells_ret (binds := [("script", .ref S)]) (by have := hA.2.1; unfold recursionLimit; omega) (hT _ _ ho) hdt (U.nl.keeps hT) (hcd.keeps hT) (by kernel_rfl) (fun x hx => ?_) (fun h1 t1 F Cc => ?_) (by kernel_rfl) (by kernel_rfl) kf)
  · simp only [List.mem_cons, List.not_mem_nil, or_false] at hx
    rcases hx with rfl
    exact .inl kD
  · have F0 : h1.Ns (envOfC (dr 39).name (dr 39).scope s.heap.objs.size fa cd).locals _ := F.ns
    have fk := F.keep
    generalize hm : bindL (envOfC (dr 39).name (dr 39).scope s.heap.objs.size fa cd).kindOf [("script", .ref S)] (fun _ => none) = m at F0
    have mD : m "script" = some (.ref S) := by
      rw [← hm]
      exact bindL_mem (kk := (envOfC (dr 39).name (dr 39).scope s.heap.objs.size fa cd).kindOf) kD _ _ (by simp) (by simp)
    clear hm F Cc
    have hAd : AOK 0 (A.deeper (envOfC (dr 39).name (dr 39).scope s.heap.objs.size fa cd)) := hA.deeper _
    generalize hA' : A.deeper (envOfC (dr 39).name (dr 39).scope s.heap.objs.size fa cd) = A' at hAd
    have eC : (envOfC (dr 39).name (dr 39).scope s.heap.objs.size fa cd).cells = [] := by
      show cellsFrom (s.heap.objs.size + 1) (dr 39).scope.names [] = []
      kernel_rfl
    have V : EnvOK (dr 39).scope (envOfC (dr 39).name (dr 39).scope s.heap.objs.size fa cd) := ⟨rfl, kf, rfl, rfl, fun x e => cellsFrom_some _ _ _ (mem_of_lookup e)⟩
    have eL : (envOfC (dr 39).name (dr 39).scope s.heap.objs.size fa cd).locals = s.heap.objs.size := rfl
    have kiD : (envOfC (dr 39).name (dr 39).scope s.heap.objs.size fa cd).kindOf "script" = some .local := kD
    generalize envOfC (dr 39).name (dr 39).scope s.heap.objs.size fa cd = env at V eL eC kiD F0 ⊢
    have hS0 := hS (fun b => b = env.locals) (by
      intro e
      have := hS (fun _ => False) id
      cases this with
      | list na g c d r => rw [e, eL, get_size] at g; cases g)
    have S0 : St U s.heap (fun _ => False) env nm_law_draws (fun b => b = env.locals) h1 [.v (.list (xs.map .int))] :=
      mkSt (m := m) (σ := fun i => if i = 0 then some (.ref S) else none) hT fk F0 (by rw [eL]; exact get_size _) eC (fun i x v e q => by
        match i, e, q with
        | 0, e, q => cases e; cases q; exact ⟨kiD, mD⟩) fun i x e => by
        match i, e with
        | 0, e => exact .inr ⟨_, _, rfl, rfl, hS0.ext (Ext.toO fk _)⟩
        | 1, e => exact .inl rfl
        | 2, e => exact .inl rfl
        | 3, e => exact .inl rfl
    have hlt : ((xs.take 40).map iabs).length ≤ 40 := by simp; omega
    have v1 : cd1 [.v (.list (xs.map .int))] = some (.nx [.v (.list (xs.map .int)), .u, .o (((xs.take 40).map iabs).map .int), .v (.int 8191)]) := by
      have e1 : lupto (bvar 0) (econ (.int 40)) [.v (.list (xs.map .int))] = some ((xs.take 40).map .int) := by
        unfold lupto
        rw [bvar_of (l := xs.map .int) rfl]
        dsimp only
        rw [show econ (.int 40) [.v (.list (xs.map .int))] = some (.int (.ofNat 40)) from rfl]
        dsimp only
        rw [show Nat.blt (xs.map PyData.int).length 1048576 = true from by rw [Nat.blt_eq, List.length_map]; omega]
        rw [List.map_take]
      have e2 : lcomp [] (lupto (bvar 0) (econ (.int 40))) (asgName 4) ttrue (eabs (eint (evar 4))) [.v (.list (xs.map .int))] = some (((xs.take 40).map iabs).map .int) := by
        unfold lcomp
        rw [e1]
        dsimp only
        rw [show Nat.blt ((xs.take 40).map PyData.int).length 1048576 = true from by rw [Nat.blt_eq, List.length_map, List.length_take]; omega]
        exact draws_comp _ _
      unfold cd1 cslots slrev slo
      rw [e2]
      rfl
    rw [eb]
    refine wpAny_execs_cons (k1 A' env _ { s with heap := h1, toks := t1 } s.heap _ _ _ _ _ hAd V N0 S0 v1 ?_)
    intro Y h2 t2 S2 K2
    obtain ⟨m2, σ2, S2⟩ := S2
    have S3 := S2.anew (rows := (xs.take 40).map iabs) rfl rfl (fun b => id)
    obtain ⟨sd, v2, q0, q1⟩ := draws_value (rows := (xs.take 40).map iabs) (ρ := [.u, .u, .o (((xs.take 40).map iabs).map .int), .v (.int 8191)]) hlt rfl rfl
    refine k2 A' env _ { s with heap := h2, toks := t2 } s.heap _ _ _ _ _ hAd V N0 ⟨m2, σ2, S3⟩ v2 ?_
    intro val h3 t3 x3 r3
    have rpos : ∀ x ∈ (xs.take 40).map iabs, 0 ≤ x := fun x hx => by
      obtain ⟨y, _, rfl⟩ := List.mem_map.mp hx
      exact iabs_nonneg y
    generalize (xs.take 40).map iabs = rows at hlt r3 rpos
    cases r3 with
    | @list D oD vs k _ nD gD cD dD rD =>
      obtain ⟨vs⟩ := vs
      cases rD with
      | @cons v1 vr _ _ rR rS =>
        cases rS with
        | @cons v2 vr2 _ _ rI rN =>
          cases rN
          cases rI
          cases rR with
          | @list R oR ws k2 _ nR gR cR dR rR =>
            obtain ⟨c1, c2, c3, c4⟩ := oD
            obtain ⟨a1, a2, a3⟩ := cD
            simp only at a1 a2 a3 dD
            subst a1 a2 a3 dD
            obtain ⟨c1, c2, c3, c4⟩ := oR
            obtain ⟨a1, a2, a3⟩ := cR
            simp only at a1 a2 a3 dR
            subst a1 a2 a3 dR
            have fD : s.heap.get? D = none := by
              cases q : s.heap.get? D with
              | none => rfl
              | some o => exact (nD ⟨o, q⟩).elim
            have fR : s.heap.get? R = none := by
              cases q : s.heap.get? R with
              | none => rfl
              | some o => exact (nR ⟨o, q⟩).elim
            refine h D R h3 t3 rows sd x3 fD fR ⟨?_, ⟨_, _, gD⟩, ⟨ws, _, gR, rR.intsX⟩, q0, q1, hlt, rpos⟩
            rintro rfl
            rw [gD] at gR
            cases gR
            cases rows with
            | nil => cases rR
            | cons x r =>
              cases rR with
              | cons p q => cases p
end

/-! H3 -/
section
variable {U : Uni} {n : Nat} {sc : Scope} {nm : Nm}
noncomputable def ptrd (a : Nat) : PyData := .dict [(.int (Int.ofNat a), .none)]

/-- the two places of the drawing are written -/
theorem StC.rebase {h₀ h h' : Heap} {env : Env} {X : AS} {ρ : Store} {m : Str → Option Value} {σ : Nat → Option Value} {D R : Addr} {rows rows' : List Int} {seed seed' : Int}
    (S : StC U h₀ (fun b => b = D ∨ b = R) env nm X h ρ m σ) (d0 : Draws h₀ D R rows seed) (d1 : Draws h' D R rows' seed') (nD : U.hT.get? D = none) (nR : U.hT.get? R = none) (x : ExtO (fun b => b = D ∨ b = R) h h') :
    ∃ h₁, StC U h₁ (fun b => b = D ∨ b = R) env nm X h' ρ m σ ∧ Draws h₁ D R rows' seed' ∧ ∀ b o, h₁.get? b = some o → (b = D ∨ b = R) ∨ ∃ o, U.hT.get? b = some o := by
  have keep : ∀ b, (b = D ∨ b = R) ∨ (∃ o, U.hT.get? b = some o) → (mask h' fun b => !(Nat.beq b D || Nat.beq b R || (U.hT.get? b).isSome)).get? b = h'.get? b := fun b q => by
    rw [mask_get, if_neg]
    simp only [Bool.not_eq_true', Bool.not_eq_false, Bool.or_eq_true]
    rcases q with (rfl | rfl) | ⟨o, e⟩
    · exact .inl (.inl (Nat.beq_refl _))
    · exact .inl (.inr (Nat.beq_refl _))
    · exact .inr (by rw [e]; rfl)
  have out : ∀ b, ¬ (b = D ∨ b = R) → h₀.get? b = none → (mask h' fun b => !(Nat.beq b D || Nat.beq b R || (U.hT.get? b).isSome)).get? b = none := fun b q e => by
    rw [mask_get, if_pos]
    have e1 : U.hT.get? b = none := S.base.none e
    simp only [not_or] at q
    simp only [e1, Bool.not_eq_true', Bool.or_eq_false_iff]
    have nb : ∀ x : Nat, b ≠ x → Nat.beq b x = false := fun x q => by
      cases hb : Nat.beq b x with
      | false => rfl
      | true => exact absurd (Nat.eq_of_beq_eq_true hb) q
    exact ⟨⟨nb D q.1, nb R q.2⟩, rfl⟩
  have in0 : ∀ b, (b = D ∨ b = R) → h₀.get? b ≠ none := fun b q e => by
    rcases q with rfl | rfl
    · obtain ⟨t, k, g⟩ := d0.d; rw [e] at g; cases g
    · obtain ⟨t, k, g, _⟩ := d0.r; rw [e] at g; cases g
  have nDR : ∀ b, h₀.get? b = none → ¬ (b = D ∨ b = R) := fun b e q => in0 b q e
  have hout : ExtO X h h' := fun b o nx e => x b o (fun q => nx (S.sub b q)) e
  have in1 : ∀ b, (b = D ∨ b = R) → ∃ o, h'.get? b = some o := fun b q => by
    rcases q with rfl | rfl
    · obtain ⟨t, k, g⟩ := d1.d; exact ⟨_, g⟩
    · obtain ⟨t, k, g, _⟩ := d1.r; exact ⟨_, g⟩
  refine ⟨mask h' fun b => !(Nat.beq b D || Nat.beq b R || (U.hT.get? b).isSome), ?_, d1.keep fun b o q e => (keep b (.inl q)).trans e, fun b o e => ?_⟩
  · exact {
      base := fun b o e => by
        rw [keep b (.inr ⟨o, e⟩)]
        exact x b o (by rintro (rfl | rfl); rw [nD] at e; cases e; rw [nR] at e; cases e) (S.ext _ _ (S.base _ _ e))
      ext := mask_ext
      xcin := fun b q => by
        obtain ⟨o, e⟩ := in1 b q
        exact ⟨o, (keep b (.inl q)).trans e⟩
      sub := S.sub
      xin := fun b q => by
        by_cases c : b = D ∨ b = R
        · exact in1 b c
        · obtain ⟨o, e⟩ := S.xin b q; exact ⟨o, x b o c e⟩
      xnew := fun b q => by
        by_cases c : b = D ∨ b = R
        · exact .inl c
        · exact .inr (out b c ((S.xnew b q).resolve_left c))
      ns := let ⟨o, es, ep, e, r⟩ := S.ns; ⟨o, es, ep, x _ _ (nDR _ S.ln) e, r⟩
      xl := S.xl
      ln := out _ (nDR _ S.ln) S.ln
      cel := fun y c e => let ⟨a, b, v, o, g, d⟩ := S.cel y c e; ⟨a, out c (nDR c b) b, v, o, x _ _ (nDR c b) g, d⟩
      capt := S.capt
      at' := fun i y v a b => (S.at' i y v a b).imp id fun ⟨k, c, e, o, g, d⟩ => ⟨k, c, e, o, x _ _ (nDR c (S.cel y c e).2.1) g, d⟩
      sl := fun i y a => by
        have q := S.sl i y a
        revert q
        cases sget ρ i with
        | u => intro _; trivial
        | v d => rintro ⟨v, e, r⟩; exact ⟨v, e, r.ext hout⟩
        | o l2 => rintro ⟨b, vs, n, e, xb, f, g, r⟩; exact ⟨b, vs, n, e, xb, out b (nDR b f) f, x _ _ (nDR b f) g, r.ext hout⟩
        | k l2 => rintro ⟨b, e, xb, f, g⟩; exact ⟨b, e, xb, out b (nDR b f) f, g.keep (fun o q => x _ _ (nDR b f) q) hout⟩
      kd := S.kd
      ow := S.ow }
  · rw [mask_get] at e
    split at e
    · cases e
    · rename_i q
      simp only [Bool.not_eq_true', Bool.not_eq_false, Bool.or_eq_true] at q
      rcases q with (q | q) | q
      · exact .inl (.inl (Nat.eq_of_beq_eq_true q))
      · exact .inl (.inr (Nat.eq_of_beq_eq_true q))
      · exact .inr (Option.isSome_iff_exists.mp q)

/-- the law's frame: what is drawn from lies apart -/
structure DSt (U : Uni) (env : Env) (nm : Nm) (D R : Addr) (X : AS) (h : Heap) (ρ : Store) (h₀ : Heap) (rows : List Int) (seed : Int) : Prop where
  st : St U h₀ (fun b => b = D ∨ b = R) env nm X h ρ
  dr : Draws h₀ D R rows seed
  low : ∀ b o, h₀.get? b = some o → (b = D ∨ b = R) ∨ ∃ o, U.hT.get? b = some o
  nD : U.hT.get? D = none
  nR : U.hT.get? R = none
  dw : sget ρ 1 = .v (ptrd D)
noncomputable def DS (U : Uni) (env : Env) (nm : Nm) (D R : Addr) (X : AS) (h : Heap) (ρ : Store) : Prop := ∃ h₀ rows seed, DSt U env nm D R X h ρ h₀ rows seed

variable {env : Env} {D R : Addr} {X : AS} {h h' : Heap} {ρ : Store}
theorem DS.top (S : DS U env nm D R X h ρ) : Ext U.hT h := let ⟨_, _, _, s⟩ := S; s.st.top
theorem DS.ext' (S : DS U env nm D R X h ρ) (x : Ext h h') : DS U env nm D R X h' ρ := let ⟨a, b, c, s⟩ := S; ⟨a, b, c, s.st.ext' x, s.dr, s.low, s.nD, s.nR, s.dw⟩
theorem DS.xin (S : DS U env nm D R X h ρ) : ∀ b, X b → ∃ o, h.get? b = some o := let ⟨_, _, _, s⟩ := S; s.st.xin
/-- what was drawn from -/
theorem DS.took {rows' : List Int} {seed' : Int} (S : DS U env nm D R X h ρ) (d1 : Draws h' D R rows' seed') (x : ExtO (fun b => b = D ∨ b = R) h h') : DS U env nm D R X h' ρ ∧ Keeps X X h h' := by
  obtain ⟨h₀, rows, seed, s⟩ := S
  obtain ⟨m, σ, S⟩ := s.st
  obtain ⟨h₁, S1, d2, lo⟩ := S.rebase s.dr d1 s.nD s.nR x
  refine ⟨⟨h₁, rows', seed', ⟨m, σ, S1⟩, d2, lo, s.nD, s.nR, s.dw⟩, ⟨fun v d r => r.ext fun b o nx e => x b o (fun q => nx (S.sub b q)) e, fun b o fs e f => x b o ?_ e, fun b o fs xb _ _ => xb⟩⟩
  have dh : Draws h D R rows seed := s.dr.keep fun b o _ e => S.ext b o e
  rintro (rfl | rfl)
  · obtain ⟨t, k, g⟩ := dh.d; rw [g] at e; cases e; cases f
  · obtain ⟨t, k, g, _⟩ := dh.r; rw [g] at e; cases e; cases f
theorem DS.draws (S : DS U env nm D R X h ρ) : ∃ rows seed, Draws h D R rows seed := by
  obtain ⟨h₀, rows, seed, s⟩ := S
  obtain ⟨m, σ, S⟩ := s.st
  exact ⟨rows, seed, s.dr.keep fun b o _ e => S.ext b o e⟩

/-! a drawing, a thing drawn -/
theorem take_eval (H : Us U) (D0 : NmD nm) {e : Expr} {fp p0 pos : Pos} {A : Around} {E : Value → Shared → Prop} {s : Shared} {kk : Int} {d : DE} {Q : Value → Shared → Prop} (h1 : nm[1]? = some (some (Str.ofString "draws")))
    (hk : sc.names.lookup (Str.ofString "_law_take") = some .globalImplicit) (ke : SimE U n sc nm e d) (hn : 1 ≤ n) (hA : AOK n A) (hV : EnvOK sc env) (S : DS U env nm D R X s.heap ρ) (hd : d ρ = some (.int kk)) (h0 : 1 ≤ kk)
    (hst : ∀ env, starEach [.Name "draws" p0, e] env = [(false, eval (.Name "draws" p0) env), (false, eval e env)] := by intro _; with_unfolding_all rfl)
    (hst2 : ∀ env rest, starEach (e :: rest) env = (false, eval e env) :: starEach rest env := by intro _ _; with_unfolding_all rfl)
    (h : ∀ i h' t' t, 0 ≤ i → i < kk → DS U env nm D R X h' ρ → Keeps X X s.heap h' → Q (.int i t) { s with heap := h', toks := t' }) :
    wpAny (model U.prog U.w) A (eval (.Call (.Name "_law_take" fp) [.Name "draws" p0, e] [] pos) env) Q E s := by
  have L := cal_law_take H
  obtain ⟨fa, o, pm, code, doc, hg, ho, hdt, _⟩ := U.fn (dr 40) L.mem
  rw [L.name] at hg
  obtain ⟨h₀, rows, seed, s0⟩ := id S
  refine wpAny_Call_NameR (glob_any hV S.top hk hg L.nd ?_)
  have ka : SimL U n sc nm [.Name "draws" p0, e] (lcons (evar 1) (lcons d lnil)) := SimL.cons (SimE.vr D0 h1) (SimL.cons ke SimL.nil hst2) (by intro _ _; rfl)
  have hv : lcons (evar 1) (lcons d lnil) ρ = some [ptrd D, .int kk] := by
    unfold lcons
    rw [evar_of s0.dw, hd]; rfl
  have K := ka pos A env E s h₀ _ X ρ _ (fun vs s1 => (s1.heap.get? fa = some o ∧ o.data = .func (docDef (dr 40).name (dr 40).params (dr 40).body (dr 40).scope pm code doc)) ∧ wpAny (model U.prog U.w) A (PySem.call (.ref fa) ([] ++ vs) []) Q E s1) hA hV s0.st hv
    fun vs h2 t2 x2 r2 => ⟨⟨x2 _ _ (S.top _ _ ho), hdt⟩, by
      cases r2 with
      | cons ra rb =>
        cases rb with
        | cons rc rd =>
          cases rd
          cases rc
          cases ra
          have S2 := S.ext' x2
          obtain ⟨rows2, seed2, d2⟩ := S2.draws
          refine take_ok H (hA.le hn) S2.top s0.nD s0.nR hg d2 h0 fun i h3 t3 t rows3 seed3 i0 i1 d3 x3 => ?_
          obtain ⟨S3, K3⟩ := S2.took d3 x3
          exact h i h3 t3 t i0 i1 S3 ((Keeps.ext x2).trans K3)⟩
  rw [hst env] at K ⊢
  exact callWith_function (evalArgs_plain K)

theorem pick_eval (H : Us U) (D0 : NmD nm) {f e : Expr} {fp p0 pos ppos : Pos} {A : Around} {E : Value → Shared → Prop} {s : Shared} {l : List PyData} {d : DE} {g : DE} {Q : Value → Shared → Prop} (h1 : nm[1]? = some (some (Str.ofString "draws")))
    (hk : sc.names.lookup (Str.ofString "_law_take") = some .globalImplicit) (kf : SimE U n sc nm f g) (ke : SimE U n sc nm e d) (hn : 1 ≤ n) (hA : AOK n A) (hV : EnvOK sc env) (S : DS U env nm D R X s.heap ρ) (hg : g ρ = some (.list l)) (hd : d ρ = some (.int (l.length : Nat))) (h0 : 1 ≤ l.length) (hb : l.length ≤ 1000)
    (hst : ∀ env, starEach [.Name "draws" p0, e] env = [(false, eval (.Name "draws" p0) env), (false, eval e env)] := by intro _; with_unfolding_all rfl)
    (hst2 : ∀ env rest, starEach (e :: rest) env = (false, eval e env) :: starEach rest env := by intro _ _; with_unfolding_all rfl)
    (hs : ∀ o v, subscripted (.Call (.Name "_law_take" fp) [.Name "draws" p0, e] [] pos) false o v = operate [o, v] (getItem o v) := by intro _ _; with_unfolding_all rfl)
    (h : ∀ v val h' t', v ∈ l → DS U env nm D R X h' ρ → Keeps X X s.heap h' → Rep X h' val v → Q val { s with heap := h', toks := t' }) :
    wpAny (model U.prog U.w) A (eval (.Subscript f (.Call (.Name "_law_take" fp) [.Name "draws" p0, e] [] pos) ppos) env) Q E s := by
  obtain ⟨h₀, rows, seed, s0⟩ := id S
  refine Subscript_ (kf A env E s h₀ _ X ρ _ _ hA hV s0.st hg fun v1 h2 t2 x2 r2 => ?_)
  refine take_eval (s := { s with heap := h2, toks := t2 }) H D0 h1 hk ke hn hA hV (S.ext' x2) hd (by omega) hst hst2 fun i h3 t3 t i0 i1 S3 K3 => ?_
  have r3 := K3.rep _ _ r2
  obtain ⟨a, vs, rfl, g3, rr⟩ : ∃ a vs, v1 = .ref a ∧ h3.IsList a vs ∧ RepL X h3 vs.toList l := by
    cases r3 with
    | list na g c d r => exact ⟨_, _, rfl, ⟨_, g, c.1, _, d⟩, r⟩
  obtain ⟨j, rfl⟩ := Int.eq_ofNat_of_zero_le i0
  have hj : j < l.length := by omega
  obtain ⟨w, hw, rw'⟩ := rr.get (List.getElem?_eq_getElem hj)
  exact tail_any (s := { s with heap := h3, toks := t3 }) g3.typeIs slot_list_getitem.lookup (wpAny_getItem_list g3 (Int.natCast_nonneg j) (by omega) (by simpa using hw)
    (h _ w h3 t3 (List.getElem_mem hj) S3 ((Keeps.ext x2).trans K3) rw')) (hs _ _)

/-- a statement without a drawing -/
theorem DS.sim1 {st : Stmt} {c : C} {A : Around} {E : Value → Shared → Prop} {s : Shared} {ρ' : Store} {Q : Flow → Shared → Prop} (k : Sim1 U n sc nm st c) (hA : AOK n A) (hV : EnvOK sc env) (N : NmOK nm) (S : DS U env nm D R X s.heap ρ)
    (hc : c ρ = some (.nx ρ')) (hw : sget ρ' 1 = .v (ptrd D)) (h : ∀ Y h' t', DS U env nm D R Y h' ρ' → Keeps X Y s.heap h' → Q .next { s with heap := h', toks := t' }) : wpAny (model U.prog U.w) A (exec st env) Q E s := by
  obtain ⟨h₀, rows, seed, s0⟩ := S
  exact k A env E s h₀ _ X ρ _ Q hA hV N s0.st hc fun Y h2 t2 S2 K2 => h Y h2 t2 ⟨h₀, rows, seed, S2, s0.dr, s0.low, s0.nD, s0.nR, hw⟩ K2
theorem DS.freeze {i : Nat} {x : Str} {l : List PyData} (S : DS U env nm D R X h ρ) (hx : nm[i]? = some (some x)) (hl : sget ρ i = .o l) (hi : i ≠ 1) : ∃ Y, DS U env nm D R Y h (sset ρ i (.v (.list l))) ∧ Keeps X Y h h := by
  obtain ⟨h₀, rows, seed, s0⟩ := S
  obtain ⟨m, σ, S⟩ := s0.st
  obtain ⟨Y, sub, sf, S'⟩ := S.freeze hx hl
  exact ⟨Y, ⟨h₀, rows, seed, ⟨m, σ, S'⟩, s0.dr, s0.low, s0.nD, s0.nR, (sget_ne _ _ (Ne.symm hi)).trans s0.dw⟩, Keeps.shrink sub sf⟩
end

/-! H4 -/
section
variable {U : Uni} {n : Nat} {sc : Scope} {nm : Nm}

/-- a loop in whose turns things are drawn -/
theorem DS.for {e tg : Expr} {body : List Stmt} {pos : Pos} {d : DL} {f : PyData → Store → Option Store} {env : Env} {D R : Addr} {X : AS} {ρ : Store} {l : List PyData} {A : Around} {E : Value → Shared → Prop} {s : Shared} {Q : Flow → Shared → Prop}
    {Inv : Store → Prop} {Pre : PyData → Store → Prop} (ki : SimI U true n sc nm e tg d) (kt : AsgOK false U n sc nm tg f)
    (kf : ∀ x ∈ l, ∀ ρ, Inv ρ → sget ρ 1 = .v (ptrd D) → ∃ ρ', f x ρ = some ρ' ∧ Pre x ρ' ∧ sget ρ' 1 = .v (ptrd D))
    (kb : ∀ x ∈ l, ∀ (E : Value → Shared → Prop) (s : Shared) (X : AS) (ρ : Store) (Q : Flow → Shared → Prop), DS U env nm D R X s.heap ρ → Pre x ρ →
      (∀ Y h' t' ρ', DS U env nm D R Y h' ρ' → Inv ρ' → Keeps X Y s.heap h' → Q .next { s with heap := h', toks := t' }) → wpAny (model U.prog U.w) A (execs body env) Q E s)
    (hA : AOK n A) (hV : EnvOK sc env) (N : NmOK nm) (hS : DS U env nm D R X s.heap ρ) (hl : d ρ = some l) (hI : Inv ρ)
    (h : ∀ Y h' t' ρ', DS U env nm D R Y h' ρ' → Inv ρ' → Keeps X Y s.heap h' → Q .next { s with heap := h', toks := t' })
    (hs : ∀ env x, foldedSetIterable e env x = pure x := by intro _ _; with_unfolding_all rfl) : wpAny (model U.prog U.w) A (exec (.For tg e body [] pos) env) Q E s := by
  obtain ⟨h₀, rows, seed, s0⟩ := id hS
  refine wpAny_For (ki A env E s h₀ _ X ρ l _ hA hV s0.st hl fun it S J src hm h1 t1 SR xm x1 fS j1 s1 _ => ?_) (hs env)
  have f0 : ∀ b, S b → s.heap.get? b = none := fun b q => xm.none (fS b q)
  have exDR : ∀ b, (b = D ∨ b = R) → ∃ o, s.heap.get? b = some o := fun b q => by
    obtain ⟨rw, sw, dd⟩ := hS.draws
    rcases q with rfl | rfl
    · obtain ⟨t, k, g⟩ := dd.d; exact ⟨_, g⟩
    · obtain ⟨t, k, g, _⟩ := dd.r; exact ⟨_, g⟩
  have low0 : ∀ {hx : Heap}, (∀ b o, hx.get? b = some o → (b = D ∨ b = R) ∨ ∃ o, U.hT.get? b = some o) → ∀ b, S b → hx.get? b = none := fun lo b q => by
    cases e : Heap.get? _ b with
    | none => rfl
    | some o =>
      rcases lo b o e with q2 | ⟨o2, e2⟩
      · obtain ⟨o3, e3⟩ := exDR b q2; rw [f0 b q] at e3; cases e3
      · have := hS.top _ _ e2; rw [f0 b q] at this; cases this
  have gX : Grow X (fun b => X b ∨ S b) s.heap := ⟨fun b q => .inl q, fun b q => q.imp id (f0 b)⟩
  have gXm : Grow X (fun b => X b ∨ S b) hm := ⟨fun b q => .inl q, fun b q => q.imp id (fS b)⟩
  have nl : ∀ {k : Nat} {hh : Heap}, J k hh → ∀ b vs k', S b → hh.get? b ≠ some (lstObj vs k') := by
    intro k hh j b vs k' q e
    obtain ⟨o, g, w⟩ := SR.jd k hh b j q
    obtain ⟨fs, w⟩ := w rfl
    rw [g] at e; cases e; cases w
  have nd : ∀ {k : Nat} {hh : Heap} {Y : AS}, J k hh → ∀ b l', S b → ¬ DictAt U Y hh b l' := by
    intro k hh Y j b l' q dd
    obtain ⟨o, g, w⟩ := SR.jd k hh b j q
    obtain ⟨fs, w⟩ := w rfl
    obtain ⟨o', es, ep, g', d'⟩ := dd.data
    rw [g] at g'; cases g'; rw [w] at d'; cases d'
  have nL : ∀ {hh hx : Heap} {Xc Y : AS} {ρ' : Store} {m σ}, StC U hx Xc env nm Y hh ρ' m σ → ∀ {k : Nat}, J k hh → ¬ S env.locals := by
    intro hh hx Xc Y ρ' m σ S1 k j q
    obtain ⟨o, g, w⟩ := SR.jd k hh _ j q
    obtain ⟨fs, w⟩ := w rfl
    obtain ⟨o', es, ep, g', d', _⟩ := S1.ns
    rw [g] at g'; cases g'; rw [w] at d'; cases d'
  have nC : ∀ {hh hx : Heap} {Xc Y : AS} {ρ' : Store} {m σ}, StC U hx Xc env nm Y hh ρ' m σ → ∀ {k : Nat}, J k hh → ∀ y c, env.cells.lookup y = some c → ¬ S c := by
    intro hh hx Xc Y ρ' m σ S1 k j y c hc q
    obtain ⟨o, g, w⟩ := SR.jd k hh _ j q
    obtain ⟨fs, w⟩ := w rfl
    obtain ⟨_, _, v, o', g', d'⟩ := S1.cel y c hc
    rw [g] at g'; cases g'; rw [w] at d'; cases d'
  obtain ⟨m, σ, S0⟩ := id s0.st
  have S1 : StC U h₀ (fun b => b = D ∨ b = R) env nm (fun b => X b ∨ S b) h1 ρ m σ := S0.alloc (xm.trans x1) gX fun b q => by
    rcases q with q | q
    · obtain ⟨o, e⟩ := S0.xin b q; exact ⟨o, x1 _ _ (xm _ _ e)⟩
    · obtain ⟨o, e, _⟩ := SR.jd 0 h1 b j1 q; exact ⟨o, e⟩
  have D1 : DS U env nm D R (fun b => X b ∨ S b) h1 ρ := ⟨h₀, rows, seed, ⟨m, σ, S1⟩, s0.dr, s0.low, s0.nD, s0.nR, s0.dw⟩
  have K1 : Keeps X (fun b => X b ∨ S b) s.heap h1 := Keeps.alloc gX (xm.trans x1)
  have s1' : src (fun b => X b ∨ S b) h1 := SR.se _ _ _ (SR.sg _ _ _ s1 gXm) x1
  refine codeAny_forLoopG (fun w s' => ∃ (k : Nat) (Y : AS) (h' : Heap) (t' : Nat) (ρ' : Store), w = l.length + 1 - k ∧ k ≤ l.length ∧ s' = { s with heap := h', toks := t' } ∧ DS U env nm D R Y h' ρ' ∧ Inv ρ' ∧ (∀ b, S b → Y b) ∧ Keeps X Y s.heap h' ∧ J k h' ∧ src Y h')
    ?_ (l.length + 1) ⟨0, _, h1, t1, ρ, by simp, Nat.zero_le _, rfl, D1, hI, fun b q => .inr q, K1, j1, s1'⟩
  rintro w _ ⟨k, Y, h2, t2, ρ2, rfl, hk, rfl, DD2, I2, sy, K2, j2, s2⟩
  obtain ⟨hx, rows2, seed2, z2⟩ := id DD2
  obtain ⟨m2, σ2, S2⟩ := id z2.st
  have f00 := low0 z2.low
  have step := SR.next A (notedBy (model U.prog U.w) A env fun e s' => cameBackBy (model U.prog U.w) A env E e s') { s with heap := h2, toks := t2 } Y k
  cases hd : l[k]? with
  | none =>
    have fin := step (fun r s' => match r with
      | none => Q .next s'
      | some _ => False) hA.1 sy S2.xin j2 s2 (by
        rw [hd]
        intro h3 t3 out
        have S3 := S2.drop (h' := h3) sy f00 (nl j2) (nL S2 j2) (nC S2 j2) (fun i x a hx ow ea q => by
          have z := S2.sl i x hx
          revert z ow
          cases hq : sget ρ2 i with
          | u => intro ow; cases ow
          | v d => intro ow; cases ow
          | o l => rintro _ ⟨b, vs, n, e', x', f', g', _⟩; rw [ea] at e'; cases e'; exact nl j2 _ _ _ q g'
          | k l => rintro _ ⟨b, e', x', f', g'⟩; rw [ea] at e'; cases e'; exact nd j2 _ _ q g') out
        refine h _ h3 t3 ρ2 ⟨hx, rows2, seed2, ⟨m2, σ2, S3⟩, z2.dr, z2.low, z2.nD, z2.nR, z2.dw⟩ I2 ⟨fun v d q => ((Keeps.step sy out) v d (K2.rep v d q)).shrink (fun b q => q.1), (fun b o fs e q => out b o (fun z => by rw [f0 b z] at e; cases e) (K2.fld b o fs e q)), fun b o fs x e q => ⟨K2.set b o fs x e q, fun z => by rw [f0 b z] at e; cases e⟩⟩)
    refine wpAny_mono fin (fun r s' h' => ?_) fun _ _ e => e
    cases r with
    | none => exact wpAny_execs_nil h'
    | some v => exact wpAny_mono h' (fun _ _ f => f.elim) fun _ _ e => e
  | some d =>
    have hk1 : k < l.length := (List.getElem?_eq_some_iff.mp hd).1
    have hmem : d ∈ l := List.mem_of_getElem? hd
    obtain ⟨ρ3, hf, pre3, w3⟩ := kf d hmem ρ2 I2 z2.dw
    have turn := step (fun rv s' => match rv with
      | none => False
      | some v => wpAny (model U.prog U.w) A (assign tg env v) (fun _ s₂ => wpAny (model U.prog U.w) A (execs body env) (fun fl s₃ => match fl with
        | .next | .cont => ∃ m', m' < l.length + 1 - k ∧ ∃ (k : Nat) (Y : AS) (h' : Heap) (t' : Nat) (ρ' : Store), m' = l.length + 1 - k ∧ k ≤ l.length ∧ s₃ = { s with heap := h', toks := t' } ∧ DS U env nm D R Y h' ρ' ∧ Inv ρ' ∧ (∀ b, S b → Y b) ∧ Keeps X Y s.heap h' ∧ J k h' ∧ src Y h'
        | .brk => Q .next s₃
        | .ret v => Q (.ret v) s₃) (notedBy (model U.prog U.w) A env fun e s' => cameBackBy (model U.prog U.w) A env E e s') s₂) (notedBy (model U.prog U.w) A env fun e s' => cameBackBy (model U.prog U.w) A env E e s') s') hA.1 sy S2.xin j2 s2 (by
        rw [hd]
        intro val h3 t3 j3 r3 out
        have S3 := S2.step (h' := h3) sy f00 (nl j2) (nd j2) (nL S2 j2) (nC S2 j2) out fun b q => let ⟨o, g, _⟩ := SR.jd _ h3 b j3 q; ⟨o, g⟩
        have K3 : Keeps X Y s.heap h3 := ⟨fun v d q => (Keeps.step sy out) v d (K2.rep v d q), (fun b o fs e q => out b o (fun z => by rw [f0 b z] at e; cases e) (K2.fld b o fs e q)), K2.set⟩
        have s3 : src Y h3 := SR.sk rfl Y Y h2 h3 s2 (Keeps.step sy out)
        refine kt A env _ { s with heap := h3, toks := t3 } hx _ Y ρ2 ρ3 val d _ hA hV N ⟨m2, σ2, S3⟩ r3 hf fun h4 t4 S4 K4 X4 => ?_
        have s4 := SR.sk rfl Y Y h3 h4 s3 K4.rep
        have jf : ∀ {k' : Nat} {ha hb : Heap} {Ya Yb : AS}, J k' ha → Keeps Ya Yb ha hb → J k' hb := fun j K => SR.jk _ _ _ j fun b o q e => by
          obtain ⟨o', e', w⟩ := SR.jd _ _ b j q
          obtain ⟨fs, w⟩ := w rfl
          rw [e'] at e; cases e
          exact K.fld b _ fs e' w
        have j4 : J (k + 1) h4 := jf j3 K4
        refine kb d hmem _ { s with heap := h4, toks := t4 } Y ρ3 _ ⟨hx, rows2, seed2, S4, z2.dr, z2.low, z2.nD, z2.nR, w3⟩ pre3 fun Z h5 t5 ρ5 S5 I5 K5 => ?_
        refine ⟨l.length + 1 - (k + 1), by omega, k + 1, Z, h5, t5, ρ5, rfl, hk1, rfl, S5, I5, fun b q => ?_, (K3.trans K4).trans K5, jf j4 K5, SR.sk rfl Y Z h4 h5 s4 K5.rep⟩
        obtain ⟨o, e, w⟩ := SR.jd _ h4 b j4 q
        obtain ⟨fs, w⟩ := w rfl
        exact K5.set b o fs (sy b q) e w)
    refine wpAny_mono turn (fun rv s' h' => ?_) fun _ _ e => e
    cases rv with
    | none => exact h'.elim
    | some v => exact h'

/-- the first of the frame's places -/
theorem StC.enter {h₀ h : Heap} {Xc X : AS} {env : Env} {ρ : Store} {m : Str → Option Value} {σ : Nat → Option Value} {D R : Addr} {rows : List Int} {seed : Int} (S : StC U h₀ Xc env nm X h ρ m σ) (nx : ∀ b, ¬ Xc b) (no : NoOwn ρ)
    (d1 : Draws h D R rows seed) (hD : X D) (hR : X R) (nL : ∀ b, (b = D ∨ b = R) → env.locals ≠ b) (nC : ∀ y c, env.cells.lookup y = some c → ¬ (c = D ∨ c = R)) :
    ∃ h₁, StC U h₁ (fun b => b = D ∨ b = R) env nm X h ρ m σ ∧ Draws h₁ D R rows seed ∧ ∀ b o, h₁.get? b = some o → (b = D ∨ b = R) ∨ ∃ o, U.hT.get? b = some o := by
  have keep : ∀ b, (b = D ∨ b = R) ∨ (∃ o, U.hT.get? b = some o) → (mask h fun b => !(Nat.beq b D || Nat.beq b R || (U.hT.get? b).isSome)).get? b = h.get? b := fun b q => by
    rw [mask_get, if_neg]
    simp only [Bool.not_eq_true', Bool.not_eq_false, Bool.or_eq_true]
    rcases q with (rfl | rfl) | ⟨o, e⟩
    · exact .inl (.inl (Nat.beq_refl _))
    · exact .inl (.inr (Nat.beq_refl _))
    · exact .inr (by rw [e]; rfl)
  have out : ∀ b, ¬ (b = D ∨ b = R) → h₀.get? b = none → (mask h fun b => !(Nat.beq b D || Nat.beq b R || (U.hT.get? b).isSome)).get? b = none := fun b q e => by
    rw [mask_get, if_pos]
    have e1 : U.hT.get? b = none := S.base.none e
    simp only [not_or] at q
    simp only [e1, Bool.not_eq_true', Bool.or_eq_false_iff]
    have nb : ∀ x : Nat, b ≠ x → Nat.beq b x = false := fun x q => by
      cases hb : Nat.beq b x with
      | false => rfl
      | true => exact absurd (Nat.eq_of_beq_eq_true hb) q
    exact ⟨⟨nb D q.1, nb R q.2⟩, rfl⟩
  refine ⟨mask h fun b => !(Nat.beq b D || Nat.beq b R || (U.hT.get? b).isSome), ?_, d1.keep fun b o q e => (keep b (.inl q)).trans e, fun b o e => ?_⟩
  · exact {
      base := fun b o e => by
        rw [keep b (.inr ⟨o, e⟩)]
        exact S.ext _ _ (S.base _ _ e)
      ext := mask_ext
      xcin := fun b q => by
        have : ∃ o, h.get? b = some o := by
          rcases q with rfl | rfl
          · obtain ⟨t, k, g⟩ := d1.d; exact ⟨_, g⟩
          · obtain ⟨t, k, g, _⟩ := d1.r; exact ⟨_, g⟩
        obtain ⟨o, e⟩ := this
        exact ⟨o, (keep b (.inl q)).trans e⟩
      sub := fun b q => by rcases q with rfl | rfl <;> assumption
      xin := S.xin
      xnew := fun b q => by
        by_cases c : b = D ∨ b = R
        · exact .inl c
        · exact .inr (out b c ((S.xnew b q).resolve_left (nx b)))
      ns := S.ns
      xl := S.xl
      ln := out _ (fun q => nL _ q rfl) S.ln
      cel := fun y c e => let ⟨a, b, v, d⟩ := S.cel y c e; ⟨a, out c (nC y c e) b, v, d⟩
      capt := S.capt
      at' := S.at'
      sl := fun i y a => by
        have q := S.sl i y a
        have ni := no i
        revert q ni
        cases sget ρ i with
        | u => intro _ _; trivial
        | v d => rintro ⟨v, e, r⟩ _; exact ⟨v, e, r⟩
        | o l2 => intro _ ni; cases ni
        | k l2 => intro _ ni; cases ni
      kd := S.kd
      ow := S.ow }
  · rw [mask_get] at e
    split at e
    · cases e
    · rename_i q
      simp only [Bool.not_eq_true', Bool.not_eq_false, Bool.or_eq_true] at q
      rcases q with (q | q) | q
      · exact .inl (.inl (Nat.eq_of_beq_eq_true q))
      · exact .inl (.inr (Nat.eq_of_beq_eq_true q))
      · exact .inr (Option.isSome_iff_exists.mp q)
end

/-! H6 -/

/-! the text's own exception: made by its __init__ -/
noncomputable def excBm : List Value := [.type "Exception", .type "BaseException", .type "object"]
/-- what the class's objects are -/
structure ClsF (U : Uni) (C N fI : Addr) : Prop where
  cls : ∃ bs sn sub ab col dd k0 k1 k2 k3 k5, U.hT.get? C = some (excClassObj "CasFail" "CasFail" C N bs excBm true sn sub ab col dd k0 k1 k2 k3 k5 "Exception.__new__")
  ns : ∃ mN, U.hT.Ns N mN ∧ mN "__init__" = some (.ref fI) ∧ mN "__setattr__" = none ∧ mN "kind" = none ∧ mN "text" = none
  fn : ∃ oI pm cd doc, U.hT.get? fI = some oI ∧ oI.cls = .type "function" ∧ oI.data = .func (methDef "__init__" "CasFail.__init__" initR.params initR.body initR.scope pm cd doc) ∧ U.hT.CodeRec cd "CasFail.__init__"
  g : U.mg "CasFail" = some (.ref C)

section
variable {U : Uni}
theorem find_init : findCls [] (.type "Exception") (.type "type") "__init__" = some (.val (.builtin "Exception.__init__")) := by kernel_rfl
theorem getMethod_init {A : Around} {E : Value → Shared → Prop} {s : Shared} {pl : Sem Bool} {Q : Value × List Value → Shared → Prop} (h : Q (.builtin "Exception.__init__", []) { s with toks := s.toks + 1 }) :
    wpAny (model U.prog U.w) A (getMethod (.type "Exception") "__init__" pl) Q E s := by
  have X : Frag.In [] s.heap := fun a o hp => by cases hp
  have hstub : opaqueClassAbove (.type "Exception") = pure none := by unfold opaqueClassAbove; dsimp only; rw [show Manifest.isStub "Exception" = false from by decide +kernel]; rfl
  have L0 : Looks (model U.prog U.w) s.heap (typeOf (.type "Exception")) (.type "type") := Looks.of_pure (by first | rfl | kernel_rfl)
  have hg : findIn [] (.type "type") "__getattribute__" = some (some (.builtin "type.__getattribute__")) := type_tga
  unfold getMethod specialOf
  refine wpAny_bind (wpAny_bind (L0.here ((looks_findIn X hg).here ?_)))
  dsimp only
  rw [if_pos canon_tga]
  refine wpAny_bind (wpAny_mono (Q := fun v => Q (v, [])) (E := E) ?_ (fun _ _ z => wpAny_pure z) fun _ _ z => z)
  have LO : Looks (model U.prog U.w) s.heap (opaqueClassAbove (.type "Exception")) none := Looks.of_pure hstub
  have hh : handedIn (.builtin "Exception.__init__") = true := by decide +kernel
  refine cls_open X LO L0 hg (looks_hook X (r := none) (by rfl)) (by show subIn [] _ _ = _; rfl) find_init
    (wpAny_pure (by show wpAny _ _ (handedOut (.builtin "Exception.__init__")) _ _ _; rw [handedOut_of hh]; exact wpAny_pure h))

theorem callAttr {A : Around} {E : Value → Shared → Prop} {s : Shared} {env : Env} {o : PySem.Expr} {name : Str} {apos pos : Pos} {args : List PySem.Expr} {Q : Value → Shared → Prop}
    (hbase : attributeBase o name env (eval o env) = eval o env)
    (hfew : ((backTo pos (starEach args env)).all (fun x => !x.1) && (backToKw pos (keywordEach [] env)).all (fun x => x.1.isSome)
      && decide (args.length + ([] : List Keyword).length + (if ([] : List Keyword).isEmpty then 0 else 1) < 30)) = true)
    (hline : (apos.endLine == pos.line) = true)
    (h : wpAny (model U.prog U.w) A (eval o env) (fun ov s₁ => ∀ pl, wpAny (model U.prog U.w) A (getMethod ov name pl) (fun fx s₂ => wpAny (model U.prog U.w) A (callWith pos fx.1 fx.2 (backTo pos (starEach args env)) []) Q E s₂) E s₁) E s) :
    wpAny (model U.prog U.w) A (eval (.Call (.Attribute o name apos) args [] pos) env) Q E s := by
  rw [arm_eval_Call, hbase]
  refine wpAny_bind (wpAny_mono h (fun ov s₁ h₁ => ?_) fun _ _ e => e)
  refine wpAny_bind (wpAny_standAt ?_)
  have hform : methodCallForm (args.length + ([] : List Keyword).length) (backTo pos (starEach args env)) (backToKw pos (keywordEach [] env)) = true := hfew
  have hpos : methodCallPos true o env apos pos = pure pos := by unfold methodCallPos; simp [hline]
  unfold methodCall
  rw [hform]
  refine wpAny_bind (wpAny_holding (wpAny_mono (h₁ _) (fun fx s₂ h₂ => ?_) fun _ _ x => x))
  exact wpAny_bind (wpAny_of_eq hpos h₂)

/-- Exception.__init__ upon an object of the class -/
theorem exc_init_call {A : Around} {E : Value → Shared → Prop} {s : Shared} {C N fI e t0 : Addr} {v : Value} {Q : Value → Shared → Prop} (Z : ClsF U C N fI) (hT : Ext U.hT s.heap)
    (he : s.heap.get? e = some { cls := .ref C, data := .fields #[.ref t0, .none, .none, .none, .bool false, .none] })
    (h : ∀ h' t1, (∀ b o, b ≠ e → s.heap.get? b = some o → h'.get? b = some o) → h'.get? e = some { cls := .ref C, data := .fields #[.ref t1, .none, .none, .none, .bool false, .none] } → Q .none { s with heap := h' }) :
    wpAny (model U.prog U.w) A (call (.builtin "Exception.__init__") [.ref e, v] []) Q E s := by
  obtain ⟨bs, sn, sub, ab, col, dd, k0, k1, k2, k3, k5, hC⟩ := Z.cls
  have hC := hT _ _ hC
  obtain ⟨hh, g, d, tk, os⟩ := s
  refine wpAny_call (codeAny_call_builtin PySem.F.excBase_Exception.init.plain PySem.F.excBase_Exception.initEntry (wpAny_check_init_sub PySem.F.excBase_Exception hC he rfl ?_))
  wp_walk
  refine h _ hh.objs.size (fun b o hb g => ?_) ?_
  · rw [Heap.get?_update_other _ _ (Ne.symm hb)]
    exact Heap.get?_push_of_some _ g
  · rw [Heap.get?_update_self _ (Heap.get?_push_of_some _ he) rfl]
    rfl

section
open PySem.Builtin PySem.Builtin.ObjectAttr
variable {A : Around} {E : Value → Shared → Prop} {h : Heap} {g : Array GenState} {d : Drawn} {t : Nat} {os : OsState}
variable {nm q : Str} {C N x : Addr} {bs bm : List Value} {sn : List Str} {sub : List Value} {ab : Bool} {col : Option Bool} {dd : Option Addr} {k0 k1 k2 k3 k5 : Option Value} {B newId sa owner : String} {mN : Str → Option Value} {name : Str} {v : Value} {o : Obj}
/-- the first thing stored upon an object makes its dict, and the dict is new -/
theorem first_store {Q : Unit → Shared → Prop} (SF : StoreFacts B bm sa owner) (hC : h.get? C = some (excClassObj nm q C N bs bm true sn sub ab col dd k0 k1 k2 k3 k5 newId)) (hn : h.Ns N mN) (hns : mN "__setattr__" = none) (hna : mN name = none)
    (hB : typeLookup (.type B) name = pure none) (hx : h.get? x = some o) (hc : o.cls = .ref C) (hdn : o.dict = none) (hnc : ∀ c, o.data ≠ .cls c) (hnf : o.data ≠ .freed)
    (hq : ∀ h' tk', (∀ b ob, b ≠ x → h.get? b = some ob → h'.get? b = some ob) → h'.get? x = some { cls := o.cls, dict := some h.objs.size, data := o.data, slots := o.slots } → h'.Ns1 h.objs.size (fun y => if y = name then some v else none) → Q () ⟨h', g, d, tk', os⟩) :
    wpAny (model U.prog U.w) A (setAttr (.ref x) name v) Q E ⟨h, g, d, t, os⟩ := by
  have f3 := SF.slot.bind (.ref x)
  have hpass := SF.passes (.ref x)
  have lt : x < h.objs.size := Heap.lt_size hx
  unfold setAttr callSpecial? specialOf
  repeat (any_goals (first | assumption | (with_reducible refine wpAny_loadPart_at hx ?_; rw [hc]) | (with_reducible refine wpAny_typeLookup_exc hC hn SF.mro SF.slot.lookup ?_; rw [hns]) | wp_step))
  refine codeAny_call_builtin SF.slot.plain SF.entry (wpAny_check_sa SF hC hx hc ?_)
  unfold Builtin.«object.__setattr__»
  repeat (first | rw [refuse_eq] | (rw [refuseLoop_ref, hpass]) | (with_reducible refine wpAny_loadPart_at hx ?_; rw [hc]) | with_reducible refine wpAny_mroOf_exc hC ?_ | (with_reducible refine wpAny_typeLookup_exc hC hn SF.mro hB ?_; rw [hna]) | wp_step)
  rw [hdn, if_neg (by simp [typeHasDict])]
  split
  · rename_i z
    cases z
  split
  · rename_i c z
    exact absurd z (hnc c)
  have hx1 : (h.push { cls := .type "dict", data := .dict #[] }).get? x = some o := Heap.get?_push_of_some _ hx
  refine wpAny_bind (wpAny_alloc' (wpAny_bind (wpAny_update' hx1 (wpAny_pure ?_))))
  have gx : ((h.push { cls := .type "dict", data := .dict #[] }).update x fun o => { cls := o.cls, dict := some h.objs.size, data := o.data, slots := o.slots }).get? x = some { cls := o.cls, dict := some h.objs.size, data := o.data, slots := o.slots } := by
    refine Heap.get?_update_self _ hx1 ?_
    obtain ⟨oc, od, odt, osl⟩ := o
    cases odt <;> first | rfl | exact absurd rfl hnf
  have gd : ((h.push { cls := .type "dict", data := .dict #[] }).update x fun o => { cls := o.cls, dict := some h.objs.size, data := o.data, slots := o.slots }).get? h.objs.size = some { cls := .type "dict", data := .dict #[] } :=
    (Heap.get?_update_ne _ _ _ _ (Nat.ne_of_gt lt)).trans (Heap.get?_push_at rfl rfl)
  have gb : ∀ b ob, b ≠ x → h.get? b = some ob → ((h.push { cls := .type "dict", data := .dict #[] }).update x fun o => { cls := o.cls, dict := some h.objs.size, data := o.data, slots := o.slots }).get? b = some ob :=
    fun b ob nb e => (Heap.get?_update_ne _ _ _ _ nb).trans (Heap.get?_push_of_some _ e)
  generalize ((h.push { cls := .type "dict", data := .dict #[] }).update x fun o => { cls := o.cls, dict := some h.objs.size, data := o.data, slots := o.slots }) = h1 at gx gd gb ⊢
  show wpAny _ _ (storeInDict h.objs.size (.str name _) name v) _ _ _
  unfold storeInDict newKeyGuard
  refine wpAny_bind (wpAny_pure (wpAny_bind (wpAny_nsSet1 (Heap.Ns1.of_empty ⟨_, #[], _, gd, rfl, fun e he => absurd he (by simp), fun _ => rfl⟩) fun h2 n2 s2 => ?_)))
  obtain ⟨oD, esD, epD, hoD, hdD, hcD⟩ := n2.count (Within.cons name v Within.nil)
  refine wpAny_bind (wpAny_lookBehind hoD (by rw [hdD]; exact pastItsLine_dict (Nat.le_trans hcD (by rw [List.length_cons, List.length_nil, sizeLine_eq]; omega))) ?_)
  repeat (any_goals (first | assumption | wp_step))
  exact hq h2 _ (fun b ob nb e => (s2.2 b (Nat.ne_of_lt (Heap.lt_size e))).trans (gb b ob nb e)) ((s2.2 x (Nat.ne_of_lt lt)).trans gx) n2
end
end

/-! H7 -/
section
variable {U : Uni}
noncomputable def SaneExc (C t1 : Addr) (oe : Obj) : Prop := oe.cls = .ref C ∧ oe.data = .fields #[.ref t1, .none, .none, .none, .bool false, .none]
set_option maxHeartbeats 400000 in
theorem init_call {A : Around} {E : Value → Shared → Prop} {s : Shared} {C N fI e t0 : Addr} {sk sx : Str} {tk tx : Tok} {Q : Value → Shared → Prop} (Z : ClsF U C N fI) (hT : Ext U.hT s.heap) (hd : A.depth < recursionLimit)
    (he : s.heap.get? e = some { cls := .ref C, data := .fields #[.ref t0, .none, .none, .none, .bool false, .none] }) (ne : U.hT.get? e = none) (hsz : sk.length + sx.length ≤ 1000)
    (h : ∀ h' t', (∀ b o, b ≠ e → s.heap.get? b = some o → h'.get? b = some o) → (∃ oe t1, h'.get? e = some oe ∧ SaneExc C t1 oe) → Q .none { s with heap := h', toks := t' }) :
    wpAny (model U.prog U.w) A (call (.ref fI) [.ref e, .str sk tk, .str sx tx] []) Q E s := by
  obtain ⟨bs, sn, sub, ab, col, dd, k0, k1, k2, k3, k5, hC⟩ := Z.cls
  obtain ⟨mN, hN, hni, hns, hnk, hnt⟩ := Z.ns
  obtain ⟨oI, pm, cd, doc, hfI, hfc, hfd, hcd⟩ := Z.fn
  have kf : initR.scope.kind = .function := by kernel_rfl
  refine wpAny_call (codeAny_call_def (fd := methDef "__init__" "CasFail.__init__" initR.params initR.body initR.scope pm cd doc) (body := initR.body) (binds := [("self", .ref e), ("kind", .str sk tk), ("text", .str sx tx)]) hd (hT _ _ hfI) hfd (U.nl.keeps hT) (hcd.keeps hT) rfl (.of_eq (by kernel_rfl))
    (by show ∀ x ∈ initR.scope.names, x.2 ≠ .cell; decide +kernel) ?loc (fun h₁ hns₁ hk₁ => ?_) (by kernel_rfl) (by kernel_rfl) kf)
  case loc =>
    show ∀ x ∈ ([("self", Value.ref e), ("kind", .str sk tk), ("text", .str sx tx)] : List (Str × Value)), initR.scope.names.lookup x.1 = some .local
    intro x hx
    simp only [List.mem_cons, List.not_mem_nil, or_false] at hx
    rcases hx with rfl | rfl | rfl <;> (dsimp only; decide +kernel)
  have V : EnvOK initR.scope (callEnv (methDef "__init__" "CasFail.__init__" initR.params initR.body initR.scope pm cd doc) s.heap.objs.size fI) :=
    ⟨rfl, kf, rfl, rfl, fun x q => absurd rfl ((by decide +kernel : ∀ x ∈ initR.scope.names, x.2 ≠ .cell) _ (mem_of_lookup q))⟩
  have F0 : h₁.Ns (callEnv (methDef "__init__" "CasFail.__init__" initR.params initR.body initR.scope pm cd doc) s.heap.objs.size fI).locals _ := hns₁
  have eL : (callEnv (methDef "__init__" "CasFail.__init__" initR.params initR.body initR.scope pm cd doc) s.heap.objs.size fI).locals = s.heap.objs.size := rfl
  generalize (A.deeper (callEnv (methDef "__init__" "CasFail.__init__" initR.params initR.body initR.scope pm cd doc) s.heap.objs.size fI)) = A'
  generalize callEnv (methDef "__init__" "CasFail.__init__" initR.params initR.body initR.scope pm cd doc) s.heap.objs.size fI = env at V F0 eL ⊢
  obtain ⟨m, F0, m1, m2, m3⟩ : ∃ m : Str → Option Value, h₁.Ns env.locals m ∧ m "self" = some (.ref e) ∧ m "kind" = some (.str sk tk) ∧ m "text" = some (.str sx tx) := ⟨_, F0, rfl, rfl, rfl⟩
  generalize (s.toks + _) = u1
  clear hns₁
  have l1 : env.kindOf "self" = some .local := (kindOf_sc V _).trans (by decide +kernel)
  have l2 : env.kindOf "kind" = some .local := (kindOf_sc V _).trans (by decide +kernel)
  have l3 : env.kindOf "text" = some .local := (kindOf_sc V _).trans (by decide +kernel)
  have T1 : Ext U.hT h₁ := hT.trans hk₁
  have e1 := hk₁ _ _ he
  have eN : e ≠ env.locals := by
    rintro rfl
    rw [eL, get_size] at he; cases he
  have fL : s.heap.get? env.locals = none := by rw [eL]; exact get_size _
  have S1 : ∀ b o, s.heap.get? b = some o → h₁.get? b = some o := hk₁
  clear hk₁ eL
  -- Exception.__init__(self, kind + ': ' + text)
  refine wpAny_execs_cons ?_
  refine (wpAny_Expr ?_ ?i1 ?i2 : wpAny _ _ _ _ _ _)
  case i1 => unfold interactive; rw [V.es, kf]; rfl
  case i2 => rfl
  refine (callAttr ?a1 ?a2 ?a3 ?_ : wpAny _ _ _ _ _ _)
  case a1 => rfl
  case a2 => rfl
  case a3 => rfl
  refine (boot_any (U := U) (s := { s with heap := h₁, toks := _ }) V T1 (by decide +kernel) (by decide +kernel) (by decide +kernel) PyProof.Rows.Boot.«Exception» (by decide +kernel) ?_ : wpAny _ _ _ _ _ _)
  intro pl
  refine (getMethod_init ?_ : wpAny _ _ _ _ _ _)
  refine (Calls.callWith_builtin ?b1 (evalArgs_plain ?_) : wpAny _ _ _ _ _ _)
  case b1 => rfl
  refine spliced_cons ?_
  refine (wpAny_Name (load_name (s := { s with heap := h₁, toks := _ }) V F0 (.inl ⟨l1, m1⟩) (by decide +kernel) ?_) (by decide +kernel) : wpAny _ _ _ _ _ _)
  refine spliced_cons ?_
  refine (wpAny_BinOp ?_ : wpAny _ _ _ _ _ _)
  refine (wpAny_BinOp ?_ : wpAny _ _ _ _ _ _)
  refine (wpAny_Name (load_name (s := { s with heap := h₁, toks := _ }) V F0 (.inl ⟨l2, m2⟩) (by decide +kernel) ?_) (by decide +kernel) : wpAny _ _ _ _ _ _)
  refine (wpAny_Constant_str ?_ : wpAny _ _ _ _ _ _)
  have c2 : (": " : Str).length = 2 := by decide +kernel
  refine (PyProof.Rows.add_str ?ad ?az : wpAny _ _ _ _ _ _)
  case az => rw [sizeLine_eq, c2]; omega
  intro ta ka
  refine (wpAny_Name (load_name (s := { s with heap := h₁, toks := _ }) V F0 (.inl ⟨l3, m3⟩) (by decide +kernel) ?_) (by decide +kernel) : wpAny _ _ _ _ _ _)
  refine (PyProof.Rows.add_str ?bd ?bz : wpAny _ _ _ _ _ _)
  case bz => rw [sizeLine_eq, Str.length_append, c2]; omega
  intro tb kb
  refine spliced_nil ?_
  refine (exc_init_call (s := { s with heap := h₁, toks := kb }) Z T1 e1 ?xi : wpAny _ _ _ _ _ _)
  intro h2 t1 k2 e2
  dsimp only
  have F2 : h2.Ns env.locals m := let ⟨o, es, ep, g, r⟩ := F0; ⟨o, es, ep, k2 _ _ (Ne.symm eN) g, r⟩
  have T2 : Ext U.hT h2 := fun b o g => k2 b o (by rintro rfl; rw [ne] at g; cases g) (T1 b o g)
  have S2 : ∀ b o, b ≠ e → s.heap.get? b = some o → h2.get? b = some o := fun b o q g => k2 b o q (S1 b o g)
  clear k2 e1 F0 T1 S1 he
  -- self.kind = kind
  refine wpAny_execs_cons ?_
  refine (plainObj_wpAny_Assign_Attribute ?v1 ?v2 : wpAny _ _ _ _ _ _)
  case v2 => rfl
  refine (wpAny_Name ?n1 ?n2 : wpAny _ _ _ _ _ _)
  case n2 => decide +kernel
  refine (load_name (s := { s with heap := h2, toks := kb }) V F2 (.inl ⟨l2, m2⟩) ?n3 ?n4 : wpAny _ _ _ _ _ _)
  case n3 => decide +kernel
  refine (wpAny_Name ?n5 ?n6 : wpAny _ _ _ _ _ _)
  case n6 => decide +kernel
  refine (load_name (s := { s with heap := h2, toks := kb }) V F2 (.inl ⟨l1, m1⟩) ?n7 ?n8 : wpAny _ _ _ _ _ _)
  case n7 => decide +kernel
  have nk : typeLookup (.type "Exception") "kind" = pure none := by rw [typeLookup_type, builtinLookup_eq_fast]; kernel_rfl
  have nt : typeLookup (.type "Exception") "text" = pure none := by rw [typeLookup_type, builtinLookup_eq_fast]; kernel_rfl
  refine (first_store (h := h2) PySem.F.store_Exception (T2 _ _ hC) (hN.keeps T2) hns hnk nk e2 rfl rfl ?f1 ?f2 ?f3 : wpAny _ _ _ _ _ _)
  case f1 => intro c q; cases q
  case f2 => intro q; cases q
  intro h3 tk3 k3' e3 n3
  dsimp only
  have D0 : s.heap.get? h2.objs.size = none := by
    cases q : s.heap.get? h2.objs.size with
    | none => rfl
    | some o =>
      by_cases z : h2.objs.size = e
      · rw [z] at q
        have := Heap.lt_size e2
        rw [z] at this
        exact absurd this (Nat.lt_irrefl _)
      · exact absurd (Heap.lt_size (S2 _ _ z q)) (Nat.lt_irrefl _)
  have dL : env.locals ≠ h2.objs.size := by
    intro z
    obtain ⟨o, es, ep, g, r⟩ := F2
    rw [z] at g
    exact absurd (Heap.lt_size g) (Nat.lt_irrefl _)
  have de : h2.objs.size ≠ e := fun z => absurd (Heap.lt_size e2) (by rw [z]; exact Nat.lt_irrefl _)
  have dC : ∀ b o, U.hT.get? b = some o → b ≠ h2.objs.size := fun b o g z => by
    have := T2 _ _ g
    rw [z] at this
    exact absurd (Heap.lt_size this) (Nat.lt_irrefl _)
  generalize h2.objs.size = dx at e3 n3 D0 dL de dC
  have F3 : h3.Ns env.locals m := let ⟨o, es, ep, g, r⟩ := F2; ⟨o, es, ep, k3' _ _ (Ne.symm eN) g, r⟩
  have T3 : Ext U.hT h3 := fun b o g => k3' b o (by rintro rfl; rw [ne] at g; cases g) (T2 b o g)
  have S3 : ∀ b o, b ≠ e → s.heap.get? b = some o → h3.get? b = some o := fun b o q g => k3' b o q (S2 b o q g)
  clear k3' e2 F2 T2 S2
  -- self.text = text
  refine wpAny_execs_cons ?_
  refine (plainObj_wpAny_Assign_Attribute ?w1 ?w2 : wpAny _ _ _ _ _ _)
  case w2 => rfl
  refine (wpAny_Name ?o1 ?o2 : wpAny _ _ _ _ _ _)
  case o2 => decide +kernel
  refine (load_name (s := { s with heap := h3, toks := _ }) V F3 (.inl ⟨l3, m3⟩) ?o3 ?o4 : wpAny _ _ _ _ _ _)
  case o3 => decide +kernel
  refine (wpAny_Name ?o5 ?o6 : wpAny _ _ _ _ _ _)
  case o6 => decide +kernel
  refine (load_name (s := { s with heap := h3, toks := _ }) V F3 (.inl ⟨l1, m1⟩) ?o7 ?o8 : wpAny _ _ _ _ _ _)
  case o7 => decide +kernel
  have I3 : h3.Inst e C (fun y => if y = ("kind" : Str) then some (Value.str sk tk) else none) := ⟨_, e3, rfl, (fun c q => by cases q), .inr ⟨dx, rfl, de, n3⟩⟩
  refine (store_attr (h := h3) (ns := ["kind"]) PySem.F.store_Exception (T3 _ _ hC) (hN.keeps T3) hns hnt nt ?g1 I3 ?g2 ?g3 ?g4 : wpAny _ _ _ _ _ _)
  case g1 => rintro rfl; rw [ne] at hC; cases hC
  case g3 => exact Within.cons _ _ Within.nil
  case g4 => rw [sizeLine_eq]; decide
  intro h4 tk4 _ k4 same
  dsimp only
  obtain ⟨o4, e4, oc, od, _⟩ := same _ e3
  refine wpAny_execs_nil (h h4 tk4 (fun b o q g => k4 b o q (fun o₀ dx' e0 ed => ?_) (S3 b o q g)) ⟨o4, t1, e4, oc, od⟩)
  rw [e3] at e0
  cases e0
  cases ed
  rintro rfl
  rw [D0] at g; cases g
end

/-! H8 -/
section
variable {U : Uni}
theorem raise_own {M : Model} {A : Around} {E : Value → Shared → Prop} {s : Shared} {env : Env} {x : Sem Value} {Q : Flow → Shared → Prop} {nm q : Str} {C N : Addr} {bs : List Value} {hdct : Bool} {sn : List Str} {sub : List Value} {ab : Bool} {col : Option Bool} {dd : Option Addr} {k0 k1 k2 k3 k5 : Option Value} {newId : String}
    (hh : A.handled = none)
    (h : wpAny M A x (fun v s₁ => ∃ e oe t, v = .ref e ∧ s₁.heap.get? C = some (excClassObj nm q C N bs excBm hdct sn sub ab col dd k0 k1 k2 k3 k5 newId) ∧ s₁.heap.get? e = some oe ∧ SaneExc C t oe ∧ E (.ref e) s₁) E s) :
    wpAny M A (raiseStmt env (some x) none) Q E s := by
  have hcB : (Value.ref C :: excBm).contains (.type "BaseException") = true := by rw [List.contains_cons, show excBm.contains (.type "BaseException") = true from by decide +kernel, Bool.or_true]
  unfold raiseStmt
  refine wpAny_bind (wpAny_mono h (fun v s₁ h₁ => ?_) fun _ _ x => x)
  obtain ⟨e, oe, t, rfl, hC, he, ⟨hc, hd⟩, hE⟩ := h₁
  obtain ⟨hp, g, d, tk, os⟩ := s₁
  obtain ⟨oc, odt, od, osl⟩ := oe
  dsimp only at hc hd
  subst hc hd
  repeat (first | with_reducible refine wpAny_loadPart_at he ?_ | with_reducible refine wpAny_loadPart_at hC ?_ | (with_reducible refine wpAny_isSubtype_exc hC ?_; rw [hcB]) | wp_step)
  exact wpAny_raiseNew_none hh hE

theorem callWith_exc {M : Model} {A : Around} {E : Value → Shared → Prop} {s : Shared} {pos : Pos} {tr : Sem Value} {trees : List (Bool × Sem Value)} {Q : Value → Shared → Prop} {nm q : Str} {C N : Addr} {bs bm : List Value} {hdct : Bool} {sn : List Str} {sub : List Value} {ab : Bool} {col : Option Bool} {dd : Option Addr} {k0 k1 k2 k3 k5 : Option Value} {newId : String}
    (hplain : ((false, tr) :: trees).any (·.1) = false)
    (h : wpAny M A (spliced ((false, tr) :: trees)) (fun vs s₁ => s₁.heap.get? C = some (excClassObj nm q C N bs bm hdct sn sub ab col dd k0 k1 k2 k3 k5 newId) ∧ wpAny M A (call (.ref C) vs []) Q E s₁) E s) :
    wpAny M A (callWith pos (.ref C) [] ((false, tr) :: trees) []) Q E s := by
  unfold callWith
  refine wpAny_bind (wpAny_holding (evalArgs_plain (wpAny_mono h (fun vs s₁ h₁ => wpAny_bind (wpAny_standAt ?_)) fun _ _ x => x)))
  obtain ⟨hC, h₁⟩ := h₁
  obtain ⟨hp, g, d, tk, os⟩ := s₁
  simp only [hplain]
  refine wpAny_bind (wpAny_keeperOf_exc hC ?_)
  exact wpAny_bind (wpAny_mono h₁ (fun r s' hr => wpAny_bind (wpAny_holding (wpAny_point (wpAny_pure hr)))) fun _ _ x => x)

/-- raise CasFail(.., ..) -/
theorem raise_stmt {A : Around} {E : Value → Shared → Prop} {s : Shared} {env : Env} {sc : Scope} {C N fI : Addr} {np cpos pos p1 p2 : Pos} {i1 i2 : Nat} {sk sx : Str} {Q : Flow → Shared → Prop} (Z : ClsF U C N fI) (V : EnvOK sc env) (hT : Ext U.hT s.heap) (hh : A.handled = none) (hd : A.depth + 1 < recursionLimit)
    (hk : sc.names.lookup (Str.ofString "CasFail") = some .globalImplicit) (hsz : sk.length + sx.length ≤ 1000)
    (h : ∀ h' t' e oe t1, Ext s.heap h' → s.heap.get? e = none → h'.get? e = some oe → SaneExc C t1 oe → E (.ref e) { s with heap := h', toks := t' }) :
    wpAny (model U.prog U.w) A (exec (.Raise (some (.Call (.Name "CasFail" np) [.Constant (.str sk) i1 p1, .Constant (.str sx) i2 p2] [] cpos)) none pos) env) Q E s := by
  obtain ⟨bs, sn, sub, ab, col, dd, k0, k1, k2, k3, k5, hC⟩ := Z.cls
  obtain ⟨mN, hN, hni, _⟩ := id Z.ns
  obtain ⟨oI, pm, cd, doc, hfI, hfc, _⟩ := id Z.fn
  rw [arm_exec_Raise]
  simp only [evalOpt, Option.map]
  refine wpAny_bind (wpAny_standAt (raise_own hh (wpAny_bind (wpAny_mono (Q := fun v s₁ => ∃ e oe t, v = .ref e ∧ s₁.heap.get? C = some (excClassObj "CasFail" "CasFail" C N bs excBm true sn sub ab col dd k0 k1 k2 k3 k5 "Exception.__new__") ∧ s₁.heap.get? e = some oe ∧ SaneExc C t oe ∧ E (.ref e) s₁) ?_ (fun v s₃ h₃ => wpAny_bind (wpAny_standAt (wpAny_pure h₃))) fun _ _ x => x))))
  refine (wpAny_Call_NameR ?_ : wpAny _ _ _ _ _ _)
  refine (glob_any V hT hk Z.g ?g1 ?_ : wpAny _ _ _ _ _ _)
  case g1 => decide +kernel
  refine (callWith_exc (nm := "CasFail") (q := "CasFail") (C := C) (N := N) (bs := bs) (bm := excBm) (hdct := true) (sn := sn) (sub := sub) (ab := ab) (col := col) (dd := dd) (k0 := k0) (k1 := k1) (k2 := k2) (k3 := k3) (k5 := k5) (newId := "Exception.__new__") ?c1 ?c2 : wpAny _ _ _ _ _ _)
  case c1 => rfl
  refine spliced_cons ?_
  refine (wpAny_Constant_str (env := env) (k := i1) (pos := p1) ?_ : wpAny _ _ _ _ _ _)
  refine spliced_cons ?_
  refine (wpAny_Constant_str (env := env) (k := i2) (pos := p2) ?_ : wpAny _ _ _ _ _ _)
  refine spliced_nil ⟨hT _ _ hC, ?_⟩
  dsimp only
  refine (wpAny_call_exc_init PySem.F.excBase_Exception (hT _ _ hC) (hN.keeps hT) hni (hT _ _ hfI) hfc ?m1 ?m2 : wpAny _ _ _ _ _ _)
  case m2 => rw [sizeLine_eq]; simp
  intro h1 e mk
  obtain ⟨t0, he, _, _⟩ := mk.there
  have T1 : Ext U.hT h1 := hT.trans fun b o g => mk.keeps b o g
  have ne : U.hT.get? e = none := hT.none mk.new
  refine (init_call (s := { s with heap := h1, toks := _ }) Z T1 ?d1 he ne hsz ?d2 : wpAny _ _ _ _ _ _)
  case d1 => exact hd
  intro h2 t2 k2' ⟨oe, t1, e2, sane⟩
  refine ⟨rfl, e, oe, t1, rfl, ?_, e2, sane, ?_⟩
  · refine k2' _ _ ?_ (T1 _ _ hC)
    rintro rfl
    rw [ne] at hC; cases hC
  · refine h h2 t2 e oe t1 (fun b o g => k2' b o ?_ (mk.keeps b o g)) mk.new e2 sane
    rintro rfl
    have := mk.new
    rw [this] at g; cases g

/-- gf_is_square of nothing, whatever is being handled -/
theorem isq_nil (H : Us U) {A : Around} {E : Value → Shared → Prop} {s : Shared} {a fa : Addr} {vm : Value} {p : Int} {tp : Tok} {Q : Value → Shared → Prop} (hd : A.depth < recursionLimit) (hT : Ext U.hT s.heap)
    (hg : U.mg "gf_is_square" = some (.ref fa)) (ha : s.heap.IsList a #[]) (h : ∀ h' t', Ext s.heap h' → Q (.bool true) { s with heap := h', toks := t' }) :
    wpAny (model U.prog U.w) A (call (.ref fa) [.ref a, vm, .int p tp] []) Q E s := by
  have L := cal_gf_is_square H
  obtain ⟨fa', o, pm, cd, doc, hg', ho, hdt, hcd⟩ := U.fn (dr 35) L.mem
  rw [L.name, hg] at hg'
  cases hg'
  have kf : (dr 35).scope.kind = .function := by kernel_rfl
  have kA : (dr 35).scope.names.lookup ("a" : Str) = some .local := by decide +kernel
  have kM : (dr 35).scope.names.lookup ("m" : Str) = some .local := by decide +kernel
  have kP : (dr 35).scope.names.lookup ("p" : Str) = some .local := by decide +kernel
  refine wpAny_call (call_cells_ret (binds := [("a", .ref a), ("m", vm), ("p", .int p tp)]) hd (hT _ _ ho) hdt (U.nl.keeps hT) (hcd.keeps hT) (by kernel_rfl) (fun x hx => ?_) (fun h1 t1 F Cc => ?_) (by kernel_rfl) (by kernel_rfl) kf)
  · simp only [List.mem_cons, List.not_mem_nil, or_false] at hx
    rcases hx with rfl | rfl | rfl
    · exact .inl kA
    · exact .inl kM
    · exact .inl kP
  have F0 : h1.Ns (envOfC (dr 35).name (dr 35).scope s.heap.objs.size fa cd).locals _ := F.ns
  have fk : Ext s.heap h1 := F.keep
  generalize hm : bindL (envOfC (dr 35).name (dr 35).scope s.heap.objs.size fa cd).kindOf [("a", .ref a), ("m", vm), ("p", .int p tp)] (fun _ => none) = m at F0
  have mA : m "a" = some (.ref a) := by
    rw [← hm]
    exact bindL_mem (kk := (envOfC (dr 35).name (dr 35).scope s.heap.objs.size fa cd).kindOf) kA _ _ (by simp; decide +kernel) (by simp)
  have mP : m "p" = some (.int p tp) := by
    rw [← hm]
    exact bindL_mem (kk := (envOfC (dr 35).name (dr 35).scope s.heap.objs.size fa cd).kindOf) kP _ _ (by simp; decide +kernel) (by simp)
  clear hm F Cc
  generalize A.deeper (envOfC (dr 35).name (dr 35).scope s.heap.objs.size fa cd) = A'
  have V : EnvOK (dr 35).scope (envOfC (dr 35).name (dr 35).scope s.heap.objs.size fa cd) := ⟨rfl, kf, rfl, rfl, fun x e => cellsFrom_some _ _ _ (mem_of_lookup e)⟩
  generalize envOfC (dr 35).name (dr 35).scope s.heap.objs.size fa cd = env at V F0 ⊢
  have lA : env.kindOf "a" = some .local := (kindOf_sc V _).trans kA
  have lP : env.kindOf "p" = some .local := (kindOf_sc V _).trans kP
  refine wpAny_execs_cons ?_
  refine (wpAny_Return_some ?_ : wpAny _ _ _ _ _ _)
  refine (BoolOp_or ?_ : wpAny _ _ _ _ _ _)
  refine (wpAny_Compare1 ?_ ?q1 : wpAny _ _ _ _ _ _)
  case q1 => rfl
  refine (wpAny_Name (load_name (s := { s with heap := h1, toks := t1 }) V F0 (.inl ⟨lP, mP⟩) ?n1 ?n2) ?n3 : wpAny _ _ _ _ _ _)
  case n1 => decide +kernel
  case n3 => decide +kernel
  refine (wpAny_Constant_int ?_ : wpAny _ _ _ _ _ _)
  refine (crule_eq (U := U) _ _ _ _ _ _ _ _ ?_ : wpAny _ _ _ _ _ _)
  refine (wpAny_truthy_bool ?_ : wpAny _ _ _ _ _ _)
  cases ieqb p 2 with
  | true => exact h _ _ fk
  | false =>
    rw [if_neg Bool.false_ne_true]
    refine (BoolOp_or ?_ : wpAny _ _ _ _ _ _)
    refine (wpAny_Compare1 ?_ ?q2 : wpAny _ _ _ _ _ _)
    case q2 => rfl
    refine (callB (U := U) (s := { s with heap := h1, toks := _ }) (x := "len") (id := "len") V (hT.trans fk) ?k1 ?k2 ?k3 boot_len ?k4 ?k5 ?k6 ?_ : wpAny _ _ _ _ _ _)
    case k1 => decide +kernel
    case k2 => decide +kernel
    case k3 => decide +kernel
    case k4 => decide +kernel
    case k5 => rfl
    case k6 => rfl
    refine spliced_cons ?_
    refine (wpAny_Name (load_name (s := { s with heap := h1, toks := _ }) V F0 (.inl ⟨lA, mA⟩) ?n4 ?n5) ?n6 : wpAny _ _ _ _ _ _)
    case n4 => decide +kernel
    case n6 => decide +kernel
    refine spliced_nil ?_
    have g1 : h1.IsList a #[] := let ⟨o, g, c⟩ := ha; ⟨o, fk _ _ g, c⟩
    refine (call_len_list (s := { s with heap := h1, toks := _ }) g1 ?l1 ?_ : wpAny _ _ _ _ _ _)
    case l1 => decide
    refine (wpAny_Constant_int ?_ : wpAny _ _ _ _ _ _)
    refine (crule_eq (U := U) _ _ _ _ _ _ _ _ ?_ : wpAny _ _ _ _ _ _)
    refine (wpAny_truthy_bool ?_ : wpAny _ _ _ _ _ _)
    exact h _ _ fk
end

/-! H9 -/
section
variable {U : Uni}
/-- a def's frame at its entry -/
theorem enterSt {sc : Scope} {ps : List Str} {nm : Nm} {name : Str} {fa : Addr} {cd : Value} {h0 h1 : Heap} {X : AS} {vals : List Value} {args : List PyData} (B : EntOK sc ps nm) (hT : Ext U.hT h0) (hX : ∀ b, X b → ∃ o, h0.get? b = some o) (hvl : vals.length = ps.length) (hR : RepL X h0 vals args)
    (F : Fr h0 h0.objs.size h1 (bindL (envOfC name sc h0.objs.size fa cd).kindOf (ps.zip vals) fun _ => none)) (Cc : Cl h0.objs.size (cellsFrom (h0.objs.size + 1) sc.names []) h1 (bindC (envOfC name sc h0.objs.size fa cd).kindOf (ps.zip vals) fun _ => none)) :
    StC U h0 X (envOfC name sc h0.objs.size fa cd) nm (fun b => X b ∨ b = h0.objs.size ∨ ∃ y, (cellsFrom (h0.objs.size + 1) sc.names []).lookup y = some b) h1 (args.map .v) (bindL (envOfC name sc h0.objs.size fa cd).kindOf (ps.zip vals) fun _ => none) (fun i => vals[i]?) := by
  have hnd : ps.Nodup := by
    rw [List.nodup_iff_pairwise_ne, List.pairwise_iff_getElem]
    intro i j hi hj hij e
    have := B.no i j ps[i] (B.at' i _ (List.getElem?_eq_getElem hi)) (by rw [e]; exact B.at' j _ (List.getElem?_eq_getElem hj))
    omega
  have hpw : ((ps.zip vals).Pairwise fun a b => a.1 ≠ b.1) := by
    have : ((ps.zip vals).map (·.1)) = ps := by
      rw [show (fun (x : Str × Value) => x.1) = Prod.fst from rfl, List.map_fst_zip]; omega
    rw [← this, List.nodup_iff_pairwise_ne, List.pairwise_map] at hnd
    exact hnd
  have cnew : ∀ y c, (cellsFrom (h0.objs.size + 1) sc.names []).lookup y = some c → h0.get? c = none := fun y c e => get_ge (Nat.le_of_lt (Cc.above y c (mem_of_lookup e)))
  have grow : Grow X (fun b => X b ∨ b = h0.objs.size ∨ ∃ y, (cellsFrom (h0.objs.size + 1) sc.names []).lookup y = some b) h0 := ⟨fun b q => .inl q, fun b q => by
    rcases q with q | rfl | ⟨y, e⟩
    · exact .inl q
    · exact .inr (get_size _)
    · exact .inr (cnew y b e)⟩
  exact {
    base := hT
    ext := F.keep
    xcin := hX
    sub := fun b q => .inl q
    xin := fun b q => by
      rcases q with q | rfl | ⟨y, e⟩
      · obtain ⟨o, g⟩ := hX b q; exact ⟨o, F.keep _ _ g⟩
      · obtain ⟨o, _, _, g, _⟩ := F.ns; exact ⟨o, g⟩
      · obtain ⟨o, g, _⟩ := Cc.cell y b e; exact ⟨o, g⟩
    xnew := fun b q => grow.2 b q
    ns := F.ns
    xl := .inr (.inl rfl)
    ln := get_size _
    cel := fun x c e => ⟨.inr (.inr ⟨x, e⟩), cnew x c e, _, Cc.cell x c e⟩
    capt := fun x y c ex ey => name_of_addr Cc.apart (mem_of_lookup ex) (mem_of_lookup ey)
    at' := fun i x v ei ev => by
      have hi : i < ps.length := hvl ▸ (List.getElem?_eq_some_iff.mp ev).1
      have hp := B.at' i _ (List.getElem?_eq_getElem hi)
      rw [ei] at hp
      have hx : x = ps[i] := Option.some.inj (Option.some.inj hp)
      have hmem : (x, v) ∈ ps.zip vals := by
        rw [List.mem_iff_getElem?]
        exact ⟨i, by rw [List.getElem?_zip_eq_some]; exact ⟨by rw [hx]; exact List.getElem?_eq_getElem hi, ev⟩⟩
      have hxm : x ∈ ps := (List.of_mem_zip hmem).1
      rcases B.kd x hxm with q | q
      · exact .inl ⟨q, bindL_mem q _ _ hpw hmem⟩
      · obtain ⟨c, hc⟩ := Option.isSome_iff_exists.mp (cellsFrom_some sc.names (h0.objs.size + 1) [] (mem_of_lookup q))
        exact .inr ⟨.inl q, c, hc, (bindC_mem (kk := (envOfC name sc h0.objs.size fa cd).kindOf) (m := fun _ => none) (by show sc.names.lookup x ≠ _; rw [q]; decide) _ hpw hmem) ▸ Cc.cell x c hc⟩
    sl := fun i x ei => by
      rw [sget_map]
      cases hd : args[i]? with
      | none => trivial
      | some d =>
        obtain ⟨w, hw, rw'⟩ := hR.get hd
        exact ⟨w, hw, (rw'.grow grow).ext (Ext.toO F.keep _)⟩
    kd := fun i x a l _ e => by
      rw [sget_map] at e
      split at e <;> cases e
    ow := fun i j x y a _ _ _ _ oi => by
      rw [sget_map] at oi
      split at oi <;> cases oi }

noncomputable def nmI : Nm := [some "a", some "m", some "p"]
/-- gf_inverse of nothing raises -/
theorem inverse_raises (H : Us U) {C N fI : Addr} (Z : ClsF U C N fI) {A : Around} {E : Value → Shared → Prop} {s : Shared} {X : AS} {va vm vp : Value} {dm dp : PyData} {fa : Addr} {outer : List Env} {B : Heap} {Q : Value → Shared → Prop} (hA : AOK 3 A) (hT : Ext U.hT s.heap) (hX : ∀ b, X b → ∃ o, s.heap.get? b = some o)
    (hg : U.mg "gf_inverse" = some (.ref fa)) (hR : RepL X s.heap [va, vm, vp] [.list [], dm, dp]) (hfr : A.frames = some outer) (hB : B.StaysIn s.heap) (hF : s.heap.FunFrames B outer)
    (h : ∀ h' t' e t1, Heap.FlyingW B outer e (.ref C) (.ref t1) h' → s.heap.UpToSlots h' → E (.ref e) { s with heap := h', toks := t' }) :
    wpAny (model U.prog U.w) A (call (.ref fa) [va, vm, vp] []) Q E s := by
  have L := cal_gf_inverse H
  obtain ⟨fa', o, pm, cd, doc, hg', ho, hdt, hcd⟩ := U.fn (dr 23) L.mem
  rw [L.name, hg] at hg'
  cases hg'
  have kf : (dr 23).scope.kind = .function := by kernel_rfl
  have BE : EntOK (dr 23).scope ["a", "m", "p"] nmI := entB_spec (by decide +kernel)
  have D : NmD nmI := okNm_spec (by decide +kernel)
  refine wpAny_call (call_cells (binds := (["a", "m", "p"] : List Str).zip [va, vm, vp]) (by have := hA.2.1; unfold recursionLimit; omega) (hT _ _ ho) hdt (U.nl.keeps hT) (hcd.keeps hT) (by kernel_rfl) (fun x hx => ?_) (fun h1 t1 F Cc => ?_) (by kernel_rfl) (by kernel_rfl) kf)
  · rcases BE.kd _ (List.of_mem_zip (a := x.1) (b := x.2) hx).1 with q | q
    · exact .inl q
    · exact .inr ⟨q, cellsFrom_some _ _ _ (mem_of_lookup q)⟩
  have S1 := enterSt (U := U) BE hT hX rfl hR F Cc
  have fk : Ext s.heap h1 := F.keep
  have fr1 := Around.frames_deeper (env := envOfC (dr 23).name (dr 23).scope s.heap.objs.size fa cd) hfr
  have V : EnvOK (dr 23).scope (envOfC (dr 23).name (dr 23).scope s.heap.objs.size fa cd) := ⟨rfl, kf, rfl, rfl, fun x e => cellsFrom_some _ _ _ (mem_of_lookup e)⟩
  have eF : (envOfC (dr 23).name (dr 23).scope s.heap.objs.size fa cd).frame = some s.heap.objs.size := rfl
  have gL : ∃ o, h1.get? s.heap.objs.size = some o ∧ ∀ vs, o.data ≠ .fields vs := let ⟨o, es, ep, g, d, _⟩ := F.ns; ⟨o, g, fun vs q => by rw [d] at q; cases q⟩
  have hAd : AOK 2 (A.deeper (envOfC (dr 23).name (dr 23).scope s.heap.objs.size fa cd)) := hA.deeper _
  clear F Cc
  generalize A.deeper (envOfC (dr 23).name (dr 23).scope s.heap.objs.size fa cd) = A' at hAd fr1 ⊢
  generalize envOfC (dr 23).name (dr 23).scope s.heap.objs.size fa cd = env at S1 V eF fr1 ⊢
  refine wpAny_execs_cons ?_
  refine (wpAny_If ?_ : wpAny _ _ _ _ _ _)
  refine ((?kt : SimT U 2 (dr 23).scope nmI _ (icmp ieqb (elen (bvar 0)) (econ (.int 0)))) A' env _ { s with heap := h1, toks := t1 } s.heap X _ _ true _ hAd V ⟨_, _, S1⟩ rfl ?_ : wpAny _ _ _ _ _ _)
  case kt => with_reducible exact (Cmp.toT (Cmp.int crule_eq (SimE.len (SimB.vr D (i := 0) (by with_unfolding_all rfl)) (by decide +kernel)) SimE.int))
  intro h2 t2 x2
  rw [if_pos rfl]
  refine wpAny_execs_cons ?_
  refine (raise_stmt (s := { s with heap := h2, toks := t2 }) Z V ((hT.trans fk).trans x2) hAd.1 ?d1 ?k1 ?z1 ?go : wpAny _ _ _ _ _ _)
  case d1 => have := hAd.2.1; unfold recursionLimit; omega
  case k1 => decide +kernel
  case z1 => decide +kernel
  intro h3 t3 e oe t4 x3 ne e3 sane
  have x13 : Ext h1 h3 := x2.trans x3
  have xs3 : Ext s.heap h3 := fk.trans x13
  have he : B.get? e = none := by
    cases q : B.get? e with
    | none => rfl
    | some ob => have := x2 _ _ (fk _ _ (hB _ _ q)); rw [ne] at this; cases this
  obtain ⟨sc1, sd1⟩ := sane
  obtain ⟨oL, gL, nL⟩ := gL
  have eN : B.get? s.heap.objs.size = none := by
    cases q : B.get? s.heap.objs.size with
    | none => rfl
    | some ob => have := hB _ _ q; rw [get_size] at this; cases this
  refine (wpAny_leaving_firstW (s := { s with heap := h3, toks := t3 }) (base := B) (a0 := .ref t4) fr1 ⟨?m1, ⟨_, oL, eF, eN, x13 _ _ gL, nL⟩, hF.of_keeps fun b ob g _ => ⟨ob, xs3 _ _ g, rfl⟩⟩ eF e3 (fun b ob g => xs3 _ _ (hB b ob g)) he sd1 rfl rfl ?lv : wpAny _ _ _ _ _ _)
  case m1 => rw [V.es, kf]; decide
  intro h4 ⟨k1, ⟨_, _, k2⟩, k3, k4⟩
  rw [sc1] at k3
  exact h h4 t3 e t4 ⟨k1, he, k2, k3⟩ ((Heap.UpToSlots.of_keeps xs3).trans k4)
end

/-! H10 -/
section
variable {U : Uni}
theorem At.slots {env : Env} {h h' : Heap} {m : Str → Option Value} {x : Str} {v : Value} (a : At env h m x v) (k : h.UpToSlots h') : At env h' m x v :=
  a.imp id fun ⟨q, c, e, o, g, d⟩ => ⟨q, c, e, let ⟨sl, g'⟩ := k c o g (fun vs z => by rw [d] at z; cases z); ⟨_, g', d⟩⟩
theorem isList_slots {h h' : Heap} {a : Addr} {vs : Array Value} (l : h.IsList a vs) (k : h.UpToSlots h') : h'.IsList a vs :=
  let ⟨o, g, c, n, d⟩ := l; let ⟨_, g'⟩ := k a o g (fun vs z => by rw [d] at z; cases z); ⟨_, g', c, n, d⟩

/-- the clause CasFail of the try, an object of the class in hand -/
theorem handle_own {A : Around} {E : Value → Shared → Prop} {s : Shared} {env : Env} {sc : Scope} {C N fI e t1 : Addr} {l : List Env} {B : Heap} {np pos : Pos} {b₀ : Stmt} {suite : List Stmt} {Q : Flow → Shared → Prop} (Z : ClsF U C N fI) (V : EnvOK sc env) (hT : Ext U.hT s.heap)
    (hk : sc.names.lookup (Str.ofString "CasFail") = some .globalImplicit) (fly : Heap.FlyingW B l e (.ref C) (.ref t1) s.heap)
    (h : ∀ E' h', B.StaysIn h' → s.heap.UpToSlots h' → wpAny (model U.prog U.w) (A.mark (some (.ref e))) (execs (b₀ :: suite) env) Q E' { s with heap := h' }) :
    wpAny (model U.prog U.w) A (handleBy (.ref e) env [.ExceptHandler (some (.Name "CasFail" np)) none (b₀ :: suite) pos]) Q E s := by
  obtain ⟨bs, sn, sub, ab, col, dd, k0, k1, k2, k3, k5, hC⟩ := Z.cls
  refine (wpAny_handleBy_cons (codeAny_handlers_test ?_) ?nb : wpAny _ _ _ _ _ _)
  case nb => intro q; cases q
  refine (glob_any V hT hk Z.g ?g1 ?_ : wpAny _ _ _ _ _ _)
  case g1 => decide +kernel
  obtain ⟨f1, f2, f3, f4⟩ := fly
  obtain ⟨oe, _, _, _, _, he, hc, _⟩ := id f4
  obtain ⟨hp, g, d, tk, os⟩ := s
  refine (wpAny_excMatches_sub_self (hT _ _ hC) he hc.1 ?hb ?_ : wpAny _ _ _ _ _ _)
  case hb => decide +kernel
  rw [if_pos rfl]
  refine codeAny_handlers_suite ?_
  refine (wpAny_setFlight_noneW (s := ⟨hp, g, d, tk, os⟩) f1 f3 f4 ?_ : wpAny _ _ _ _ _ _)
  intro h' x1 _ _ x4
  refine wpAny_mono (h _ h' x1 fun b o g n => ⟨o.slots, x4 b o g n⟩) (fun f s₂ q => ?_) fun _ _ q => q
  exact q

noncomputable def nmR : Nm := [some "a", some "b", some "n", some "m", some "p", some "inverted", some "squares"]
theorem len5' {P : List Value → Prop} (h : ∀ a b c d e, P [a, b, c, d, e]) {v : List Value} (l : v.length = 5) : P v := len5 h v l
end

/-! H11 -/
section
variable {U : Uni}
/-- the reckoning of nothing and a thing: gf_inverse raises, and it is caught -/
theorem reck_nil (H : Us U) {C N fI : Addr} (Z : ClsF U C N fI) {FM FL : FN} (k_gf_multiply : CallOK U "gf_multiply" 5 FM) (k_law_mul : CallOK U "_law_mul" 3 FL) {A : Around} {E : Value → Shared → Prop} {s : Shared} {X : AS} {vals : List Value} {b m : PyData} {n p : Int} {fa : Addr} {outer : List Env} {B : Heap} {Q : Value → Shared → Prop}
    (hA : AOK 9 A) (hT : Ext U.hT s.heap) (hX : ∀ b, X b → ∃ o, s.heap.get? b = some o) (hg : U.mg "_law_reckoned_right" = some (.ref fa)) (hR : RepL X s.heap vals [.list [], b, .int n, m, .int p]) (hq : eqR (FM [.list [], b, m, .int p]) (FL [.list [], b, m, .int p]) = true)
    (hfr : A.frames = some outer) (hTB : Ext U.hT B) (hB : B.StaysIn s.heap) (hF : s.heap.FunFrames B outer)
    (h : ∀ h' t', B.StaysIn h' → s.heap.UpToSlots h' → Q (.bool true) { s with heap := h', toks := t' }) :
    wpAny (model U.prog U.w) A (call (.ref fa) vals []) Q E s := by
  have L := cal_law_reckoned_right H
  obtain ⟨fa', o, pm, cd, doc, hg', ho, hdt, hcd⟩ := U.fn (dr 50) L.mem
  rw [L.name, hg] at hg'
  cases hg'
  have kf : (dr 50).scope.kind = .function := by kernel_rfl
  have BE : EntOK (dr 50).scope ["a", "b", "n", "m", "p"] nmR := entB_spec (by decide +kernel)
  have D : NmD nmR := okNm_spec (by decide +kernel)
  have hvl : vals.length = 5 := hR.length
  refine wpAny_call (call_cells_ret (binds := (["a", "b", "n", "m", "p"] : List Str).zip vals) (by have := hA.2.1; unfold recursionLimit; omega) (hT _ _ ho) hdt (U.nl.keeps hT) (hcd.keeps hT) ?bd (fun x hx => ?_) (fun h1 t1 F Cc => ?_) (by kernel_rfl) (by kernel_rfl) kf)
  case bd =>
    refine len5 (P := fun v => bindArgs (docDef (dr 50).name (dr 50).params (dr 50).body (dr 50).scope pm cd doc) ⟨v, []⟩ = pure ((["a", "b", "n", "m", "p"] : List Str).zip v)) (fun a b c d e => ?_) vals hvl
    kernel_rfl
  · rcases BE.kd _ (List.of_mem_zip (a := x.1) (b := x.2) hx).1 with q | q
    · exact .inl q
    · exact .inr ⟨q, cellsFrom_some _ _ _ (mem_of_lookup q)⟩
  have S1 := enterSt (U := U) BE hT hX hvl hR F Cc
  have fk : Ext s.heap h1 := F.keep
  have fr1 := Around.frames_deeper (env := envOfC (dr 50).name (dr 50).scope s.heap.objs.size fa cd) hfr
  have V : EnvOK (dr 50).scope (envOfC (dr 50).name (dr 50).scope s.heap.objs.size fa cd) := ⟨rfl, kf, rfl, rfl, fun x e => cellsFrom_some _ _ _ (mem_of_lookup e)⟩
  have eF : (envOfC (dr 50).name (dr 50).scope s.heap.objs.size fa cd).frame = some s.heap.objs.size := rfl
  have eLoc : (envOfC (dr 50).name (dr 50).scope s.heap.objs.size fa cd).locals = s.heap.objs.size := rfl
  have hAd : AOK 8 (A.deeper (envOfC (dr 50).name (dr 50).scope s.heap.objs.size fa cd)) := hA.deeper _
  clear F Cc
  generalize A.deeper (envOfC (dr 50).name (dr 50).scope s.heap.objs.size fa cd) = A' at hAd fr1 ⊢
  generalize hm : bindL (envOfC (dr 50).name (dr 50).scope s.heap.objs.size fa cd).kindOf ((["a", "b", "n", "m", "p"] : List Str).zip vals) (fun _ => none) = mm at S1
  clear hm
  generalize envOfC (dr 50).name (dr 50).scope s.heap.objs.size fa cd = env at S1 V eF eLoc fr1 ⊢
  -- the two products
  obtain ⟨x1, y1, e1, e1', q1⟩ := eqR_spec hq
  refine wpAny_execs_cons ?_
  refine ((?ks : Sim1 U 8 (dr 50).scope nmR _ (cif (dne (ecall FM (lcons (evar 0) (lcons (evar 1) (lcons (evar 3) (lcons (evar 4) lnil))))) (ecall FL (lcons (evar 0) (lcons (evar 1) (lcons (evar 3) (lcons (evar 4) lnil)))))) (cret (econ (.bool false))) cskip)) A' env _ { s with heap := h1, toks := t1 } s.heap X _ _ (.nx [.v (.list []), .v b, .v (.int n), .v m, .v (.int p)]) _ hAd V BE.no ⟨_, _, S1⟩ ?c1 ?_ : wpAny _ _ _ _ _ _)
  case ks => with_reducible exact (Sim1.ife (Cmp.toT (Cmp.ne (SimE.toR (SimE.callN (cal_gf_multiply H) k_gf_multiply (SimL.cons (SimE.vr D (i := 0) (by with_unfolding_all rfl)) (SimL.cons (SimE.vr D (i := 1) (by with_unfolding_all rfl)) (SimL.cons (SimE.vr D (i := 3) (by with_unfolding_all rfl)) (SimL.cons (SimE.vr D (i := 4) (by with_unfolding_all rfl)) SimL.nil)))) (by decide) (by decide +kernel))) (SimE.toR (SimE.callN (cal_law_mul H) k_law_mul (SimL.cons (SimE.vr D (i := 0) (by with_unfolding_all rfl)) (SimL.cons (SimE.vr D (i := 1) (by with_unfolding_all rfl)) (SimL.cons (SimE.vr D (i := 3) (by with_unfolding_all rfl)) (SimL.cons (SimE.vr D (i := 4) (by with_unfolding_all rfl)) SimL.nil)))) (by decide) (by decide +kernel))))) (SimS.one (Sim1.ret SimE.bool)) SimS.nil)
  case c1 =>
    unfold cif
    rw [dne_of ((ecall4 rfl rfl rfl rfl).trans e1) ((ecall4 rfl rfl rfl rfl).trans e1') q1]
    rfl
  intro Y h2 t2 S2 K2
  -- a == []
  refine wpAny_execs_cons ?_
  refine (wpAny_If ?_ : wpAny _ _ _ _ _ _)
  refine ((?kt : SimT U 8 (dr 50).scope nmR _ (deq (evar 0) (elst (fits lnil)))) A' env _ { s with heap := h2, toks := t2 } s.heap X Y _ true _ hAd V S2 rfl ?_ : wpAny _ _ _ _ _ _)
  case kt => with_reducible exact (Cmp.toT (Cmp.eq (SimE.toR (SimE.vr D (i := 0) (by with_unfolding_all rfl))) (SimE.toR (SimF.toE (SimF.disp SimL.nil)))))
  intro h3 t3 x3
  rw [if_pos rfl]
  obtain ⟨m3, σ3, S3⟩ := S2.ext' x3
  clear S2 S1
  have T3 : Ext U.hT h3 := S3.base.trans S3.ext
  refine wpAny_execs_cons ?_
  refine (wpAny_Try_except ?_ : wpAny _ _ _ _ _ _)
  refine wpAny_execs_cons ?_
  refine (wpAny_Expr ?_ ?i1 ?i2 : wpAny _ _ _ _ _ _)
  case i1 => unfold interactive; rw [V.es, kf]; rfl
  case i2 => rfl
  have Li := cal_gf_inverse H
  obtain ⟨fi, oi, pmi, cdi, doci, hgi, hoi, hdti, _⟩ := U.fn (dr 23) Li.mem
  rw [Li.name] at hgi
  have Lq := cal_gf_is_square H
  obtain ⟨fq, oq, pmq, cdq, docq, hgq, hoq, hdtq, _⟩ := U.fn (dr 35) Lq.mem
  rw [Lq.name] at hgq
  refine (wpAny_Call_NameR ?_ : wpAny _ _ _ _ _ _)
  refine (glob_any (s := { s with heap := h3, toks := t3 }) V T3 ?g1 hgi Li.nd ?_ : wpAny _ _ _ _ _ _)
  case g1 => decide +kernel
  refine (callWith_function (o := oi) (fd := docDef (dr 23).name (dr 23).params (dr 23).body (dr 23).scope pmi cdi doci) (evalArgs_plain ?_) : wpAny _ _ _ _ _ _)
  -- where a, m, p lie
  obtain ⟨va, sa, ra⟩ : ∃ v, σ3 0 = some v ∧ Rep Y h3 v (.list []) := S3.sl 0 "a" rfl
  obtain ⟨vm, sm, rm⟩ : ∃ v, σ3 3 = some v ∧ Rep Y h3 v m := S3.sl 3 "m" rfl
  obtain ⟨vp, sp, rp⟩ : ∃ v, σ3 4 = some v ∧ Rep Y h3 v (.int p) := S3.sl 4 "p" rfl
  have aa := S3.at' 0 "a" va rfl sa
  have am := S3.at' 3 "m" vm rfl sm
  have ap := S3.at' 4 "p" vp rfl sp
  have n3 := S3.ns
  refine spliced_cons ?_
  refine (wpAny_Name (load_name (s := { s with heap := h3, toks := t3 }) V n3 aa ?n1 ?n2) ?n3' : wpAny _ _ _ _ _ _)
  case n1 => decide +kernel
  case n3' => decide +kernel
  refine spliced_cons ?_
  refine (wpAny_Name (load_name (s := { s with heap := h3, toks := t3 }) V n3 am ?n4 ?n5) ?n6 : wpAny _ _ _ _ _ _)
  case n4 => decide +kernel
  case n6 => decide +kernel
  refine spliced_cons ?_
  refine (wpAny_Name (load_name (s := { s with heap := h3, toks := t3 }) V n3 ap ?n7 ?n8) ?n9 : wpAny _ _ _ _ _ _)
  case n7 => decide +kernel
  case n9 => decide +kernel
  refine spliced_nil ⟨⟨T3 _ _ hoi, hdti⟩, ?_⟩
  have eN : B.get? s.heap.objs.size = none := by
    cases q : B.get? s.heap.objs.size with
    | none => rfl
    | some ob => have := hB _ _ q; rw [get_size] at this; cases this
  have gL3 : ∃ o, h3.get? s.heap.objs.size = some o ∧ ∀ vs, o.data ≠ .fields vs := by
    obtain ⟨o, es, ep, g, d, _⟩ := n3
    rw [eLoc] at g
    exact ⟨o, g, fun vs q => by rw [d] at q; cases q⟩
  have s3 : Ext s.heap h3 := S3.ext
  refine (inverse_raises (s := { s with heap := h3, toks := t3 }) (X := Y) (B := B) H Z (hAd.le (by decide)) T3 S3.xin hgi (.cons ra (.cons rm (.cons rp .nil))) fr1 (fun b ob g => s3 _ _ (hB b ob g)) ?ff ?ir : wpAny _ _ _ _ _ _)
  case ff =>
    obtain ⟨oL3, gL3, nL3⟩ := gL3
    exact ⟨by rw [V.es, kf]; decide, ⟨_, oL3, eF, eN, gL3, nL3⟩, hF.of_keeps fun b ob g _ => ⟨ob, s3 _ _ g, rfl⟩⟩
  intro h4 t4 e te fly4 sm4
  refine (wpAny_looks_onW (s := { s with heap := h4, toks := t4 }) fr1 eF fly4 ?_ : wpAny _ _ _ _ _ _)
  intro h5 held5 sm5
  refine (wpAny_landsW (s := { s with heap := h5, toks := t4 }) held5 ?_ : wpAny _ _ _ _ _ _)
  intro h6 fly6 sm6
  have sm36 : h3.UpToSlots h6 := (sm4.trans sm5).trans sm6
  have T6 : Ext U.hT h6 := fun b o g => fly6.1 b o (hTB b o g)
  refine (handle_own (s := { s with heap := h6, toks := t4 }) Z V T6 ?k2 fly6 ?ho : wpAny _ _ _ _ _ _)
  case k2 => decide +kernel
  intro E' h7 st7 sm7
  have sm37 := sm36.trans sm7
  have T7 : Ext U.hT h7 := fun b o g => st7 b o (hTB b o g)
  have n7 : h7.Ns env.locals m3 := sm37.ns n3
  refine wpAny_execs_cons ?_
  refine (wpAny_Return_some ?_ : wpAny _ _ _ _ _ _)
  refine (wpAny_Call_NameR ?_ : wpAny _ _ _ _ _ _)
  refine (glob_any (s := { s with heap := h7, toks := t4 }) V T7 ?g2 hgq Lq.nd ?_ : wpAny _ _ _ _ _ _)
  case g2 => decide +kernel
  refine (callWith_function (o := oq) (fd := docDef (dr 35).name (dr 35).params (dr 35).body (dr 35).scope pmq cdq docq) (evalArgs_plain ?_) : wpAny _ _ _ _ _ _)
  refine spliced_cons ?_
  refine (wpAny_Name (load_name (s := { s with heap := h7, toks := t4 }) V n7 (aa.slots sm37) ?o1 ?o2) ?o3 : wpAny _ _ _ _ _ _)
  case o1 => decide +kernel
  case o3 => decide +kernel
  refine spliced_cons ?_
  refine (wpAny_Name (load_name (s := { s with heap := h7, toks := t4 }) V n7 (am.slots sm37) ?o4 ?o5) ?o6 : wpAny _ _ _ _ _ _)
  case o4 => decide +kernel
  case o6 => decide +kernel
  refine spliced_cons ?_
  refine (wpAny_Name (load_name (s := { s with heap := h7, toks := t4 }) V n7 (ap.slots sm37) ?o7 ?o8) ?o9 : wpAny _ _ _ _ _ _)
  case o7 => decide +kernel
  case o9 => decide +kernel
  refine spliced_nil ⟨⟨T7 _ _ hoq, hdtq⟩, ?_⟩
  obtain ⟨a, rfl, la⟩ : ∃ a, va = .ref a ∧ h3.IsList a #[] := by
    cases ra with
    | @list a o vs k xs na g c d r =>
      have : vs = #[] := by
        have := r.length
        rw [Array.length_toList] at this
        exact Array.eq_empty_of_size_eq_zero this
      rw [this] at d
      exact ⟨a, rfl, o, g, c.1, _, d⟩
  obtain ⟨tp, rfl⟩ : ∃ tp, vp = .int p tp := by cases rp; exact ⟨_, rfl⟩
  refine (isq_nil (s := { s with heap := h7, toks := t4 }) H ?dd T7 hgq (isList_slots la sm37) ?fin : wpAny _ _ _ _ _ _)
  case dd => have := hAd.2.1; show A'.depth < recursionLimit; unfold recursionLimit; omega
  intro h8 t8 x8
  exact h h8 t8 (fun b ob g => x8 _ _ (st7 b ob g)) (((Heap.UpToSlots.of_keeps s3).trans sm37).trans (Heap.UpToSlots.of_keeps x8))
end

/-! H12 -/
section
variable {U : Uni}
/-- the frame's own object may be given its slots -/
theorem StC.slots {h₀ h h' : Heap} {Xc X : AS} {env : Env} {nm : Nm} {ρ : Store} {m : Str → Option Value} {σ : Nat → Option Value} (S : StC U h₀ Xc env nm X h ρ m σ) (out : ∀ b o, b ≠ env.locals → h.get? b = some o → h'.get? b = some o) (sm : h.UpToSlots h') :
    StC U h₀ Xc env nm X h' ρ m σ := by
  have hout : ExtO X h h' := fun b o nx e => out b o (fun q => nx (q ▸ S.xl)) e
  have nL : ∀ {b o}, h.get? b = some o → (∀ es ep, o.data ≠ .dict es ep) → b ≠ env.locals := by
    rintro b o g n rfl
    obtain ⟨o', es, ep, g', d, _⟩ := S.ns
    rw [g] at g'; cases g'; exact n _ _ d
  exact {
    base := S.base
    ext := fun b o e => out b o (fun q => by rw [q, S.ln] at e; cases e) (S.ext b o e)
    xcin := S.xcin
    sub := S.sub
    xin := fun b x => by
      by_cases q : b = env.locals
      · obtain ⟨o, es, ep, g, _⟩ := sm.ns S.ns; exact ⟨o, q ▸ g⟩
      · obtain ⟨o, e⟩ := S.xin b x; exact ⟨o, out b o q e⟩
    xnew := S.xnew
    ns := sm.ns S.ns
    xl := S.xl
    ln := S.ln
    cel := fun x c e => let ⟨a, b, v, o, g, d⟩ := S.cel x c e; ⟨a, b, v, o, out _ _ (nL g fun es ep q => by rw [d] at q; cases q) g, d⟩
    capt := S.capt
    at' := fun i x v a b => (S.at' i x v a b).slots sm
    sl := fun i x a => by
      have q := S.sl i x a
      have kd := S.kd i x
      revert q kd
      cases hsl : sget ρ i with
      | u => intro _ _; trivial
      | v d => rintro ⟨v, e, r⟩ _; exact ⟨v, e, r.ext hout⟩
      | o l2 => rintro ⟨b, vs, n, e, x, f, g, r⟩ _; exact ⟨b, vs, n, e, x, f, out _ _ (nL g fun es ep q => by cases q) g, r.ext hout⟩
      | k l2 =>
        rintro ⟨b, e, x, f, g⟩ kd
        exact ⟨b, e, x, f, g.keep (fun o q => out _ _ (kd b l2 a rfl e) q) hout⟩
    kd := S.kd
    ow := S.ow }
theorem DS.slots {env : Env} {nm : Nm} {D R : Addr} {X : AS} {h h' : Heap} {ρ : Store} (S : DS U env nm D R X h ρ) (out : ∀ b o, b ≠ env.locals → h.get? b = some o → h'.get? b = some o) (sm : h.UpToSlots h') :
    DS U env nm D R X h' ρ ∧ Keeps X X h h' := by
  obtain ⟨h₀, rows, seed, s⟩ := S
  obtain ⟨m, σ, S⟩ := s.st
  refine ⟨⟨h₀, rows, seed, ⟨m, σ, S.slots out sm⟩, s.dr, s.low, s.nD, s.nR, s.dw⟩, ⟨fun v d r => r.ext fun b o nx e => out b o (fun q => nx (q ▸ S.xl)) e, fun b o fs e f => out b o ?_ e, fun b o fs xb _ _ => xb⟩⟩
  rintro rfl
  obtain ⟨o', es, ep, g', d, _⟩ := S.ns
  rw [e] at g'; cases g'; rw [d] at f; cases f
end

/-! H13 -/
section
noncomputable def nm_law : Nm := [some "script", some "draws", some "pool", some "m", some "things", some "turn", some "p", some "size", some "a", some "b"]
noncomputable def nm_law_0 : Nm := [none, none, none, none, none, none, none, some "size", none, none, some "row", none, none]
noncomputable def nm_law_1 : Nm := [none, none, none, none, some "things", none, none, none, none, none, none, some "at", some "one"]
noncomputable def L4 : List (Int × Int) := [(2, 2), (2, 3), (3, 2), (2, 4)]
noncomputable def rho1 (D : Nat) (p z : Int) : Store := [.u, .v (ptrd D), .u, .u, .u, .u, .v (.int p), .v (.int z)]
noncomputable def rho2 (D : Nat) (p z : Int) (pool : List PyData) : Store := [.u, .v (ptrd D), .v (.list pool), .u, .u, .u, .v (.int p), .v (.int z)]
noncomputable def rho4 (D : Nat) (p z : Int) (pool : List PyData) (m : PyData) (things : List PyData) : Store := [.u, .v (ptrd D), .v (.list pool), .v m, .v (.list things), .u, .v (.int p), .v (.int z)]
noncomputable abbrev dpool (Fpr : FN) : DL := lcomp [7] (blst (ecall Fpr (lcons (evar 6) (lcons (evar 7) lnil)))) (asgName 10) (icmp ieqb (elen (bvar 10)) (iop fadd (evar 7) (econ (.int 1)))) (evar 10)
noncomputable abbrev tpool (Fcp Ffp : FN) : DT := tor (icmp cne (ecall Fcp (lcons (evar 6) (lcons (evar 7) lnil))) (elen (bvar 2))) (dne (ecall Ffp (lcons (evar 6) (lcons (evar 7) lnil))) (lidx (bvar 2) (econ (.int 0))))
noncomputable abbrev tthings : DT := tor (icmp cne (elen (bvar 4)) (iop fpow (evar 6) (evar 7))) (dne (elst (lcomp [4] (benum (bvar 4)) (asgTup [11, 12]) (tin (evar 12) (lupto (bvar 4) (evar 11))) (evar 12))) (elst (fits lnil)))
noncomputable abbrev torder (For : FN) : DT := tand (icmp ieqb (evar 5) (econ (.int 0))) (tand (dne (evar 8) (elst (fits lnil))) (tnot (tval (ecall For (lcons (evar 8) (lcons (evar 3) (lcons (evar 6) lnil)))))))
/-- the reckoning of a pair is as it should be -/
noncomputable def ReckF (U : Uni) (Frr : FN) (a b : PyData) (n : Int) (m : PyData) (p : Int) : Prop :=
  Frr [a, b, .int n, m, .int p] = some (.bool true) ∨ (a = .list [] ∧ ∃ FM FL, CallOK U "gf_multiply" 5 FM ∧ CallOK U "_law_mul" 3 FL ∧ eqR (FM [.list [], b, m, .int p]) (FL [.list [], b, m, .int p]) = true)
structure ThingF (U : Uni) (Frr Fsr For : FN) (things : List PyData) (m : PyData) (p : Int) (a : PyData) : Prop where
  flat : ∃ l, a = .list l ∧ allFlat l = true ∧ (l = [] ∨ For [a, m, .int p] = some (.bool true))
  sums : Fsr [a, m, .int p] = some (.bool true)
  reck : ∀ b ∈ things, ∀ n : Int, 0 ≤ n → n < 9 → ReckF U Frr a b n m p
structure FieldF (U : Uni) (Fth Frr Fsr For : FN) (p z : Int) (pool : List PyData) (m : PyData) (things : List PyData) : Prop where
  th : Fth [m, .int p] = some (.list things)
  lo : 1 ≤ things.length
  hi : things.length ≤ 1000
  ok : ∀ D, tthings (rho4 D p z pool m things) = some false
  each : ∀ a ∈ things, ThingF U Frr Fsr For things m p a
structure SizeF (U : Uni) (Fth Fpr Fcp Ffp Frr Fsr For : FN) (p z : Int) (pool : List PyData) : Prop where
  pl : ∀ D, dpool Fpr (rho1 D p z) = some pool
  lo : 1 ≤ pool.length
  hi : pool.length ≤ 1000
  ok : ∀ D, tpool Fcp Ffp (rho2 D p z pool) = some false
  each : ∀ m ∈ pool, ∃ things, FieldF U Fth Frr Fsr For p z pool m things
noncomputable abbrev LawF (U : Uni) (Fth Fpr Fcp Ffp Frr Fsr For : FN) : Prop := ∀ x ∈ L4, ∃ pool, SizeF U Fth Fpr Fcp Ffp Frr Fsr For x.1 x.2 pool

theorem torder_false {For : FN} {ρ : Store} {m : PyData} {p t : Int} {l : List PyData} (h5 : sget ρ 5 = .v (.int t)) (h8 : sget ρ 8 = .v (.list l)) (h3 : sget ρ 3 = .v m) (h6 : sget ρ 6 = .v (.int p)) (fl : allFlat l = true)
    (ho : l = [] ∨ For [.list l, m, .int p] = some (.bool true)) : torder For ρ = some false := by
  unfold torder tand icmp
  rw [evar_of h5]
  rw [show econ (.int 0) ρ = some (.int 0) from rfl]
  dsimp only
  cases ieqb t 0 with
  | false => rfl
  | true =>
    dsimp only
    unfold dne
    rw [evar_of h8, show elst (fits lnil) ρ = some (.list []) from rfl]
    dsimp only
    have e : peq (.list l) (.list []) = listEq l [] := by
      exact peq_nil fl
    rw [e]
    cases l with
    | nil => rfl
    | cons x r =>
      rw [show listEq (x :: r) [] = some false from rfl]
      dsimp only
      have e2 : ecall For (lcons (evar 8) (lcons (evar 3) (lcons (evar 6) lnil))) ρ = some (.bool true) := by
        unfold ecall lcons
        rw [evar_of h8, evar_of h3, evar_of h6]
        exact ho.resolve_left (by simp)
      unfold tnot tval
      rw [e2]
      rfl

section
variable {U : Uni}
set_option maxHeartbeats 4000000
theorem law_ok (H : Us U) {Fth Fpr Fcp Ffp Frr Fsr For : FN} (k_gf_things : CallOK U "gf_things" 3 Fth) (k_law_primes : CallOK U "_law_primes" 3 Fpr) (k_count_prime_polys : CallOK U "count_prime_polys" 4 Fcp)
    (k_first_prime_poly : CallOK U "first_prime_poly" 7 Ffp) (k_law_reckoned_right : CallOK U "_law_reckoned_right" 9 Frr) (k_law_sums_right : CallOK U "_law_sums_right" 10 Fsr) (k_law_orders_right : CallOK U "_law_orders_right" 10 For)
    {C N fI : Addr} (Z : ClsF U C N fI) (LF : LawF U Fth Fpr Fcp Ffp Frr Fsr For) {A : Around} {s : Shared} {S fa : Addr} {xs : List Int} {Rr : Result → Shared → Prop} (hA : AOK 11 A) (hfr : A.frames = some []) (hT : Ext U.hT s.heap)
    (hg : U.mg "law" = some (.ref fa)) (hS : ∀ X : AS, ¬ X S → Rep X s.heap (.ref S) (.list (xs.map .int))) (hn : xs.length ≤ 1000)
    (h : ∀ h' t', Ext U.hT h' → Rr (.ok (.ret (.bool true))) { s with heap := h', toks := t' }) :
    codeAny (model U.prog U.w) A (.call (.ref fa) ⟨[.ref S], []⟩) Rr s := by
  have L := cal_law H
  obtain ⟨a, o, pm, cd, doc, hg', ho, hdt, hcd⟩ := U.fn (dr 53) L.mem
  rw [L.name, hg] at hg'
  cases hg'
  have D : NmD nm_law := okNm_spec (by decide +kernel)
  have K : NmK (dr 53).scope nm_law := okFn_spec (by decide +kernel)
  have D0 : NmD nm_law_0 := okNm_spec (by decide +kernel)
  have D1 : NmD nm_law_1 := okNm_spec (by decide +kernel)
  have kD : (dr 53).scope.names.lookup ("script" : Str) = some .local := by decide +kernel
  have kf : (dr 53).scope.kind = .function := by kernel_rfl
  have N0 : NmOK nm_law := (entB_spec (sc := (dr 53).scope) (ps := ["script"]) (nm := nm_law) (by decide +kernel)).no
  have gt : (dr 53).scope.names.lookup (Str.ofString "_law_take") = some .globalImplicit := by decide +kernel
  refine call_cells_ret (binds := [("script", .ref S)]) (by have := hA.2.1; unfold recursionLimit; omega) (hT _ _ ho) hdt (U.nl.keeps hT) (hcd.keeps hT) (by kernel_rfl) (fun x hx => ?_) (fun h1 t1 F Cc => ?_) (by kernel_rfl) (by kernel_rfl) kf
  · simp only [List.mem_cons, List.not_mem_nil, or_false] at hx
    rcases hx with rfl
    exact .inl kD
  have F0 : h1.Ns (envOfC (dr 53).name (dr 53).scope s.heap.objs.size fa cd).locals _ := F.ns
  have fk := F.keep
  generalize hm : bindL (envOfC (dr 53).name (dr 53).scope s.heap.objs.size fa cd).kindOf [("script", .ref S)] (fun _ => none) = m at F0
  have mD : m "script" = some (.ref S) := by
    rw [← hm]
    exact bindL_mem (kk := (envOfC (dr 53).name (dr 53).scope s.heap.objs.size fa cd).kindOf) kD _ _ (by simp) (by simp)
  clear hm
  have fr1 := Around.frames_deeper (env := envOfC (dr 53).name (dr 53).scope s.heap.objs.size fa cd) hfr
  have hAd : AOK 10 (A.deeper (envOfC (dr 53).name (dr 53).scope s.heap.objs.size fa cd)) := hA.deeper _
  generalize hA' : A.deeper (envOfC (dr 53).name (dr 53).scope s.heap.objs.size fa cd) = A' at hAd fr1
  have V : EnvOK (dr 53).scope (envOfC (dr 53).name (dr 53).scope s.heap.objs.size fa cd) := ⟨rfl, kf, rfl, rfl, fun x e => cellsFrom_some _ _ _ (mem_of_lookup e)⟩
  have eL : (envOfC (dr 53).name (dr 53).scope s.heap.objs.size fa cd).locals = s.heap.objs.size := rfl
  have eFr : (envOfC (dr 53).name (dr 53).scope s.heap.objs.size fa cd).frame = some (envOfC (dr 53).name (dr 53).scope s.heap.objs.size fa cd).locals := rfl
  have kiD : (envOfC (dr 53).name (dr 53).scope s.heap.objs.size fa cd).kindOf "script" = some .local := kD
  have cel : ∀ y c, (envOfC (dr 53).name (dr 53).scope s.heap.objs.size fa cd).cells.lookup y = some c → s.heap.get? c = none ∧ ∃ v, h1.IsCell c v := fun y c e => ⟨get_ge (Nat.le_of_lt (Cc.above y c (mem_of_lookup e))), _, Cc.cell y c e⟩
  have capt : ∀ x y c, (envOfC (dr 53).name (dr 53).scope s.heap.objs.size fa cd).cells.lookup x = some c → (envOfC (dr 53).name (dr 53).scope s.heap.objs.size fa cd).cells.lookup y = some c → x = y := fun x y c ex ey => name_of_addr Cc.apart (mem_of_lookup ex) (mem_of_lookup ey)
  clear F Cc
  generalize envOfC (dr 53).name (dr 53).scope s.heap.objs.size fa cd = env at V eL eFr fr1 kiD F0 cel capt ⊢
  have S0 : StC U s.heap (fun _ => False) env nm_law (fun b => b = env.locals ∨ ∃ y, env.cells.lookup y = some b) h1 [] m (fun _ => none) := {
    base := hT
    ext := fk
    xcin := fun b q => q.elim
    sub := fun b q => q.elim
    xin := fun b q => by
      rcases q with rfl | ⟨y, e⟩
      · obtain ⟨o, _, _, g, _⟩ := F0; exact ⟨o, g⟩
      · obtain ⟨_, v, o, g, _⟩ := cel y b e; exact ⟨o, g⟩
    xnew := fun b q => by
      rcases q with rfl | ⟨y, e⟩
      · exact .inr (by rw [eL]; exact get_size _)
      · exact .inr (cel y b e).1
    ns := F0
    xl := .inl rfl
    ln := by rw [eL]; exact get_size _
    cel := fun y c e => ⟨.inr ⟨y, e⟩, (cel y c e).1, (cel y c e).2⟩
    capt := capt
    at' := fun i x v _ e => by cases e
    sl := fun i x _ => by rw [sget_nil]; trivial
    kd := fun i x a l _ q => by rw [sget_nil] at q; cases q
    ow := fun i j x y a _ _ e => by cases e }
  -- draws = _law_draws(script)
  refine wpAny_execs_cons (wpAny_Assign_Name ?_ (by rfl))
  have Ld := cal_law_draws H
  obtain ⟨da, od, pmd, cdd, docd, hgd, hod, hdtd, _⟩ := U.fn (dr 39) Ld.mem
  rw [Ld.name] at hgd
  refine wpAny_Call_NameR (glob_any V (hT.trans fk) (by decide +kernel) hgd Ld.nd ?_)
  refine callWith_function (evalArgs_plain (spliced_cons (wpAny_Name (load_name V F0 (.inl ⟨kiD, mD⟩) (D 0 _ rfl).2 (spliced_nil ⟨⟨fk _ _ (hT _ _ hod), hdtd⟩, ?_⟩)) (D 0 _ rfl).1)))
  refine draws_ok H (s := { s with heap := h1, toks := t1 }) (hAd.le (by decide)) (hT.trans fk) hgd (fun X nx => (hS X nx).ext (Ext.toO fk X)) hn fun Da Ra h2 t2 rows seed x2 fD fR dd => ?_
  have nDT : U.hT.get? Da = none := (hT.trans fk).none fD
  have nRT : U.hT.get? Ra = none := (hT.trans fk).none fR
  have in2 : ∀ b, (b = Da ∨ b = Ra) → ∃ o, h2.get? b = some o := fun b q => by
    rcases q with rfl | rfl
    · obtain ⟨t, k, g⟩ := dd.d; exact ⟨_, g⟩
    · obtain ⟨t, k, g, _⟩ := dd.r; exact ⟨_, g⟩
  have f12 : ∀ b, (b = Da ∨ b = Ra) → h1.get? b = none := fun b q => by
    rcases q with rfl | rfl
    · exact fD
    · exact fR
  have S1 := S0.alloc (Y := fun b => (b = env.locals ∨ ∃ y, env.cells.lookup y = some b) ∨ (b = Da ∨ b = Ra)) x2 ⟨fun b q => .inl q, fun b q => q.imp id (f12 b)⟩ fun b q => by
    rcases q with q | q
    · obtain ⟨o, g⟩ := S0.xin b q; exact ⟨o, x2 _ _ g⟩
    · exact in2 b q
  obtain ⟨hx, S2, d2, lo2⟩ := S1.enter (fun b => id) (fun i => by rw [sget_nil]; rfl) dd (.inr (.inl rfl)) (.inr (.inr rfl)) (fun b q e => by
      obtain ⟨o, _, _, g, _⟩ := F0
      rw [e, f12 b q] at g; cases g) (fun y c e q => by
      obtain ⟨_, v, o, g, _⟩ := cel y c e
      rw [f12 c q] at g; cases g)
  refine store_name (i := 1) (sl := .v (ptrd Da)) V N0 S2 rfl (hk_of V (K 1 _ rfl)) (Fit.of_v (Rep.ptr Da)) fun h3 t3 m3 S3 K3 => ?_
  have DS3 : DS U env nm_law Da Ra _ h3 [.u, .v (ptrd Da)] := ⟨hx, rows, seed, ⟨_, _, S3⟩, d2, lo2, nDT, nRT, rfl⟩
  clear S0 S1 S2 S3 K3 dd d2 lo2 hx
  generalize (fun b => (b = env.locals ∨ ∃ y, env.cells.lookup y = some b) ∨ (b = Da ∨ b = Ra)) = X3 at DS3
  -- p, size = ..
  obtain ⟨hx, rws, sd, z3⟩ := id DS3
  refine wpAny_execs_cons ?_
  refine Assign_Tuple ?_ ?h1 ?h2
  case h1 => rfl
  case h2 => rfl
  refine (pick_eval (g := ?gg) (s := { s with heap := h3, toks := t3 }) (l := L4.map fun x => .tuple [.int x.1, .int x.2]) H D rfl gt ?kf SimE.int (by decide) hAd V DS3 ?g1 ?g2 (by decide) (by decide) ?g5 ?g6 ?g7 ?go : wpAny _ _ _ _ _ _)
  case kf => with_reducible exact (SimF.toE (SimF.disp (SimL.cons (SimE.tup (SimL.cons SimE.int (SimL.cons SimE.int SimL.nil))) (SimL.cons (SimE.tup (SimL.cons SimE.int (SimL.cons SimE.int SimL.nil))) (SimL.cons (SimE.tup (SimL.cons SimE.int (SimL.cons SimE.int SimL.nil))) (SimL.cons (SimE.tup (SimL.cons SimE.int (SimL.cons SimE.int SimL.nil))) SimL.nil))))))
  case g1 => rfl
  case g2 => rfl
  case g5 => intro _; rfl
  case g6 => intro _ _; rfl
  case g7 => intro _ _; rfl
  intro v val h4 t4 vm DS4 K4 r4
  obtain ⟨⟨p, z⟩, hpz, rfl⟩ := List.mem_map.mp vm
  obtain ⟨pool, PF⟩ := LF (p, z) hpz
  clear z3
  obtain ⟨hx, rws, sd, z4⟩ := id DS4
  refine (AsgOK.tup (NamesAt.c K (i := 6) rfl (NamesAt.c K (i := 7) rfl NamesAt.nil)) A' env _ { s with heap := h4, toks := t4 } hx _ _ _ (rho1 Da p z) val _ _ hAd V N0 z4.st r4 rfl fun h5 t5 S5 K5 _ => ?_ : wpAny _ _ _ _ _ _)
  have DS5 : DS U env nm_law Da Ra X3 h5 (rho1 Da p z) := ⟨hx, rws, sd, S5, z4.dr, z4.low, z4.nD, z4.nR, rfl⟩
  clear z4 S5 K5 r4 DS4 K4 DS3
  -- pool
  refine wpAny_execs_cons ?_
  refine (DS5.sim1 (c := cseto 2 (dpool Fpr)) (s := { s with heap := h5, toks := t5 }) (ρ' := [.u, .v (ptrd Da), .o pool, .u, .u, .u, .v (.int p), .v (.int z)]) ?ks1
    hAd V N0 ?_ rfl fun X6 h6 t6 DS6 K6 => ?_ : wpAny _ _ _ _ _ _)
  case ks1 => with_reducible exact (Sim1.asgComp (i := 2) (by with_unfolding_all rfl) (K 2 _ (by with_unfolding_all rfl)) (strong := false) (nm' := nm_law_0) (caps := [7]) (capB_spec (by decide +kernel)) (SimI.weak (SimE.toB (SimE.callN (cal_law_primes H) k_law_primes (SimL.cons (SimE.vr D (i := 6) (by with_unfolding_all rfl)) (SimL.cons (SimE.vr D (i := 7) (by with_unfolding_all rfl)) SimL.nil)) (by decide) (by decide +kernel)))) (AsgOK.name (i := 10) (by with_unfolding_all rfl) (.inl (by decide +kernel))) (Plainly.name _) (SimTs.one (Cmp.toT (Cmp.int crule_eq (SimE.len (SimB.vr D0 (i := 10) (by with_unfolding_all rfl)) (by decide +kernel)) (SimE.iop irule_add (SimE.vr D0 (i := 7) (by with_unfolding_all rfl)) SimE.int)))) (SimE.vr D0 (i := 10) (by with_unfolding_all rfl)) (by kernel_rfl))
  · show cseto 2 (dpool Fpr) (rho1 Da p z) = _
    unfold cseto
    rw [PF.pl Da]
    rfl
  obtain ⟨X7, DS7, K7⟩ := DS6.freeze (i := 2) (x := "pool") (l := pool) rfl rfl (by decide)
  have DS7 : DS U env nm_law Da Ra X7 h6 (rho2 Da p z pool) := DS7
  clear DS6 DS5 K6 K7
  refine wpAny_execs_cons ?_
  refine (DS7.sim1 (c := cif (tpool Fcp Ffp) (cret (econ (.bool false))) cskip) (s := { s with heap := h6, toks := t6 }) (ρ' := rho2 Da p z pool) ?ks2
    hAd V N0 ?_ rfl fun X8 h8 t8 DS8 K8 => ?_ : wpAny _ _ _ _ _ _)
  case ks2 => with_reducible exact (Sim1.ife (AllT.toT (AllT.or (Cmp.toT (Cmp.int crule_ne (SimE.callN (cal_count_prime_polys H) k_count_prime_polys (SimL.cons (SimE.vr D (i := 6) (by with_unfolding_all rfl)) (SimL.cons (SimE.vr D (i := 7) (by with_unfolding_all rfl)) SimL.nil)) (by decide) (by decide +kernel)) (SimE.len (SimB.vr D (i := 2) (by with_unfolding_all rfl)) (by decide +kernel)))) (AllT.one (Cmp.toT (Cmp.ne (SimE.toR (SimE.callN (cal_first_prime_poly H) k_first_prime_poly (SimL.cons (SimE.vr D (i := 6) (by with_unfolding_all rfl)) (SimL.cons (SimE.vr D (i := 7) (by with_unfolding_all rfl)) SimL.nil)) (by decide) (by decide +kernel))) (SimE.toR (SimE.lidx (SimB.vr D (i := 2) (by with_unfolding_all rfl)) SimE.int))))))) (SimS.one (Sim1.ret SimE.bool)) SimS.nil)
  · show cif (tpool Fcp Ffp) (cret (econ (.bool false))) cskip (rho2 Da p z pool) = _
    unfold cif
    rw [PF.ok Da]
    rfl
  clear DS7 K8
  -- m
  refine wpAny_execs_cons ?_
  refine (wpAny_Assign_Name (pick_eval (s := { s with heap := h8, toks := t8 }) (l := pool) H D rfl gt (SimE.vr D (i := 2) rfl) (SimE.len (SimB.vr D (i := 2) rfl) (by decide +kernel)) (by decide) hAd V DS8 rfl ?_ PF.lo PF.hi (by intro _; rfl) (by intro _ _; rfl) (by intro _ _; rfl) ?_) (by rfl) : wpAny _ _ _ _ _ _)
  · show elen (bvar 2) (rho2 Da p z pool) = _
    unfold elen
    rw [bvar_of (l := pool) rfl]
    dsimp only
    rw [show Nat.blt pool.length 4294967296 = true from by rw [Nat.blt_eq]; have := PF.hi; omega]
    rfl
  intro mm val h9 t9 hmem DS9 K9 r9
  obtain ⟨things, FF⟩ := PF.each mm hmem
  obtain ⟨hx, rws, sd, z9⟩ := id DS9
  obtain ⟨m9, σ9, S9⟩ := id z9.st
  refine (store_name (s := { s with heap := h9, toks := t9 }) (i := 3) (sl := .v mm) V N0 S9 rfl (hk_of V (K 3 _ rfl)) (Fit.of_v r9) fun h10 t10 m10 S10 K10 => ?_ : wpAny _ _ _ _ _ _)
  have DS10 : DS U env nm_law Da Ra X8 h10 [.u, .v (ptrd Da), .v (.list pool), .v mm, .u, .u, .v (.int p), .v (.int z)] := ⟨hx, rws, sd, ⟨_, _, S10⟩, z9.dr, z9.low, z9.nD, z9.nR, rfl⟩
  clear S10 z9 S9 DS9 K9 K10 DS8 r9
  -- things
  refine wpAny_execs_cons ?_
  refine (DS10.sim1 (c := cset 4 (ecall Fth (lcons (evar 3) (lcons (evar 6) lnil)))) (s := { s with heap := h10, toks := t10 }) (ρ' := rho4 Da p z pool mm things) ?ks3 hAd V N0 ?_ rfl fun X11 h11 t11 DS11 K11 => ?_ : wpAny _ _ _ _ _ _)
  case ks3 => with_reducible exact (Sim1.asgN K (i := 4) (by with_unfolding_all rfl) (SimE.callN (cal_gf_things H) k_gf_things (SimL.cons (SimE.vr D (i := 3) (by with_unfolding_all rfl)) (SimL.cons (SimE.vr D (i := 6) (by with_unfolding_all rfl)) SimL.nil)) (by decide) (by decide +kernel)))
  · show cset 4 (ecall Fth (lcons (evar 3) (lcons (evar 6) lnil))) [.u, .v (ptrd Da), .v (.list pool), .v mm, .u, .u, .v (.int p), .v (.int z)] = _
    unfold cset
    rw [show ecall Fth (lcons (evar 3) (lcons (evar 6) lnil)) [.u, .v (ptrd Da), .v (.list pool), .v mm, .u, .u, .v (.int p), .v (.int z)] = Fth [mm, .int p] from rfl, FF.th]
    rfl
  clear DS10 K11
  refine wpAny_execs_cons ?_
  refine (DS11.sim1 (c := cif tthings (cret (econ (.bool false))) cskip) (s := { s with heap := h11, toks := t11 }) (ρ' := rho4 Da p z pool mm things) ?ks5
    hAd V N0 ?_ rfl fun X12 h12 t12 DS12 K12 => ?_ : wpAny _ _ _ _ _ _)
  case ks5 => with_reducible exact (Sim1.ife (AllT.toT (AllT.or (Cmp.toT (Cmp.int crule_ne (SimE.len (SimB.vr D (i := 4) (by with_unfolding_all rfl)) (by decide +kernel)) (SimE.iop irule_pow (SimE.vr D (i := 6) (by with_unfolding_all rfl)) (SimE.vr D (i := 7) (by with_unfolding_all rfl))))) (AllT.one (Cmp.toT (Cmp.ne (SimE.toR (SimF.toE (SimF.comp (strong := false) (nm' := nm_law_1) (caps := [4]) (capB_spec (by decide +kernel)) (SimI.enumW (SimB.vr D (i := 4) (by with_unfolding_all rfl)) (by decide +kernel)) (AsgOK.tup (NamesAt.cons (i := 11) (by with_unfolding_all rfl) (.inl (by decide +kernel)) (NamesAt.cons (i := 12) (by with_unfolding_all rfl) (.inl (by decide +kernel)) NamesAt.nil))) (Plainly.tup _) (SimTs.one (Cmp.toT (Cmp.isin (SimE.toR (SimE.vr D1 (i := 12) (by with_unfolding_all rfl))) (SimF.toB (SimF.upto (SimB.vr D1 (i := 4) (by with_unfolding_all rfl)) (SimE.vr D1 (i := 11) (by with_unfolding_all rfl))))))) (SimE.vr D1 (i := 12) (by with_unfolding_all rfl))))) (SimE.toR (SimF.toE (SimF.disp SimL.nil)))))))) (SimS.one (Sim1.ret SimE.bool)) SimS.nil)
  · show cif tthings (cret (econ (.bool false))) cskip (rho4 Da p z pool mm things) = _
    unfold cif
    rw [FF.ok Da]
    rfl
  clear DS11 K12
  -- the two turns
  refine wpAny_execs_cons ?_
  refine (DS.for (hs := ?hfs) (l := [.int 0, .int 1]) (d := brange1 (econ (.int 2))) (f := asgName 5) (s := { s with heap := h12, toks := t12 }) (Inv := fun ρ => sget ρ 3 = .v mm ∧ sget ρ 4 = .v (.list things) ∧ sget ρ 6 = .v (.int p))
    (Pre := fun x ρ => sget ρ 5 = .v x ∧ sget ρ 3 = .v mm ∧ sget ρ 4 = .v (.list things) ∧ sget ρ 6 = .v (.int p))
    ?kr ?kt (fun x _ ρ I w => ⟨_, rfl, ⟨sget_same _ _ _, (sget_ne _ _ (by decide)).trans I.1, (sget_ne _ _ (by decide)).trans I.2.1, (sget_ne _ _ (by decide)).trans I.2.2⟩, (sget_ne _ _ (by decide)).trans w⟩) ?_
    hAd V N0 DS12 rfl ⟨rfl, rfl, rfl⟩ fun X13 h13 t13 ρ13 DS13 _ _ => ?_ : wpAny _ _ _ _ _ _)
  case hfs => intro _ _; with_unfolding_all rfl
  case kr => with_reducible exact (SimI.range1 SimE.int (by decide +kernel))
  case kt => with_reducible exact (AsgOK.vr K (i := 5) (by with_unfolding_all rfl))
  · intro x xm E2 s2 X2 ρ2 Q2 DSa pre hQ
    obtain ⟨t, rfl⟩ : ∃ t, x = .int t := by
      have xm' : x ∈ [PyData.int 0, PyData.int 1] := xm
      simp only [List.mem_cons, List.not_mem_nil, or_false] at xm'
      rcases xm' with rfl | rfl <;> exact ⟨_, rfl⟩
    obtain ⟨p5, p3, p4, p6⟩ := pre
    have ln4 : elen (bvar 4) ρ2 = some (.int (things.length : Nat)) := by
      unfold elen
      rw [bvar_of p4]
      dsimp only
      rw [show Nat.blt things.length 4294967296 = true from by rw [Nat.blt_eq]; have := FF.hi; omega]
      rfl
    refine wpAny_execs_cons ?_
    refine (Assign_Tuple_swapped (names := ["a", "b"]) (Tuple_ ?go2) ?sw1 ?sw2 : wpAny _ _ _ _ _ _)
    case sw1 => rfl
    case sw2 => exact (sw_env (by rw [V.es]) _ _).trans (by kernel_rfl)
    refine spliced_cons ?_
    refine (pick_eval (g := evar 4) (d := elen (bvar 4)) (l := things) H D rfl gt ?pf1 ?pk1 (by decide) hAd V DSa (evar_of p4) ln4 FF.lo FF.hi ?pa1 ?pb1 ?pc1 ?_ : wpAny _ _ _ _ _ _)
    case pa1 => intro _; with_unfolding_all rfl
    case pb1 => intro _ _; with_unfolding_all rfl
    case pc1 => intro _ _; with_unfolding_all rfl
    case pf1 => with_reducible exact (SimE.vr D (i := 4) (by with_unfolding_all rfl))
    case pk1 => with_reducible exact (SimE.len (SimB.vr D (i := 4) (by with_unfolding_all rfl)) (by decide +kernel))
    intro va vala hb tb hva DSb Kb rb
    refine spliced_cons ?_
    refine (pick_eval (g := evar 4) (d := elen (bvar 4)) (s := { s2 with heap := hb, toks := tb }) (l := things) H D rfl gt ?pf2 ?pk2 (by decide) hAd V DSb (evar_of p4) ln4 FF.lo FF.hi ?pa2 ?pb2 ?pc2 ?_ : wpAny _ _ _ _ _ _)
    case pa2 => intro _; with_unfolding_all rfl
    case pb2 => intro _ _; with_unfolding_all rfl
    case pc2 => intro _ _; with_unfolding_all rfl
    case pf2 => with_reducible exact (SimE.vr D (i := 4) (by with_unfolding_all rfl))
    case pk2 => with_reducible exact (SimE.len (SimB.vr D (i := 4) (by with_unfolding_all rfl)) (by decide +kernel))
    intro vb valb hc tc hvb DSc Kc rc
    refine spliced_nil ?_
    have ra := Kc.rep _ _ rb
    refine wpAny_newObj_type ?_ (by show [vala, valb].toArray.size ≤ sizeLine; rw [sizeLine_eq]; simp)
    have ht : (hc.push (tupObj [vala, valb].toArray 0)).IsTuple hc.objs.size [vala, valb].toArray := ⟨_, Heap.get?_push_size _ rfl, rfl, 0, rfl⟩
    refine (wpAny_unpackItems_tuple (s := { s2 with heap := hc.push (tupObj [vala, valb].toArray 0), toks := tc }) (items := [vala, valb].toArray) hAd.1 ht fun hd xd => ?_ : wpAny _ _ _ _ _ _)
    obtain ⟨hx, rws, sd, zc⟩ := id DSc
    refine bind_tuple (s := { s2 with heap := hc, toks := tc }) (zs := [(vala, .v va), (valb, .v vb)]) (zs' := [(valb, .v vb), (vala, .v va)]) (lo := false) (is := [9, 8]) (ρ' := sset (sset ρ2 9 (.v vb)) 8 (.v va)) V N0 zc.st (Ext.refl _) (Grow.refl _ _) DSc.xin ⟨fun z mz => ?_, ?_⟩ (.inr rfl) (StrsAt.tg (StrsAt.c K (i := 9) (x := "b") rfl (StrsAt.c K (i := 8) (x := "a") rfl StrsAt.nil))) rfl ((Ext.push _ _).trans (ext_but xd)) fun he te Se Ke => ?_
    · simp only [List.mem_cons, List.not_mem_nil, or_false] at mz
      rcases mz with rfl | rfl
      · exact ⟨⟨_, rfl, ra⟩, fun o => by cases o⟩
      · exact ⟨⟨_, rfl, rc⟩, fun o => by cases o⟩
    · simp [Slot.own]
    have DSe : DS U env nm_law Da Ra X2 he (sset (sset ρ2 9 (.v vb)) 8 (.v va)) := ⟨hx, rws, sd, Se, zc.dr, zc.low, zc.nD, zc.nR, ((sget_ne _ _ (by decide)).trans (sget_ne _ _ (by decide))).trans zc.dw⟩
    have Kall := (Kb.trans Kc).trans Ke
    have q8 : sget (sset (sset ρ2 9 (.v vb)) 8 (.v va)) 8 = .v va := sget_same _ _ _
    have q9 : sget (sset (sset ρ2 9 (.v vb)) 8 (.v va)) 9 = .v vb := (sget_ne _ _ (by decide)).trans (sget_same _ _ _)
    have q3 : sget (sset (sset ρ2 9 (.v vb)) 8 (.v va)) 3 = .v mm := ((sget_ne _ _ (by decide)).trans (sget_ne _ _ (by decide))).trans p3
    have q4 : sget (sset (sset ρ2 9 (.v vb)) 8 (.v va)) 4 = .v (.list things) := ((sget_ne _ _ (by decide)).trans (sget_ne _ _ (by decide))).trans p4
    have q5 : sget (sset (sset ρ2 9 (.v vb)) 8 (.v va)) 5 = .v (.int t) := ((sget_ne _ _ (by decide)).trans (sget_ne _ _ (by decide))).trans p5
    have q6 : sget (sset (sset ρ2 9 (.v vb)) 8 (.v va)) 6 = .v (.int p) := ((sget_ne _ _ (by decide)).trans (sget_ne _ _ (by decide))).trans p6
    generalize sset (sset ρ2 9 (.v vb)) 8 (.v va) = ρ3 at DSe q3 q4 q5 q6 q8 q9
    have TF := FF.each va hva
    clear zc Se Ke DSc DSb DSa
    -- reckoned, sums
    refine wpAny_execs_cons ?_
    refine (wpAny_If (wpAny_isTrue_BoolOp ?_) : wpAny _ _ _ _ _ _)
    rw [arm_allTrue_cons]
    refine wpAny_bind (isTrue_not (isTrue_plain ?_))
    have Lr := cal_law_reckoned_right H
    obtain ⟨ra', or', pmr, cdr, docr, hgr, hor, hdtr, _⟩ := U.fn (dr 50) Lr.mem
    rw [Lr.name] at hgr
    obtain ⟨hx, rws, sd, ze⟩ := id DSe
    refine wpAny_Call_NameR (glob_any (s := { s2 with heap := he, toks := te }) V DSe.top (by decide +kernel) hgr Lr.nd ?_)
    refine callWith_function (o := or') (fd := docDef (dr 50).name (dr 50).params (dr 50).body (dr 50).scope pmr cdr docr) (evalArgs_plain ?_)
    refine spliced_cons ?_
    refine ((SimE.vr D (i := 8) rfl : SimE U 10 (dr 53).scope nm_law _ _) A' env _ { s2 with heap := he, toks := te } hx _ X2 ρ3 _ _ hAd V ze.st (evar_of q8) fun w1 g1 u1 y1 e1 => ?_ : wpAny _ _ _ _ _ _)
    refine spliced_cons ?_
    refine ((SimE.vr D (i := 9) rfl : SimE U 10 (dr 53).scope nm_law _ _) A' env _ { s2 with heap := g1, toks := u1 } hx _ X2 ρ3 _ _ hAd V (ze.st.ext' y1) (evar_of q9) fun w2 g2 u2 y2 e2 => ?_ : wpAny _ _ _ _ _ _)
    refine spliced_cons ?_
    refine (take_eval (s := { s2 with heap := g2, toks := u2 }) (kk := 9) H D rfl gt SimE.int (by decide) hAd V (DSe.ext' (y1.trans y2)) rfl (by decide) (by intro _; rfl) (by intro _ _; rfl) fun i g3 u3 t3 i0 i1 DSf Kf => ?_ : wpAny _ _ _ _ _ _)
    obtain ⟨hx, rws, sd, zf⟩ := id DSf
    refine spliced_cons ?_
    refine ((SimE.vr D (i := 3) rfl : SimE U 10 (dr 53).scope nm_law _ _) A' env _ { s2 with heap := g3, toks := u3 } hx _ X2 ρ3 _ _ hAd V zf.st (evar_of q3) fun w4 g4 u4 y4 e4 => ?_ : wpAny _ _ _ _ _ _)
    refine spliced_cons ?_
    refine ((SimE.vr D (i := 6) rfl : SimE U 10 (dr 53).scope nm_law _ _) A' env _ { s2 with heap := g4, toks := u4 } hx _ X2 ρ3 _ _ hAd V (zf.st.ext' y4) (evar_of q6) fun w5 g5 u5 y5 e5 => ?_ : wpAny _ _ _ _ _ _)
    refine spliced_nil ⟨⟨(zf.st.top.trans (y4.trans y5)) _ _ hor, hdtr⟩, ?_⟩
    have f1 := ((Kf.rep _ _ (e1.ext (y2.toO X2))).ext (y4.toO X2)).ext (y5.toO X2)
    have f2 := ((Kf.rep _ _ e2).ext (y4.toO X2)).ext (y5.toO X2)
    have R5 : RepL X2 g5 [w1, w2, .int i t3, w4, w5] [va, vb, .int i, mm, .int p] := .cons f1 (.cons f2 (.cons (.int _ _) (.cons (e4.ext (y5.toO X2)) (.cons e5 .nil))))
    have DS5' := DSf.ext' (y4.trans y5)
    have L5 : ∃ o, g5.get? env.locals = some o ∧ (∀ vs, o.data ≠ .fields vs) ∧ U.hT.get? env.locals = none := by
      obtain ⟨hq, _, _, zq⟩ := id DS5'
      obtain ⟨_, _, Sq⟩ := zq.st
      obtain ⟨o, es, ep, g, d, _⟩ := Sq.ns
      exact ⟨o, g, (fun vs q => by rw [d] at q; cases q), Sq.base.none Sq.ln⟩
    have key : ∀ (Qk : Value → Shared → Prop) (Ek : Value → Shared → Prop), (∀ g6 u6, DS U env nm_law Da Ra X2 g6 ρ3 → Keeps X2 X2 g5 g6 → Qk (.bool true) { s2 with heap := g6, toks := u6 }) → wpAny (model U.prog U.w) A' (call (.ref ra') [w1, w2, .int i t3, w4, w5] []) Qk Ek { s2 with heap := g5, toks := u5 } := by
      intro Qk Ek hk
      rcases TF.reck vb hvb i i0 i1 with hr | ⟨ha, FM, FL, kM, kL, hq⟩
      · refine (k_law_reckoned_right A' _ { s2 with heap := g5, toks := u5 } X2 _ [va, vb, .int i, mm, .int p] (.bool true) ra' _ (hAd.le ?h1) DS5'.top DS5'.xin hgr R5 hr ?_ : wpAny _ _ _ _ _ _)
        case h1 => decide
        intro w6 g6 u6 y6 e6
        cases e6
        exact hk g6 u6 (DS5'.ext' y6) (Keeps.ext y6)
      · subst ha
        obtain ⟨oL, gL, nL, tL⟩ := L5
        have mN : (mask g5 fun b => Nat.beq b env.locals).get? env.locals = none := by rw [mask_get, if_pos (Nat.beq_refl _)]
        have mB : ∀ b o, b ≠ env.locals → g5.get? b = some o → (mask g5 fun b => Nat.beq b env.locals).get? b = some o := fun b o q g => by
          rw [mask_get, if_neg (fun z => q (Nat.eq_of_beq_eq_true z))]; exact g
        refine (reck_nil (s := { s2 with heap := g5, toks := u5 }) (X := X2) (B := mask g5 fun b => Nat.beq b env.locals) H Z kM kL (hAd.le ?h2) DS5'.top DS5'.xin hgr R5 hq fr1 ?h3 mask_ext ?h4 ?h5 : wpAny _ _ _ _ _ _)
        case h2 => decide
        case h3 => exact fun b o g => mB b o (by rintro rfl; rw [tL] at g; cases g) (DS5'.top _ _ g)
        case h4 => exact ⟨by rw [V.es, kf]; decide, ⟨env.locals, oL, eFr, mN, gL, nL⟩, trivial⟩
        intro g6 u6 st6 sm6
        obtain ⟨D6, K6⟩ := DS5'.slots (fun b o q g => st6 b o (mB b o q g)) sm6
        exact hk g6 u6 D6 K6
    refine key _ _ fun g6 u6 DSg K6 => ?_
    refine wpAny_truthy_bool ?_
    have Kg : Keeps X2 X2 he g6 := (((Keeps.ext (y1.trans y2)).trans Kf).trans (Keeps.ext (y4.trans y5))).trans K6
    clear zf ze DSe DSf Kf f1 f2 e1 e2 e4 e5
    obtain ⟨hx, rws, sd, zg⟩ := id DSg
    have sv : tnot (tval (ecall Fsr (lcons (evar 8) (lcons (evar 3) (lcons (evar 6) lnil))))) ρ3 = some false := by
      unfold tnot tval ecall lcons
      rw [evar_of q8, evar_of q3, evar_of q6]
      dsimp only
      rw [show lnil ρ3 = some [] from rfl]
      dsimp only
      rw [TF.sums]
      rfl
    refine ((AllT.one (SimT.not (SimT.val (SimE.callN (cal_law_sums_right H) k_law_sums_right (SimL.cons (SimE.vr D (i := 8) rfl) (SimL.cons (SimE.vr D (i := 3) rfl) (SimL.cons (SimE.vr D (i := 6) rfl) SimL.nil))) (by decide) (by decide +kernel)))) : AllT U 10 (dr 53).scope nm_law .Or _ _)) A' env _ { s2 with heap := g6, toks := u6 } hx _ X2 ρ3 false _ hAd V zg.st sv fun g7 u7 y7 => ?_
    rw [if_neg Bool.false_ne_true]
    refine wpAny_execs_nil ?_
    have DSh := DSg.ext' y7
    -- orders
    obtain ⟨l, rfl, hfl, hor2⟩ := TF.flat
    refine wpAny_execs_cons ?_
    refine (DSh.sim1 (c := cif (torder For) (cret (econ (.bool false))) cskip) (s := { s2 with heap := g7, toks := u7 }) (ρ' := ρ3) ?ks4
      hAd V N0 ?_ (let ⟨_, _, _, s⟩ := DSh; s.dw) fun X9 g9 u9 DSi Ki => ?_ : wpAny _ _ _ _ _ _)
    case ks4 => with_reducible exact (Sim1.ife (AllT.toT (AllT.and (Cmp.toT (Cmp.int crule_eq (SimE.vr D (i := 5) (by with_unfolding_all rfl)) SimE.int)) (AllT.and (Cmp.toT (Cmp.ne (SimE.toR (SimE.vr D (i := 8) (by with_unfolding_all rfl))) (SimE.toR (SimF.toE (SimF.disp SimL.nil))))) (AllT.one (SimT.not (SimT.val (SimE.callN (cal_law_orders_right H) k_law_orders_right (SimL.cons (SimE.vr D (i := 8) (by with_unfolding_all rfl)) (SimL.cons (SimE.vr D (i := 3) (by with_unfolding_all rfl)) (SimL.cons (SimE.vr D (i := 6) (by with_unfolding_all rfl)) SimL.nil))) (by decide) (by decide +kernel)))))))) (SimS.one (Sim1.ret SimE.bool)) SimS.nil)
    · show cif (torder For) (cret (econ (.bool false))) cskip ρ3 = _
      unfold cif
      rw [torder_false q5 q8 q3 q6 hfl hor2]
      rfl
    refine wpAny_execs_nil (hQ X9 g9 u9 ρ3 DSi ⟨q3, q4, q6⟩ (((Kall.trans Kg).trans (Keeps.ext y7)).trans Ki))
  -- return True
  obtain ⟨hx, rws, sd, z13⟩ := id DS13
  refine wpAny_execs_cons ?_
  refine (Sim1.ret (n := 10) (sc := (dr 53).scope) (nm := nm_law) SimE.bool A' env _ { s with heap := h13, toks := t13 } hx _ _ ρ13 (.rt (.bool true)) _ hAd V N0 z13.st rfl ?_ : wpAny _ _ _ _ _ _)
  intro val h14 t14 x14 r14
  cases r14
  obtain ⟨m13, σ13, S13⟩ := z13.st
  exact h h14 t14 (S13.base.trans x14)
end

end
/-! J0 -/
noncomputable def flatB (dom : List PyData) : Bool := allB (fun a => match a with | .list l => allFlat l | _ => false) dom
theorem isNil_eq {a : PyData} (h : isNil a = true) : a = .list [] := by
  unfold isNil at h
  split at h
  · rfl
  · cases h
theorem fieldF_of {U : Uni} {Frr Fsr For FX FI PW LR DV SQ SU OR RK : FN} {tr : C} {dom pool : List PyData} {m : PyData} {p z : Int} (kM : CallOK U "gf_multiply" 5 FX) (kL : CallOK U "_law_mul" 3 FX)
    (hRK : RK = runArgs 5 (reckC tr FI FX FX SQ DV PW LR F_gf_things))
    (hrr : ∀ args, RK args = some (.bool true) → Frr args = some (.bool true)) (hsr : ∀ args, SU args = some (.bool true) → Fsr args = some (.bool true)) (hor : ∀ args, OR args = some (.bool true) → For args = some (.bool true))
    (th : isR (F_gf_things [m, .int p]) (.list dom) = true) (lo : 1 ≤ dom.length) (hi : dom.length ≤ 1000) (ok : ∀ D, tthings (rho4 D p z pool m dom) = some false) (fl : flatB dom = true)
    (su : sumsB SU dom [m, .int p] = true) (od : ordsB OR dom [m, .int p] = true) (pw : powsB PW LR FI dom m (.int p) = true) (dv : divsB FX FI DV dom m (.int p) = true) (sq : sqsB FX SQ dom m (.int p) = true) :
    FieldF U F_gf_things Frr Fsr For p z pool m dom where
  th := isR_eq th
  lo := lo
  hi := hi
  ok := ok
  each := fun a ha => by
    have f1 := allB_get fl ha
    obtain ⟨l, rfl, fl1⟩ : ∃ l, a = .list l ∧ allFlat l = true := by
      split at f1
      · exact ⟨_, rfl, f1⟩
      · cases f1
    have d1 := and2_get (allB_get dv ha)
    have o1 := allB_get od ha
    have p1 := allB_get pw ha
    refine ⟨⟨l, rfl, fl1, ?_⟩, hsr _ (isR_eq (allB_get su ha)), fun b hb n n0 n9 => ?_⟩
    · cases hn : isNil (.list l) with
      | true => left; have := isNil_eq hn; injection this
      | false =>
        skip
        rw [hn] at o1
        exact .inr (hor _ (isR_eq o1))
    · have m1 := allB_get d1.1 hb
      cases hn : isNil (.list l) with
      | true =>
        have := isNil_eq hn
        rw [this] at m1
        exact .inr ⟨this, FX, FX, kM, kL, m1⟩
      | false =>
        have d2 := d1.2
        skip
        rw [hn] at d2 p1
        obtain ⟨i, hi1, d3⟩ := bind1_get d2
        obtain ⟨i', hi2, p3⟩ := bind1_get p1
        rw [hi1] at hi2
        cases hi2
        obtain ⟨d4, d5⟩ := and2_get d3
        have hns : n ∈ ns9 := by
          have : n = 0 ∨ n = 1 ∨ n = 2 ∨ n = 3 ∨ n = 4 ∨ n = 5 ∨ n = 6 ∨ n = 7 ∨ n = 8 := by omega
          rcases this with rfl | rfl | rfl | rfl | rfl | rfl | rfl | rfl | rfl <;> simp [ns9]
        obtain ⟨p4, p5⟩ := and2_get (allB_get p3 hns)
        have d6 := allB_get d5 hb
        unfold sqsB at sq
        split at sq
        · rename_i sl hsl
          have s1 := allB_get sq ha
          split at s1
          · rename_i s hs
            refine .inl (hrr _ ?_)
            rw [hRK]
            have R := reck_of (tr := tr) (x := .none) (q := .none) ⟨l, rfl, fl1⟩ hn m1 hi1 d4 d6 p4 p5 hsl hs s1
            show (match reckC tr FI FX FX SQ DV PW LR F_gf_things [.v (.list l), .v b, .v (.int n), .v m, .v (.int p)] with | some (.rt d) => some d | _ => none) = _
            rw [R]
          · cases s1
        · cases sq

/-! J1 -/
theorem kMM2 {U : Uni} (H : Us U) : CallOK U "mmul" 2 FM2 := (k_mmul H).le (tab2_le tm2_mul)
theorem kMT2 {U : Uni} (H : Us U) : CallOK U "_law_times" 2 FM2 := (k_law_times H).le (tab2_le tm2_tim)
theorem kFA2 {U : Uni} (H : Us U) : CallOK U "madd" 2 FA2 := (k_madd H).le (tab2_le tp2_add)
theorem kFP2 {U : Uni} (H : Us U) : CallOK U "_law_plus" 2 FP2 := (k_law_plus H).le (orF_le (tab2_le tp2_plu) (tab2_le tz2_plu))
theorem kMM3 {U : Uni} (H : Us U) : CallOK U "mmul" 2 FM3 := (k_mmul H).le (tab2_le tm3_mul)
theorem kMT3 {U : Uni} (H : Us U) : CallOK U "_law_times" 2 FM3 := (k_law_times H).le (tab2_le tm3_tim)
theorem kFA3 {U : Uni} (H : Us U) : CallOK U "madd" 2 FA3 := (k_madd H).le (tab2_le tp3_add)
theorem kFP3 {U : Uni} (H : Us U) : CallOK U "_law_plus" 2 FP3 := (k_law_plus H).le (orF_le (tab2_le tp3_plu) (tab2_le tz3_plu))
theorem kRa_0 {U : Uni} (H : Us U) : CallOK U "mrest" 4 FR_0 := (k_mrest H).le (tab1_le tr_0_rest)
theorem kRb_0 {U : Uni} (H : Us U) : CallOK U "_law_left" 2 FR_0 := (k_law_left H).le (tab1_le tr_0_left)
theorem kXa0_0 {U : Uni} (H : Us U) : CallOK U "gf_multiply" 5 (runArgs 4 (c_gf_multiply FR_0 FM2)) := O_gf_multiply H (kRa_0 H) (kMM2 H)
theorem kXa_0 {U : Uni} (H : Us U) : CallOK U "gf_multiply" 5 FX_0 := (kXa0_0 H).le (tab2_le tx_0_mul)
theorem kXb0_0 {U : Uni} (H : Us U) : CallOK U "_law_mul" 3 (runArgs 4 (c_law_mul FR_0 FM2)) := O_law_mul H (kRb_0 H) (kMT2 H)
theorem kXb_0 {U : Uni} (H : Us U) : CallOK U "_law_mul" 3 FX_0 := (kXb0_0 H).le (tab2_le tx_0_lm)
theorem kFI_0 {U : Uni} (H : Us U) : CallOK U "gf_inverse" 6 FI_0 := (k_gf_inverse H).le (tab1_le ti_0)
theorem kPW_0 {U : Uni} (H : Us U) : CallOK U "gf_power" 7 PW_0 := O_gf_power H (kFI_0 H) (kXa_0 H)
theorem kLR_0 {U : Uni} (H : Us U) : CallOK U "_law_raised" 4 LR_0 := O_law_raised H (kXb_0 H)
theorem kFFa_0 {U : Uni} (H : Us U) : CallOK U "gf_power" 7 FF_0 := (kPW_0 H).le (tab1_le tf_0_pw)
theorem kFFb_0 {U : Uni} (H : Us U) : CallOK U "_law_raised" 4 FF_0 := (kLR_0 H).le (tab1_le tf_0_lr)
theorem kOD_0 {U : Uni} (H : Us U) : CallOK U "gf_order" 8 OD_0 := O_gf_order H (k_prime_factors H) (k_gf_size H) (kPW_0 H)
theorem kFO_0 {U : Uni} (H : Us U) : CallOK U "gf_order" 8 FO_0 := (kOD_0 H).le (tab1_le to_0)
theorem kGN_0 {U : Uni} (H : Us U) : CallOK U "gf_generator" 9 GN_0 := O_gf_generator H (k_counted H) (kFO_0 H) (k_gf_size H)
theorem kFG_0 {U : Uni} (H : Us U) : CallOK U "gf_generator" 9 FG_0 := (kGN_0 H).le (tab0_le tg_0)
theorem kLG_0 {U : Uni} (H : Us U) : CallOK U "gf_logarithm" 9 LG_0 := O_gf_logarithm H (kFO_0 H) (kXa_0 H) (kFI_0 H)
theorem kOR_0 {U : Uni} (H : Us U) : CallOK U "_law_orders_right" 10 OR_0 := O_law_orders_right H (kXb_0 H) (kFO_0 H) (kFG_0 H) (kLG_0 H)
theorem kCJ_0 {U : Uni} (H : Us U) : CallOK U "gf_conjugates" 8 CJ_0 := O_gf_conjugates H (kFFa_0 H)
theorem kLE_0 {U : Uni} (H : Us U) : CallOK U "gf_least" 9 LE_0 := O_gf_least H (kCJ_0 H) (k_number_of H) (kFA2 H) (k_mneg H) (kXa_0 H)
theorem kAT_0 {U : Uni} (H : Us U) : CallOK U "gf_at" 6 AT_0 := O_gf_at H (kFA2 H) (kXa_0 H) (k_mscale H)
theorem kTC_0 {U : Uni} (H : Us U) : CallOK U "gf_trace" 8 TC_0 := O_gf_trace H (k_number_of H) (k_mdegree H) (kFA2 H) (kFFa_0 H)
theorem kNO_0 {U : Uni} (H : Us U) : CallOK U "gf_norm" 8 NO_0 := O_gf_norm H (k_number_of H) (k_mdegree H) (kXa_0 H) (kFFa_0 H)
theorem kVA_0 {U : Uni} (H : Us U) : CallOK U "_law_value" 4 VA_0 := O_law_value H (kFP2 H) (kXb_0 H)
theorem kSU_0 {U : Uni} (H : Us U) : CallOK U "_law_sums_right" 10 SU_0 := O_law_sums_right H (kLE_0 H) (kFFb_0 H) (kFP2 H) (kXb_0 H) (kVA_0 H) (kAT_0 H) (kTC_0 H) (kNO_0 H) (k_law_counted H)
theorem kDV_0 {U : Uni} (H : Us U) : CallOK U "gf_divide" 7 DV_0 := O_gf_divide H (kXa_0 H) (kFI_0 H)
theorem kSQ_0 {U : Uni} (H : Us U) : CallOK U "gf_is_square" 8 SQ_0 := O_gf_is_square H (kPW_0 H) (k_gf_size H)
theorem kRK_0 {U : Uni} (H : Us U) : CallOK U "_law_reckoned_right" 9 RK_0 := O_law_reckoned_right H (kFI_0 H) (kXa_0 H) (kXb_0 H) (kSQ_0 H) (kDV_0 H) (kPW_0 H) (kLR_0 H) (k_gf_things H)
theorem kRa_1 {U : Uni} (H : Us U) : CallOK U "mrest" 4 FR_1 := (k_mrest H).le (tab1_le tr_1_rest)
theorem kRb_1 {U : Uni} (H : Us U) : CallOK U "_law_left" 2 FR_1 := (k_law_left H).le (tab1_le tr_1_left)
theorem kXa0_1 {U : Uni} (H : Us U) : CallOK U "gf_multiply" 5 (runArgs 4 (c_gf_multiply FR_1 FM2)) := O_gf_multiply H (kRa_1 H) (kMM2 H)
theorem kXa_1 {U : Uni} (H : Us U) : CallOK U "gf_multiply" 5 FX_1 := (kXa0_1 H).le (tab2_le tx_1_mul)
theorem kXb0_1 {U : Uni} (H : Us U) : CallOK U "_law_mul" 3 (runArgs 4 (c_law_mul FR_1 FM2)) := O_law_mul H (kRb_1 H) (kMT2 H)
theorem kXb_1 {U : Uni} (H : Us U) : CallOK U "_law_mul" 3 FX_1 := (kXb0_1 H).le (tab2_le tx_1_lm)
theorem kFI_1 {U : Uni} (H : Us U) : CallOK U "gf_inverse" 6 FI_1 := (k_gf_inverse H).le (tab1_le ti_1)
theorem kPW_1 {U : Uni} (H : Us U) : CallOK U "gf_power" 7 PW_1 := O_gf_power H (kFI_1 H) (kXa_1 H)
theorem kLR_1 {U : Uni} (H : Us U) : CallOK U "_law_raised" 4 LR_1 := O_law_raised H (kXb_1 H)
theorem kFFa_1 {U : Uni} (H : Us U) : CallOK U "gf_power" 7 FF_1 := (kPW_1 H).le (tab1_le tf_1_pw)
theorem kFFb_1 {U : Uni} (H : Us U) : CallOK U "_law_raised" 4 FF_1 := (kLR_1 H).le (tab1_le tf_1_lr)
theorem kOD_1 {U : Uni} (H : Us U) : CallOK U "gf_order" 8 OD_1 := O_gf_order H (k_prime_factors H) (k_gf_size H) (kPW_1 H)
theorem kFO_1 {U : Uni} (H : Us U) : CallOK U "gf_order" 8 FO_1 := (kOD_1 H).le (tab1_le to_1)
theorem kGN_1 {U : Uni} (H : Us U) : CallOK U "gf_generator" 9 GN_1 := O_gf_generator H (k_counted H) (kFO_1 H) (k_gf_size H)
theorem kFG_1 {U : Uni} (H : Us U) : CallOK U "gf_generator" 9 FG_1 := (kGN_1 H).le (tab0_le tg_1)
theorem kLG_1 {U : Uni} (H : Us U) : CallOK U "gf_logarithm" 9 LG_1 := O_gf_logarithm H (kFO_1 H) (kXa_1 H) (kFI_1 H)
theorem kOR_1 {U : Uni} (H : Us U) : CallOK U "_law_orders_right" 10 OR_1 := O_law_orders_right H (kXb_1 H) (kFO_1 H) (kFG_1 H) (kLG_1 H)
theorem kCJ_1 {U : Uni} (H : Us U) : CallOK U "gf_conjugates" 8 CJ_1 := O_gf_conjugates H (kFFa_1 H)
theorem kLE_1 {U : Uni} (H : Us U) : CallOK U "gf_least" 9 LE_1 := O_gf_least H (kCJ_1 H) (k_number_of H) (kFA2 H) (k_mneg H) (kXa_1 H)
theorem kAT_1 {U : Uni} (H : Us U) : CallOK U "gf_at" 6 AT_1 := O_gf_at H (kFA2 H) (kXa_1 H) (k_mscale H)
theorem kTC_1 {U : Uni} (H : Us U) : CallOK U "gf_trace" 8 TC_1 := O_gf_trace H (k_number_of H) (k_mdegree H) (kFA2 H) (kFFa_1 H)
theorem kNO_1 {U : Uni} (H : Us U) : CallOK U "gf_norm" 8 NO_1 := O_gf_norm H (k_number_of H) (k_mdegree H) (kXa_1 H) (kFFa_1 H)
theorem kVA_1 {U : Uni} (H : Us U) : CallOK U "_law_value" 4 VA_1 := O_law_value H (kFP2 H) (kXb_1 H)
theorem kSU_1 {U : Uni} (H : Us U) : CallOK U "_law_sums_right" 10 SU_1 := O_law_sums_right H (kLE_1 H) (kFFb_1 H) (kFP2 H) (kXb_1 H) (kVA_1 H) (kAT_1 H) (kTC_1 H) (kNO_1 H) (k_law_counted H)
theorem kDV_1 {U : Uni} (H : Us U) : CallOK U "gf_divide" 7 DV_1 := O_gf_divide H (kXa_1 H) (kFI_1 H)
theorem kSQ_1 {U : Uni} (H : Us U) : CallOK U "gf_is_square" 8 SQ_1 := O_gf_is_square H (kPW_1 H) (k_gf_size H)
theorem kRK_1 {U : Uni} (H : Us U) : CallOK U "_law_reckoned_right" 9 RK_1 := O_law_reckoned_right H (kFI_1 H) (kXa_1 H) (kXb_1 H) (kSQ_1 H) (kDV_1 H) (kPW_1 H) (kLR_1 H) (k_gf_things H)
theorem kRa_2 {U : Uni} (H : Us U) : CallOK U "mrest" 4 FR_2 := (k_mrest H).le (tab1_le tr_2_rest)
theorem kRb_2 {U : Uni} (H : Us U) : CallOK U "_law_left" 2 FR_2 := (k_law_left H).le (tab1_le tr_2_left)
theorem kXa0_2 {U : Uni} (H : Us U) : CallOK U "gf_multiply" 5 (runArgs 4 (c_gf_multiply FR_2 FM2)) := O_gf_multiply H (kRa_2 H) (kMM2 H)
theorem kXa_2 {U : Uni} (H : Us U) : CallOK U "gf_multiply" 5 FX_2 := (kXa0_2 H).le (tab2_le tx_2_mul)
theorem kXb0_2 {U : Uni} (H : Us U) : CallOK U "_law_mul" 3 (runArgs 4 (c_law_mul FR_2 FM2)) := O_law_mul H (kRb_2 H) (kMT2 H)
theorem kXb_2 {U : Uni} (H : Us U) : CallOK U "_law_mul" 3 FX_2 := (kXb0_2 H).le (tab2_le tx_2_lm)
theorem kFI_2 {U : Uni} (H : Us U) : CallOK U "gf_inverse" 6 FI_2 := (k_gf_inverse H).le (tab1_le ti_2)
theorem kPW_2 {U : Uni} (H : Us U) : CallOK U "gf_power" 7 PW_2 := O_gf_power H (kFI_2 H) (kXa_2 H)
theorem kLR_2 {U : Uni} (H : Us U) : CallOK U "_law_raised" 4 LR_2 := O_law_raised H (kXb_2 H)
theorem kFFa_2 {U : Uni} (H : Us U) : CallOK U "gf_power" 7 FF_2 := (kPW_2 H).le (tab1_le tf_2_pw)
theorem kFFb_2 {U : Uni} (H : Us U) : CallOK U "_law_raised" 4 FF_2 := (kLR_2 H).le (tab1_le tf_2_lr)
theorem kOD_2 {U : Uni} (H : Us U) : CallOK U "gf_order" 8 OD_2 := O_gf_order H (k_prime_factors H) (k_gf_size H) (kPW_2 H)
theorem kFO_2 {U : Uni} (H : Us U) : CallOK U "gf_order" 8 FO_2 := (kOD_2 H).le (tab1_le to_2)
theorem kGN_2 {U : Uni} (H : Us U) : CallOK U "gf_generator" 9 GN_2 := O_gf_generator H (k_counted H) (kFO_2 H) (k_gf_size H)
theorem kFG_2 {U : Uni} (H : Us U) : CallOK U "gf_generator" 9 FG_2 := (kGN_2 H).le (tab0_le tg_2)
theorem kLG_2 {U : Uni} (H : Us U) : CallOK U "gf_logarithm" 9 LG_2 := O_gf_logarithm H (kFO_2 H) (kXa_2 H) (kFI_2 H)
theorem kOR_2 {U : Uni} (H : Us U) : CallOK U "_law_orders_right" 10 OR_2 := O_law_orders_right H (kXb_2 H) (kFO_2 H) (kFG_2 H) (kLG_2 H)
theorem kCJ_2 {U : Uni} (H : Us U) : CallOK U "gf_conjugates" 8 CJ_2 := O_gf_conjugates H (kFFa_2 H)
theorem kLE_2 {U : Uni} (H : Us U) : CallOK U "gf_least" 9 LE_2 := O_gf_least H (kCJ_2 H) (k_number_of H) (kFA2 H) (k_mneg H) (kXa_2 H)
theorem kAT_2 {U : Uni} (H : Us U) : CallOK U "gf_at" 6 AT_2 := O_gf_at H (kFA2 H) (kXa_2 H) (k_mscale H)
theorem kTC_2 {U : Uni} (H : Us U) : CallOK U "gf_trace" 8 TC_2 := O_gf_trace H (k_number_of H) (k_mdegree H) (kFA2 H) (kFFa_2 H)
theorem kNO_2 {U : Uni} (H : Us U) : CallOK U "gf_norm" 8 NO_2 := O_gf_norm H (k_number_of H) (k_mdegree H) (kXa_2 H) (kFFa_2 H)
theorem kVA_2 {U : Uni} (H : Us U) : CallOK U "_law_value" 4 VA_2 := O_law_value H (kFP2 H) (kXb_2 H)
theorem kSU_2 {U : Uni} (H : Us U) : CallOK U "_law_sums_right" 10 SU_2 := O_law_sums_right H (kLE_2 H) (kFFb_2 H) (kFP2 H) (kXb_2 H) (kVA_2 H) (kAT_2 H) (kTC_2 H) (kNO_2 H) (k_law_counted H)
theorem kDV_2 {U : Uni} (H : Us U) : CallOK U "gf_divide" 7 DV_2 := O_gf_divide H (kXa_2 H) (kFI_2 H)
theorem kSQ_2 {U : Uni} (H : Us U) : CallOK U "gf_is_square" 8 SQ_2 := O_gf_is_square H (kPW_2 H) (k_gf_size H)
theorem kRK_2 {U : Uni} (H : Us U) : CallOK U "_law_reckoned_right" 9 RK_2 := O_law_reckoned_right H (kFI_2 H) (kXa_2 H) (kXb_2 H) (kSQ_2 H) (kDV_2 H) (kPW_2 H) (kLR_2 H) (k_gf_things H)
theorem kRa_3 {U : Uni} (H : Us U) : CallOK U "mrest" 4 FR_3 := (k_mrest H).le (tab1_le tr_3_rest)
theorem kRb_3 {U : Uni} (H : Us U) : CallOK U "_law_left" 2 FR_3 := (k_law_left H).le (tab1_le tr_3_left)
theorem kXa0_3 {U : Uni} (H : Us U) : CallOK U "gf_multiply" 5 (runArgs 4 (c_gf_multiply FR_3 FM3)) := O_gf_multiply H (kRa_3 H) (kMM3 H)
theorem kXa_3 {U : Uni} (H : Us U) : CallOK U "gf_multiply" 5 FX_3 := (kXa0_3 H).le (tab2_le tx_3_mul)
theorem kXb0_3 {U : Uni} (H : Us U) : CallOK U "_law_mul" 3 (runArgs 4 (c_law_mul FR_3 FM3)) := O_law_mul H (kRb_3 H) (kMT3 H)
theorem kXb_3 {U : Uni} (H : Us U) : CallOK U "_law_mul" 3 FX_3 := (kXb0_3 H).le (tab2_le tx_3_lm)
theorem kFI_3 {U : Uni} (H : Us U) : CallOK U "gf_inverse" 6 FI_3 := (k_gf_inverse H).le (tab1_le ti_3)
theorem kPW_3 {U : Uni} (H : Us U) : CallOK U "gf_power" 7 PW_3 := O_gf_power H (kFI_3 H) (kXa_3 H)
theorem kLR_3 {U : Uni} (H : Us U) : CallOK U "_law_raised" 4 LR_3 := O_law_raised H (kXb_3 H)
theorem kFFa_3 {U : Uni} (H : Us U) : CallOK U "gf_power" 7 FF_3 := (kPW_3 H).le (tab1_le tf_3_pw)
theorem kFFb_3 {U : Uni} (H : Us U) : CallOK U "_law_raised" 4 FF_3 := (kLR_3 H).le (tab1_le tf_3_lr)
theorem kOD_3 {U : Uni} (H : Us U) : CallOK U "gf_order" 8 OD_3 := O_gf_order H (k_prime_factors H) (k_gf_size H) (kPW_3 H)
theorem kFO_3 {U : Uni} (H : Us U) : CallOK U "gf_order" 8 FO_3 := (kOD_3 H).le (tab1_le to_3)
theorem kGN_3 {U : Uni} (H : Us U) : CallOK U "gf_generator" 9 GN_3 := O_gf_generator H (k_counted H) (kFO_3 H) (k_gf_size H)
theorem kFG_3 {U : Uni} (H : Us U) : CallOK U "gf_generator" 9 FG_3 := (kGN_3 H).le (tab0_le tg_3)
theorem kLG_3 {U : Uni} (H : Us U) : CallOK U "gf_logarithm" 9 LG_3 := O_gf_logarithm H (kFO_3 H) (kXa_3 H) (kFI_3 H)
theorem kOR_3 {U : Uni} (H : Us U) : CallOK U "_law_orders_right" 10 OR_3 := O_law_orders_right H (kXb_3 H) (kFO_3 H) (kFG_3 H) (kLG_3 H)
theorem kCJ_3 {U : Uni} (H : Us U) : CallOK U "gf_conjugates" 8 CJ_3 := O_gf_conjugates H (kFFa_3 H)
theorem kLE_3 {U : Uni} (H : Us U) : CallOK U "gf_least" 9 LE_3 := O_gf_least H (kCJ_3 H) (k_number_of H) (kFA3 H) (k_mneg H) (kXa_3 H)
theorem kAT_3 {U : Uni} (H : Us U) : CallOK U "gf_at" 6 AT_3 := O_gf_at H (kFA3 H) (kXa_3 H) (k_mscale H)
theorem kTC_3 {U : Uni} (H : Us U) : CallOK U "gf_trace" 8 TC_3 := O_gf_trace H (k_number_of H) (k_mdegree H) (kFA3 H) (kFFa_3 H)
theorem kNO_3 {U : Uni} (H : Us U) : CallOK U "gf_norm" 8 NO_3 := O_gf_norm H (k_number_of H) (k_mdegree H) (kXa_3 H) (kFFa_3 H)
theorem kVA_3 {U : Uni} (H : Us U) : CallOK U "_law_value" 4 VA_3 := O_law_value H (kFP3 H) (kXb_3 H)
theorem kSU_3 {U : Uni} (H : Us U) : CallOK U "_law_sums_right" 10 SU_3 := O_law_sums_right H (kLE_3 H) (kFFb_3 H) (kFP3 H) (kXb_3 H) (kVA_3 H) (kAT_3 H) (kTC_3 H) (kNO_3 H) (k_law_counted H)
theorem kDV_3 {U : Uni} (H : Us U) : CallOK U "gf_divide" 7 DV_3 := O_gf_divide H (kXa_3 H) (kFI_3 H)
theorem kSQ_3 {U : Uni} (H : Us U) : CallOK U "gf_is_square" 8 SQ_3 := O_gf_is_square H (kPW_3 H) (k_gf_size H)
theorem kRK_3 {U : Uni} (H : Us U) : CallOK U "_law_reckoned_right" 9 RK_3 := O_law_reckoned_right H (kFI_3 H) (kXa_3 H) (kXb_3 H) (kSQ_3 H) (kDV_3 H) (kPW_3 H) (kLR_3 H) (k_gf_things H)
theorem kRa_4 {U : Uni} (H : Us U) : CallOK U "mrest" 4 FR_4 := (k_mrest H).le (tab1_le tr_4_rest)
theorem kRb_4 {U : Uni} (H : Us U) : CallOK U "_law_left" 2 FR_4 := (k_law_left H).le (tab1_le tr_4_left)
theorem kXa0_4 {U : Uni} (H : Us U) : CallOK U "gf_multiply" 5 (runArgs 4 (c_gf_multiply FR_4 FM3)) := O_gf_multiply H (kRa_4 H) (kMM3 H)
theorem kXa_4 {U : Uni} (H : Us U) : CallOK U "gf_multiply" 5 FX_4 := (kXa0_4 H).le (tab2_le tx_4_mul)
theorem kXb0_4 {U : Uni} (H : Us U) : CallOK U "_law_mul" 3 (runArgs 4 (c_law_mul FR_4 FM3)) := O_law_mul H (kRb_4 H) (kMT3 H)
theorem kXb_4 {U : Uni} (H : Us U) : CallOK U "_law_mul" 3 FX_4 := (kXb0_4 H).le (tab2_le tx_4_lm)
theorem kFI_4 {U : Uni} (H : Us U) : CallOK U "gf_inverse" 6 FI_4 := (k_gf_inverse H).le (tab1_le ti_4)
theorem kPW_4 {U : Uni} (H : Us U) : CallOK U "gf_power" 7 PW_4 := O_gf_power H (kFI_4 H) (kXa_4 H)
theorem kLR_4 {U : Uni} (H : Us U) : CallOK U "_law_raised" 4 LR_4 := O_law_raised H (kXb_4 H)
theorem kFFa_4 {U : Uni} (H : Us U) : CallOK U "gf_power" 7 FF_4 := (kPW_4 H).le (tab1_le tf_4_pw)
theorem kFFb_4 {U : Uni} (H : Us U) : CallOK U "_law_raised" 4 FF_4 := (kLR_4 H).le (tab1_le tf_4_lr)
theorem kOD_4 {U : Uni} (H : Us U) : CallOK U "gf_order" 8 OD_4 := O_gf_order H (k_prime_factors H) (k_gf_size H) (kPW_4 H)
theorem kFO_4 {U : Uni} (H : Us U) : CallOK U "gf_order" 8 FO_4 := (kOD_4 H).le (tab1_le to_4)
theorem kGN_4 {U : Uni} (H : Us U) : CallOK U "gf_generator" 9 GN_4 := O_gf_generator H (k_counted H) (kFO_4 H) (k_gf_size H)
theorem kFG_4 {U : Uni} (H : Us U) : CallOK U "gf_generator" 9 FG_4 := (kGN_4 H).le (tab0_le tg_4)
theorem kLG_4 {U : Uni} (H : Us U) : CallOK U "gf_logarithm" 9 LG_4 := O_gf_logarithm H (kFO_4 H) (kXa_4 H) (kFI_4 H)
theorem kOR_4 {U : Uni} (H : Us U) : CallOK U "_law_orders_right" 10 OR_4 := O_law_orders_right H (kXb_4 H) (kFO_4 H) (kFG_4 H) (kLG_4 H)
theorem kCJ_4 {U : Uni} (H : Us U) : CallOK U "gf_conjugates" 8 CJ_4 := O_gf_conjugates H (kFFa_4 H)
theorem kLE_4 {U : Uni} (H : Us U) : CallOK U "gf_least" 9 LE_4 := O_gf_least H (kCJ_4 H) (k_number_of H) (kFA3 H) (k_mneg H) (kXa_4 H)
theorem kAT_4 {U : Uni} (H : Us U) : CallOK U "gf_at" 6 AT_4 := O_gf_at H (kFA3 H) (kXa_4 H) (k_mscale H)
theorem kTC_4 {U : Uni} (H : Us U) : CallOK U "gf_trace" 8 TC_4 := O_gf_trace H (k_number_of H) (k_mdegree H) (kFA3 H) (kFFa_4 H)
theorem kNO_4 {U : Uni} (H : Us U) : CallOK U "gf_norm" 8 NO_4 := O_gf_norm H (k_number_of H) (k_mdegree H) (kXa_4 H) (kFFa_4 H)
theorem kVA_4 {U : Uni} (H : Us U) : CallOK U "_law_value" 4 VA_4 := O_law_value H (kFP3 H) (kXb_4 H)
theorem kSU_4 {U : Uni} (H : Us U) : CallOK U "_law_sums_right" 10 SU_4 := O_law_sums_right H (kLE_4 H) (kFFb_4 H) (kFP3 H) (kXb_4 H) (kVA_4 H) (kAT_4 H) (kTC_4 H) (kNO_4 H) (k_law_counted H)
theorem kDV_4 {U : Uni} (H : Us U) : CallOK U "gf_divide" 7 DV_4 := O_gf_divide H (kXa_4 H) (kFI_4 H)
theorem kSQ_4 {U : Uni} (H : Us U) : CallOK U "gf_is_square" 8 SQ_4 := O_gf_is_square H (kPW_4 H) (k_gf_size H)
theorem kRK_4 {U : Uni} (H : Us U) : CallOK U "_law_reckoned_right" 9 RK_4 := O_law_reckoned_right H (kFI_4 H) (kXa_4 H) (kXb_4 H) (kSQ_4 H) (kDV_4 H) (kPW_4 H) (kLR_4 H) (k_gf_things H)
theorem kRa_5 {U : Uni} (H : Us U) : CallOK U "mrest" 4 FR_5 := (k_mrest H).le (tab1_le tr_5_rest)
theorem kRb_5 {U : Uni} (H : Us U) : CallOK U "_law_left" 2 FR_5 := (k_law_left H).le (tab1_le tr_5_left)
theorem kXa0_5 {U : Uni} (H : Us U) : CallOK U "gf_multiply" 5 (runArgs 4 (c_gf_multiply FR_5 FM3)) := O_gf_multiply H (kRa_5 H) (kMM3 H)
theorem kXa_5 {U : Uni} (H : Us U) : CallOK U "gf_multiply" 5 FX_5 := (kXa0_5 H).le (tab2_le tx_5_mul)
theorem kXb0_5 {U : Uni} (H : Us U) : CallOK U "_law_mul" 3 (runArgs 4 (c_law_mul FR_5 FM3)) := O_law_mul H (kRb_5 H) (kMT3 H)
theorem kXb_5 {U : Uni} (H : Us U) : CallOK U "_law_mul" 3 FX_5 := (kXb0_5 H).le (tab2_le tx_5_lm)
theorem kFI_5 {U : Uni} (H : Us U) : CallOK U "gf_inverse" 6 FI_5 := (k_gf_inverse H).le (tab1_le ti_5)
theorem kPW_5 {U : Uni} (H : Us U) : CallOK U "gf_power" 7 PW_5 := O_gf_power H (kFI_5 H) (kXa_5 H)
theorem kLR_5 {U : Uni} (H : Us U) : CallOK U "_law_raised" 4 LR_5 := O_law_raised H (kXb_5 H)
theorem kFFa_5 {U : Uni} (H : Us U) : CallOK U "gf_power" 7 FF_5 := (kPW_5 H).le (tab1_le tf_5_pw)
theorem kFFb_5 {U : Uni} (H : Us U) : CallOK U "_law_raised" 4 FF_5 := (kLR_5 H).le (tab1_le tf_5_lr)
theorem kOD_5 {U : Uni} (H : Us U) : CallOK U "gf_order" 8 OD_5 := O_gf_order H (k_prime_factors H) (k_gf_size H) (kPW_5 H)
theorem kFO_5 {U : Uni} (H : Us U) : CallOK U "gf_order" 8 FO_5 := (kOD_5 H).le (tab1_le to_5)
theorem kGN_5 {U : Uni} (H : Us U) : CallOK U "gf_generator" 9 GN_5 := O_gf_generator H (k_counted H) (kFO_5 H) (k_gf_size H)
theorem kFG_5 {U : Uni} (H : Us U) : CallOK U "gf_generator" 9 FG_5 := (kGN_5 H).le (tab0_le tg_5)
theorem kLG_5 {U : Uni} (H : Us U) : CallOK U "gf_logarithm" 9 LG_5 := O_gf_logarithm H (kFO_5 H) (kXa_5 H) (kFI_5 H)
theorem kOR_5 {U : Uni} (H : Us U) : CallOK U "_law_orders_right" 10 OR_5 := O_law_orders_right H (kXb_5 H) (kFO_5 H) (kFG_5 H) (kLG_5 H)
theorem kCJ_5 {U : Uni} (H : Us U) : CallOK U "gf_conjugates" 8 CJ_5 := O_gf_conjugates H (kFFa_5 H)
theorem kLE_5 {U : Uni} (H : Us U) : CallOK U "gf_least" 9 LE_5 := O_gf_least H (kCJ_5 H) (k_number_of H) (kFA3 H) (k_mneg H) (kXa_5 H)
theorem kAT_5 {U : Uni} (H : Us U) : CallOK U "gf_at" 6 AT_5 := O_gf_at H (kFA3 H) (kXa_5 H) (k_mscale H)
theorem kTC_5 {U : Uni} (H : Us U) : CallOK U "gf_trace" 8 TC_5 := O_gf_trace H (k_number_of H) (k_mdegree H) (kFA3 H) (kFFa_5 H)
theorem kNO_5 {U : Uni} (H : Us U) : CallOK U "gf_norm" 8 NO_5 := O_gf_norm H (k_number_of H) (k_mdegree H) (kXa_5 H) (kFFa_5 H)
theorem kVA_5 {U : Uni} (H : Us U) : CallOK U "_law_value" 4 VA_5 := O_law_value H (kFP3 H) (kXb_5 H)
theorem kSU_5 {U : Uni} (H : Us U) : CallOK U "_law_sums_right" 10 SU_5 := O_law_sums_right H (kLE_5 H) (kFFb_5 H) (kFP3 H) (kXb_5 H) (kVA_5 H) (kAT_5 H) (kTC_5 H) (kNO_5 H) (k_law_counted H)
theorem kDV_5 {U : Uni} (H : Us U) : CallOK U "gf_divide" 7 DV_5 := O_gf_divide H (kXa_5 H) (kFI_5 H)
theorem kSQ_5 {U : Uni} (H : Us U) : CallOK U "gf_is_square" 8 SQ_5 := O_gf_is_square H (kPW_5 H) (k_gf_size H)
theorem kRK_5 {U : Uni} (H : Us U) : CallOK U "_law_reckoned_right" 9 RK_5 := O_law_reckoned_right H (kFI_5 H) (kXa_5 H) (kXb_5 H) (kSQ_5 H) (kDV_5 H) (kPW_5 H) (kLR_5 H) (k_gf_things H)
theorem kRa_6 {U : Uni} (H : Us U) : CallOK U "mrest" 4 FR_6 := (k_mrest H).le (tab1_le tr_6_rest)
theorem kRb_6 {U : Uni} (H : Us U) : CallOK U "_law_left" 2 FR_6 := (k_law_left H).le (tab1_le tr_6_left)
theorem kXa0_6 {U : Uni} (H : Us U) : CallOK U "gf_multiply" 5 (runArgs 4 (c_gf_multiply FR_6 FM2)) := O_gf_multiply H (kRa_6 H) (kMM2 H)
theorem kXa_6 {U : Uni} (H : Us U) : CallOK U "gf_multiply" 5 FX_6 := (kXa0_6 H).le (tab2_le tx_6_mul)
theorem kXb0_6 {U : Uni} (H : Us U) : CallOK U "_law_mul" 3 (runArgs 4 (c_law_mul FR_6 FM2)) := O_law_mul H (kRb_6 H) (kMT2 H)
theorem kXb_6 {U : Uni} (H : Us U) : CallOK U "_law_mul" 3 FX_6 := (kXb0_6 H).le (tab2_le tx_6_lm)
theorem kFI_6 {U : Uni} (H : Us U) : CallOK U "gf_inverse" 6 FI_6 := (k_gf_inverse H).le (tab1_le ti_6)
theorem kPW_6 {U : Uni} (H : Us U) : CallOK U "gf_power" 7 PW_6 := O_gf_power H (kFI_6 H) (kXa_6 H)
theorem kLR_6 {U : Uni} (H : Us U) : CallOK U "_law_raised" 4 LR_6 := O_law_raised H (kXb_6 H)
theorem kFFa_6 {U : Uni} (H : Us U) : CallOK U "gf_power" 7 FF_6 := (kPW_6 H).le (tab1_le tf_6_pw)
theorem kFFb_6 {U : Uni} (H : Us U) : CallOK U "_law_raised" 4 FF_6 := (kLR_6 H).le (tab1_le tf_6_lr)
theorem kOD_6 {U : Uni} (H : Us U) : CallOK U "gf_order" 8 OD_6 := O_gf_order H (k_prime_factors H) (k_gf_size H) (kPW_6 H)
theorem kFO_6 {U : Uni} (H : Us U) : CallOK U "gf_order" 8 FO_6 := (kOD_6 H).le (tab1_le to_6)
theorem kGN_6 {U : Uni} (H : Us U) : CallOK U "gf_generator" 9 GN_6 := O_gf_generator H (k_counted H) (kFO_6 H) (k_gf_size H)
theorem kFG_6 {U : Uni} (H : Us U) : CallOK U "gf_generator" 9 FG_6 := (kGN_6 H).le (tab0_le tg_6)
theorem kLG_6 {U : Uni} (H : Us U) : CallOK U "gf_logarithm" 9 LG_6 := O_gf_logarithm H (kFO_6 H) (kXa_6 H) (kFI_6 H)
theorem kOR_6 {U : Uni} (H : Us U) : CallOK U "_law_orders_right" 10 OR_6 := O_law_orders_right H (kXb_6 H) (kFO_6 H) (kFG_6 H) (kLG_6 H)
theorem kCJ_6 {U : Uni} (H : Us U) : CallOK U "gf_conjugates" 8 CJ_6 := O_gf_conjugates H (kFFa_6 H)
theorem kLE_6 {U : Uni} (H : Us U) : CallOK U "gf_least" 9 LE_6 := O_gf_least H (kCJ_6 H) (k_number_of H) (kFA2 H) (k_mneg H) (kXa_6 H)
theorem kAT_6 {U : Uni} (H : Us U) : CallOK U "gf_at" 6 AT_6 := O_gf_at H (kFA2 H) (kXa_6 H) (k_mscale H)
theorem kTC_6 {U : Uni} (H : Us U) : CallOK U "gf_trace" 8 TC_6 := O_gf_trace H (k_number_of H) (k_mdegree H) (kFA2 H) (kFFa_6 H)
theorem kNO_6 {U : Uni} (H : Us U) : CallOK U "gf_norm" 8 NO_6 := O_gf_norm H (k_number_of H) (k_mdegree H) (kXa_6 H) (kFFa_6 H)
theorem kVA_6 {U : Uni} (H : Us U) : CallOK U "_law_value" 4 VA_6 := O_law_value H (kFP2 H) (kXb_6 H)
theorem kSU_6 {U : Uni} (H : Us U) : CallOK U "_law_sums_right" 10 SU_6 := O_law_sums_right H (kLE_6 H) (kFFb_6 H) (kFP2 H) (kXb_6 H) (kVA_6 H) (kAT_6 H) (kTC_6 H) (kNO_6 H) (k_law_counted H)
theorem kDV_6 {U : Uni} (H : Us U) : CallOK U "gf_divide" 7 DV_6 := O_gf_divide H (kXa_6 H) (kFI_6 H)
theorem kSQ_6 {U : Uni} (H : Us U) : CallOK U "gf_is_square" 8 SQ_6 := O_gf_is_square H (kPW_6 H) (k_gf_size H)
theorem kRK_6 {U : Uni} (H : Us U) : CallOK U "_law_reckoned_right" 9 RK_6 := O_law_reckoned_right H (kFI_6 H) (kXa_6 H) (kXb_6 H) (kSQ_6 H) (kDV_6 H) (kPW_6 H) (kLR_6 H) (k_gf_things H)
theorem kRa_7 {U : Uni} (H : Us U) : CallOK U "mrest" 4 FR_7 := (k_mrest H).le (tab1_le tr_7_rest)
theorem kRb_7 {U : Uni} (H : Us U) : CallOK U "_law_left" 2 FR_7 := (k_law_left H).le (tab1_le tr_7_left)
theorem kXa0_7 {U : Uni} (H : Us U) : CallOK U "gf_multiply" 5 (runArgs 4 (c_gf_multiply FR_7 FM2)) := O_gf_multiply H (kRa_7 H) (kMM2 H)
theorem kXa_7 {U : Uni} (H : Us U) : CallOK U "gf_multiply" 5 FX_7 := (kXa0_7 H).le (tab2_le tx_7_mul)
theorem kXb0_7 {U : Uni} (H : Us U) : CallOK U "_law_mul" 3 (runArgs 4 (c_law_mul FR_7 FM2)) := O_law_mul H (kRb_7 H) (kMT2 H)
theorem kXb_7 {U : Uni} (H : Us U) : CallOK U "_law_mul" 3 FX_7 := (kXb0_7 H).le (tab2_le tx_7_lm)
theorem kFI_7 {U : Uni} (H : Us U) : CallOK U "gf_inverse" 6 FI_7 := (k_gf_inverse H).le (tab1_le ti_7)
theorem kPW_7 {U : Uni} (H : Us U) : CallOK U "gf_power" 7 PW_7 := O_gf_power H (kFI_7 H) (kXa_7 H)
theorem kLR_7 {U : Uni} (H : Us U) : CallOK U "_law_raised" 4 LR_7 := O_law_raised H (kXb_7 H)
theorem kFFa_7 {U : Uni} (H : Us U) : CallOK U "gf_power" 7 FF_7 := (kPW_7 H).le (tab1_le tf_7_pw)
theorem kFFb_7 {U : Uni} (H : Us U) : CallOK U "_law_raised" 4 FF_7 := (kLR_7 H).le (tab1_le tf_7_lr)
theorem kOD_7 {U : Uni} (H : Us U) : CallOK U "gf_order" 8 OD_7 := O_gf_order H (k_prime_factors H) (k_gf_size H) (kPW_7 H)
theorem kFO_7 {U : Uni} (H : Us U) : CallOK U "gf_order" 8 FO_7 := (kOD_7 H).le (tab1_le to_7)
theorem kGN_7 {U : Uni} (H : Us U) : CallOK U "gf_generator" 9 GN_7 := O_gf_generator H (k_counted H) (kFO_7 H) (k_gf_size H)
theorem kFG_7 {U : Uni} (H : Us U) : CallOK U "gf_generator" 9 FG_7 := (kGN_7 H).le (tab0_le tg_7)
theorem kLG_7 {U : Uni} (H : Us U) : CallOK U "gf_logarithm" 9 LG_7 := O_gf_logarithm H (kFO_7 H) (kXa_7 H) (kFI_7 H)
theorem kOR_7 {U : Uni} (H : Us U) : CallOK U "_law_orders_right" 10 OR_7 := O_law_orders_right H (kXb_7 H) (kFO_7 H) (kFG_7 H) (kLG_7 H)
theorem kCJ_7 {U : Uni} (H : Us U) : CallOK U "gf_conjugates" 8 CJ_7 := O_gf_conjugates H (kFFa_7 H)
theorem kLE_7 {U : Uni} (H : Us U) : CallOK U "gf_least" 9 LE_7 := O_gf_least H (kCJ_7 H) (k_number_of H) (kFA2 H) (k_mneg H) (kXa_7 H)
theorem kAT_7 {U : Uni} (H : Us U) : CallOK U "gf_at" 6 AT_7 := O_gf_at H (kFA2 H) (kXa_7 H) (k_mscale H)
theorem kTC_7 {U : Uni} (H : Us U) : CallOK U "gf_trace" 8 TC_7 := O_gf_trace H (k_number_of H) (k_mdegree H) (kFA2 H) (kFFa_7 H)
theorem kNO_7 {U : Uni} (H : Us U) : CallOK U "gf_norm" 8 NO_7 := O_gf_norm H (k_number_of H) (k_mdegree H) (kXa_7 H) (kFFa_7 H)
theorem kVA_7 {U : Uni} (H : Us U) : CallOK U "_law_value" 4 VA_7 := O_law_value H (kFP2 H) (kXb_7 H)
theorem kSU_7 {U : Uni} (H : Us U) : CallOK U "_law_sums_right" 10 SU_7 := O_law_sums_right H (kLE_7 H) (kFFb_7 H) (kFP2 H) (kXb_7 H) (kVA_7 H) (kAT_7 H) (kTC_7 H) (kNO_7 H) (k_law_counted H)
theorem kDV_7 {U : Uni} (H : Us U) : CallOK U "gf_divide" 7 DV_7 := O_gf_divide H (kXa_7 H) (kFI_7 H)
theorem kSQ_7 {U : Uni} (H : Us U) : CallOK U "gf_is_square" 8 SQ_7 := O_gf_is_square H (kPW_7 H) (k_gf_size H)
theorem kRK_7 {U : Uni} (H : Us U) : CallOK U "_law_reckoned_right" 9 RK_7 := O_law_reckoned_right H (kFI_7 H) (kXa_7 H) (kXb_7 H) (kSQ_7 H) (kDV_7 H) (kPW_7 H) (kLR_7 H) (k_gf_things H)
theorem kRa_8 {U : Uni} (H : Us U) : CallOK U "mrest" 4 FR_8 := (k_mrest H).le (tab1_le tr_8_rest)
theorem kRb_8 {U : Uni} (H : Us U) : CallOK U "_law_left" 2 FR_8 := (k_law_left H).le (tab1_le tr_8_left)
theorem kXa0_8 {U : Uni} (H : Us U) : CallOK U "gf_multiply" 5 (runArgs 4 (c_gf_multiply FR_8 FM2)) := O_gf_multiply H (kRa_8 H) (kMM2 H)
theorem kXa_8 {U : Uni} (H : Us U) : CallOK U "gf_multiply" 5 FX_8 := (kXa0_8 H).le (tab2_le tx_8_mul)
theorem kXb0_8 {U : Uni} (H : Us U) : CallOK U "_law_mul" 3 (runArgs 4 (c_law_mul FR_8 FM2)) := O_law_mul H (kRb_8 H) (kMT2 H)
theorem kXb_8 {U : Uni} (H : Us U) : CallOK U "_law_mul" 3 FX_8 := (kXb0_8 H).le (tab2_le tx_8_lm)
theorem kFI_8 {U : Uni} (H : Us U) : CallOK U "gf_inverse" 6 FI_8 := (k_gf_inverse H).le (tab1_le ti_8)
theorem kPW_8 {U : Uni} (H : Us U) : CallOK U "gf_power" 7 PW_8 := O_gf_power H (kFI_8 H) (kXa_8 H)
theorem kLR_8 {U : Uni} (H : Us U) : CallOK U "_law_raised" 4 LR_8 := O_law_raised H (kXb_8 H)
theorem kFFa_8 {U : Uni} (H : Us U) : CallOK U "gf_power" 7 FF_8 := (kPW_8 H).le (tab1_le tf_8_pw)
theorem kFFb_8 {U : Uni} (H : Us U) : CallOK U "_law_raised" 4 FF_8 := (kLR_8 H).le (tab1_le tf_8_lr)
theorem kOD_8 {U : Uni} (H : Us U) : CallOK U "gf_order" 8 OD_8 := O_gf_order H (k_prime_factors H) (k_gf_size H) (kPW_8 H)
theorem kFO_8 {U : Uni} (H : Us U) : CallOK U "gf_order" 8 FO_8 := (kOD_8 H).le (tab1_le to_8)
theorem kGN_8 {U : Uni} (H : Us U) : CallOK U "gf_generator" 9 GN_8 := O_gf_generator H (k_counted H) (kFO_8 H) (k_gf_size H)
theorem kFG_8 {U : Uni} (H : Us U) : CallOK U "gf_generator" 9 FG_8 := (kGN_8 H).le (tab0_le tg_8)
theorem kLG_8 {U : Uni} (H : Us U) : CallOK U "gf_logarithm" 9 LG_8 := O_gf_logarithm H (kFO_8 H) (kXa_8 H) (kFI_8 H)
theorem kOR_8 {U : Uni} (H : Us U) : CallOK U "_law_orders_right" 10 OR_8 := O_law_orders_right H (kXb_8 H) (kFO_8 H) (kFG_8 H) (kLG_8 H)
theorem kCJ_8 {U : Uni} (H : Us U) : CallOK U "gf_conjugates" 8 CJ_8 := O_gf_conjugates H (kFFa_8 H)
theorem kLE_8 {U : Uni} (H : Us U) : CallOK U "gf_least" 9 LE_8 := O_gf_least H (kCJ_8 H) (k_number_of H) (kFA2 H) (k_mneg H) (kXa_8 H)
theorem kAT_8 {U : Uni} (H : Us U) : CallOK U "gf_at" 6 AT_8 := O_gf_at H (kFA2 H) (kXa_8 H) (k_mscale H)
theorem kTC_8 {U : Uni} (H : Us U) : CallOK U "gf_trace" 8 TC_8 := O_gf_trace H (k_number_of H) (k_mdegree H) (kFA2 H) (kFFa_8 H)
theorem kNO_8 {U : Uni} (H : Us U) : CallOK U "gf_norm" 8 NO_8 := O_gf_norm H (k_number_of H) (k_mdegree H) (kXa_8 H) (kFFa_8 H)
theorem kVA_8 {U : Uni} (H : Us U) : CallOK U "_law_value" 4 VA_8 := O_law_value H (kFP2 H) (kXb_8 H)
theorem kSU_8 {U : Uni} (H : Us U) : CallOK U "_law_sums_right" 10 SU_8 := O_law_sums_right H (kLE_8 H) (kFFb_8 H) (kFP2 H) (kXb_8 H) (kVA_8 H) (kAT_8 H) (kTC_8 H) (kNO_8 H) (k_law_counted H)
theorem kDV_8 {U : Uni} (H : Us U) : CallOK U "gf_divide" 7 DV_8 := O_gf_divide H (kXa_8 H) (kFI_8 H)
theorem kSQ_8 {U : Uni} (H : Us U) : CallOK U "gf_is_square" 8 SQ_8 := O_gf_is_square H (kPW_8 H) (k_gf_size H)
theorem kRK_8 {U : Uni} (H : Us U) : CallOK U "_law_reckoned_right" 9 RK_8 := O_law_reckoned_right H (kFI_8 H) (kXa_8 H) (kXb_8 H) (kSQ_8 H) (kDV_8 H) (kPW_8 H) (kLR_8 H) (k_gf_things H)
noncomputable def LRR : List FN := [RK_0, RK_1, RK_2, RK_3, RK_4, RK_5, RK_6, RK_7, RK_8]
noncomputable def FRR : FN := yes fun args => ∃ F ∈ LRR, F args = some (.bool true)
theorem kRR {U : Uni} (H : Us U) : CallOK U "_law_reckoned_right" 9 FRR := CallOK.yes fun args ⟨F, hm, e⟩ => ⟨F, by
  unfold LRR at hm
  simp only [List.mem_cons, List.not_mem_nil, or_false] at hm
  rcases hm with rfl | rfl | rfl | rfl | rfl | rfl | rfl | rfl | rfl
  · exact kRK_0 H
  · exact kRK_1 H
  · exact kRK_2 H
  · exact kRK_3 H
  · exact kRK_4 H
  · exact kRK_5 H
  · exact kRK_6 H
  · exact kRK_7 H
  · exact kRK_8 H, e⟩
theorem inRR {F : FN} (h : F ∈ LRR) : ∀ args, F args = some (.bool true) → FRR args = some (.bool true) := fun _ e => yes_of ⟨F, h, e⟩
noncomputable def LSS : List FN := [SU_0, SU_1, SU_2, SU_3, SU_4, SU_5, SU_6, SU_7, SU_8]
noncomputable def FSS : FN := yes fun args => ∃ F ∈ LSS, F args = some (.bool true)
theorem kSS {U : Uni} (H : Us U) : CallOK U "_law_sums_right" 10 FSS := CallOK.yes fun args ⟨F, hm, e⟩ => ⟨F, by
  unfold LSS at hm
  simp only [List.mem_cons, List.not_mem_nil, or_false] at hm
  rcases hm with rfl | rfl | rfl | rfl | rfl | rfl | rfl | rfl | rfl
  · exact kSU_0 H
  · exact kSU_1 H
  · exact kSU_2 H
  · exact kSU_3 H
  · exact kSU_4 H
  · exact kSU_5 H
  · exact kSU_6 H
  · exact kSU_7 H
  · exact kSU_8 H, e⟩
theorem inSS {F : FN} (h : F ∈ LSS) : ∀ args, F args = some (.bool true) → FSS args = some (.bool true) := fun _ e => yes_of ⟨F, h, e⟩
noncomputable def LOO : List FN := [OR_0, OR_1, OR_2, OR_3, OR_4, OR_5, OR_6, OR_7, OR_8]
noncomputable def FOO : FN := yes fun args => ∃ F ∈ LOO, F args = some (.bool true)
theorem kOO {U : Uni} (H : Us U) : CallOK U "_law_orders_right" 10 FOO := CallOK.yes fun args ⟨F, hm, e⟩ => ⟨F, by
  unfold LOO at hm
  simp only [List.mem_cons, List.not_mem_nil, or_false] at hm
  rcases hm with rfl | rfl | rfl | rfl | rfl | rfl | rfl | rfl | rfl
  · exact kOR_0 H
  · exact kOR_1 H
  · exact kOR_2 H
  · exact kOR_3 H
  · exact kOR_4 H
  · exact kOR_5 H
  · exact kOR_6 H
  · exact kOR_7 H
  · exact kOR_8 H, e⟩
theorem inOO {F : FN} (h : F ∈ LOO) : ∀ args, F args = some (.bool true) → FOO args = some (.bool true) := fun _ e => yes_of ⟨F, h, e⟩
noncomputable def pool_2_2 : List PyData := [m_0]
theorem th_0 : isR (F_gf_things [m_0, .int 2]) (.list dom4) = true := by decide +kernel
theorem ok_0 (D : Nat) : tthings (rho4 D 2 2 pool_2_2 m_0 dom4) = some false := by kernel_rfl
theorem field_0 {U : Uni} (H : Us U) : FieldF U F_gf_things FRR FSS FOO 2 2 pool_2_2 m_0 dom4 :=
  fieldF_of (tr := cseq cfail (cret (econ (.bool false)))) (kXa_0 H) (kXb_0 H) (RK := RK_0) (by with_unfolding_all rfl) (inRR (by simp [LRR])) (inSS (F := SU_0) (by simp [LSS])) (inOO (F := OR_0) (by simp [LOO])) th_0 (by decide) (by decide) ok_0 (by decide +kernel) su_0 or_0 pw_0 dv_0 sq_0
theorem size_2_2 {U : Uni} (H : Us U) : SizeF U F_gf_things F_law_primes F_count_prime_polys F_first_prime_poly FRR FSS FOO 2 2 pool_2_2 where
  pl := fun D => by kernel_rfl
  lo := by decide
  hi := by decide
  ok := fun D => by kernel_rfl
  each := fun m hm => by
    unfold pool_2_2 at hm
    simp only [List.mem_cons, List.not_mem_nil, or_false] at hm
    subst hm
    exact ⟨_, field_0 H⟩
noncomputable def pool_2_3 : List PyData := [m_1, m_2]
theorem th_1 : isR (F_gf_things [m_1, .int 2]) (.list dom8) = true := by decide +kernel
theorem ok_1 (D : Nat) : tthings (rho4 D 2 3 pool_2_3 m_1 dom8) = some false := by kernel_rfl
theorem field_1 {U : Uni} (H : Us U) : FieldF U F_gf_things FRR FSS FOO 2 3 pool_2_3 m_1 dom8 :=
  fieldF_of (tr := cseq cfail (cret (econ (.bool false)))) (kXa_1 H) (kXb_1 H) (RK := RK_1) (by with_unfolding_all rfl) (inRR (by simp [LRR])) (inSS (F := SU_1) (by simp [LSS])) (inOO (F := OR_1) (by simp [LOO])) th_1 (by decide) (by decide) ok_1 (by decide +kernel) su_1 or_1 pw_1 dv_1 sq_1
theorem th_2 : isR (F_gf_things [m_2, .int 2]) (.list dom8) = true := by decide +kernel
theorem ok_2 (D : Nat) : tthings (rho4 D 2 3 pool_2_3 m_2 dom8) = some false := by kernel_rfl
theorem field_2 {U : Uni} (H : Us U) : FieldF U F_gf_things FRR FSS FOO 2 3 pool_2_3 m_2 dom8 :=
  fieldF_of (tr := cseq cfail (cret (econ (.bool false)))) (kXa_2 H) (kXb_2 H) (RK := RK_2) (by with_unfolding_all rfl) (inRR (by simp [LRR])) (inSS (F := SU_2) (by simp [LSS])) (inOO (F := OR_2) (by simp [LOO])) th_2 (by decide) (by decide) ok_2 (by decide +kernel) su_2 or_2 pw_2 dv_2 sq_2
theorem size_2_3 {U : Uni} (H : Us U) : SizeF U F_gf_things F_law_primes F_count_prime_polys F_first_prime_poly FRR FSS FOO 2 3 pool_2_3 where
  pl := fun D => by kernel_rfl
  lo := by decide
  hi := by decide
  ok := fun D => by kernel_rfl
  each := fun m hm => by
    unfold pool_2_3 at hm
    simp only [List.mem_cons, List.not_mem_nil, or_false] at hm
    rcases hm with rfl | rfl
    · exact ⟨_, field_1 H⟩
    · exact ⟨_, field_2 H⟩
noncomputable def pool_3_2 : List PyData := [m_3, m_4, m_5]
theorem th_3 : isR (F_gf_things [m_3, .int 3]) (.list dom9) = true := by decide +kernel
theorem ok_3 (D : Nat) : tthings (rho4 D 3 2 pool_3_2 m_3 dom9) = some false := by kernel_rfl
theorem field_3 {U : Uni} (H : Us U) : FieldF U F_gf_things FRR FSS FOO 3 2 pool_3_2 m_3 dom9 :=
  fieldF_of (tr := cseq cfail (cret (econ (.bool false)))) (kXa_3 H) (kXb_3 H) (RK := RK_3) (by with_unfolding_all rfl) (inRR (by simp [LRR])) (inSS (F := SU_3) (by simp [LSS])) (inOO (F := OR_3) (by simp [LOO])) th_3 (by decide) (by decide) ok_3 (by decide +kernel) su_3 or_3 pw_3 dv_3 sq_3
theorem th_4 : isR (F_gf_things [m_4, .int 3]) (.list dom9) = true := by decide +kernel
theorem ok_4 (D : Nat) : tthings (rho4 D 3 2 pool_3_2 m_4 dom9) = some false := by kernel_rfl
theorem field_4 {U : Uni} (H : Us U) : FieldF U F_gf_things FRR FSS FOO 3 2 pool_3_2 m_4 dom9 :=
  fieldF_of (tr := cseq cfail (cret (econ (.bool false)))) (kXa_4 H) (kXb_4 H) (RK := RK_4) (by with_unfolding_all rfl) (inRR (by simp [LRR])) (inSS (F := SU_4) (by simp [LSS])) (inOO (F := OR_4) (by simp [LOO])) th_4 (by decide) (by decide) ok_4 (by decide +kernel) su_4 or_4 pw_4 dv_4 sq_4
theorem th_5 : isR (F_gf_things [m_5, .int 3]) (.list dom9) = true := by decide +kernel
theorem ok_5 (D : Nat) : tthings (rho4 D 3 2 pool_3_2 m_5 dom9) = some false := by kernel_rfl
theorem field_5 {U : Uni} (H : Us U) : FieldF U F_gf_things FRR FSS FOO 3 2 pool_3_2 m_5 dom9 :=
  fieldF_of (tr := cseq cfail (cret (econ (.bool false)))) (kXa_5 H) (kXb_5 H) (RK := RK_5) (by with_unfolding_all rfl) (inRR (by simp [LRR])) (inSS (F := SU_5) (by simp [LSS])) (inOO (F := OR_5) (by simp [LOO])) th_5 (by decide) (by decide) ok_5 (by decide +kernel) su_5 or_5 pw_5 dv_5 sq_5
theorem size_3_2 {U : Uni} (H : Us U) : SizeF U F_gf_things F_law_primes F_count_prime_polys F_first_prime_poly FRR FSS FOO 3 2 pool_3_2 where
  pl := fun D => by kernel_rfl
  lo := by decide
  hi := by decide
  ok := fun D => by kernel_rfl
  each := fun m hm => by
    unfold pool_3_2 at hm
    simp only [List.mem_cons, List.not_mem_nil, or_false] at hm
    rcases hm with rfl | rfl | rfl
    · exact ⟨_, field_3 H⟩
    · exact ⟨_, field_4 H⟩
    · exact ⟨_, field_5 H⟩
noncomputable def pool_2_4 : List PyData := [m_6, m_7, m_8]
theorem th_6 : isR (F_gf_things [m_6, .int 2]) (.list dom16) = true := by decide +kernel
theorem ok_6 (D : Nat) : tthings (rho4 D 2 4 pool_2_4 m_6 dom16) = some false := by kernel_rfl
theorem field_6 {U : Uni} (H : Us U) : FieldF U F_gf_things FRR FSS FOO 2 4 pool_2_4 m_6 dom16 :=
  fieldF_of (tr := cseq cfail (cret (econ (.bool false)))) (kXa_6 H) (kXb_6 H) (RK := RK_6) (by with_unfolding_all rfl) (inRR (by simp [LRR])) (inSS (F := SU_6) (by simp [LSS])) (inOO (F := OR_6) (by simp [LOO])) th_6 (by decide) (by decide) ok_6 (by decide +kernel) su_6 or_6 pw_6 dv_6 sq_6
theorem th_7 : isR (F_gf_things [m_7, .int 2]) (.list dom16) = true := by decide +kernel
theorem ok_7 (D : Nat) : tthings (rho4 D 2 4 pool_2_4 m_7 dom16) = some false := by kernel_rfl
theorem field_7 {U : Uni} (H : Us U) : FieldF U F_gf_things FRR FSS FOO 2 4 pool_2_4 m_7 dom16 :=
  fieldF_of (tr := cseq cfail (cret (econ (.bool false)))) (kXa_7 H) (kXb_7 H) (RK := RK_7) (by with_unfolding_all rfl) (inRR (by simp [LRR])) (inSS (F := SU_7) (by simp [LSS])) (inOO (F := OR_7) (by simp [LOO])) th_7 (by decide) (by decide) ok_7 (by decide +kernel) su_7 or_7 pw_7 dv_7 sq_7
theorem th_8 : isR (F_gf_things [m_8, .int 2]) (.list dom16) = true := by decide +kernel
theorem ok_8 (D : Nat) : tthings (rho4 D 2 4 pool_2_4 m_8 dom16) = some false := by kernel_rfl
theorem field_8 {U : Uni} (H : Us U) : FieldF U F_gf_things FRR FSS FOO 2 4 pool_2_4 m_8 dom16 :=
  fieldF_of (tr := cseq cfail (cret (econ (.bool false)))) (kXa_8 H) (kXb_8 H) (RK := RK_8) (by with_unfolding_all rfl) (inRR (by simp [LRR])) (inSS (F := SU_8) (by simp [LSS])) (inOO (F := OR_8) (by simp [LOO])) th_8 (by decide) (by decide) ok_8 (by decide +kernel) su_8 or_8 pw_8 dv_8 sq_8
theorem size_2_4 {U : Uni} (H : Us U) : SizeF U F_gf_things F_law_primes F_count_prime_polys F_first_prime_poly FRR FSS FOO 2 4 pool_2_4 where
  pl := fun D => by kernel_rfl
  lo := by decide
  hi := by decide
  ok := fun D => by kernel_rfl
  each := fun m hm => by
    unfold pool_2_4 at hm
    simp only [List.mem_cons, List.not_mem_nil, or_false] at hm
    rcases hm with rfl | rfl | rfl
    · exact ⟨_, field_6 H⟩
    · exact ⟨_, field_7 H⟩
    · exact ⟨_, field_8 H⟩
theorem law_facts {U : Uni} (H : Us U) : LawF U F_gf_things F_law_primes F_count_prime_polys F_first_prime_poly FRR FSS FOO := by
  intro x hx
  unfold L4 at hx
  simp only [List.mem_cons, List.not_mem_nil, or_false] at hx
  rcases hx with rfl | rfl | rfl | rfl
  · exact ⟨_, size_2_2 H⟩
  · exact ⟨_, size_2_3 H⟩
  · exact ⟨_, size_3_2 H⟩
  · exact ⟨_, size_2_4 H⟩

/-! F0 -/
theorem wellInts {P : Params} {h : Heap} {X : AS} : ∀ {xs : List Int} {vs : List Value}, WellAll P h vs (ofPys (xs.map .int)) → RepL X h vs (xs.map .int)
  | [], vs, w => by
    cases w
    exact .nil
  | x :: xs, vs, w => by
    rw [List.map_cons] at w ⊢
    unfold ofPys ofPy at w
    cases w with
    | cons a b =>
      cases a
      exact .cons (.int _ _) (wellInts b)
theorem script_rep {P : Params} {h : Heap} {S : Addr} {xs : List Int} (w : Well P h (.ref S) (ofPy (.list (xs.map .int)))) (X : AS) (n : ¬ X S) : Rep X h (.ref S) (.list (xs.map .int)) := by
  unfold ofPy at w
  cases w with
  | list g wa => exact .list n g ⟨rfl, rfl, rfl⟩ rfl (wellInts wa)
theorem ns_some {K : Frag} {h : Heap} {N : Addr} {m : Str → Option Value} {x : Str} {v : Value} (X : K.In h) (G : h.Ns N m) (e : nsIn K N x = some (some v)) : m x = some v := by
  obtain ⟨o, es, ep, ho, hd, _, hf⟩ := G
  unfold nsIn at e
  split at e
  · rename_i q
    have z := X _ _ q
    rw [ho] at z
    cases z
    cases hd
    split at e
    · rename_i en he
      rw [← hf]
      unfold nsFind findBy
      rw [← Array.find?_toList, he]
      cases e
      rfl
    · split at e <;> cases e
  · cases e
theorem clsF_of {U : Uni} {K : Frag} {C N fI : Addr} {bs : List Value} {sn : List Str} {sub : List Value} {ab : Bool} {col : Option Bool} {dd : Option Addr} {k0 k1 k2 k3 k5 : Option Value} {pm cd doc : Value} {od : Option Addr} {sl : Array (Option Value)} (X : K.In U.hT)
    (h1 : K.lookup C = some (excClassObj "CasFail" "CasFail" C N bs excBm true sn sub ab col dd k0 k1 k2 k3 k5 "Exception.__new__"))
    (hok : nsOkIn K N = true) (e1 : nsIn K N "__init__" = some (some (.ref fI))) (e2 : nsIn K N "__setattr__" = some none) (e3 : nsIn K N "kind" = some none) (e4 : nsIn K N "text" = some none)
    (e5 : K.lookup fI = some ⟨.type "function", od, .func (methDef "__init__" "CasFail.__init__" initR.params initR.body initR.scope pm cd doc), sl⟩)
    (e6 : codeIn K cd "CasFail.__init__" = true) (e7 : dictVal "CasFail" (U.hT.get? mainGlobals) = some (.ref C)) : ClsF U C N fI where
  cls := ⟨bs, sn, sub, ab, col, dd, k0, k1, k2, k3, k5, X _ _ h1⟩
  ns := ⟨U.hT.nsMap N, .of_isNs (isNs_of_in X hok), ns_some X (.of_isNs (isNs_of_in X hok)) e1, nsMap_none_of_in X hok e2, nsMap_none_of_in X hok e3, nsMap_none_of_in X hok e4⟩
  fn := ⟨_, pm, cd, doc, X _ _ e5, rfl, rfl, codeRec_of X e6⟩
  g := mg_dict U.g e7

/-! F2 -/
theorem law_end {w : World} {s₁ : Shared} {mg mb : Str → Option Value} {p : Program} {loose : List Str} {mean : ExcName → Option Value} {K : Frag} {fa S : Addr} {xs : List Int} {c : ClaimW} {cl : Str → Option Addr} {prog : Program} {C N fI : Addr} {bs : List Value} {sn : List Str} {sub : List Value} {ab : Bool} {col : Option Bool} {dd : Option Addr} {k0 k1 k2 k3 k5 : Option Value} {pm cd doc : Value} {od : Option Addr} {sl : Array (Option Value)}
    (T : Top p loose mean mg mb s₁.heap) (X : K.In s₁.heap) (hrecs : drs = recsOf p)
    (hfree : ∀ x ∈ freeNames, x ∉ startupNames ∧ x ∉ loose ∧ x ∉ (recsOf p).map (·.name) ∧ x ∉ (litsOf p).map (·.1) ∧ x ∉ (clssOf p loose).map (·.name))
    (h1 : K.lookup C = some (excClassObj "CasFail" "CasFail" C N bs excBm true sn sub ab col dd k0 k1 k2 k3 k5 "Exception.__new__"))
    (hok : nsOkIn K N = true) (e1 : nsIn K N "__init__" = some (some (.ref fI))) (e2 : nsIn K N "__setattr__" = some none) (e3 : nsIn K N "kind" = some none) (e4 : nsIn K N "text" = some none)
    (e5 : K.lookup fI = some ⟨.type "function", od, .func (methDef "__init__" "CasFail.__init__" initR.params initR.body initR.scope pm cd doc), sl⟩)
    (e6 : codeIn K cd "CasFail.__init__" = true) (e7 : dictVal "CasFail" (s₁.heap.get? mainGlobals) = some (.ref C))
    (hmg : mg "law" = some (.ref fa)) (wl : Well w.params s₁.heap (.ref S) (ofPy (.list (xs.map .int)))) (hn : xs.length ≤ 63) (hg : s₁.gens = #[])
    (nr : ∀ e, c.raises [ofPy (.list (xs.map .int))] e = false) (post : c.post [ofPy (.list (xs.map .int))] (.bool true) [ofPy (.list (xs.map .int))] = true) :
    wpAny (model prog w) callerA ((fun f vs => call f vs) (.ref fa) [.ref S]) (fun v s' => GoodWG c cl mean [ofPy (.list (xs.map .int))] s₁ (.ok (.ret v)) s') (fun e s' => GoodWG c cl mean [ofPy (.list (xs.map .int))] s₁ (.error e) s') s₁ := by
  let U : Uni := Uni.mk prog w s₁.heap mg mb T.g T.b T.nolimit T.builtins (recsOf p) T.fn (fun x hx => T.free x (hfree x hx).1 (hfree x hx).2.1 (hfree x hx).2.2.1 (hfree x hx).2.2.2.1 (hfree x hx).2.2.2.2)
  have H : Us U := fun d hd => by
    show d ∈ recsOf p
    rw [← hrecs]; exact hd
  have Z : ClsF U C N fI := clsF_of (U := U) X h1 hok e1 e2 e3 e4 e5 e6 e7
  have hA : AOK 11 callerA := ⟨rfl, by decide +kernel, by decide +kernel⟩
  refine wpAny_call ?_
  refine law_ok (U := U) H (k_gf_things H) (k_law_primes H) (k_count_prime_polys H) (k_first_prime_poly H) (kRR H) (kSS H) (kOO H) Z (law_facts H) hA rfl (Ext.refl _) hmg (fun X n => script_rep wl X n) (by omega) fun h' t' x => ?_
  exact GoodW.toG ⟨.inl ⟨.bool true, .bool true, [], rfl, nr, .bool true, post, fun _ => ⟨List.nodup_nil, fun a ha => by cases ha⟩⟩, x, rfl, hg⟩

end Mine
end
set_option maxRecDepth 100000 in
set_option maxHeartbeats 8000000 in
theorem PySem.Challenge.cw_nn0273_01_holds : PySem.Challenge.rw_nn0273_01.Holds := by
  w_on
  refine holds_law (by kernel_rfl) fun said => ?_
  refine holds_open (q := Mine.vw) (loose := []) (Xt := fun s => xlAt Mine.vw [] s && recOk [] s) (XP := XL Mine.vw []) (Yf := Hook.obs Mine.kH) (Ya := Hook.val Mine.kH) (YP := Hook.says Mine.kH) (N := 4100) Mine.left_hd (Hook.of Mine.kH) (Hook.keeps Mine.kH) (fun s e => xl_of s (Bool.and_eq_true_iff.mp e).1) XL.keeps (by rfl) (by rfl) (by rfl) (fun s e => recFacts_of (Bool.and_eq_true_iff.mp e).2) (by rfl) (by assumption) (by decide +kernel) ⟨rfl, rfl, rfl, rfl, rfl, by decide +kernel⟩ ?hw ?hc
  (case hw => w_witness2)
  intro w s₀ s₁ mg mb G Y fa o pm cd doc dV kV ho hdd hcd hD hmg hg args vals as hpre hlay hrd hwl hlo
  have KX := Y.1
  have KG := Y.2
  have T := G.T
  clear hD hcd hdd ho
  wrow_args hpre hlay hrd hwl hlo
  rename_i xs _ _ _ _ _ _ _ S _ _ _ _ wl _ hI _ hlen _
  exact Mine.law_end (C := 31) (N := 30) (fI := 28) T KX (by kernel_rfl) (by decide +kernel) (by rfl) (by kernel_rfl) (by kernel_rfl) (by kernel_rfl) (by kernel_rfl) (by kernel_rfl) (by rfl) (by kernel_rfl) KG hmg wl (by omega) hg (fun _ => rfl) (by kernel_rfl)

